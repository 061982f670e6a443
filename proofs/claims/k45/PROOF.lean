import PyProof.Rows.All
import HandS.WordsDict
import HandS.SortRule
import HandS.Conv
import KE.LtData
import HandS.ForMost
import HandS.Evl
import HandS.Flow
import HandS.Deep
import HandS.Style
import HandS.IsInst
import HandS.SortInts
import PySem.Challenge.RW_tiesasplaces_k45_sets_of_bunches
set_option Elab.async false
set_option linter.all false
set_option maxRecDepth 100000
/-! lists of lists of whole numbers, sorted -/
namespace SrtO
open PySem PyProof.Rows Srt PySem.SeqAt PySem.W
section
variable {prog : Program} {w : World} {A : Around} {E : Value → Shared → Prop} {s : Shared}
/-- v is a list of these numbers -/
def IsLi (h : Heap) (v : Value) (ns : List Int) : Prop := ∃ (t : Addr) (its : Array Value), v = .ref t ∧ h.IsList t its ∧ IntsAre its.toList ns
theorem IsLi.keeps {h h' : Heap} {v : Value} {ns : List Int} (x : IsLi h v ns) (k : ∀ b o, v = .ref b → h.get? b = some o → h'.get? b = some o) : IsLi h' v ns := by
  obtain ⟨t, its, e, ⟨o, ho, hc, n, hd⟩, i⟩ := x
  exact ⟨t, its, e, ⟨o, k _ _ e ho, hc, n, hd⟩, i⟩
theorem lex_first : ∀ ns ms : List Int, firstLt (fun j => decide (ns.getD j 0 = ms.getD j 0)) (fun j => decide (ns.getD j 0 < ms.getD j 0)) (decide (ns.length < ms.length)) (List.range (min ns.length ms.length)) = HT.lexLt ns ms
  | [], [] => rfl
  | [], _ :: _ => by simp [firstLt, HT.lexLt]
  | _ :: _, [] => by simp [firstLt, HT.lexLt]
  | x :: ns, y :: ms => by
    have ih := lex_first ns ms
    have e : min (x :: ns).length (y :: ms).length = min ns.length ms.length + 1 := by simp only [List.length_cons]; omega
    rw [e, List.range_succ_eq_map, HT.lexLt_cons]
    by_cases h : x = y
    · rw [firstLt_yes (by simpa using h), firstLt_map, if_pos h, ← ih]
      simp
    · rw [firstLt_no (by simpa using h), if_neg h]
      simp
theorem ints_get : ∀ {vs : List Value} {ns : List Int}, IntsAre vs ns → ∀ {j : Nat} {v : Value}, vs[j]? = some v → ∃ t, v = .int (ns.getD j 0) t
  | _, _, .nil, j, v, h => by simp at h
  | _, _, .cons n t r, 0, v, h => by simp at h; exact ⟨t, by simp [h.symm]⟩
  | _, _, .cons n t r, j + 1, v, h => by
    obtain ⟨t', e⟩ := ints_get r (j := j) (by simpa using h)
    exact ⟨t', by simpa using e⟩
theorem lt_li {v u : Value} {ns ms : List Int} {Q : Bool → Shared → Prop} (hu : A.units < cLine) (hv : IsLi s.heap v ns) (hw : IsLi s.heap u ms) (h : Q (HT.lexLt ns ms) s) : wpAny (model prog w) A (keyLt' oneType' v u) Q E s := by
  obtain ⟨a, xs, rfl, ha, ia⟩ := hv
  obtain ⟨b, ys, rfl, hb, ib⟩ := hw
  obtain ⟨o, ho, hc, n, hd⟩ := id ha
  rw [keyLt'_oneType, oneLt'_eq]
  simp only [if_true]
  refine wpAny_bind (wpAny_cRoomFor hu ?_)
  have n1 : xs.size = ns.length := by rw [← ia.length]; simp
  have n2 : ys.size = ms.length := by rw [← ib.length]; simp
  refine wpAny_bind (wpAny_callSpecialIfBound?_slot (T := "list") ⟨_, ho, hc⟩ F.slot_list_lt (call_list_lt (e := fun j => decide (ns.getD j 0 = ms.getD j 0)) (r := fun j => decide (ns.getD j 0 < ms.getD j 0)) ha hb (fun j j1 j2 => ?_) (fun j j1 j2 hj => ?_) ?_))
  · obtain ⟨t1, e1⟩ := ints_get ia (j := j) (v := xs[j]) (by simp [j1])
    obtain ⟨t2, e2⟩ := ints_get ib (j := j) (v := ys[j]) (by simp [j2])
    rw [e1, e2]
    have := SeqAt.EqAt.int_int (A := A.in1) (s := s) (ns.getD j 0) t1 (ms.getD j 0) t2
    have e : (ns.getD j 0 == ms.getD j 0) = decide (ns.getD j 0 = ms.getD j 0) := by
      generalize ns.getD j 0 = u
      generalize ms.getD j 0 = v
      by_cases q : u = v <;> simp [q]
    rw [e] at this
    exact this
  · obtain ⟨t1, e1⟩ := ints_get ia (j := j) (v := xs[j]) (by simp [j1])
    obtain ⟨t2, e2⟩ := ints_get ib (j := j) (v := ys[j]) (by simp [j2])
    rw [e1, e2]
    exact fun prog w E Q h => HT.rcLt_int _ _ _ _ _ _ prog w E Q h
  · rw [n1, n2, lex_first]
    exact wpAny_truthy_bool h
theorem lex_irr : ∀ ns : List Int, HT.lexLt ns ns = false
  | [] => rfl
  | x :: ns => by rw [HT.lexLt_cons, if_pos rfl, lex_irr ns]
theorem lex_asym : ∀ {a b : List Int}, HT.lexLt a b = true → HT.lexLt b a = false
  | [], [], h => by cases h
  | [], _ :: _, _ => rfl
  | _ :: _, [], h => by cases h
  | x :: a, y :: b, h => by
    rw [HT.lexLt_cons] at h ⊢
    by_cases e : x = y
    · rw [if_pos e] at h; rw [if_pos e.symm]; exact lex_asym h
    · rw [if_neg e] at h; rw [if_neg (Ne.symm e)]
      have := of_decide_eq_true h
      exact decide_eq_false (by omega)
theorem lex_no : ∀ {a b c : List Int}, HT.lexLt a b = false → HT.lexLt b c = false → HT.lexLt a c = false
  | [], [], c, _, h => h
  | [], _ :: _, _, h, _ => by cases h
  | _ :: _, [], [], _, _ => rfl
  | _ :: _, [], _ :: _, _, h => by cases h
  | _ :: _, _ :: _, [], _, _ => rfl
  | x :: a, y :: b, z :: c, h1, h2 => by
    rw [HT.lexLt_cons] at h1 h2 ⊢
    by_cases e : x = y
    · subst e
      rw [if_pos rfl] at h1
      by_cases e2 : x = z
      · rw [if_pos e2] at h2 ⊢; exact lex_no h1 h2
      · rw [if_neg e2] at h2 ⊢; exact h2
    · rw [if_neg e] at h1
      have g1 := of_decide_eq_false h1
      by_cases e2 : y = z
      · subst e2
        rw [if_neg e]; exact h1
      · rw [if_neg e2] at h2
        have g2 := of_decide_eq_false h2
        rw [if_neg (by omega)]
        exact decide_eq_false (by omega)
theorem swo_li {α : Type} (k : α → List Int) : Swo fun v u => HT.lexLt (k v) (k u) :=
  ⟨fun _ _ h => lex_asym h, fun _ _ _ h1 h2 => by first | exact lex_no h1 h2 | exact lex_no h2 h1⟩
theorem li_sortable {a : Addr} {vs : List Value} {k : Value → List Int} (h2 : 2 ≤ vs.length) (hu : A.units < cLine) (hv : ∀ v ∈ vs, IsLi s.heap v (k v)) (ha : ∀ v ∈ vs, v ≠ .ref a) :
    SortableO prog w A s a vs fun v u => HT.lexLt (k v) (k u) := by
  intro h' keep
  have hv' : ∀ v ∈ vs, IsLi h' v (k v) := fun v hm => (hv v hm).keeps fun b o e g => keep b o (fun z => ha v hm (by rw [e, z])) g
  refine ⟨oneType', fun Q E hq => ?_, fun p q hp hq => lt_li (Q := fun r s' => s' = { s with heap := h' } ∧ r = HT.lexLt (k p.1) (k q.1)) (E := fun _ _ => False) (s := { s with heap := h' }) hu (hv' p.1 hp) (hv' q.1 hq) ⟨rfl, rfl⟩⟩
  refine kas_kind (s := { s with heap := h' }) (T := .type "list") h2 (fun v hm => ?_) (by rfl) (by rfl) hq
  obtain ⟨t, its, rfl, ⟨o, ho, hc, _⟩, _⟩ := hv' v hm
  rw [← hc]
  exact (Looks.ld ho).andThen .now
/-- sorted(l) of lists of ints -/
theorem sorted_li {l : Addr} {vs : List Value} {k : Value → List Int} {Q : Value → Shared → Prop} (hu : A.units + 2 < cLine) (hl : s.heap.IsList l vs.toArray) (hz : vs.length ≤ sizeLine) (hp : ∀ v ∈ vs, IsLi s.heap v (k v))
    (h : ∀ (h' : Heap) (d : Addr) (out : List Value), Srtd (fun v u => HT.lexLt (k v) (k u)) out → Stb (fun v u => HT.lexLt (k v) (k u)) out vs → (∀ b o, s.heap.get? b = some o → h'.get? b = some o) → s.heap.objs.size ≤ d → (∃ n, h'.get? d = some (seqObj "list" out.toArray n)) → Q (.ref d) { s with heap := h' }) :
    wpAny (model prog w) A (call (.builtin "sorted") [.ref l]) Q E s := by
  refine sorted_ord (swo_li k) hl hz (fun h2 h₁ a ha kk => ?_) fun out hs hb => ?_
  · refine li_sortable (s := { s with heap := h₁ }) h2 (by exact hu) (fun v hm => (hp v hm).keeps fun b o e g => (kk b o g).2) fun v hm e => ?_
    obtain ⟨t, its, e', ⟨o, ho, _⟩, _⟩ := hp v hm
    rw [e] at e'
    cases e'
    exact (kk _ _ ho).1 rfl
  · exact h _ _ out hs hb (fun b o e => sortedAll_old e) (Nat.le_succ _) (sortedAll_at s.heap vs out.toArray)
end
end SrtO
namespace L2
open PySem PySem.Spec PyProof.Rows
abbrev ltLi (k : V → List Int) (x y : V) : Bool := HT.lexLt (k x) (k y)
/-- sorted(xs), xs a list of lists of ints (k says which) -/
def rSortedLL (K : PySem.W.Frag) : List V → Hp → VK → Prop := fun vs H Q => ∃ (a : Addr) (xs : List V) (k : V → List Int), vs = [V.ref a] ∧ SqL K H a xs ∧ (∀ x ∈ xs, ∃ t, x = V.ref t ∧ H t = some (.lst ((k x).map V.int))) ∧
  ∀ ys p, SrtO.Srtd (ltLi k) ys → SrtO.Stb (ltLi k) ys xs → H p = none → Q (.ref p) (upd H p (.lst ys))
section
variable {X : Cx}
theorem cr_sortedLL (hu : X.A.units + 64 < cLine) : CallR X (.builtin "sorted") (rSortedLL X.K) := by
  intro pins s σ H vs us Q I r h
  obtain ⟨a, xs, k, rfl, hs, hx, q⟩ := h
  obtain ⟨its, rv, hl, hz⟩ := I.list hs
  obtain ⟨u, rfl, ru⟩ := vals1 r
  obtain rfl : u = Value.ref a := ru
  obtain ⟨e1, e2⟩ := refs_back rv fun x m => by
    obtain ⟨t, e, _⟩ := hx x m
    exact ⟨t, e⟩
  refine SrtO.sorted_li (k := fun u => k (backV u)) (by omega) hl.isList (by rw [← rv.length]; exact hz) (fun v hv => ?_) fun h' d out h1 h2 kp hd hn => ?_
  · obtain ⟨t, rfl⟩ := e2 v hv
    have hm : V.ref t ∈ xs := by rw [e1]; exact List.mem_map.mpr ⟨_, hv, rfl⟩
    obtain ⟨t', e, ht⟩ := hx _ hm
    cases e
    obtain ⟨its2, r2, hl2, _⟩ := I.list (xs := (k (V.ref t)).map V.int) (a := t) (.inl (.inl ht))
    exact ⟨t, its2.toArray, rfl, hl2.isList, Vals.ints r2⟩
  · have h3 : ∀ u ∈ out, ∃ a, u = Value.ref a := fun u hu => e2 u (h2.perm.mem_iff.mp hu)
    obtain ⟨n, hn⟩ := hn
    have hb : SrtO.Stb (ltLi k) (out.map backV) xs := by
      rw [e1]
      exact SrtO.Stb.map (SrtO.swo_li k) backV h2
    refine ⟨.ref d, upd H d (.lst (out.map backV)), I.laid (t' := s.toks) kp hd ⟨?_, out, n, vals_back h3, hn⟩, rfl, q _ d (SrtO.srtd_map h1) hb (I.hok.fresh hd)⟩
    rw [hb.len]
    exact hz
end
end L2

namespace Z
open PySem L2

/-- plain data; the flag of a list or dict: it is younger than the def's call -/
inductive D where
  | non | bl (b : Bool) | int (i : Int) | str (s : PySem.Str)
  | lst (fr : Bool) (xs : List D)
  | tup (xs : List D)
  | dic (fr : Bool) (kvs : List (L2.Key × D))
  | dit (fr : Bool) (kvs : List (List L2.Key × D))
  /-- the script itself: only read -/
  | scr (ns : List Int)

section
variable (K : PySem.W.Frag) (B H : Hp)
mutual
inductive Rep : V → D → Prop
  | non : Rep .non .non
  | bl (b : Bool) : Rep (.bl b) (.bl b)
  | int (i : Int) : Rep (.int i) (.int i)
  | str (s : PySem.Str) : Rep (.str s) (.str s)
  | lst {a : Addr} {vs : List V} {fr : Bool} {ds : List D} : H a = some (.lst vs) → (fr = true → B a = none) → Reps vs ds → Rep (.ref a) (.lst fr ds)
  | tup {a : Addr} {vs : List V} {ds : List D} : H a = some (.tup vs) → Reps vs ds → Rep (.ref a) (.tup ds)
  | dic {a : Addr} {vs : List (L2.Key × V)} {fr : Bool} {ds : List (L2.Key × D)} : H a = some (.dK vs) → (fr = true → B a = none) → RepK vs ds → Rep (.ref a) (.dic fr ds)
  | dit {a : Addr} {vs : List (List L2.Key × V)} {fr : Bool} {ds : List (List L2.Key × D)} : H a = some (.dT vs) → (fr = true → B a = none) → RepT vs ds → Rep (.ref a) (.dit fr ds)
  | scr {a : Addr} {ns : List Int} : SqL K H a (ns.map V.int) → Rep (.ref a) (.scr ns)
inductive Reps : List V → List D → Prop
  | nil : Reps [] []
  | cons {v : V} {d : D} {vs : List V} {ds : List D} : Rep v d → Reps vs ds → Reps (v :: vs) (d :: ds)
inductive RepK : List (L2.Key × V) → List (L2.Key × D) → Prop
  | nil : RepK [] []
  | cons {k : L2.Key} {v : V} {d : D} {vs : List (L2.Key × V)} {ds : List (L2.Key × D)} : Rep v d → RepK vs ds → RepK ((k, v) :: vs) ((k, d) :: ds)
inductive RepT : List (List L2.Key × V) → List (List L2.Key × D) → Prop
  | nil : RepT [] []
  | cons {k : List L2.Key} {v : V} {d : D} {vs : List (List L2.Key × V)} {ds : List (List L2.Key × D)} : Rep v d → RepT vs ds → RepT ((k, v) :: vs) ((k, d) :: ds)
end
end

theorem sameL {K : PySem.W.Frag} {H H' : Hp} (e : Same H H') {a : Addr} {xs : List V} (h : SqL K H a xs) : SqL K H' a xs := e.seq h

section
variable {K : PySem.W.Frag} {B H H' : Hp}
mutual
theorem Rep.mono (e : Same H H') : ∀ {v : V} {d : D}, Rep K B H v d → Rep K B H' v d
  | _, _, .non => .non
  | _, _, .bl b => .bl b
  | _, _, .int i => .int i
  | _, _, .str s => .str s
  | _, _, .lst h f r => .lst (e _ _ h) f (Reps.mono e r)
  | _, _, .tup h r => .tup (e _ _ h) (Reps.mono e r)
  | _, _, .dic h f r => .dic (e _ _ h) f (RepK.mono e r)
  | _, _, .dit h f r => .dit (e _ _ h) f (RepT.mono e r)
  | _, _, .scr h => .scr (e.seq h)
theorem Reps.mono (e : Same H H') : ∀ {v : List V} {d : List D}, Reps K B H v d → Reps K B H' v d
  | _, _, .nil => .nil
  | _, _, .cons h r => .cons (Rep.mono e h) (Reps.mono e r)
theorem RepK.mono (e : Same H H') : ∀ {v : List (L2.Key × V)} {d : List (L2.Key × D)}, RepK K B H v d → RepK K B H' v d
  | _, _, .nil => .nil
  | _, _, .cons h r => .cons (Rep.mono e h) (RepK.mono e r)
theorem RepT.mono (e : Same H H') : ∀ {v : List (List L2.Key × V)} {d : List (List L2.Key × D)}, RepT K B H v d → RepT K B H' v d
  | _, _, .nil => .nil
  | _, _, .cons h r => .cons (Rep.mono e h) (RepT.mono e r)
end
end

/-! flags -/
mutual
def D.old : D → D
  | .non => .non | .bl b => .bl b | .int i => .int i | .str s => .str s
  | .lst _ xs => .lst false (D.olds xs)
  | .tup xs => .tup (D.olds xs)
  | .dic _ kvs => .dic false (D.oldK kvs)
  | .dit _ kvs => .dit false (D.oldT kvs)
  | .scr ns => .scr ns
def D.olds : List D → List D
  | [] => []
  | d :: r => d.old :: D.olds r
def D.oldK : List (L2.Key × D) → List (L2.Key × D)
  | [] => []
  | (k, d) :: r => (k, d.old) :: D.oldK r
def D.oldT : List (List L2.Key × D) → List (List L2.Key × D)
  | [] => []
  | (k, d) :: r => (k, d.old) :: D.oldT r
end
mutual
/-- every list and dict in it is young -/
def D.young : D → Bool
  | .non => true | .bl _ => true | .int _ => true | .str _ => true
  | .lst f xs => f && D.youngs xs
  | .tup xs => D.youngs xs
  | .dic f kvs => f && D.youngK kvs
  | .dit f kvs => f && D.youngT kvs
  | .scr _ => false
def D.youngs : List D → Bool
  | [] => true
  | d :: r => d.young && D.youngs r
def D.youngK : List (L2.Key × D) → Bool
  | [] => true
  | (_, d) :: r => d.young && D.youngK r
def D.youngT : List (List L2.Key × D) → Bool
  | [] => true
  | (_, d) :: r => d.young && D.youngT r
end
section
variable {K : PySem.W.Frag} {B B' H H' : Hp}
mutual
theorem Rep.old : ∀ {v : V} {d : D}, Rep K B H v d → Rep K B' H v d.old
  | _, _, .non => .non
  | _, _, .bl b => .bl b
  | _, _, .int i => .int i
  | _, _, .str s => .str s
  | _, _, .lst h f r => .lst h (fun z => nomatch z) (Reps.old r)
  | _, _, .tup h r => .tup h (Reps.old r)
  | _, _, .dic h f r => .dic h (fun z => nomatch z) (RepK.old r)
  | _, _, .dit h f r => .dit h (fun z => nomatch z) (RepT.old r)
  | _, _, .scr h => .scr h
theorem Reps.old : ∀ {v : List V} {d : List D}, Reps K B H v d → Reps K B' H v (D.olds d)
  | _, _, .nil => .nil
  | _, _, .cons h r => .cons (Rep.old h) (Reps.old r)
theorem RepK.old : ∀ {v : List (L2.Key × V)} {d : List (L2.Key × D)}, RepK K B H v d → RepK K B' H v (D.oldK d)
  | _, _, .nil => .nil
  | _, _, .cons h r => .cons (Rep.old h) (RepK.old r)
theorem RepT.old : ∀ {v : List (List L2.Key × V)} {d : List (List L2.Key × D)}, RepT K B H v d → RepT K B' H v (D.oldT d)
  | _, _, .nil => .nil
  | _, _, .cons h r => .cons (Rep.old h) (RepT.old r)
end
/-! another base of youth -/
mutual
theorem Rep.base (hb : ∀ a, B a = none → B' a = none) : ∀ {v : V} {d : D}, Rep K B H v d → Rep K B' H v d
  | _, _, .non => .non
  | _, _, .bl b => .bl b
  | _, _, .int i => .int i
  | _, _, .str s => .str s
  | _, _, .lst h f r => .lst h (fun z => hb _ (f z)) (Reps.base hb r)
  | _, _, .tup h r => .tup h (Reps.base hb r)
  | _, _, .dic h f r => .dic h (fun z => hb _ (f z)) (RepK.base hb r)
  | _, _, .dit h f r => .dit h (fun z => hb _ (f z)) (RepT.base hb r)
  | _, _, .scr h => .scr h
theorem Reps.base (hb : ∀ a, B a = none → B' a = none) : ∀ {v : List V} {d : List D}, Reps K B H v d → Reps K B' H v d
  | _, _, .nil => .nil
  | _, _, .cons h r => .cons (Rep.base hb h) (Reps.base hb r)
theorem RepK.base (hb : ∀ a, B a = none → B' a = none) : ∀ {v : List (L2.Key × V)} {d : List (L2.Key × D)}, RepK K B H v d → RepK K B' H v d
  | _, _, .nil => .nil
  | _, _, .cons h r => .cons (Rep.base hb h) (RepK.base hb r)
theorem RepT.base (hb : ∀ a, B a = none → B' a = none) : ∀ {v : List (List L2.Key × V)} {d : List (List L2.Key × D)}, RepT K B H v d → RepT K B' H v d
  | _, _, .nil => .nil
  | _, _, .cons h r => .cons (Rep.base hb h) (RepT.base hb r)
end
end
section
variable {K : PySem.W.Frag} {B H : Hp}
theorem Reps.length : ∀ {vs : List V} {ds : List D}, Reps K B H vs ds → vs.length = ds.length
  | _, _, .nil => rfl
  | _, _, .cons _ r => congrArg (· + 1) (Reps.length r)
theorem Reps.get : ∀ {vs : List V} {ds : List D}, Reps K B H vs ds → ∀ {i : Nat} {d : D}, ds[i]? = some d → ∃ v, vs[i]? = some v ∧ Rep K B H v d
  | _, _, .nil, i, d, e => by simp at e
  | _, _, .cons h r, 0, d, e => by simp at e; subst e; exact ⟨_, rfl, h⟩
  | _, _, .cons h r, i + 1, d, e => by simpa using Reps.get r (i := i) (by simpa using e)
theorem Reps.append : ∀ {vs : List V} {ds : List D} {ws : List V} {es : List D}, Reps K B H vs ds → Reps K B H ws es → Reps K B H (vs ++ ws) (ds ++ es)
  | _, _, _, _, .nil, s => s
  | _, _, _, _, .cons h r, s => .cons h (Reps.append r s)
theorem Reps.one {v : V} {d : D} (h : Rep K B H v d) : Reps K B H [v] [d] := .cons h .nil
theorem Reps.take : ∀ {vs : List V} {ds : List D} (n : Nat), Reps K B H vs ds → Reps K B H (vs.take n) (ds.take n)
  | _, _, 0, _ => .nil
  | _, _, _ + 1, .nil => .nil
  | _, _, n + 1, .cons h r => .cons h (Reps.take n r)
theorem Reps.drop : ∀ {vs : List V} {ds : List D} (n : Nat), Reps K B H vs ds → Reps K B H (vs.drop n) (ds.drop n)
  | _, _, 0, r => r
  | _, _, _ + 1, .nil => .nil
  | _, _, n + 1, .cons _ r => Reps.drop n r
theorem Reps.set {v : V} {d : D} (h : Rep K B H v d) : ∀ {vs : List V} {ds : List D} (n : Nat), Reps K B H vs ds → Reps K B H (vs.set n v) (ds.set n d)
  | _, _, _, .nil => .nil
  | _, _, 0, .cons _ r => .cons h r
  | _, _, n + 1, .cons q r => .cons q (Reps.set h n r)
theorem Reps.eraseIdx : ∀ {vs : List V} {ds : List D} (n : Nat), Reps K B H vs ds → Reps K B H (vs.eraseIdx n) (ds.eraseIdx n)
  | _, _, _, .nil => .nil
  | _, _, 0, .cons _ r => r
  | _, _, n + 1, .cons q r => .cons q (Reps.eraseIdx n r)
theorem Reps.dropLast {vs : List V} {ds : List D} (r : Reps K B H vs ds) : Reps K B H vs.dropLast ds.dropLast := by
  rw [List.dropLast_eq_take, List.dropLast_eq_take, r.length]
  exact r.take _
theorem Reps.reverse {vs : List V} {ds : List D} (r : Reps K B H vs ds) : Reps K B H vs.reverse ds.reverse := by
  induction r using Reps.rec (motive_1 := fun _ _ _ => True) (motive_3 := fun _ _ _ => True) (motive_4 := fun _ _ _ => True) with
  | nil => exact .nil
  | @cons v d vs ds h r ih1 ih2 => rw [List.reverse_cons, List.reverse_cons]; exact ih2.append (.one h)
  | _ => trivial
theorem Reps.replicate {vs : List V} {ds : List D} (r : Reps K B H vs ds) : ∀ n : Nat, Reps K B H (List.replicate n vs).flatten (List.replicate n ds).flatten
  | 0 => .nil
  | n + 1 => by
    rw [List.replicate_succ, List.replicate_succ, List.flatten_cons, List.flatten_cons]
    exact r.append (Reps.replicate r n)
/-- ints all through -/
theorem Reps.ints : ∀ {vs : List V} {ns : List Int}, Reps K B H vs (ns.map D.int) → vs = ns.map V.int
  | [], [], _ => rfl
  | _, _ :: _, .cons (.int _) r => by rw [List.map_cons, Reps.ints r]
theorem reps_ints : ∀ ns : List Int, Reps K B H (ns.map V.int) (ns.map D.int)
  | [] => .nil
  | i :: r => .cons (.int i) (reps_ints r)
theorem Reps.bools : ∀ {vs : List V} {ns : List Bool}, Reps K B H vs (ns.map D.bl) → vs = ns.map V.bl
  | [], [], _ => rfl
  | _, _ :: _, .cons (.bl _) r => by rw [List.map_cons, Reps.bools r]
end
end Z

namespace Z
open PySem L2

/-- what a slot holds: nothing known, shared data, a list or dict that only this slot has -/
inductive C where
  | dead | fz (d : D) | ow (io : Bool) (d : D)
  /-- pinned: shared data, or not to be looked at; no store goes there -/
  | pn (d : D) | pd
def C.pin : C → Bool
  | .ow true _ => true
  | .pn _ => true
  | .pd => true
  | _ => false
/-- what an expression gives: shared data, the own thing of a slot, a new thing that nobody has yet -/
inductive R where
  | val (d : D) | own (i : Nat) | tmp (d : D)
abbrev Ev := List C

/-- the thing at p, its parts shared -/
def OwnAt (K : PySem.W.Frag) (N F H : Hp) (p : Addr) : D → Prop
  | .lst _ ds => ∃ vs, H p = some (.lst vs) ∧ Reps K N F vs ds
  | .dic _ ds => ∃ vs, H p = some (.dK vs) ∧ RepK K N F vs ds
  | .dit _ ds => ∃ vs, H p = some (.dT vs) ∧ RepT K N F vs ds
  | _ => False

structure Rel (K : PySem.W.Frag) (I : Nat → Option V) (N B F0 : Hp) (ρ : Ev) (σ : L2.St) (H F : Hp) : Prop where
  frame : Same B H
  dom : ∀ a, B a = none → N a = none
  sub : Same F H
  ini : Same F0 F
  old : ∀ a, B a ≠ none → F a = F0 a
  len : ρ.length = σ.length
  fz : ∀ (i : Nat) (d : D), ρ[i]? = some (.fz d) → ∃ v, σ[i]? = some (some v) ∧ Rep K N F v d
  ow : ∀ (i : Nat) (b : Bool) (d : D), ρ[i]? = some (.ow b d) → ∃ p, σ[i]? = some (some (.ref p)) ∧ B p = none ∧ F p = none ∧ OwnAt K N F H p d
  sep : ∀ (i j : Nat) (b c : Bool) (d e : D) (p : Addr), ρ[i]? = some (.ow b d) → ρ[j]? = some (.ow c e) → σ[i]? = some (some (.ref p)) → σ[j]? = some (some (.ref p)) → i = j
  io : ∀ j v, I j = some v → σ[j]? = some (some v) ∧ ∃ c, ρ[j]? = some c ∧ c.pin = true
  pn : ∀ (i : Nat) (d : D), ρ[i]? = some (.pn d) → ∃ v, σ[i]? = some (some v) ∧ Rep K N F v d

/-- p is the own thing of no slot -/
def Unowned (ρ : Ev) (σ : L2.St) (p : Addr) : Prop := ∀ (i : Nat) (b : Bool) (d : D), ρ[i]? = some (.ow b d) → σ[i]? ≠ some (some (.ref p))

def ResOk (K : PySem.W.Frag) (N B : Hp) (ρ : Ev) (σ : L2.St) (H F : Hp) (v : V) : R → Prop
  | .val d => Rep K N F v d
  | .own i => ∃ b d p, ρ[i]? = some (.ow b d) ∧ v = .ref p ∧ σ[i]? = some (some (.ref p))
  | .tmp d => ∃ p, v = .ref p ∧ B p = none ∧ F p = none ∧ OwnAt K N F H p d ∧ Unowned ρ σ p

theorem upd_new {H : Hp} {p : Addr} {o : HO} (h : H p = none) : Same H (upd H p o) := fun b x e => by
  rw [upd_ne (ne_of_none e h)]; exact e

section
variable {K : PySem.W.Frag} {I : Nat → Option V} {N B F0 F H : Hp} {ρ : Ev} {σ : L2.St}

theorem OwnAt.mono {F' H' : Hp} {p : Addr} {d : D} (h : OwnAt K N F H p d) (e : Same F F') (q : ∀ o, H p = some o → H' p = some o) : OwnAt K N F' H' p d := by
  cases d with
  | lst f ds => obtain ⟨vs, h1, h2⟩ := h; exact ⟨vs, q _ h1, h2.mono e⟩
  | dic f ds => obtain ⟨vs, h1, h2⟩ := h; exact ⟨vs, q _ h1, h2.mono e⟩
  | dit f ds => obtain ⟨vs, h1, h2⟩ := h; exact ⟨vs, q _ h1, h2.mono e⟩
  | _ => exact h.elim
theorem OwnAt.some {p : Addr} {d : D} (h : OwnAt K N F H p d) : ∃ o, H p = some o := by
  cases d with
  | lst f ds => obtain ⟨vs, h1, _⟩ := h; exact ⟨_, h1⟩
  | dic f ds => obtain ⟨vs, h1, _⟩ := h; exact ⟨_, h1⟩
  | dit f ds => obtain ⟨vs, h1, _⟩ := h; exact ⟨_, h1⟩
  | _ => exact h.elim

theorem Rel.bnew (R : Rel K I N B F0 ρ σ H F) {p : Addr} (h : H p = none) : B p = none ∧ F p = none ∧ N p = none := by
  have b := R.frame.free h
  exact ⟨b, R.sub.free h, R.dom p b⟩
theorem Rel.unew (R : Rel K I N B F0 ρ σ H F) {p : Addr} (h : H p = none) : Unowned ρ σ p := fun i bb d e z => by
  obtain ⟨q, h1, _, _, h4⟩ := R.ow i bb d e
  rw [z] at h1
  cases h1
  obtain ⟨o, h5⟩ := h4.some
  rw [h5] at h; cases h

/-- the heap changes where nothing is shared or owned -/
theorem Rel.heap (R : Rel K I N B F0 ρ σ H F) {H' F' : Hp} (e : Same F F') (s : Same F' H') (fr : Same B H') (ol : ∀ a, B a ≠ none → F' a = F a)
    (q : ∀ (i : Nat) (b : Bool) (d : D) (p : Addr), ρ[i]? = some (.ow b d) → σ[i]? = some (some (.ref p)) → F' p = none ∧ ∀ o, H p = some o → H' p = some o) : Rel K I N B F0 ρ σ H' F' where
  frame := fr
  dom := R.dom
  sub := s
  ini := R.ini.trans e
  old := fun a h => (ol a h).trans (R.old a h)
  len := R.len
  fz := fun i d h => by obtain ⟨v, h1, h2⟩ := R.fz i d h; exact ⟨v, h1, h2.mono e⟩
  ow := fun i bb d h => by
    obtain ⟨p, h1, h2, h3, h4⟩ := R.ow i bb d h
    obtain ⟨q1, q2⟩ := q i bb d p h h1
    exact ⟨p, h1, h2, q1, h4.mono e q2⟩
  sep := R.sep
  io := R.io
  pn := fun i d h => by obtain ⟨v, h1, h2⟩ := R.pn i d h; exact ⟨v, h1, h2.mono e⟩

/-- a new shared object -/
theorem Rel.share (R : Rel K I N B F0 ρ σ H F) {p : Addr} {o : HO} (h : H p = none) : Rel K I N B F0 ρ σ (upd H p o) (upd F p o) := by
  obtain ⟨b, f, n⟩ := R.bnew h
  refine R.heap (upd_new f) (fun a x e => ?_) (fun a x e => upd_new h a x (R.frame a x e)) (fun a hb => ?_) (fun i bb d q hi hs => ?_)
  · by_cases ha : a = p
    · subst ha; rw [upd_same] at e ⊢; exact e
    · rw [upd_ne ha] at e ⊢; exact R.sub a x e
  · by_cases ha : a = p
    · subst ha; exact absurd b hb
    · rw [upd_ne ha]
  · have hq : q ≠ p := fun z => by subst z; exact R.unew h i bb d hi hs
    obtain ⟨q', h1, h2, h3, h4⟩ := R.ow i bb d hi
    rw [hs] at h1; cases h1
    exact ⟨by rw [upd_ne hq]; exact h3, fun o' e => by rw [upd_ne hq]; exact e⟩
/-- a new object that nobody has -/
theorem Rel.temp (R : Rel K I N B F0 ρ σ H F) {p : Addr} {o : HO} (h : H p = none) : Rel K I N B F0 ρ σ (upd H p o) F := by
  obtain ⟨b, f, n⟩ := R.bnew h
  refine R.heap (Same.refl _) (fun a x e => upd_new h a x (R.sub a x e)) (fun a x e => upd_new h a x (R.frame a x e)) (fun a hb => rfl) (fun i bb d q hi hs => ?_)
  have hq : q ≠ p := fun z => by subst z; exact R.unew h i bb d hi hs
  obtain ⟨q', h1, h2, h3, h4⟩ := R.ow i bb d hi
  rw [hs] at h1; cases h1
  exact ⟨h3, fun o' e => by rw [upd_ne hq]; exact e⟩

/-- a thing that nobody has becomes shared -/
theorem Rel.fixed (R : Rel K I N B F0 ρ σ H F) {p : Addr} {o : HO} (h : H p = some o) (b : B p = none) (f : F p = none) (u : Unowned ρ σ p) : Same F (upd F p o) ∧ Rel K I N B F0 ρ σ H (upd F p o) := by
  refine ⟨upd_new f, R.heap (upd_new f) (fun a x e => ?_) R.frame (fun a hb => ?_) (fun i bb d q hi hs => ?_)⟩
  · by_cases ha : a = p
    · subst ha; rw [upd_same] at e; rw [← e]; exact h
    · rw [upd_ne ha] at e; exact R.sub a x e
  · by_cases ha : a = p
    · subst ha; exact absurd b hb
    · rw [upd_ne ha]
  · have hq : q ≠ p := fun z => by subst z; exact u i bb d hi hs
    obtain ⟨q', h1, h2, h3, h4⟩ := R.ow i bb d hi
    rw [hs] at h1; cases h1
    exact ⟨by rw [upd_ne hq]; exact h3, fun o' e => e⟩

theorem OwnAt.rep {p : Addr} {d : D} (R : Rel K I N B F0 ρ σ H F) (h : OwnAt K N F H p d) (b : B p = none) (f : F p = none) (u : Unowned ρ σ p) :
    ∃ F', Same F F' ∧ Rel K I N B F0 ρ σ H F' ∧ Rep K N F' (.ref p) d := by
  cases d with
  | lst fl ds =>
    obtain ⟨vs, h1, h2⟩ := h
    obtain ⟨e, R'⟩ := R.fixed h1 b f u
    exact ⟨_, e, R', .lst upd_same (fun _ => R.dom _ b) (h2.mono e)⟩
  | dic fl ds =>
    obtain ⟨vs, h1, h2⟩ := h
    obtain ⟨e, R'⟩ := R.fixed h1 b f u
    exact ⟨_, e, R', .dic upd_same (fun _ => R.dom _ b) (h2.mono e)⟩
  | dit fl ds =>
    obtain ⟨vs, h1, h2⟩ := h
    obtain ⟨e, R'⟩ := R.fixed h1 b f u
    exact ⟨_, e, R', .dit upd_same (fun _ => R.dom _ b) (h2.mono e)⟩
  | _ => exact h.elim

/-- as shared data -/
def R.fix : R → Option D
  | .val d => some d
  | .tmp d => some d
  | .own _ => none
/-- kept while more is evaluated -/
def R.hold : R → R
  | .tmp d => .val d
  | r => r
/-- what is read there -/
def R.look (ρ : Ev) : R → Option D
  | .val d => some d
  | .tmp d => some d
  | .own i => match ρ[i]? with
    | some (.ow _ d) => some d
    | _ => none

theorem ResOk.fix {v : V} {r : R} {d : D} (R : Rel K I N B F0 ρ σ H F) (h : ResOk K N B ρ σ H F v r) (e : r.fix = some d) : ∃ F', Same F F' ∧ Rel K I N B F0 ρ σ H F' ∧ Rep K N F' v d := by
  cases r with
  | val d' => cases e; exact ⟨F, Same.refl _, R, h⟩
  | tmp d' =>
    cases e
    obtain ⟨p, rfl, b, f, o, u⟩ := h
    exact o.rep R b f u
  | own i => cases e
theorem ResOk.hold {v : V} {r : R} (R : Rel K I N B F0 ρ σ H F) (h : ResOk K N B ρ σ H F v r) : ∃ F', Same F F' ∧ Rel K I N B F0 ρ σ H F' ∧ ResOk K N B ρ σ H F' v r.hold := by
  cases r with
  | val d' => exact ⟨F, Same.refl _, R, h⟩
  | tmp d' =>
    obtain ⟨p, rfl, b, f, o, u⟩ := h
    exact o.rep R b f u
  | own i => exact ⟨F, Same.refl _, R, h⟩

/-- the root as it is read now, its parts shared -/
def See (K : PySem.W.Frag) (N F H : Hp) (v : V) : D → Prop
  | .non => v = .non
  | .bl b => v = .bl b
  | .int i => v = .int i
  | .str s => v = .str s
  | .lst _ ds => ∃ a vs, v = .ref a ∧ H a = some (.lst vs) ∧ Reps K N F vs ds
  | .tup ds => ∃ a vs, v = .ref a ∧ H a = some (.tup vs) ∧ Reps K N F vs ds
  | .dic _ ds => ∃ a vs, v = .ref a ∧ H a = some (.dK vs) ∧ RepK K N F vs ds
  | .dit _ ds => ∃ a vs, v = .ref a ∧ H a = some (.dT vs) ∧ RepT K N F vs ds
  | .scr ns => ∃ a, v = .ref a ∧ SqL K H a (ns.map V.int)
theorem Rep.see {v : V} {d : D} (h : Rep K N F v d) (s : Same F H) : See K N F H v d := by
  cases h with
  | non => rfl
  | bl b => rfl
  | int i => rfl
  | str x => rfl
  | lst h f r => exact ⟨_, _, rfl, s _ _ h, r⟩
  | tup h r => exact ⟨_, _, rfl, s _ _ h, r⟩
  | dic h f r => exact ⟨_, _, rfl, s _ _ h, r⟩
  | dit h f r => exact ⟨_, _, rfl, s _ _ h, r⟩
  | scr h => exact ⟨_, rfl, s.seq h⟩
theorem OwnAt.see {p : Addr} {d : D} (h : OwnAt K N F H p d) : See K N F H (.ref p) d := by
  cases d with
  | lst f ds => obtain ⟨vs, h1, h2⟩ := h; exact ⟨p, vs, rfl, h1, h2⟩
  | dic f ds => obtain ⟨vs, h1, h2⟩ := h; exact ⟨p, vs, rfl, h1, h2⟩
  | dit f ds => obtain ⟨vs, h1, h2⟩ := h; exact ⟨p, vs, rfl, h1, h2⟩
  | _ => exact h.elim
theorem ResOk.see {v : V} {r : R} {d : D} (R : Rel K I N B F0 ρ σ H F) (h : ResOk K N B ρ σ H F v r) (e : r.look ρ = some d) : See K N F H v d := by
  cases r with
  | val d' => cases e; exact Rep.see h R.sub
  | tmp d' =>
    cases e
    obtain ⟨p, rfl, b, f, o, u⟩ := h
    exact o.see
  | own i =>
    obtain ⟨bb, d', p, h1, rfl, h3⟩ := h
    simp only [Z.R.look, h1, Option.some.injEq] at e
    subst e
    obtain ⟨q, g1, _, _, g4⟩ := R.ow i bb d' h1
    rw [h3] at g1; cases g1
    exact g4.see
/-- a held result, further on -/
theorem ResOk.later {v : V} {r : R} {F' H' : Hp} {ρ' : Ev} {d : D} (h : ResOk K N B ρ σ H F v r.hold) (e : Same F F') (R : Rel K I N B F0 ρ' σ H' F') (l : r.hold.look ρ' = some d) : ResOk K N B ρ' σ H' F' v r.hold := by
  cases r with
  | val d' => exact Rep.mono e h
  | tmp d' => exact Rep.mono e h
  | own i =>
    obtain ⟨bb, d', p, h1, rfl, h3⟩ := h
    simp only [Z.R.hold, Z.R.look] at l
    cases q : ρ'[i]? with
    | none => rw [q] at l; cases l
    | some c =>
      cases c with
      | ow b2 d2 => exact ⟨b2, d2, p, q, rfl, h3⟩
      | _ => rw [q] at l; cases l

/-- every tracked thing but the owned ones -/
noncomputable def star (ρ : Ev) (σ : L2.St) (H : Hp) : Hp := fun a => by
  classical
  exact if Unowned ρ σ a then H a else none
theorem star_un {a : Addr} (h : Unowned ρ σ a) : star ρ σ H a = H a := by unfold star; exact if_pos h
theorem star_ow {i : Nat} {b : Bool} {d : D} {p : Addr} (h : ρ[i]? = some (.ow b d)) (s : σ[i]? = some (some (.ref p))) : star ρ σ H p = none := by
  unfold star; exact if_neg fun u => u i b d h s
theorem star_sub : Same (star ρ σ H) H := fun a o e => by
  unfold star at e
  split at e
  · exact e
  · cases e
theorem Rel.bun (R : Rel K I N B F0 ρ σ H F) {a : Addr} (h : B a ≠ none) : Unowned ρ σ a := fun i bb d e z => by
  obtain ⟨p, h1, h2, _, _⟩ := R.ow i bb d e
  rw [z] at h1; cases h1
  exact h h2
theorem Rel.fun_ (R : Rel K I N B F0 ρ σ H F) {a : Addr} (h : F a ≠ none) : Unowned ρ σ a := fun i bb d e z => by
  obtain ⟨p, h1, _, h3, _⟩ := R.ow i bb d e
  rw [z] at h1; cases h1
  exact h h3
theorem Rel.widen (R : Rel K I N B F0 ρ σ H F) : Rel K I N (star ρ σ H) F ρ σ H F where
  frame := star_sub
  dom := fun a h => by
    cases q : B a with
    | none => exact R.dom a q
    | some o =>
      have u := R.bun (a := a) (by rw [q]; simp)
      rw [star_un u, R.frame a o q] at h; cases h
  sub := R.sub
  ini := Same.refl _
  old := fun _ _ => rfl
  len := R.len
  fz := R.fz
  ow := fun i bb d h => by
    obtain ⟨p, h1, h2, h3, h4⟩ := R.ow i bb d h
    exact ⟨p, h1, star_ow h h1, h3, h4⟩
  sep := R.sep
  io := R.io
  pn := R.pn
theorem Rel.narrow {ρ' : Ev} {σ' : L2.St} {H' F' : Hp} (R : Rel K I N B F0 ρ σ H F) (R' : Rel K I N (star ρ σ H) F ρ' σ' H' F') : Rel K I N B F0 ρ' σ' H' F' where
  frame := fun a o e => by
    have u := R.bun (a := a) (by rw [e]; simp)
    exact R'.frame a o (by rw [star_un u]; exact R.frame a o e)
  dom := R.dom
  sub := R'.sub
  ini := R.ini.trans R'.ini
  old := fun a h => by
    have u := R.bun h
    cases q : B a with
    | none => exact absurd q h
    | some o => rw [R'.old a (by rw [star_un u, R.frame a o q]; simp), R.old a h]
  len := R'.len
  fz := R'.fz
  ow := fun i bb d h => by
    obtain ⟨p, h1, h2, h3, h4⟩ := R'.ow i bb d h
    refine ⟨p, h1, ?_, h3, h4⟩
    cases q : B p with
    | none => rfl
    | some o =>
      have u := R.bun (a := p) (by rw [q]; simp)
      rw [star_un u, R.frame p o q] at h2; cases h2
  sep := R'.sep
  io := R'.io
  pn := R'.pn
theorem Rel.bnarrow (R : Rel K I N B F0 ρ σ H F) {p : Addr} (h : star ρ σ H p = none) : B p = none := by
  cases q : B p with
  | none => rfl
  | some o =>
    have u := R.bun (a := p) (by rw [q]; simp)
    rw [star_un u, R.frame p o q] at h; cases h
theorem ResOk.narrow {ρ' : Ev} {σ' : L2.St} {H' F' : Hp} {v : V} {r : R} (R : Rel K I N B F0 ρ σ H F) (h : ResOk K N (star ρ σ H) ρ' σ' H' F' v r) : ResOk K N B ρ' σ' H' F' v r := by
  cases r with
  | val d => exact h
  | own i => exact h
  | tmp d =>
    obtain ⟨p, rfl, b, f, o, u⟩ := h
    exact ⟨p, rfl, R.bnarrow b, f, o, u⟩
end
end Z

namespace Z
open PySem L2

abbrev EF := Ev → Option (Ev × R)
abbrev AF := Ev → Option (Ev × List R)
abbrev TF := Ev → Option (Ev × Bool)

/-- what a list of held results stands for -/
inductive RsOk (K : PySem.W.Frag) (N B : Hp) (ρ : Ev) (σ : L2.St) (H F : Hp) : List V → List R → Prop
  | nil : RsOk K N B ρ σ H F [] []
  | cons {v : V} {r : R} {vs : List V} {rs : List R} : ResOk K N B ρ σ H F v r → RsOk K N B ρ σ H F vs rs → RsOk K N B ρ σ H F (v :: vs) (r :: rs)

def Snd (K : PySem.W.Frag) (te : TE) (f : EF) : Prop := ∀ (I : Nat → Option V) (N B F0 : Hp) (ρ : Ev) (σ : L2.St) (H F : Hp) (ρ' : Ev) (r : R), Rel K I N B F0 ρ σ H F → f ρ = some (ρ', r) →
  ∀ Q : VK, (∀ v H' F', Same F F' → Rel K I N B F0 ρ' σ H' F' → ResOk K N B ρ' σ H' F' v r → Q v H') → te σ H Q
def SndT (K : PySem.W.Frag) (tt : TT) (f : TF) : Prop := ∀ (I : Nat → Option V) (N B F0 : Hp) (ρ : Ev) (σ : L2.St) (H F : Hp) (ρ' : Ev) (b : Bool), Rel K I N B F0 ρ σ H F → f ρ = some (ρ', b) →
  ∀ Q : Bool → Hp → Prop, (∀ H' F', Same F F' → Rel K I N B F0 ρ' σ H' F' → Q b H') → tt σ H Q
/-- the results are held: shared, or own things of slots that are own things still -/
def SndA (K : PySem.W.Frag) (ta : TA) (f : AF) : Prop := ∀ (I : Nat → Option V) (N B F0 : Hp) (ρ : Ev) (σ : L2.St) (H F : Hp) (ρ' : Ev) (rs : List R), Rel K I N B F0 ρ σ H F → f ρ = some (ρ', rs) →
  ∀ Q : List V → Hp → Prop, (∀ vs H' F', Same F F' → Rel K I N B F0 ρ' σ H' F' → RsOk K N B ρ' σ H' F' vs rs → Q vs H') → ta σ H Q
def SE (X : Cx) (e : Expr) (f : EF) : Prop := ∃ te, PE X e te ∧ Snd X.K te f
def ST (X : Cx) (e : Expr) (f : TF) : Prop := ∃ tt, PT X e tt ∧ SndT X.K tt f
def SW (X : Cx) (e : Expr) (f : TF) : Prop := ∃ tt, PW X e tt ∧ SndT X.K tt f
def SA (X : Cx) (es : List Expr) (f : AF) : Prop := ∃ ta, PA X es ta ∧ SndA X.K ta f

/-! the evaluators' pieces -/
def eVar (i : Nat) : EF := fun ρ => match ρ[i]? with
  | some (.fz d) => some (ρ, .val d)
  | some (.ow _ _) => some (ρ, .own i)
  | some (.pn d) => some (ρ, .val d)
  | _ => none
def eC (d : D) : EF := fun ρ => some (ρ, .val d)
/-- is it an own thing still? -/
def R.live (ρ : Ev) : R → Bool
  | .own i => match ρ[i]? with
    | some (.ow _ _) => true
    | _ => false
  | _ => true
def aNil : AF := fun ρ => some (ρ, [])
def aCons (f : EF) (g : AF) : AF := fun ρ => match f ρ with
  | some (ρ1, r) => match g ρ1 with
    | some (ρ2, rs) => if r.hold.live ρ2 then some (ρ2, r.hold :: rs) else none
    | none => none
  | none => none
def vals : List R → Option (List D)
  | [] => some []
  | r :: rs => match r, vals rs with
    | .val d, some ds => some (d :: ds)
    | _, _ => none
def looks (ρ : Ev) : List R → Option (List D)
  | [] => some []
  | r :: rs => match r.look ρ, looks ρ rs with
    | some d, some ds => some (d :: ds)
    | _, _ => none
def eLst (g : AF) : EF := fun ρ => match g ρ with
  | some (ρ1, rs) => match vals rs with
    | some ds => if ds.length ≤ 100000 then some (ρ1, .tmp (.lst true ds)) else none
    | none => none
  | none => none
def eTup (g : AF) : EF := fun ρ => match g ρ with
  | some (ρ1, rs) => match vals rs with
    | some ds => if ds.length ≤ 100000 then some (ρ1, .val (.tup ds)) else none
    | none => none
  | none => none
def eOp2 (op : D → D → Option R) (f g : EF) : EF := fun ρ => match f ρ with
  | some (ρ1, a) => match g ρ1 with
    | some (ρ2, b) => match a.hold.look ρ2, b.look ρ2 with
      | some x, some y => match op x y with
        | some r => some (ρ2, r)
        | none => none
      | _, _ => none
    | none => none
  | none => none
def eOp1 (op : D → Option R) (f : EF) : EF := fun ρ => match f ρ with
  | some (ρ1, a) => match a.look ρ1 with
    | some x => match op x with
      | some r => some (ρ1, r)
      | none => none
    | none => none
  | none => none
def eCB (op : List D → Option R) (g : AF) : EF := fun ρ => match g ρ with
  | some (ρ1, rs) => match looks ρ1 rs with
    | some ds => match op ds with
      | some r => some (ρ1, r)
      | none => none
    | none => none
  | none => none

section
variable {K : PySem.W.Frag} {I : Nat → Option V} {N B F0 F H : Hp} {ρ : Ev} {σ : L2.St}

theorem snd_var (i : Nat) : Snd K (tVar i) (eVar i) := by
  intro I N B F0 ρ σ H F ρ' r W h Q q
  unfold eVar at h
  split at h
  · cases h
    obtain ⟨v, h1, h2⟩ := W.fz i _ (by assumption)
    exact ⟨v, h1, q v H F (Same.refl _) W h2⟩
  · cases h
    obtain ⟨p, h1, h2⟩ := W.ow i _ _ (by assumption)
    exact ⟨.ref p, h1, q _ H F (Same.refl _) W ⟨_, _, p, by assumption, rfl, h1⟩⟩
  · cases h
    obtain ⟨v, h1, h2⟩ := W.pn i _ (by assumption)
    exact ⟨v, h1, q v H F (Same.refl _) W h2⟩
  · cases h
theorem snd_c {v : V} {d : D} (h0 : ∀ N F, Rep K N F v d) : Snd K (tC v) (eC d) := by
  intro I N B F0 ρ σ H F ρ' r W h Q q
  cases h
  exact q v H F (Same.refl _) W (h0 N F)

theorem ResOk.held {v : V} {r : R} {F' H' : Hp} {ρ' : Ev} (h : ResOk K N B ρ σ H F v r.hold) (e : Same F F') (l : r.hold.live ρ' = true) : ResOk K N B ρ' σ H' F' v r.hold := by
  cases r with
  | val d' => exact Rep.mono e h
  | tmp d' => exact Rep.mono e h
  | own i =>
    obtain ⟨bb, d', p, h1, rfl, h3⟩ := h
    simp only [Z.R.hold, Z.R.live] at l
    split at l
    · exact ⟨_, _, p, by assumption, rfl, h3⟩
    · cases l
theorem snd_nil : SndA K tNil aNil := by
  intro I N B F0 ρ σ H F ρ' r W h Q q
  cases h
  exact q [] H F (Same.refl _) W .nil
theorem snd_cons {te : TE} {ta : TA} {f : EF} {g : AF} (hf : Snd K te f) (hg : SndA K ta g) : SndA K (tCons te ta) (aCons f g) := by
  intro I N B F0 ρ σ H F ρ' rs W h Q q
  unfold aCons at h
  split at h
  · rename_i ρ1 r e1
    split at h
    · rename_i ρ2 rs' e2
      split at h
      · rename_i hl
        cases h
        refine hf I N B F0 ρ σ H F ρ1 r W e1 _ fun v H1 F1 s1 W1 o1 => ?_
        obtain ⟨F1', s1', W1', o1'⟩ := o1.hold W1
        refine hg I N B F0 ρ1 σ H1 F1' ρ' rs' W1' e2 _ fun vs H2 F2 s2 W2 o2 => ?_
        exact q _ H2 F2 ((s1.trans s1').trans s2) W2 (.cons (o1'.held s2 hl) o2)
      · cases h
    · cases h
  · cases h
theorem vals_reps {vs : List V} {rs : List R} (h : RsOk K N B ρ σ H F vs rs) : ∀ {ds : List D}, vals rs = some ds → Reps K N F vs ds := by
  induction h with
  | nil => intro ds e; cases e; exact .nil
  | @cons v r vs rs h1 h2 ih =>
    intro ds e
    unfold vals at e
    split at e
    · cases e
      exact .cons h1 (ih (by assumption))
    · cases e
inductive Sees (K : PySem.W.Frag) (N F H : Hp) : List V → List D → Prop
  | nil : Sees K N F H [] []
  | cons {v : V} {d : D} {vs : List V} {ds : List D} : See K N F H v d → Sees K N F H vs ds → Sees K N F H (v :: vs) (d :: ds)
theorem looks_sees (W : Rel K I N B F0 ρ σ H F) {vs : List V} {rs : List R} (h : RsOk K N B ρ σ H F vs rs) : ∀ {ds : List D}, looks ρ rs = some ds → Sees K N F H vs ds := by
  induction h with
  | nil => intro ds e; cases e; exact .nil
  | @cons v r vs rs h1 h2 ih =>
    intro ds e
    unfold looks at e
    split at e
    · cases e
      exact .cons (h1.see W (by assumption)) (ih (by assumption))
    · cases e
theorem snd_lst {ta : TA} {g : AF} (hg : SndA K ta g) : Snd K (tLst ta) (eLst g) := by
  intro I N B F0 ρ σ H F ρ' r W h Q q
  unfold eLst at h
  split at h
  · rename_i ρ1 rs e1
    split at h
    · rename_i ds e2
      split at h
      · rename_i hl
        cases h
        refine hg I N B F0 ρ σ H F ρ' rs W e1 _ fun vs H1 F1 s1 W1 o1 => ?_
        have rp := vals_reps o1 e2
        refine ⟨Evl.sz_of (by rw [rp.length]; exact hl), fun p hp => ?_⟩
        obtain ⟨b, f, n⟩ := W1.bnew hp
        exact q _ _ F1 s1 (W1.temp hp) ⟨p, rfl, b, f, ⟨vs, upd_same, rp⟩, W1.unew hp⟩
      · cases h
    · cases h
  · cases h
theorem snd_tup {ta : TA} {g : AF} (hg : SndA K ta g) : Snd K (tTup ta) (eTup g) := by
  intro I N B F0 ρ σ H F ρ' r W h Q q
  unfold eTup at h
  split at h
  · rename_i ρ1 rs e1
    split at h
    · rename_i ds e2
      split at h
      · rename_i hl
        cases h
        refine hg I N B F0 ρ σ H F ρ' rs W e1 _ fun vs H1 F1 s1 W1 o1 => ?_
        have rp := vals_reps o1 e2
        refine ⟨Evl.sz_of (by rw [rp.length]; exact hl), fun p hp => ?_⟩
        obtain ⟨b, f, n⟩ := W1.bnew hp
        have s2 : Same F1 (upd F1 p (.tup vs)) := upd_new f
        exact q _ _ _ (s1.trans s2) (W1.share hp) (.tup upd_same (rp.mono s2))
      · cases h
    · cases h
  · cases h

/-- an operation on values does what op says of the data -/
def Op2Ok (K : PySem.W.Frag) (r : R2) (op : D → D → Option R) : Prop := ∀ (I : Nat → Option V) (N B F0 : Hp) (ρ : Ev) (σ : L2.St) (H F : Hp), Rel K I N B F0 ρ σ H F → ∀ (x y : D) (v w : V) (res : R),
  See K N F H v x → See K N F H w y → op x y = some res → ∀ Q : VK, (∀ u H' F', Same F F' → Rel K I N B F0 ρ σ H' F' → ResOk K N B ρ σ H' F' u res → Q u H') → r v w H Q
def Op1Ok (K : PySem.W.Frag) (r : V → Hp → VK → Prop) (op : D → Option R) : Prop := ∀ (I : Nat → Option V) (N B F0 : Hp) (ρ : Ev) (σ : L2.St) (H F : Hp), Rel K I N B F0 ρ σ H F → ∀ (x : D) (v : V) (res : R),
  See K N F H v x → op x = some res → ∀ Q : VK, (∀ u H' F', Same F F' → Rel K I N B F0 ρ σ H' F' → ResOk K N B ρ σ H' F' u res → Q u H') → r v H Q
def OpLOk (K : PySem.W.Frag) (r : List V → Hp → VK → Prop) (op : List D → Option R) : Prop := ∀ (I : Nat → Option V) (N B F0 : Hp) (ρ : Ev) (σ : L2.St) (H F : Hp), Rel K I N B F0 ρ σ H F → ∀ (xs : List D) (vs : List V) (res : R),
  Sees K N F H vs xs → op xs = some res → ∀ Q : VK, (∀ u H' F', Same F F' → Rel K I N B F0 ρ σ H' F' → ResOk K N B ρ σ H' F' u res → Q u H') → r vs H Q
theorem snd_op2 {ta tb : TE} {f g : EF} {r : R2} {op : D → D → Option R} (hf : Snd K ta f) (hg : Snd K tb g) (ho : Op2Ok K r op) : Snd K (tOp r ta tb) (eOp2 op f g) := by
  intro I N B F0 ρ σ H F ρ' res W h Q q
  unfold eOp2 at h
  split at h
  · rename_i ρ1 a e1
    split at h
    · rename_i ρ2 b e2
      split at h
      · rename_i x y l1 l2
        split at h
        · rename_i r' e3
          cases h
          refine hf I N B F0 ρ σ H F ρ1 a W e1 _ fun v H1 F1 s1 W1 o1 => ?_
          obtain ⟨F1', s1', W1', o1'⟩ := o1.hold W1
          refine hg I N B F0 ρ1 σ H1 F1' ρ' b W1' e2 _ fun w H2 F2 s2 W2 o2 => ?_
          have o3 := o1'.later s2 W2 l1
          exact ho I N B F0 ρ' σ H2 F2 W2 x y v w _ (o3.see W2 l1) (o2.see W2 l2) e3 Q fun u H3 F3 s3 W3 o4 => q u H3 F3 (((s1.trans s1').trans s2).trans s3) W3 o4
        · cases h
      · cases h
    · cases h
  · cases h
theorem snd_op1 {ta : TE} {f : EF} {r : V → Hp → VK → Prop} {op : D → Option R} (hf : Snd K ta f) (ho : Op1Ok K r op) : Snd K (tUn r ta) (eOp1 op f) := by
  intro I N B F0 ρ σ H F ρ' res W h Q q
  unfold eOp1 at h
  split at h
  · rename_i ρ1 a e1
    split at h
    · rename_i x l1
      split at h
      · rename_i r' e3
        cases h
        refine hf I N B F0 ρ σ H F ρ' a W e1 _ fun v H1 F1 s1 W1 o1 => ?_
        exact ho I N B F0 ρ' σ H1 F1 W1 x v _ (o1.see W1 l1) e3 Q fun u H3 F3 s3 W3 o4 => q u H3 F3 (s1.trans s3) W3 o4
      · cases h
    · cases h
  · cases h
theorem snd_cb {ta : TA} {g : AF} {r : List V → Hp → VK → Prop} {op : List D → Option R} (hg : SndA K ta g) (ho : OpLOk K r op) : Snd K (tCB r ta) (eCB op g) := by
  intro I N B F0 ρ σ H F ρ' res W h Q q
  unfold eCB at h
  split at h
  · rename_i ρ1 rs e1
    split at h
    · rename_i ds l1
      split at h
      · rename_i r' e3
        cases h
        refine hg I N B F0 ρ σ H F ρ' rs W e1 _ fun vs H1 F1 s1 W1 o1 => ?_
        exact ho I N B F0 ρ' σ H1 F1 W1 ds vs _ (looks_sees W1 o1 l1) e3 Q fun u H3 F3 s3 W3 o4 => q u H3 F3 (s1.trans s3) W3 o4
      · cases h
    · cases h
  · cases h

/-! truth -/
def D.truth : D → Option Bool
  | .non => some false
  | .bl b => some b
  | .int i => some (i != 0)
  | .str s => if s.length ≤ 100000 then some ((s.length : Int) != 0) else none
  | .lst _ ds => some (!ds.isEmpty)
  | .tup ds => some (!ds.isEmpty)
  | .dic _ ds => some (!ds.isEmpty)
  | _ => none
def tru (f : EF) : TF := fun ρ => match f ρ with
  | some (ρ1, a) => match a.look ρ1 with
    | some x => match x.truth with
      | some b => some (ρ1, b)
      | none => none
    | none => none
  | none => none
theorem Reps.isEmpty {vs : List V} {ds : List D} (h : Reps K N F vs ds) : vs.isEmpty = ds.isEmpty := by cases h <;> rfl
theorem RepK.isEmpty {vs : List (L2.Key × V)} {ds : List (L2.Key × D)} (h : RepK K N F vs ds) : vs.isEmpty = ds.isEmpty := by cases h <;> rfl
theorem truth_ok {x : D} {v : V} {b : Bool} (h : See K N F H v x) (e : x.truth = some b) : TruV K v H b := by
  cases x with
  | non => cases h; cases e; rfl
  | bl c => cases h; cases e; rfl
  | int i => cases h; cases e; rfl
  | str s =>
    cases h
    simp only [D.truth] at e
    split at e
    · cases e; exact ⟨Evl.sz_of (by assumption), rfl⟩
    · cases e
  | lst f ds => cases e; obtain ⟨a, vs, rfl, h1, h2⟩ := h; exact .inl ⟨vs, .inl (.inl h1), by rw [h2.isEmpty]⟩
  | tup ds => cases e; obtain ⟨a, vs, rfl, h1, h2⟩ := h; exact .inr (.inl ⟨vs, .inl (.inl h1), by rw [h2.isEmpty]⟩)
  | dic f ds => cases e; obtain ⟨a, vs, rfl, h1, h2⟩ := h; exact .inr (.inr ⟨vs, h1, by rw [h2.isEmpty]⟩)
  | dit f ds => cases e
  | scr ns => cases e
theorem snd_tru {ta : TE} {f : EF} (hf : Snd K ta f) : SndT K (fun σ H Q => ta σ H fun x H' => ∃ k, TruV K x H' k ∧ Q k H') (tru f) := by
  intro I N B F0 ρ σ H F ρ' b W h Q q
  unfold tru at h
  split at h
  · rename_i ρ1 a e1
    split at h
    · rename_i x l1
      split at h
      · rename_i b' e3
        cases h
        refine hf I N B F0 ρ σ H F ρ' a W e1 _ fun v H1 F1 s1 W1 o1 => ?_
        exact ⟨_, truth_ok (o1.see W1 l1) e3, q H1 F1 s1 W1⟩
      · cases h
    · cases h
  · cases h
/-- a test's answer as a result -/
def tres (t : TF) : EF := fun ρ => match t ρ with
  | some (ρ1, b) => some (ρ1, .val (.bl b))
  | none => none
def tAnd (t u : TF) : TF := fun ρ => match t ρ with
  | some (ρ1, b) => if b = true then u ρ1 else some (ρ1, false)
  | none => none
def tOr (t u : TF) : TF := fun ρ => match t ρ with
  | some (ρ1, b) => if b = true then some (ρ1, true) else u ρ1
  | none => none
def tNot (t : TF) : TF := fun ρ => match t ρ with
  | some (ρ1, b) => some (ρ1, !b)
  | none => none
def eIf (t : TF) (f g : EF) : EF := fun ρ => match t ρ with
  | some (ρ1, b) => if b = true then f ρ1 else g ρ1
  | none => none
theorem snd_and {tt uu : TT} {t u : TF} (ht : SndT K tt t) (hu : SndT K uu u) : SndT K (L2.tAnd tt uu) (tAnd t u) := by
  intro I N B F0 ρ σ H F ρ' b W h Q q
  unfold tAnd at h
  split at h
  · rename_i ρ1 c e1
    refine ht I N B F0 ρ σ H F ρ1 c W e1 _ fun H1 F1 s1 W1 => ?_
    cases c with
    | true => exact iteT (hu I N B F0 ρ1 σ H1 F1 ρ' b W1 h Q fun H2 F2 s2 W2 => q H2 F2 (s1.trans s2) W2)
    | false => cases h; exact iteF (q H1 F1 s1 W1)
  · cases h
theorem snd_or {tt uu : TT} {t u : TF} (ht : SndT K tt t) (hu : SndT K uu u) : SndT K (L2.tOr tt uu) (tOr t u) := by
  intro I N B F0 ρ σ H F ρ' b W h Q q
  unfold tOr at h
  split at h
  · rename_i ρ1 c e1
    refine ht I N B F0 ρ σ H F ρ1 c W e1 _ fun H1 F1 s1 W1 => ?_
    cases c with
    | true => cases h; exact iteT (q H1 F1 s1 W1)
    | false => exact iteF (hu I N B F0 ρ1 σ H1 F1 ρ' b W1 h Q fun H2 F2 s2 W2 => q H2 F2 (s1.trans s2) W2)
  · cases h
theorem snd_not {tt : TT} {t : TF} (ht : SndT K tt t) : SndT K (L2.tNot tt) (tNot t) := by
  intro I N B F0 ρ σ H F ρ' b W h Q q
  unfold tNot at h
  split at h
  · rename_i ρ1 c e1
    cases h
    exact ht I N B F0 ρ σ H F ρ' c W e1 _ fun H1 F1 s1 W1 => q H1 F1 s1 W1
  · cases h
theorem snd_if {tt : TT} {ta tb : TE} {t : TF} {f g : EF} (ht : SndT K tt t) (hf : Snd K ta f) (hg : Snd K tb g) : Snd K (tIf tt ta tb) (eIf t f g) := by
  intro I N B F0 ρ σ H F ρ' r W h Q q
  unfold eIf at h
  split at h
  · rename_i ρ1 c e1
    refine ht I N B F0 ρ σ H F ρ1 c W e1 _ fun H1 F1 s1 W1 => ?_
    cases c with
    | true => exact iteT (hf I N B F0 ρ1 σ H1 F1 ρ' r W1 h Q fun v H2 F2 s2 W2 o2 => q v H2 F2 (s1.trans s2) W2 o2)
    | false => exact iteF (hg I N B F0 ρ1 σ H1 F1 ρ' r W1 h Q fun v H2 F2 s2 W2 o2 => q v H2 F2 (s1.trans s2) W2 o2)
  · cases h
/-- x or y, x and y, not x as values; what is handed on is shared -/
def eOr (f g : EF) : EF := fun ρ => match f ρ with
  | some (ρ1, a) => match a.hold with
    | .val x => match x.truth with
      | some true => some (ρ1, .val x)
      | some false => g ρ1
      | none => none
    | _ => none
  | none => none
def eAnd (f g : EF) : EF := fun ρ => match f ρ with
  | some (ρ1, a) => match a.hold with
    | .val x => match x.truth with
      | some true => g ρ1
      | some false => some (ρ1, .val x)
      | none => none
    | _ => none
  | none => none
def eNot (f : EF) : EF := tres (tNot (tru f))
theorem snd_orT {ta tb : TE} {f g : EF} (hf : Snd K ta f) (hg : Snd K tb g) : Snd K (tOrT K ta tb) (eOr f g) := by
  intro I N B F0 ρ σ H F ρ' r W h Q q
  unfold eOr at h
  split at h
  · rename_i ρ1 a e1
    split at h
    · rename_i x e2
      refine hf I N B F0 ρ σ H F ρ1 a W e1 _ fun v H1 F1 s1 W1 o1 => ?_
      obtain ⟨F2, s2, W2, o2⟩ := o1.hold W1
      rw [e2] at o2
      split at h
      · cases h
        exact ⟨true, truth_ok (Rep.see o2 W2.sub) (by assumption), iteT (q v H1 F2 (s1.trans s2) W2 o2)⟩
      · exact ⟨false, truth_ok (Rep.see o2 W2.sub) (by assumption), iteF (hg I N B F0 ρ1 σ H1 F2 ρ' r W2 h Q fun w H3 F3 s3 W3 o3 => q w H3 F3 ((s1.trans s2).trans s3) W3 o3)⟩
      · cases h
    · cases h
  · cases h
theorem snd_andT {ta tb : TE} {f g : EF} (hf : Snd K ta f) (hg : Snd K tb g) : Snd K (tAndT K ta tb) (eAnd f g) := by
  intro I N B F0 ρ σ H F ρ' r W h Q q
  unfold eAnd at h
  split at h
  · rename_i ρ1 a e1
    split at h
    · rename_i x e2
      refine hf I N B F0 ρ σ H F ρ1 a W e1 _ fun v H1 F1 s1 W1 o1 => ?_
      obtain ⟨F2, s2, W2, o2⟩ := o1.hold W1
      rw [e2] at o2
      split at h
      · exact ⟨true, truth_ok (Rep.see o2 W2.sub) (by assumption), iteT (hg I N B F0 ρ1 σ H1 F2 ρ' r W2 h Q fun w H3 F3 s3 W3 o3 => q w H3 F3 ((s1.trans s2).trans s3) W3 o3)⟩
      · cases h
        exact ⟨false, truth_ok (Rep.see o2 W2.sub) (by assumption), iteF (q v H1 F2 (s1.trans s2) W2 o2)⟩
      · cases h
    · cases h
  · cases h
theorem snd_notT {ta : TE} {f : EF} (hf : Snd K ta f) : Snd K (tNotT K ta) (eNot f) := by
  intro I N B F0 ρ σ H F ρ' r W h Q q
  unfold eNot tres tNot at h
  split at h
  · rename_i ρ1 c e1
    cases h
    split at e1
    · rename_i ρ2 c2 e2
      cases e1
      refine snd_tru hf I N B F0 ρ σ H F ρ' c2 W e2 (fun k H' => Q (.bl (!k)) H') fun H1 F1 s1 W1 => q _ H1 F1 s1 W1 (.bl _)
    · cases e1
  · cases h
end
end Z

namespace Z
open PySem L2

section
variable {X : Cx} {K : PySem.W.Frag} {I : Nat → Option V} {N B F0 F H : Hp} {ρ : Ev} {σ : L2.St}

/-! a new list, a new tuple -/
theorem new_lst (W : Rel K I N B F0 ρ σ H F) {vs : List V} {ds : List D} (r : Reps K N F vs ds) {Q : VK} (q : ∀ u H' F', Same F F' → Rel K I N B F0 ρ σ H' F' → ResOk K N B ρ σ H' F' u (.tmp (.lst true ds)) → Q u H') : ∀ p, H p = none → Q (.ref p) (upd H p (.lst vs)) := fun p hp => by
  obtain ⟨b, f, n⟩ := W.bnew hp
  exact q _ _ F (Same.refl _) (W.temp hp) ⟨p, rfl, b, f, ⟨vs, upd_same, r⟩, W.unew hp⟩
theorem new_tup (W : Rel K I N B F0 ρ σ H F) {vs : List V} {ds : List D} (r : Reps K N F vs ds) {Q : VK} (q : ∀ u H' F', Same F F' → Rel K I N B F0 ρ σ H' F' → ResOk K N B ρ σ H' F' u (.val (.tup ds)) → Q u H') : ∀ p, H p = none → Q (.ref p) (upd H p (.tup vs)) := fun p hp => by
  obtain ⟨b, f, n⟩ := W.bnew hp
  have s2 : Same F (upd F p (.tup vs)) := upd_new f
  exact q _ _ _ s2 (W.share hp) (.tup upd_same (r.mono s2))

/-! arithmetic -/
def ofI (C : Int → Int → Bool) (g : Int → Int → Int) : D → D → Option R
  | .int i, .int j => if C i j = true then some (.val (.int (g i j))) else none
  | _, _ => none
theorem op2_I {C : Int → Int → Prop} {c : Int → Int → Bool} {g : Int → Int → Int} (hc : ∀ i j, c i j = true → C i j) : Op2Ok K (rI C fun i j => .int (g i j)) (ofI c g) := by
  intro I N B F0 ρ σ H F W x y v w res hx hy e Q q
  unfold ofI at e
  split at e
  · split at e
    · rename_i i j h
      cases e
      cases hx; cases hy
      exact ⟨_, _, rfl, rfl, hc _ _ h, q _ H F (Same.refl _) W (.int _)⟩
    · cases e
  · cases e
theorem op2_I0 {g : Int → Int → Int} : Op2Ok K (rI0 fun i j => .int (g i j)) (ofI (fun _ _ => true) g) := by
  intro I N B F0 ρ σ H F W x y v w res hx hy e Q q
  unfold ofI at e
  split at e
  · rw [if_pos rfl] at e
    cases e
    cases hx; cases hy
    exact ⟨_, _, rfl, rfl, q _ H F (Same.refl _) W (.int _)⟩
  · cases e
def cmulB (i j : Int) : Bool := decide ((-(2 ^ 64) < i ∧ i < 2 ^ 64) ∨ (-(2 ^ 64) < j ∧ j < 2 ^ 64))
def cdivB (i j : Int) : Bool := decide (0 < j ∧ j < 1073741824)
def cmodB (i j : Int) : Bool := decide (0 < j)
def cpowB (i j : Int) : Bool := decide (0 ≤ j ∧ j ≤ 1000000 ∧ i.natAbs < 2 ^ 64)
def cshrB (i j : Int) : Bool := decide (0 ≤ j)
/-- two rules, the second where the first has no answer -/
theorem Op2Ok.or {r r' : R2} {op op' : D → D → Option R} (h : Op2Ok K r op) (h' : Op2Ok K r' op') : Op2Ok K (fun x y H Q => r x y H Q ∨ r' x y H Q) (fun x y => (op x y).or (op' x y)) := by
  intro I N B F0 ρ σ H F W x y v w res hx hy e Q q
  replace e : (op x y).or (op' x y) = some res := e
  cases e1 : op x y with
  | some z => rw [e1] at e; cases e; exact .inl (h I N B F0 ρ σ H F W x y v w _ hx hy e1 Q q)
  | none => rw [e1] at e; exact .inr (h' I N B F0 ρ σ H F W x y v w _ hx hy e Q q)
def oCat : D → D → Option R
  | .lst _ a, .lst _ b => if a.length + b.length ≤ 100000 then some (.tmp (.lst true (a ++ b))) else none
  | _, _ => none
theorem op2_cat : Op2Ok K rCat oCat := by
  intro I N B F0 ρ σ H F W x y v w res hx hy e Q q
  unfold oCat at e
  split at e
  · split at e
    · cases e
      obtain ⟨a, vs, rfl, h1, r1⟩ := hx
      obtain ⟨b, ws, rfl, h2, r2⟩ := hy
      exact ⟨a, b, vs, ws, rfl, rfl, h1, h2, Evl.sz_of (by rw [r1.length, r2.length]; assumption), new_lst W (r1.append r2) q⟩
    · cases e
  · cases e
def oRep : D → D → Option R
  | .lst _ a, .int k => if a.length * k.toNat ≤ 100000 ∧ -(2 ^ 63) ≤ k ∧ k < 2 ^ 63 then some (.tmp (.lst true (List.replicate k.toNat a).flatten)) else none
  | _, _ => none
theorem op2_rep : Op2Ok K rRep oRep := by
  intro I N B F0 ρ σ H F W x y v w res hx hy e Q q
  unfold oRep at e
  split at e
  · split at e
    · rename_i h
      cases e
      obtain ⟨a, vs, rfl, h1, r1⟩ := hx
      cases hy
      exact ⟨a, _, vs, rfl, rfl, h1, h.2.1, h.2.2, Evl.sz_of (by rw [r1.length]; exact h.1), new_lst W (r1.replicate _) q⟩
    · cases e
  · cases e

/-- the rule and the meaning of each operator -/
def binR : Operator → R2
  | .Add => fun x y H Q => rI0 (fun i j => .int (i + j)) x y H Q ∨ rCat x y H Q
  | .Sub => rI0 fun i j => .int (i - j)
  | .Mult => fun x y H Q => rI CMul (fun i j => .int (i * j)) x y H Q ∨ rRep x y H Q
  | .FloorDiv => rI CDiv fun i j => .int (i / j)
  | .Mod => rI (fun _ j => 0 < j) fun i j => .int (i % j)
  | .Pow => rI CPow fun i j => .int (i ^ j.toNat)
  | .LShift => rI CPow fun i j => .int (i * 2 ^ j.toNat)
  | .RShift => rI (fun _ j => 0 ≤ j) fun i j => .int (i / 2 ^ j.toNat)
  | .BitAnd => rI0 fun i j => .int (Builtin.bitAnd i j)
  | .BitOr => rI0 fun i j => .int (Builtin.bitOr i j)
  | .BitXor => rI0 fun i j => .int (Builtin.bitXor i j)
  | _ => fun _ _ _ _ => False
def binD : Operator → D → D → Option R
  | .Add => fun x y => (ofI (fun _ _ => true) (fun i j => i + j) x y).or (oCat x y)
  | .Sub => ofI (fun _ _ => true) fun i j => i - j
  | .Mult => fun x y => (ofI cmulB (fun i j => i * j) x y).or (oRep x y)
  | .FloorDiv => ofI cdivB fun i j => i / j
  | .Mod => ofI cmodB fun i j => i % j
  | .Pow => ofI cpowB fun i j => i ^ j.toNat
  | .LShift => ofI cpowB fun i j => i * 2 ^ j.toNat
  | .RShift => ofI cshrB fun i j => i / 2 ^ j.toNat
  | .BitAnd => ofI (fun _ _ => true) Builtin.bitAnd
  | .BitOr => ofI (fun _ _ => true) Builtin.bitOr
  | .BitXor => ofI (fun _ _ => true) Builtin.bitXor
  | _ => fun _ _ => none
theorem no_opR {f : Value → Value → Sem Value} : OpR X f (fun _ _ _ _ => False) := fun _ _ _ _ _ _ _ _ _ _ _ _ h => h.elim
theorem bin_rule (o : Operator) : OpR X (binaryOp o) (binR o) := by
  cases o with
  | Add => exact OpR.or op_add op_cat
  | Sub => exact op_sub
  | Mult => exact OpR.or op_mul op_rep
  | FloorDiv => exact op_fdiv
  | Mod => exact op_mod
  | Pow => exact op_pow
  | LShift => exact op_shl
  | RShift => exact op_shr
  | BitAnd => exact op_and
  | BitOr => exact op_or
  | BitXor => exact op_xor
  | _ => exact no_opR
theorem no_op2 : Op2Ok K (fun _ _ _ _ => False) (fun _ _ => none) := by
  intro I N B F0 ρ σ H F W x y v w res hx hy e Q q
  cases e
theorem bin_ok (o : Operator) : Op2Ok K (binR o) (binD o) := by
  cases o with
  | Add => exact op2_I0.or op2_cat
  | Sub => exact op2_I0
  | Mult => exact (op2_I fun i j h => show CMul i j from of_decide_eq_true (p := (-(2 ^ 64) < i ∧ i < 2 ^ 64) ∨ (-(2 ^ 64) < j ∧ j < 2 ^ 64)) h).or op2_rep
  | FloorDiv => exact op2_I fun i j h => show CDiv i j from of_decide_eq_true (p := 0 < j ∧ j < 1073741824) h
  | Mod => exact op2_I fun i j h => of_decide_eq_true h
  | Pow => exact op2_I fun i j h => show CPow i j from of_decide_eq_true (p := 0 ≤ j ∧ j ≤ 1000000 ∧ i.natAbs < 2 ^ 64) h
  | LShift => exact op2_I fun i j h => show CPow i j from of_decide_eq_true (p := 0 ≤ j ∧ j ≤ 1000000 ∧ i.natAbs < 2 ^ 64) h
  | RShift => exact op2_I fun i j h => of_decide_eq_true h
  | BitAnd => exact op2_I0
  | BitOr => exact op2_I0
  | BitXor => exact op2_I0
  | _ => exact no_op2

def unR : UnaryOp → V → Hp → VK → Prop
  | .USub => rU fun i => .int (-i)
  | .Invert => rU fun i => .int (Builtin.bitNot i)
  | _ => fun _ _ _ => False
def unD : UnaryOp → D → Option R
  | .USub, .int i => some (.val (.int (-i)))
  | .Invert, .int i => some (.val (.int (Builtin.bitNot i)))
  | _, _ => none
theorem un_rule (o : UnaryOp) : UnR X (unaryOp o) (unR o) := by
  cases o with
  | USub => exact un_neg
  | Invert => exact un_inv
  | _ => exact fun _ _ _ _ _ _ _ _ _ h => h.elim
theorem un_ok (o : UnaryOp) : Op1Ok K (unR o) (unD o) := by
  intro I N B F0 ρ σ H F W x v res hx e Q q
  cases o <;> cases x <;> simp only [unD, reduceCtorEq] at e <;> cases e <;> cases hx <;> exact ⟨_, rfl, q _ H F (Same.refl _) W (.int _)⟩

/-! comparisons -/
mutual
def D.py : D → PyData
  | .non => .none | .bl b => .bool b | .int i => .int i | .str s => .str s
  | .lst _ xs => .list (D.pys xs)
  | .tup xs => .tuple (D.pys xs)
  | .dic _ _ => .dict []
  | .dit _ _ => .dict []
  | .scr _ => .dict []
def D.pys : List D → List PyData
  | [] => []
  | d :: r => d.py :: D.pys r
end
mutual
theorem Rep.dp : ∀ {v : V} {d : D}, Rep K N F v d → d.py.canLay0 = true → Dp K F v d.py
  | _, _, .non, _ => .non
  | _, _, .bl b, _ => .bl b
  | _, _, .int i, _ => .int i
  | _, _, .str s, _ => .str s
  | _, _, .lst h f r, c => .lst (.inl (.inl h)) (Reps.dp r (by simpa [D.py, PyData.canLay0] using c))
  | _, _, .tup h r, c => .tup (.inl (.inl h)) (Reps.dp r (by simpa [D.py, PyData.canLay0] using c))
  | _, _, .dic h f r, c => by simp [D.py, PyData.canLay0] at c
  | _, _, .dit h f r, c => by simp [D.py, PyData.canLay0] at c
  | _, _, .scr h, c => by simp [D.py, PyData.canLay0] at c
theorem Reps.dp : ∀ {v : List V} {d : List D}, Reps K N F v d → PyData.canLayAll0 (D.pys d) = true → DpAll K F v (D.pys d)
  | _, _, .nil, _ => .nil
  | _, d :: ds, .cons h r, c => by
    have c' : d.py.canLay0 = true ∧ PyData.canLayAll0 (D.pys ds) = true := by simpa [D.pys, PyData.canLayAll0] using c
    exact .cons (Rep.dp h c'.1) (Reps.dp r c'.2)
end
mutual
theorem dp_mono {H' : Hp} (e : Same H H') : ∀ {v : V} {d : PyData}, Dp K H v d → Dp K H' v d
  | _, _, .non => .non
  | _, _, .bl b => .bl b
  | _, _, .int i => .int i
  | _, _, .str s => .str s
  | _, _, .lst h r => .lst (e.seq h) (dpAll_mono e r)
  | _, _, .tup h r => .tup (by
      rcases h with (h | ⟨o, h⟩) | h
      · exact .inl (.inl (e _ _ h))
      · exact .inl (.inr ⟨o, e _ _ h⟩)
      · exact .inr h) (dpAll_mono e r)
theorem dpAll_mono {H' : Hp} (e : Same H H') : ∀ {v : List V} {d : List PyData}, DpAll K H v d → DpAll K H' v d
  | _, _, .nil => .nil
  | _, _, .cons h r => .cons (dp_mono e h) (dpAll_mono e r)
end
theorem See.dp (W : Rel K I N B F0 ρ σ H F) {v : V} {x : D} (h : See K N F H v x) (s : SeqAt.shaped x.py = true) : Dp K H v x.py := by
  have c := SeqAt.canLay_of_shaped s
  cases x with
  | non => cases h; exact .non
  | bl b => cases h; exact .bl b
  | int i => cases h; exact .int i
  | str x => cases h; exact .str x
  | lst f ds => obtain ⟨a, vs, rfl, h1, r⟩ := h; exact .lst (.inl (.inl h1)) (dpAll_mono W.sub (Reps.dp r (by simpa [D.py, PyData.canLay0] using c)))
  | tup ds => obtain ⟨a, vs, rfl, h1, r⟩ := h; exact .tup (.inl (.inl h1)) (dpAll_mono W.sub (Reps.dp r (by simpa [D.py, PyData.canLay0] using c)))
  | dic f ds => simp [D.py, PyData.canLay0] at c
  | dit f ds => simp [D.py, PyData.canLay0] at c
  | scr ns => simp [D.py, PyData.canLay0] at c
def D.ok (d : D) : Bool := SeqAt.shaped d.py
def oEq : D → D → Option R := fun x y => if x.ok = true ∧ y.ok = true then some (.val (.bl (PyData.eqv x.py y.py))) else none
def oNe : D → D → Option R := fun x y => if x.ok = true ∧ y.ok = true then some (.val (.bl (!PyData.eqv x.py y.py))) else none
theorem op2_eq : Op2Ok K (rEqD K) oEq := by
  intro I N B F0 ρ σ H F W x y v w res hx hy e Q q
  unfold oEq at e
  split at e
  · rename_i h
    cases e
    exact ⟨_, _, hx.dp W h.1, hy.dp W h.2, h.1, h.2, q _ H F (Same.refl _) W (.bl _)⟩
  · cases e
theorem op2_ne : Op2Ok K (rNeD K) oNe := by
  intro I N B F0 ρ σ H F W x y v w res hx hy e Q q
  unfold oNe at e
  split at e
  · rename_i h
    cases e
    exact ⟨_, _, hx.dp W h.1, hy.dp W h.2, h.1, h.2, q _ H F (Same.refl _) W (.bl _)⟩
  · cases e
def ofB (g : Int → Int → Bool) : D → D → Option R
  | .int i, .int j => some (.val (.bl (g i j)))
  | _, _ => none
theorem op2_B {g : Int → Int → Bool} : Op2Ok K (rI0 fun i j => .bl (g i j)) (ofB g) := by
  intro I N B F0 ρ σ H F W x y v w res hx hy e Q q
  unfold ofB at e
  split at e
  · cases e
    cases hx; cases hy
    exact ⟨_, _, rfl, rfl, q _ H F (Same.refl _) W (.bl _)⟩
  · cases e
/-- whole numbers all through -/
def getInts : List D → Option (List Int)
  | [] => some []
  | d :: r => match d, getInts r with
    | .int i, some ns => some (i :: ns)
    | _, _ => none
theorem ints_eq : ∀ {ds : List D} {ns : List Int}, getInts ds = some ns → ds = ns.map D.int
  | [], _, e => by cases e; rfl
  | d :: r, ns, e => by
    unfold getInts at e
    split at e
    · rename_i h1
      cases e
      have h2 := ints_eq h1
      subst h2
      rfl
    · cases e
theorem ints_map : ∀ ns : List Int, getInts (ns.map D.int) = some ns
  | [] => rfl
  | i :: r => by
    rw [List.map_cons]
    unfold getInts
    rw [ints_map r]
def getBools : List D → Option (List Bool)
  | [] => some []
  | d :: r => match d, getBools r with
    | .bl i, some ns => some (i :: ns)
    | _, _ => none
theorem bools_eq : ∀ {ds : List D} {ns : List Bool}, getBools ds = some ns → ds = ns.map D.bl
  | [], _, e => by cases e; rfl
  | d :: r, ns, e => by
    unfold getBools at e
    split at e
    · rename_i h1
      cases e
      have h2 := bools_eq h1
      subst h2
      rfl
    · cases e
theorem bools_map : ∀ ns : List Bool, getBools (ns.map D.bl) = some ns
  | [] => rfl
  | i :: r => by
    rw [List.map_cons]
    unfold getBools
    rw [bools_map r]
def oLtT : D → D → Option R
  | .tup a, .tup b => match getInts a, getInts b with
    | some ns, some ms => some (.val (.bl (HT.lexLt ns ms)))
    | _, _ => none
  | _, _ => none
theorem op2_ltT : Op2Ok K (rLtT K) oLtT := by
  intro I N B F0 ρ σ H F W x y v w res hx hy e Q q
  unfold oLtT at e
  split at e
  · split at e
    · rename_i ns ms e1 e2
      cases e
      obtain ⟨a, vs, rfl, h1, r1⟩ := hx
      obtain ⟨b, ws, rfl, h2, r2⟩ := hy
      rw [ints_eq e1] at r1
      rw [ints_eq e2] at r2
      exact ⟨a, b, ns, ms, rfl, rfl, .inl (.inl (by rw [h1, r1.ints])), .inl (.inl (by rw [h2, r2.ints])), q _ H F (Same.refl _) W (.bl _)⟩
    · cases e
  · cases e
def D.isNon : D → Bool
  | .non => true
  | _ => false
def oIsN : D → D → Option R
  | x, .non => some (.val (.bl x.isNon))
  | _, _ => none
def oNotN : D → D → Option R
  | x, .non => some (.val (.bl (!x.isNon)))
  | _, _ => none
theorem see_non {v : V} {x : D} (h : See K N F H v x) : decide (v = .non) = x.isNon := by
  cases x with
  | non => cases h; rfl
  | bl b => cases h; rfl
  | int b => cases h; rfl
  | str b => cases h; rfl
  | lst f ds => obtain ⟨a, vs, rfl, _⟩ := h; rfl
  | tup ds => obtain ⟨a, vs, rfl, _⟩ := h; rfl
  | dic f ds => obtain ⟨a, vs, rfl, _⟩ := h; rfl
  | dit f ds => obtain ⟨a, vs, rfl, _⟩ := h; rfl
  | scr ns => obtain ⟨a, rfl, _⟩ := h; rfl
theorem op2_isN : Op2Ok K (fun x y H Q => y = .non ∧ Q (.bl (decide (x = .non))) H) oIsN := by
  intro I N B F0 ρ σ H F W x y v w res hx hy e Q q
  unfold oIsN at e
  split at e
  · cases e
    cases hy
    refine ⟨rfl, ?_⟩
    rw [see_non hx]
    exact q _ H F (Same.refl _) W (.bl _)
  · cases e
theorem op2_notN : Op2Ok K (fun x y H Q => y = .non ∧ Q (.bl (!decide (x = .non))) H) oNotN := by
  intro I N B F0 ρ σ H F W x y v w res hx hy e Q q
  unfold oNotN at e
  split at e
  · cases e
    cases hy
    refine ⟨rfl, ?_⟩
    rw [see_non hx]
    exact q _ H F (Same.refl _) W (.bl _)
  · cases e
def ofBB (g : Bool → Bool → Bool) : D → D → Option R
  | .bl i, .bl j => some (.val (.bl (g i j)))
  | _, _ => none
theorem op2_isB : Op2Ok K rIsB (ofBB fun a b => decide (a = b)) := by
  intro I N B F0 ρ σ H F W x y v w res hx hy e Q q
  unfold ofBB at e
  split at e
  · cases e
    cases hx; cases hy
    exact ⟨_, _, rfl, rfl, q _ H F (Same.refl _) W (.bl _)⟩
  · cases e
theorem op2_notB : Op2Ok K rNotB (ofBB fun a b => !decide (a = b)) := by
  intro I N B F0 ρ σ H F W x y v w res hx hy e Q q
  unfold ofBB at e
  split at e
  · cases e
    cases hx; cases hy
    exact ⟨_, _, rfl, rfl, q _ H F (Same.refl _) W (.bl _)⟩
  · cases e
/-- x in ys, data of any depth -/
def isIn (x : D) (ds : List D) : Bool := ds.any fun z => PyData.eqv z.py x.py
def oIn (neg : Bool) : D → D → Option R
  | x, .lst f ds => if x.ok = true ∧ (D.lst f ds).ok = true then some (.val (.bl (if neg then !isIn x ds else isIn x ds))) else none
  | _, _ => none
theorem pys_any (x : PyData) : ∀ ds : List D, (D.pys ds).any (fun z => PyData.eqv z x) = ds.any fun z => PyData.eqv z.py x
  | [] => rfl
  | d :: r => by rw [D.pys, List.any_cons, List.any_cons, pys_any x r]
theorem op2_in : Op2Ok K (rInD K) (oIn false) := by
  intro I N B F0 ρ σ H F W x y v w res hx hy e Q q
  unfold oIn at e
  split at e
  · rename_i f ds
    split at e
    · rename_i h
      cases e
      refine ⟨x.py, D.pys ds, hx.dp W h.1, ?_, h.1, ?_, ?_⟩
      · have := hy.dp W h.2; simpa [D.py] using this
      · have := h.2; simpa [D.ok, D.py] using this
      · rw [pys_any]; exact q _ H F (Same.refl _) W (.bl _)
    · cases e
  · cases e
theorem op2_notIn : Op2Ok K (rNotInD K) (oIn true) := by
  intro I N B F0 ρ σ H F W x y v w res hx hy e Q q
  unfold oIn at e
  split at e
  · rename_i f ds
    split at e
    · rename_i h
      cases e
      refine ⟨x.py, D.pys ds, hx.dp W h.1, ?_, h.1, ?_, ?_⟩
      · have := hy.dp W h.2; simpa [D.py] using this
      · have := h.2; simpa [D.ok, D.py] using this
      · rw [pys_any]; exact q _ H F (Same.refl _) W (.bl _)
    · cases e
  · cases e
/-- x in a tuple of flat things -/
def D.flat : D → Bool
  | .non => true | .bl _ => true | .int _ => true | .str _ => true | _ => false
def oInT (neg : Bool) : D → D → Option R
  | x, .tup ds => if x.flat = true ∧ ds.all D.flat = true then some (.val (.bl (if neg then !isIn x ds else isIn x ds))) else none
  | _, _ => none
theorem Rep.flat {v : V} {d : D} (h : Rep K N F v d) (e : d.flat = true) : flatV v = true := by
  cases h <;> first | rfl | cases e
theorem See.flat {v : V} {d : D} (h : See K N F H v d) (e : d.flat = true) : Rep K N F v d := by
  cases d with
  | non => cases h; exact .non
  | bl b => cases h; exact .bl b
  | int b => cases h; exact .int b
  | str b => cases h; exact .str b
  | _ => cases e
theorem eqv_flat {v w : V} {d e : D} (h : Rep K N F v d) (h' : Rep K N F w e) (f : d.flat = true) (f' : e.flat = true) : eqV v w = PyData.eqv d.py e.py := by
  cases h <;> first | (simp [D.flat] at f; done) | (cases h' <;> first | (simp [D.flat] at f'; done) | simp [eqV, D.py, PyData.eqv])
theorem isIn_flat {w : V} {x : D} (hw : Rep K N F w x) (fx : x.flat = true) : ∀ {vs : List V} {ds : List D}, Reps K N F vs ds → ds.all D.flat = true → vs.all flatV = true ∧ inV w vs = isIn x ds
  | _, _, .nil, _ => ⟨rfl, rfl⟩
  | _, _ :: _, .cons h r, c => by
    rw [List.all_cons, Bool.and_eq_true] at c
    obtain ⟨i1, i2⟩ := isIn_flat hw fx r c.2
    refine ⟨by rw [List.all_cons, h.flat c.1, i1]; rfl, ?_⟩
    unfold inV isIn at *
    rw [List.any_cons, List.any_cons, i2, eqv_flat h hw c.1 fx]
theorem op2_inT (neg : Bool) : Op2Ok K (rIn K neg) (oInT neg) := by
  intro I N B F0 ρ σ H F W x y v w res hx hy e Q q
  unfold oInT at e
  split at e
  · split at e
    · rename_i h
      cases e
      obtain ⟨a, vs, rfl, h1, r⟩ := hy
      obtain ⟨i1, i2⟩ := isIn_flat (hx.flat h.1) h.1 r h.2
      refine ⟨a, vs, rfl, .inr (.inl (.inl h1)), (hx.flat h.1).flat h.1, i1, ?_⟩
      rw [i2]
      exact q _ H F (Same.refl _) W (.bl _)
    · cases e
  · cases e

def cmpR (K : PySem.W.Frag) : CmpOp → R2
  | .Eq => rEqD K
  | .NotEq => rNeD K
  | .Lt => fun x y H Q => rI0 (fun i j => .bl (decide (i < j))) x y H Q ∨ rLtT K x y H Q
  | .LtE => rI0 fun i j => .bl (decide (i ≤ j))
  | .Gt => rI0 fun i j => .bl (decide (j < i))
  | .GtE => rI0 fun i j => .bl (decide (j ≤ i))
  | .Is => fun x y H Q => (y = .non ∧ Q (.bl (decide (x = .non))) H) ∨ rIsB x y H Q
  | .IsNot => fun x y H Q => (y = .non ∧ Q (.bl (!decide (x = .non))) H) ∨ rNotB x y H Q
  | .In => fun x y H Q => rInD K x y H Q ∨ rIn K false x y H Q
  | .NotIn => fun x y H Q => rNotInD K x y H Q ∨ rIn K true x y H Q
def cmpD : CmpOp → D → D → Option R
  | .Eq => oEq
  | .NotEq => oNe
  | .Lt => fun x y => (ofB (fun i j => decide (i < j)) x y).or (oLtT x y)
  | .LtE => ofB fun i j => decide (i ≤ j)
  | .Gt => ofB fun i j => decide (j < i)
  | .GtE => ofB fun i j => decide (j ≤ i)
  | .Is => fun x y => (oIsN x y).or (ofBB (fun a b => decide (a = b)) x y)
  | .IsNot => fun x y => (oNotN x y).or (ofBB (fun a b => !decide (a = b)) x y)
  | .In => fun x y => (oIn false x y).or (oInT false x y)
  | .NotIn => fun x y => (oIn true x y).or (oInT true x y)
theorem cmp_rule (hu : X.A.units + 65 < cLine) (o : CmpOp) : OpR X (compareOp o) (cmpR X.K o) := by
  cases o with
  | Eq => exact op_eqD (Nat.lt_of_succ_lt hu)
  | NotEq => exact op_neD (Nat.lt_of_succ_lt hu)
  | Lt => exact OpR.or op_lt (op_ltT (by omega))
  | LtE => exact op_le
  | Gt => exact op_gt
  | GtE => exact op_ge
  | Is => exact OpR.or op_isN op_isBl
  | IsNot => exact OpR.or op_notN op_notBl
  | In => exact OpR.or (op_inD hu) op_in_seq
  | NotIn => exact OpR.or (op_notInD hu) op_notIn_seq
theorem cmp_ok (o : CmpOp) : Op2Ok K (cmpR K o) (cmpD o) := by
  cases o with
  | Eq => exact op2_eq
  | NotEq => exact op2_ne
  | Lt => exact op2_B.or op2_ltT
  | LtE => exact op2_B
  | Gt => exact op2_B
  | GtE => exact op2_B
  | Is => exact op2_isN.or op2_isB
  | IsNot => exact op2_notN.or op2_notB
  | In => exact op2_in.or (op2_inT false)
  | NotIn => exact op2_notIn.or (op2_inT true)
end
end Z

namespace Z
open PySem L2

section
variable {X : Cx} {K : PySem.W.Frag} {I : Nat → Option V} {N B F0 F H : Hp} {ρ : Ev} {σ : L2.St}

theorem getElem_atI {α β : Type} {xs : List α} {ys : List β} {i : Int} {d : α} (e : xs.length = ys.length) (h : atI xs i = some d) : ∃ j : Nat, xs[j]? = some d ∧ ∀ v, ys[j]? = some v → atI ys i = some v := by
  unfold atI at *
  cases q : ixN xs.length i with
  | none => rw [q] at h; cases h
  | some j =>
    rw [q] at h
    exact ⟨j, h, fun v hv => by rw [← e, q]; exact hv⟩
/-! xs[i] -/
def oIx : D → D → Option R
  | .lst _ ds, .int i => (atI ds i).map .val
  | .tup ds, .int i => (atI ds i).map .val
  | _, _ => none
theorem op2_ix : Op2Ok K (rIx K) oIx := by
  intro I N B F0 ρ σ H F W x y v w res hx hy e Q q
  unfold oIx at e
  split at e
  · obtain ⟨d, e1, e2⟩ := Option.map_eq_some_iff.mp e
    subst e2
    obtain ⟨a, vs, rfl, h1, r⟩ := hx
    cases hy
    obtain ⟨j, g1, g2⟩ := getElem_atI (ys := vs) r.length.symm e1
    obtain ⟨u, u1, u2⟩ := r.get g1
    exact .inl ⟨a, vs, _, u, rfl, rfl, .inl (.inl h1), g2 u u1, q u H F (Same.refl _) W u2⟩
  · obtain ⟨d, e1, e2⟩ := Option.map_eq_some_iff.mp e
    subst e2
    obtain ⟨a, vs, rfl, h1, r⟩ := hx
    cases hy
    obtain ⟨j, g1, g2⟩ := getElem_atI (ys := vs) r.length.symm e1
    obtain ⟨u, u1, u2⟩ := r.get g1
    exact .inr (.inl ⟨a, vs, _, u, rfl, rfl, .inl (.inl h1), g2 u u1, q u H F (Same.refl _) W u2⟩)
  · cases e
/-! xs[lo:hi] -/
def cutD (xs : List D) (lo hi : Option Int) : List D := (xs.drop (HT.sIx xs.length 0 lo)).take (HT.sIx xs.length xs.length hi - HT.sIx xs.length 0 lo)
theorem Reps.cut {vs : List V} {ds : List D} (r : Reps K N F vs ds) (lo hi : Option Int) : Reps K N F (cutV vs lo hi) (cutD ds lo hi) := by
  unfold cutV cutD
  rw [r.length]
  exact (r.drop _).take _
/-- a part of a slice -/
def oPart (f : Option EF) : Ev → Option (Ev × Option Int) := fun ρ => match f with
  | none => some (ρ, none)
  | some g => match g ρ with
    | some (ρ1, .val (.int i)) => some (ρ1, some i)
    | _ => none
def eSl (f : EF) (l h : Option EF) : EF := fun ρ => match f ρ with
  | some (ρ1, a) => match oPart l ρ1 with
    | some (ρ2, lo) => match oPart h ρ2 with
      | some (ρ3, hi) => match a.hold.look ρ3 with
        | some (.lst _ ds) => some (ρ3, .tmp (.lst true (cutD ds lo hi)))
        | _ => none
      | none => none
    | none => none
  | none => none
def SndO (K : PySem.W.Frag) (to : TO) (f : Option EF) : Prop := ∀ (I : Nat → Option V) (N B F0 : Hp) (ρ : Ev) (σ : L2.St) (H F : Hp) (ρ' : Ev) (o : Option Int), Rel K I N B F0 ρ σ H F → oPart f ρ = some (ρ', o) →
  ∀ Q : Option Int → Hp → Prop, (∀ H' F', Same F F' → Rel K I N B F0 ρ' σ H' F' → Q o H') → to σ H Q
theorem sndo_none : SndO K tNoPart none := by
  intro I N B F0 ρ σ H F ρ' o W h Q q
  cases h
  exact q H F (Same.refl _) W
theorem sndo_some {te : TE} {f : EF} (hf : Snd K te f) : SndO K (tPart te) (some f) := by
  intro I N B F0 ρ σ H F ρ' o W h Q q
  unfold oPart at h
  simp only at h
  split at h
  · rename_i ρ1 i e1
    cases h
    refine hf I N B F0 ρ σ H F ρ' _ W e1 _ fun v H1 F1 s1 W1 o1 => ?_
    cases o1
    exact ⟨i, rfl, q H1 F1 s1 W1⟩
  · cases h
theorem snd_sl {te : TE} {tl th : TO} {f : EF} {l h : Option EF} (hf : Snd K te f) (hl : SndO K tl l) (hh : SndO K th h) : Snd K (tSl (rSlL K) te tl th) (eSl f l h) := by
  intro I N B F0 ρ σ H F ρ' res W e Q q
  unfold eSl at e
  split at e
  · rename_i ρ1 a e1
    split at e
    · rename_i ρ2 lo e2
      split at e
      · rename_i ρ3 hi e3
        split at e
        · rename_i fl ds e4
          cases e
          refine hf I N B F0 ρ σ H F ρ1 a W e1 _ fun v H1 F1 s1 W1 o1 => ?_
          obtain ⟨F1', s1', W1', o1'⟩ := o1.hold W1
          refine hl I N B F0 ρ1 σ H1 F1' ρ2 lo W1' e2 _ fun H2 F2 s2 W2 => ?_
          refine hh I N B F0 ρ2 σ H2 F2 ρ' hi W2 e3 _ fun H3 F3 s3 W3 => ?_
          have o3 := o1'.later (s2.trans s3) W3 e4
          obtain ⟨p, vs, rfl, h1, r⟩ := o3.see W3 e4
          exact ⟨p, vs, rfl, .inl (.inl h1), new_lst W3 (r.cut lo hi) fun u H' F' s' W' o' => q u H' F' ((((s1.trans s1').trans s2).trans s3).trans s') W' o'⟩
        · cases e
      · cases e
    · cases e
  · cases e

/-! built-in functions -/
inductive BI where
  | len | abs | max2 | min2 | max1 | min1 | sum | any | all | sorted | list | int
  deriving DecidableEq
def BI.name : BI → PySem.Str
  | .len => "len" | .abs => "abs" | .max2 => "max" | .min2 => "min" | .max1 => "max" | .min1 => "min" | .sum => "sum" | .any => "any" | .all => "all" | .sorted => "sorted" | .list => "list" | .int => "int"
def BI.fn : BI → Value
  | .len => .builtin "len" | .abs => .builtin "abs" | .max2 => .builtin "max" | .min2 => .builtin "min" | .max1 => .builtin "max" | .min1 => .builtin "min" | .sum => .builtin "sum" | .any => .builtin "any" | .all => .builtin "all"
  | .sorted => .builtin "sorted" | .list => .type "list" | .int => .type "int"
def BI.rd (K : PySem.W.Frag) : BI → List V → Hp → VK → Prop
  | .len => fun xs H Q => (∃ p ys, xs = [.ref p] ∧ (SqL K H p ys ∨ SqT K H p ys) ∧ Q (.int ys.length) H) ∨ (∃ a kvs, xs = [V.ref a] ∧ H a = some (.dK kvs) ∧ Q (.int kvs.length) H)
  | .abs => fun xs H Q => ∃ i, xs = [.int i] ∧ Q (.int (if i < 0 then -i else i)) H
  | .max2 => fun xs H Q => ∃ i j, xs = [.int i, .int j] ∧ Q (.int (if j > i then j else i)) H
  | .min2 => fun xs H Q => ∃ i j, xs = [.int i, .int j] ∧ Q (.int (if j < i then j else i)) H
  | .max1 => rMax K
  | .min1 => rMin K
  | .sum => rSum K
  | .any => rAny K
  | .all => rAll K
  | .sorted => fun xs H Q => rSortedI K xs H Q ∨ rSortedPO K xs H Q ∨ rSortedLL K xs H Q
  | .list => fun xs H Q => ∃ p ys, xs = [.ref p] ∧ (SqL K H p ys ∨ SqT K H p ys) ∧ ∀ l, H l = none → Q (.ref l) (upd H l (.lst ys))
  | .int => fun xs H Q => (∃ i, xs = [.int i] ∧ Q (.int i) H) ∨ ∃ k, xs = [.bl k] ∧ Q (.int (if k then 1 else 0)) H
theorem bi_rule (hu : X.A.units + 65 < cLine) (hc : X.calm = true) (b : BI) : CallR X b.fn (b.rd X.K) := by
  cases b with
  | len => exact CallR.or call_len_seq call_lenD
  | abs => exact call_abs
  | max2 => exact call_max2 hc
  | min2 => exact call_min2 hc
  | max1 => exact cr_max hc
  | min1 => exact cr_min hc
  | sum => exact cr_sum hc
  | any => exact cr_any hc
  | all => exact cr_all hc
  | sorted => exact CallR.or cr_sortedI (CallR.or cr_sortedPO (cr_sortedLL (by omega)))
  | list => exact call_list_of
  | int => exact call_int1

def leI : Int → Int → Bool := fun a b => decide (a ≤ b)
def leP : Int × Int → Int × Int → Bool := fun a b => decide (a.1 < b.1) || (decide (a.1 = b.1) && decide (a.2 ≤ b.2))
def sortI (ns : List Int) : List Int := ns.mergeSort leI
def sortP (ns : List (Int × Int)) : List (Int × Int) := ns.mergeSort leP
def dPair (p : Int × Int) : D := .tup [.int p.1, .int p.2]
def getPairs : List D → Option (List (Int × Int))
  | [] => some []
  | d :: r => match d, getPairs r with
    | .tup [.int i, .int j], some ns => some ((i, j) :: ns)
    | _, _ => none
theorem pairs_eq : ∀ {ds : List D} {ns : List (Int × Int)}, getPairs ds = some ns → ds = ns.map dPair
  | [], _, e => by cases e; rfl
  | d :: r, ns, e => by
    unfold getPairs at e
    split at e
    · rename_i h1
      cases e
      have h2 := pairs_eq h1
      subst h2
      rfl
    · cases e
theorem pairs_map : ∀ ns : List (Int × Int), getPairs (ns.map dPair) = some ns
  | [] => rfl
  | i :: r => by
    rw [List.map_cons]
    show getPairs (.tup [.int i.1, .int i.2] :: r.map dPair) = some (i :: r)
    unfold getPairs
    rw [pairs_map r]
/-- two sorted lists with the same items -/
theorem sorted_uniq {α : Type} {le : α → α → Prop} (as : ∀ a b, le a b → le b a → a = b) : ∀ {l m : List α}, l.Perm m → l.Pairwise le → m.Pairwise le → l = m
  | [], m, p, _, _ => (List.Perm.eq_nil p.symm).symm
  | x :: l, [], p, _, _ => absurd p.length_eq (by simp)
  | x :: l, y :: m, p, hl, hm => by
    have e : x = y := by
      rcases List.mem_cons.mp (p.mem_iff.mp (List.mem_cons_self (a := x) (l := l))) with e | hx
      · exact e
      · rcases List.mem_cons.mp (p.mem_iff.mpr (List.mem_cons_self (a := y) (l := m))) with e | hy
        · exact e.symm
        · exact as x y ((List.pairwise_cons.mp hl).1 y hy) ((List.pairwise_cons.mp hm).1 x hx)
    subst e
    rw [sorted_uniq as p.cons_inv (List.pairwise_cons.mp hl).2 (List.pairwise_cons.mp hm).2]
theorem sortI_perm (ns : List Int) : (sortI ns).Perm ns := List.mergeSort_perm ns leI
theorem sortP_perm (ns : List (Int × Int)) : (sortP ns).Perm ns := List.mergeSort_perm ns leP
theorem sortI_sorted (ns : List Int) : (sortI ns).Pairwise fun a b => leI a b = true := List.pairwise_mergeSort (fun a b c h1 h2 => by simp only [leI, decide_eq_true_eq] at *; omega) (fun a b => by simp only [leI, Bool.or_eq_true, decide_eq_true_eq]; omega) ns
theorem sortP_sorted (ns : List (Int × Int)) : (sortP ns).Pairwise fun a b => leP a b = true := List.pairwise_mergeSort (fun a b c h1 h2 => by
    simp only [leP, Bool.or_eq_true, Bool.and_eq_true, decide_eq_true_eq] at *; omega) (fun a b => by simp only [leP, Bool.or_eq_true, Bool.and_eq_true, decide_eq_true_eq]; omega) ns
theorem sortI_uniq {ns ns' : List Int} (p : ns'.Perm ns) (s : ns'.Pairwise (· ≤ ·)) : ns' = sortI ns :=
  sorted_uniq (le := fun a b => leI a b = true) (fun a b h1 h2 => by simp only [leI, decide_eq_true_eq] at *; omega) (p.trans (sortI_perm ns).symm) (s.imp fun h => decide_eq_true h) (sortI_sorted ns)
theorem leP_anti (a b : Int × Int) (h1 : leP a b = true) (h2 : leP b a = true) : a = b := by
  simp only [leP, Bool.or_eq_true, Bool.and_eq_true, decide_eq_true_eq] at *
  obtain ⟨a1, a2⟩ := a
  obtain ⟨b1, b2⟩ := b
  simp only [Prod.mk.injEq] at *
  omega

/-- lists of whole numbers, all new or all old -/
def dLi (f : Bool) (ns : List Int) : D := .lst f (ns.map .int)
def headFl : List D → Bool
  | .lst f _ :: _ => f
  | _ => false
def getLists (f : Bool) : List D → Option (List (List Int))
  | [] => some []
  | d :: r => match d, getLists f r with
    | .lst g ds, some nss => if g = f then match getInts ds with
      | some ns => some (ns :: nss)
      | none => none
      else none
    | _, _ => none
theorem lists_eq {f : Bool} : ∀ {ds : List D} {nss : List (List Int)}, getLists f ds = some nss → ds = nss.map (dLi f)
  | [], _, e => by cases e; rfl
  | d :: r, nss, e => by
    unfold getLists at e
    split at e
    · rename_i h1
      split at e
      · rename_i hg
        split at e
        · rename_i h2
          cases e
          subst hg
          rw [ints_eq h2, lists_eq h1]
          rfl
        · cases e
      · cases e
    · cases e
theorem lists_map (f : Bool) : ∀ nss : List (List Int), getLists f (nss.map (dLi f)) = some nss
  | [] => rfl
  | ns :: r => by
    rw [List.map_cons]
    unfold getLists
    rw [lists_map f r]
    simp only [dLi, ints_map, if_true]
def sortL (nss : List (List Int)) : List (List Int) := nss.mergeSort fun a b => !HT.lexLt b a
theorem sortL_perm (nss : List (List Int)) : (sortL nss).Perm nss := List.mergeSort_perm nss _
theorem lex_tot : ∀ {a b : List Int}, HT.lexLt a b = false → HT.lexLt b a = false → a = b
  | [], [], _, _ => rfl
  | [], _ :: _, h, _ => by cases h
  | _ :: _, [], _, h => by cases h
  | x :: a, y :: b, h1, h2 => by
    rw [HT.lexLt_cons] at h1 h2
    by_cases e : x = y
    · subst e
      rw [if_pos rfl] at h1 h2
      rw [lex_tot h1 h2]
    · rw [if_neg e] at h1
      rw [if_neg (Ne.symm e)] at h2
      have := of_decide_eq_false h1
      have := of_decide_eq_false h2
      omega
theorem sortL_sorted (nss : List (List Int)) : (sortL nss).Pairwise fun a b => (!HT.lexLt b a) = true := List.pairwise_mergeSort (fun a b c h1 h2 => by
    simp only [Bool.not_eq_true'] at *
    exact SrtO.lex_no h2 h1) (fun a b => by
    cases h : HT.lexLt b a with
    | false => rfl
    | true => simp [SrtO.lex_asym h]) nss
def listAt (H : Hp) : V → List Int
  | .ref t => match H t with
    | some (.lst vs) => vs.map fun v => match v with
      | .int i => i
      | _ => 0
    | _ => []
  | _ => []
theorem Reps.lists {f : Bool} {vs : List V} {nss : List (List Int)} (s : Same F H) (r : Reps K N F vs (nss.map (dLi f))) : vs.map (listAt H) = nss ∧ ∀ x ∈ vs, (∃ t, x = V.ref t ∧ H t = some (.lst ((listAt H x).map V.int))) ∧ Rep K N F x (dLi f (listAt H x)) := by
  induction nss generalizing vs with
  | nil => cases r; exact ⟨rfl, fun x h => by cases h⟩
  | cons p ns ih =>
    rw [List.map_cons] at r
    cases r with
    | @cons v _ vs' _ h r =>
      obtain ⟨i1, i2⟩ := ih r
      have hd : listAt H v = p ∧ (∃ t, v = V.ref t ∧ H t = some (.lst (p.map V.int))) := by
        unfold dLi at h
        cases h with
        | lst h1 _ r1 =>
          have h2 := s _ _ h1
          rw [r1.ints] at h2
          refine ⟨?_, _, rfl, h2⟩
          unfold listAt
          simp only [h2, List.map_map]
          exact (List.map_congr_left fun i _ => rfl).trans (List.map_id _)
      refine ⟨by rw [List.map_cons, hd.1, i1], fun x hx => ?_⟩
      rcases List.mem_cons.mp hx with rfl | hx
      · rw [hd.1]
        exact ⟨hd.2, h⟩
      · exact i2 x hx
def BI.dd : BI → List D → Option R
  | .len, [.lst _ ds] => some (.val (.int ds.length))
  | .len, [.tup ds] => some (.val (.int ds.length))
  | .len, [.dic _ ds] => some (.val (.int ds.length))
  | .len, [.scr ns] => some (.val (.int ns.length))
  | .abs, [.int i] => some (.val (.int (if i < 0 then -i else i)))
  | .max2, [.int i, .int j] => some (.val (.int (max i j)))
  | .min2, [.int i, .int j] => some (.val (.int (min i j)))
  | .max1, [.lst _ ds] => match getInts ds with
    | some ns => ns.max?.map fun m => .val (.int m)
    | none => none
  | .min1, [.lst _ ds] => match getInts ds with
    | some ns => ns.min?.map fun m => .val (.int m)
    | none => none
  | .sum, [.lst _ ds] => (getInts ds).map fun ns => .val (.int ns.sum)
  | .any, [.lst _ ds] => (getBools ds).map fun ns => .val (.bl (ns.any id))
  | .all, [.lst _ ds] => (getBools ds).map fun ns => .val (.bl (ns.all id))
  | .sorted, [.lst _ ds] => match getInts ds with
    | some ns => some (.tmp (.lst true ((sortI ns).map .int)))
    | none => match getPairs ds with
      | some ns => some (.tmp (.lst true ((sortP ns).map dPair)))
      | none => (getLists (headFl ds) ds).map fun nss => .tmp (.lst true ((sortL nss).map (dLi (headFl ds))))
  | .list, [.lst _ ds] => some (.tmp (.lst true ds))
  | .list, [.tup ds] => some (.tmp (.lst true ds))
  | .list, [.scr ns] => some (.tmp (.lst true (ns.map .int)))
  | .int, [.int i] => some (.val (.int i))
  | .int, [.bl b] => some (.val (.int (if b then 1 else 0)))
  | _, _ => none
/-- the pair that stands at a value -/
def pairAt (H : Hp) : V → Int × Int
  | .ref t => match H t with
    | some (.tup [.int i, .int j]) => (i, j)
    | _ => (0, 0)
  | _ => (0, 0)
theorem Reps.pairs {vs : List V} {ns : List (Int × Int)} (s : Same F H) (r : Reps K N F vs (ns.map dPair)) : vs.map (pairAt H) = ns ∧ ∀ x ∈ vs, (∃ t, x = V.ref t ∧ H t = some (.tup [.int (pairAt H x).1, .int (pairAt H x).2])) ∧ Rep K N F x (dPair (pairAt H x)) := by
  induction ns generalizing vs with
  | nil => cases r; exact ⟨rfl, fun x h => by cases h⟩
  | cons p ns ih =>
    rw [List.map_cons] at r
    cases r with
    | @cons v _ vs' _ h r =>
      obtain ⟨i1, i2⟩ := ih r
      have hd : pairAt H v = p ∧ (∃ t, v = V.ref t ∧ H t = some (.tup [.int p.1, .int p.2])) := by
        unfold dPair at h
        cases h with
        | tup h1 r1 =>
          cases r1 with
          | cons a r2 =>
            cases r2 with
            | cons b r3 =>
              cases r3
              cases a
              cases b
              have h2 := s _ _ h1
              refine ⟨?_, _, rfl, h2⟩
              unfold pairAt
              simp only [h2]
      refine ⟨by rw [List.map_cons, hd.1, i1], fun x hx => ?_⟩
      rcases List.mem_cons.mp hx with rfl | hx
      · rw [hd.1]
        exact ⟨hd.2, h⟩
      · exact i2 x hx
theorem reps_of_all {f : V → D} : ∀ {ys : List V}, (∀ y ∈ ys, Rep K N F y (f y)) → Reps K N F ys (ys.map f)
  | [], _ => .nil
  | y :: ys, h => .cons (h y (by simp)) (reps_of_all fun z hz => h z (by simp [hz]))
theorem sees1 {vs : List V} {d : D} (h : Sees K N F H vs [d]) : ∃ v, vs = [v] ∧ See K N F H v d := by
  cases h with
  | cons h r => cases r; exact ⟨_, rfl, h⟩
theorem sees2 {vs : List V} {d e : D} (h : Sees K N F H vs [d, e]) : ∃ v w, vs = [v, w] ∧ See K N F H v d ∧ See K N F H w e := by
  cases h with
  | cons h r => cases r with
    | cons h' r => cases r; exact ⟨_, _, rfl, h, h'⟩
theorem bi_ok (b : BI) : OpLOk K (b.rd K) b.dd := by
  intro I N B F0 ρ σ H F W xs vs res hs e Q q
  unfold BI.dd at e
  split at e
  · cases e
    obtain ⟨v, rfl, a, ws, rfl, h1, r⟩ := sees1 hs
    exact .inl ⟨a, ws, rfl, .inl (.inl (.inl h1)), by rw [r.length]; exact q _ H F (Same.refl _) W (.int _)⟩
  · cases e
    obtain ⟨v, rfl, a, ws, rfl, h1, r⟩ := sees1 hs
    exact .inl ⟨a, ws, rfl, .inr (.inl (.inl h1)), by rw [r.length]; exact q _ H F (Same.refl _) W (.int _)⟩
  · cases e
    obtain ⟨v, rfl, a, ws, rfl, h1, r⟩ := sees1 hs
    have l : ∀ {vs : List (L2.Key × V)} {ds : List (L2.Key × D)}, RepK K N F vs ds → vs.length = ds.length := by
      intro vs ds h
      induction vs generalizing ds with
      | nil => cases h; rfl
      | cons x xs ih => cases h with
        | cons _ r => rw [List.length_cons, List.length_cons, ih r]
    exact .inr ⟨a, ws, rfl, h1, by rw [l r]; exact q _ H F (Same.refl _) W (.int _)⟩
  · cases e
    obtain ⟨v, rfl, a, rfl, h1⟩ := sees1 hs
    exact .inl ⟨a, _, rfl, .inl h1, by rw [List.length_map]; exact q _ H F (Same.refl _) W (.int _)⟩
  · cases e
    obtain ⟨v, rfl, rfl⟩ := sees1 hs
    exact ⟨_, rfl, q _ H F (Same.refl _) W (.int _)⟩
  · cases e
    obtain ⟨v, w, rfl, rfl, rfl⟩ := sees2 hs
    refine ⟨_, _, rfl, ?_⟩
    rename_i i j
    have : (if j > i then j else i) = max i j := by split <;> omega
    rw [this]
    exact q _ H F (Same.refl _) W (.int _)
  · cases e
    obtain ⟨v, w, rfl, rfl, rfl⟩ := sees2 hs
    refine ⟨_, _, rfl, ?_⟩
    rename_i i j
    have : (if j < i then j else i) = min i j := by split <;> omega
    rw [this]
    exact q _ H F (Same.refl _) W (.int _)
  · obtain ⟨v, rfl, a, ws, rfl, h1, r⟩ := sees1 hs
    split at e
    · rename_i ns e1
      obtain ⟨m, e2, e3⟩ := Option.map_eq_some_iff.mp e
      subst e3
      rw [ints_eq e1] at r
      have hm := List.max?_eq_some_iff.mp e2
      refine ⟨a, ns, rfl, .inl (.inl (by rw [h1, r.ints])), by cases ns; cases e2; simp, fun m' g1 g2 => ?_⟩
      have : m' = m := by
        have a1 := g2 m hm.1
        have a2 := hm.2 m' g1
        omega
      subst this
      exact q _ H F (Same.refl _) W (.int _)
    · cases e
  · obtain ⟨v, rfl, a, ws, rfl, h1, r⟩ := sees1 hs
    split at e
    · rename_i ns e1
      obtain ⟨m, e2, e3⟩ := Option.map_eq_some_iff.mp e
      subst e3
      rw [ints_eq e1] at r
      have hm := List.min?_eq_some_iff.mp e2
      refine ⟨a, ns, rfl, .inl (.inl (by rw [h1, r.ints])), by cases ns; cases e2; simp, fun m' g1 g2 => ?_⟩
      have : m' = m := by
        have a1 := g2 m hm.1
        have a2 := hm.2 m' g1
        omega
      subst this
      exact q _ H F (Same.refl _) W (.int _)
    · cases e
  · obtain ⟨v, rfl, a, ws, rfl, h1, r⟩ := sees1 hs
    obtain ⟨ns, e1, e3⟩ := Option.map_eq_some_iff.mp e
    subst e3
    rw [ints_eq e1] at r
    exact ⟨a, ns, rfl, .inl (.inl (by rw [h1, r.ints])), q _ H F (Same.refl _) W (.int _)⟩
  · obtain ⟨v, rfl, a, ws, rfl, h1, r⟩ := sees1 hs
    obtain ⟨ns, e1, e3⟩ := Option.map_eq_some_iff.mp e
    subst e3
    rw [bools_eq e1] at r
    exact ⟨a, ns, rfl, .inl (.inl (by rw [h1, r.bools])), q _ H F (Same.refl _) W (.bl _)⟩
  · obtain ⟨v, rfl, a, ws, rfl, h1, r⟩ := sees1 hs
    obtain ⟨ns, e1, e3⟩ := Option.map_eq_some_iff.mp e
    subst e3
    rw [bools_eq e1] at r
    exact ⟨a, ns, rfl, .inl (.inl (by rw [h1, r.bools])), q _ H F (Same.refl _) W (.bl _)⟩
  · obtain ⟨v, rfl, a, ws, rfl, h1, r⟩ := sees1 hs
    split at e
    · rename_i ns e1
      cases e
      rw [ints_eq e1] at r
      refine .inl ⟨a, ns, rfl, .inl (.inl (by rw [h1, r.ints])), fun ns' p g1 g2 hp => ?_⟩
      rw [sortI_uniq g1 g2]
      exact new_lst W (reps_ints _) q p hp
    · split at e
      rotate_left
      · obtain ⟨nss, e1, e3⟩ := Option.map_eq_some_iff.mp e
        subst e3
        generalize headFl _ = fl at e1 q
        rw [lists_eq e1] at r
        obtain ⟨p1, p2⟩ := r.lists W.sub
        refine .inr (.inr ⟨a, ws, listAt H, rfl, .inl (.inl h1), fun x hx => (p2 x hx).1, fun ys p g1 g2 hp => ?_⟩)
        have e5 : ys.map (listAt H) = sortL nss := by
          refine sorted_uniq (le := fun a b => (!HT.lexLt b a) = true) (fun a b h1 h2 => ?_) ((g2.perm.map _).trans (by rw [p1]; exact (sortL_perm nss).symm)) ?_ (sortL_sorted nss)
          · simp only [Bool.not_eq_true'] at h1 h2
            exact lex_tot h2 h1
          · refine List.pairwise_map.mpr (List.Pairwise.imp (fun {x y} h => ?_) g1)
            simp only [Bool.not_eq_true']
            exact h
        have rr : Reps K N F ys ((sortL nss).map (dLi fl)) := by
          rw [← e5, List.map_map]
          exact reps_of_all fun y hy => (p2 y (g2.perm.mem_iff.mp hy)).2
        exact new_lst W rr q p hp
      rename_i ns e1
      cases e
      rw [pairs_eq e1] at r
      obtain ⟨p1, p2⟩ := r.pairs W.sub
      refine .inr (.inl ⟨a, ws, pairAt H, rfl, .inl (.inl h1), fun x hx => (p2 x hx).1, fun ys p g1 g2 hp => ?_⟩)
      have e5 : ys.map (pairAt H) = sortP ns := by
        refine sorted_uniq (le := fun a b => leP a b = true) leP_anti ((g2.perm.map _).trans (by rw [p1]; exact (sortP_perm ns).symm)) ?_ (sortP_sorted ns)
        refine List.pairwise_map.mpr (List.Pairwise.imp (fun {x y} h => ?_) g1)
        have h' := SrtO.lexB_no.mp h
        simp only [leP, Bool.or_eq_true, Bool.and_eq_true, decide_eq_true_eq]
        omega
      have rr : Reps K N F ys ((sortP ns).map dPair) := by
        rw [← e5, List.map_map]
        exact reps_of_all fun y hy => (p2 y (g2.perm.mem_iff.mp hy)).2
      exact new_lst W rr q p hp
  · cases e
    obtain ⟨v, rfl, a, ws, rfl, h1, r⟩ := sees1 hs
    exact ⟨a, ws, rfl, .inl (.inl (.inl h1)), new_lst W r q⟩
  · cases e
    obtain ⟨v, rfl, a, ws, rfl, h1, r⟩ := sees1 hs
    exact ⟨a, ws, rfl, .inr (.inl (.inl h1)), new_lst W r q⟩
  · cases e
    obtain ⟨v, rfl, a, rfl, h1⟩ := sees1 hs
    exact ⟨a, _, rfl, .inl h1, new_lst W (reps_ints _) q⟩
  · cases e
    obtain ⟨v, rfl, rfl⟩ := sees1 hs
    exact .inl ⟨_, rfl, q _ H F (Same.refl _) W (.int _)⟩
  · cases e
    obtain ⟨v, rfl, rfl⟩ := sees1 hs
    exact .inr ⟨_, rfl, q _ H F (Same.refl _) W (.int _)⟩
  · cases e

/-! isinstance -/
inductive Ty where
  | int | bool | list | tuple | str
  deriving DecidableEq
def Ty.name : Ty → String
  | .int => "int" | .bool => "bool" | .list => "list" | .tuple => "tuple" | .str => "str"
def D.ty : D → String
  | .non => "NoneType" | .bl _ => "bool" | .int _ => "int" | .str _ => "str" | .lst _ _ => "list" | .tup _ => "tuple" | .dic _ _ => "dict" | .dit _ _ => "dict" | .scr _ => "list"
def D.isa : D → Ty → Bool
  | .bl _, .int => true | .bl _, .bool => true | .int _, .int => true | .str _, .str => true | .lst _ _, .list => true | .scr _, .list => true | .tup _, .tuple => true | _, _ => false
theorem isa_kit (d : D) (t : Ty) : PySem.W.kitOne K (.type d.ty) (.type t.name) = some (d.isa t) := by
  cases d <;> cases t <;> exact kit_ty (by simp only [D.ty, Ty.name, D.isa]; decide +kernel)
theorem See.tyx {v : V} {d : D} (W : Rel K I N B F0 ρ σ H F) (h : See K N F H v d) (n : ∀ ns, d ≠ .scr ns) : TyX K H v (.type d.ty) := by
  cases d with
  | non => cases h; exact .base .non
  | bl b => cases h; exact .base (.bl b)
  | int b => cases h; exact .base (.int b)
  | str b => cases h; exact .base (.str b)
  | lst f ds => obtain ⟨a, vs, rfl, h1, _⟩ := h; exact .base (.lst h1)
  | tup ds => obtain ⟨a, vs, rfl, h1, _⟩ := h; exact .base (.tup h1)
  | dic f ds => obtain ⟨a, vs, rfl, h1, _⟩ := h; exact .base (.dK h1)
  | dit f ds => obtain ⟨a, vs, rfl, h1, _⟩ := h; exact .base (.dT h1)
  | scr ns => exact absurd rfl (n ns)
/-- isinstance(f, t) -/
def eIsa (t : Ty) (f : EF) : EF := fun ρ => match f ρ with
  | some (ρ1, a) => match a.look ρ1 with
    | some (.scr _) => none
    | some x => some (ρ1, .val (.bl (x.isa t)))
    | none => none
  | none => none
theorem snd_isa {ta : TE} {f : EF} {t : Ty} (hf : Snd K ta f) : Snd K (tCB (rIsi K) (tCons ta (tCons (tC (.ty t.name)) tNil))) (eIsa t f) := by
  intro I N B F0 ρ σ H F ρ' res W e Q q
  unfold eIsa at e
  split at e
  · rename_i ρ1 a e1
    split at e
    · cases e
    · rename_i x hx e2
      cases e
      refine hf I N B F0 ρ σ H F ρ' a W e1 _ fun v H1 F1 s1 W1 o1 => ?_
      have sx := o1.see W1 e2
      exact ⟨v, .ty t.name, .type x.ty, .type t.name, x.isa t, rfl, .ty _, sx.tyx W1 hx, isa_kit x t, q _ H1 F1 s1 W1 (.bl _)⟩
    · cases e
  · cases e
end
end Z

namespace Z
open PySem L2

/-! targets -/
inductive P where
  | n (i : Nat) | tp (a : P) | nil | cons (a b : P)
  deriving DecidableEq
def setC (ρ : Ev) (i : Nat) (c : C) : Option Ev := match ρ[i]? with
  | some c0 => if c0.pin = true then none else some (ρ.set i c)
  | none => none
mutual
def P.bind1 : P → D → Ev → Option Ev
  | .n i, d, ρ => setC ρ i (.fz d)
  | .tp a, .tup ds, ρ => P.binds a ds ρ
  | _, _, _ => none
def P.binds : P → List D → Ev → Option Ev
  | .nil, [], ρ => some ρ
  | .cons a b, d :: ds, ρ => match P.bind1 a d ρ with
    | some ρ' => P.binds b ds ρ'
    | none => none
  | _, _, _ => none
end
def P.slots : P → List Nat
  | .n i => [i]
  | .tp a => a.slots
  | .nil => []
  | .cons a b => a.slots ++ b.slots
def P.len : P → Nat
  | .cons _ b => b.len + 1
  | _ => 0

section
variable {X : Cx} {K : PySem.W.Frag} {I : Nat → Option V} {N B F0 F H : Hp} {ρ : Ev} {σ : L2.St}

theorem Rel.set (W : Rel K I N B F0 ρ σ H F) {i : Nat} {d : D} {v : V} {ρ' : Ev} (h : setC ρ i (.fz d) = some ρ') (r : Rep K N F v d) : Rel K I N B F0 ρ' (σ.set i (some v)) H F := by
  unfold setC at h
  have key : ∃ c, ρ[i]? = some c ∧ c.pin ≠ true ∧ ρ' = ρ.set i (.fz d) := by
    split at h
    · rename_i c hn
      split at h
      · cases h
      · rename_i hc
        cases h
        exact ⟨c, hn, hc, rfl⟩
    · cases h
  obtain ⟨c, hc, hio, rfl⟩ := key
  have hi : i < ρ.length := (List.getElem?_eq_some_iff.mp hc).1
  have hi' : i < σ.length := by rw [← W.len]; exact hi
  have ne : ∀ {j : Nat} {b : Bool} {e : D}, (ρ.set i (.fz d))[j]? = some (.ow b e) → j ≠ i ∧ ρ[j]? = some (.ow b e) := by
    intro j b e q
    by_cases hj : j = i
    · subst hj
      rw [List.getElem?_set_self hi] at q; cases q
    · rw [List.getElem?_set_ne (Ne.symm hj)] at q
      exact ⟨hj, q⟩
  refine ⟨W.frame, W.dom, W.sub, W.ini, W.old, by simp [W.len], fun j e q => ?_, fun j b e q => ?_, fun j k b c d1 d2 p h1 h2 h3 h4 => ?_, fun j p q => ?_, fun j e q => ?_⟩
  · by_cases hj : j = i
    · subst hj
      rw [List.getElem?_set_self hi] at q
      cases q
      exact ⟨v, List.getElem?_set_self hi', r⟩
    · rw [List.getElem?_set_ne (Ne.symm hj)] at q
      obtain ⟨w, g1, g2⟩ := W.fz j e q
      exact ⟨w, by rw [List.getElem?_set_ne (Ne.symm hj)]; exact g1, g2⟩
  · obtain ⟨hj, q'⟩ := ne q
    obtain ⟨p, g1, g2⟩ := W.ow j b e q'
    exact ⟨p, by rw [List.getElem?_set_ne (Ne.symm hj)]; exact g1, g2⟩
  · obtain ⟨hj, q1⟩ := ne h1
    obtain ⟨hk, q2⟩ := ne h2
    rw [List.getElem?_set_ne (Ne.symm hj)] at h3
    rw [List.getElem?_set_ne (Ne.symm hk)] at h4
    exact W.sep j k b c d1 d2 p q1 q2 h3 h4
  · obtain ⟨g1, e, g2, g3⟩ := W.io j p q
    have hj : j ≠ i := by
      rintro rfl
      rw [hc] at g2
      cases g2
      exact hio g3
    exact ⟨by rw [List.getElem?_set_ne (Ne.symm hj)]; exact g1, e, by rw [List.getElem?_set_ne (Ne.symm hj)]; exact g2, g3⟩
  · by_cases hj : j = i
    · subst hj
      rw [List.getElem?_set_self hi] at q; cases q
    · rw [List.getElem?_set_ne (Ne.symm hj)] at q
      obtain ⟨w, g1, g2⟩ := W.pn j e q
      exact ⟨w, by rw [List.getElem?_set_ne (Ne.symm hj)]; exact g1, g2⟩
/-- what a slot held is forgotten -/
theorem Rel.killed (W : Rel K I N B F0 ρ σ H F) {i : Nat} (hio : I i = none) : Rel K I N B F0 (ρ.set i .dead) σ H F := by
  have ne : ∀ {j : Nat} {c : C}, (ρ.set i .dead)[j]? = some c → c ≠ .dead → j ≠ i ∧ ρ[j]? = some c := by
    intro j c q hc
    by_cases hj : j = i
    · subst hj
      by_cases hl : j < ρ.length
      · rw [List.getElem?_set_self hl] at q
        exact absurd (Option.some.inj q).symm hc
      · rw [List.getElem?_eq_none (by simpa using hl)] at q; cases q
    · rw [List.getElem?_set_ne (Ne.symm hj)] at q
      exact ⟨hj, q⟩
  refine ⟨W.frame, W.dom, W.sub, W.ini, W.old, by simp [W.len], fun j e q => W.fz j e (ne q (fun z => nomatch z)).2, fun j b e q => W.ow j b e (ne q (fun z => nomatch z)).2, fun j k b c d1 d2 p h1 h2 h3 h4 => W.sep j k b c d1 d2 p (ne h1 (fun z => nomatch z)).2 (ne h2 (fun z => nomatch z)).2 h3 h4, fun j p q => ?_, fun j e q => W.pn j e (ne q (fun z => nomatch z)).2⟩
  obtain ⟨g1, e, g2⟩ := W.io j p q
  have hj : j ≠ i := by rintro rfl; rw [hio] at q; cases q
  exact ⟨g1, e, by rw [List.getElem?_set_ne (Ne.symm hj)]; exact g2⟩
/-- a dead slot's value does not matter -/
theorem Rel.slot (W : Rel K I N B F0 ρ σ H F) {i : Nat} (x : Option V) (hd : ρ[i]? = some .dead) : Rel K I N B F0 ρ (σ.set i x) H F := by
  have ne : ∀ {j : Nat} {c : C}, ρ[j]? = some c → c ≠ .dead → j ≠ i := by
    intro j c q hc hj
    subst hj
    rw [hd] at q
    exact hc (Option.some.inj q).symm
  refine ⟨W.frame, W.dom, W.sub, W.ini, W.old, by simp [W.len], fun j e q => ?_, fun j b e q => ?_, fun j k b c d1 d2 p h1 h2 h3 h4 => ?_, fun j p q => ?_, fun j e q => ?_⟩
  · obtain ⟨w, g1, g2⟩ := W.fz j e q
    exact ⟨w, by rw [List.getElem?_set_ne (Ne.symm (ne q (fun z => nomatch z)))]; exact g1, g2⟩
  · obtain ⟨w, g1, g2⟩ := W.ow j b e q
    exact ⟨w, by rw [List.getElem?_set_ne (Ne.symm (ne q (fun z => nomatch z)))]; exact g1, g2⟩
  · rw [List.getElem?_set_ne (Ne.symm (ne h1 (fun z => nomatch z)))] at h3
    rw [List.getElem?_set_ne (Ne.symm (ne h2 (fun z => nomatch z)))] at h4
    exact W.sep j k b c d1 d2 p h1 h2 h3 h4
  · obtain ⟨g1, e, g2, g3⟩ := W.io j p q
    have hj : j ≠ i := ne g2 (fun z => by rw [z] at g3; cases g3)
    exact ⟨by rw [List.getElem?_set_ne (Ne.symm hj)]; exact g1, e, g2, g3⟩
  · obtain ⟨w, g1, g2⟩ := W.pn j e q
    exact ⟨w, by rw [List.getElem?_set_ne (Ne.symm (ne q (fun z => nomatch z)))]; exact g1, g2⟩
/-- a new thing becomes a slot's own -/
theorem Rel.setOw (W : Rel K I N B F0 ρ σ H F) {i : Nat} {d : D} {p : Addr} (hi : i < ρ.length) (hio : I i = none) (b : B p = none) (f : F p = none) (o : OwnAt K N F H p d) (u : Unowned ρ σ p) :
    Rel K I N B F0 (ρ.set i (.ow false d)) (σ.set i (some (.ref p))) H F := by
  have hi' : i < σ.length := by rw [← W.len]; exact hi
  refine ⟨W.frame, W.dom, W.sub, W.ini, W.old, by simp [W.len], fun j e q => ?_, fun j bb e q => ?_, fun j k bb c d1 d2 p' h1 h2 h3 h4 => ?_, fun j p' q => ?_, fun j e q => ?_⟩
  · by_cases hj : j = i
    · subst hj
      rw [List.getElem?_set_self hi] at q; cases q
    · rw [List.getElem?_set_ne (Ne.symm hj)] at q
      obtain ⟨w, g1, g2⟩ := W.fz j e q
      exact ⟨w, by rw [List.getElem?_set_ne (Ne.symm hj)]; exact g1, g2⟩
  · by_cases hj : j = i
    · subst hj
      rw [List.getElem?_set_self hi] at q; cases q
      exact ⟨p, List.getElem?_set_self hi', b, f, o⟩
    · rw [List.getElem?_set_ne (Ne.symm hj)] at q
      obtain ⟨w, g1, g2⟩ := W.ow j bb e q
      exact ⟨w, by rw [List.getElem?_set_ne (Ne.symm hj)]; exact g1, g2⟩
  · by_cases hj : j = i
    · by_cases hk : k = i
      · rw [hj, hk]
      · subst hj
        rw [List.getElem?_set_self hi'] at h3
        cases h3
        rw [List.getElem?_set_ne (Ne.symm hk)] at h2 h4
        exact absurd h4 (u k _ _ h2)
    · by_cases hk : k = i
      · subst hk
        rw [List.getElem?_set_self hi'] at h4
        cases h4
        rw [List.getElem?_set_ne (Ne.symm hj)] at h1 h3
        exact absurd h3 (u j _ _ h1)
      · rw [List.getElem?_set_ne (Ne.symm hj)] at h1 h3
        rw [List.getElem?_set_ne (Ne.symm hk)] at h2 h4
        exact W.sep j k bb c d1 d2 p' h1 h2 h3 h4
  · obtain ⟨g1, e, g2⟩ := W.io j p' q
    have hj : j ≠ i := by rintro rfl; rw [hio] at q; cases q
    exact ⟨by rw [List.getElem?_set_ne (Ne.symm hj)]; exact g1, e, by rw [List.getElem?_set_ne (Ne.symm hj)]; exact g2⟩
  · by_cases hj : j = i
    · subst hj
      rw [List.getElem?_set_self hi] at q; cases q
    · rw [List.getElem?_set_ne (Ne.symm hj)] at q
      obtain ⟨w, g1, g2⟩ := W.pn j e q
      exact ⟨w, by rw [List.getElem?_set_ne (Ne.symm hj)]; exact g1, g2⟩
theorem Rel.noIo (W : Rel K I N B F0 ρ σ H F) {i : Nat} (h : ∀ c, ρ[i]? = some c → c.pin ≠ true) : I i = none := by
  cases q : I i with
  | none => rfl
  | some p =>
    obtain ⟨_, c, g, g2⟩ := W.io i p q
    exact absurd g2 (h c g)

/-- a target's store -/
def SndG (K : PySem.W.Frag) (g : TG) (p : P) : Prop := ∀ (I : Nat → Option V) (N B F0 : Hp) (ρ : Ev) (σ : L2.St) (H F : Hp) (ρ' : Ev) (v : V) (d : D), Rel K I N B F0 ρ σ H F → Rep K N F v d → p.bind1 d ρ = some ρ' →
  ∀ Q : L2.St → Hp → Prop, (∀ σ', Rel K I N B F0 ρ' σ' H F → σ'.length = σ.length → (∀ j, j ∉ p.slots → σ'[j]? = σ[j]?) → Q σ' H) → g v σ H Q
def SndGs (K : PySem.W.Frag) (g : TGs) (p : P) : Prop := ∀ (I : Nat → Option V) (N B F0 : Hp) (ρ : Ev) (σ : L2.St) (H F : Hp) (ρ' : Ev) (vs : List V) (ds : List D), Rel K I N B F0 ρ σ H F → Reps K N F vs ds → p.binds ds ρ = some ρ' →
  ∀ Q : L2.St → Hp → Prop, (∀ σ', Rel K I N B F0 ρ' σ' H F → σ'.length = σ.length → (∀ j, j ∉ p.slots → σ'[j]? = σ[j]?) → Q σ' H) → g vs σ H Q
theorem sndg_n (i : Nat) : SndG K (gName i) (.n i) := by
  intro I N B F0 ρ σ H F ρ' v d W r h Q q
  simp only [P.bind1] at h
  refine q _ (W.set h r) (by simp) fun j hj => ?_
  rw [List.getElem?_set_ne]
  rintro rfl
  exact hj (by simp [P.slots])
theorem sndgs_nil : SndGs K gNil .nil := by
  intro I N B F0 ρ σ H F ρ' vs ds W r h Q q
  cases ds with
  | nil =>
    simp only [P.binds] at h
    cases h
    cases r
    exact ⟨rfl, q σ W rfl fun _ _ => rfl⟩
  | cons d ds => simp [P.binds] at h
theorem sndgs_cons {g : TG} {u : TGs} {a b : P} (hg : SndG K g a) (hu : SndGs K u b) : SndGs K (gCons g u) (.cons a b) := by
  intro I N B F0 ρ σ H F ρ' vs ds W r h Q q
  cases ds with
  | nil => simp [P.binds] at h
  | cons d ds =>
    simp only [P.binds] at h
    split at h
    · rename_i ρ1 e1
      cases r with
      | @cons v _ vr _ h1 r1 =>
        refine ⟨v, vr, rfl, hg I N B F0 ρ σ H F ρ1 v d W h1 e1 _ fun σ1 W1 l1 k1 => ?_⟩
        refine hu I N B F0 ρ1 σ1 H F ρ' vr ds W1 r1 h _ fun σ2 W2 l2 k2 => ?_
        refine q σ2 W2 (l2.trans l1) fun j hj => ?_
        simp only [P.slots, List.mem_append, not_or] at hj
        exact (k2 j hj.2).trans (k1 j hj.1)
    · cases h
theorem binds_len : ∀ {p : P} {ds : List D} {ρ ρ' : Ev}, p.binds ds ρ = some ρ' → ds.length = p.len
  | .nil, [], _, _, _ => rfl
  | .nil, _ :: _, _, _, h => by simp [P.binds] at h
  | .cons a b, [], _, _, h => by simp [P.binds] at h
  | .cons a b, d :: ds, ρ, ρ', h => by
    simp only [P.binds] at h
    split at h
    · rw [List.length_cons, binds_len h]; rfl
    · cases h
  | .n i, ds, _, _, h => by simp [P.binds] at h
  | .tp a, ds, _, _, h => by simp [P.binds] at h
theorem sndg_tp {g : TGs} {a : P} {n : Nat} (hg : SndGs K g a) (hn : n = a.len) : SndG K (gTup K n g) (.tp a) := by
  intro I N B F0 ρ σ H F ρ' v d W r h Q q
  cases d with
  | tup ds =>
    simp only [P.bind1] at h
    cases r with
    | @tup p vs _ h1 r1 =>
      refine ⟨p, vs, rfl, .inl (.inl (W.sub _ _ h1)), by rw [r1.length, binds_len h, hn], hg I N B F0 ρ σ H F ρ' vs ds W r1 h Q fun σ' W' l k => q σ' W' l k⟩
  | _ => simp [P.bind1] at h

/-! what is walked -/
/-! the same data -/
mutual
def D.same : D → D → Bool
  | .non, .non => true
  | .bl a, .bl b => a == b
  | .int a, .int b => a == b
  | .str a, .str b => decide (a = b)
  | .lst f xs, .lst g ys => f == g && D.sames xs ys
  | .tup xs, .tup ys => D.sames xs ys
  | _, _ => false
def D.sames : List D → List D → Bool
  | [], [] => true
  | x :: xs, y :: ys => D.same x y && D.sames xs ys
  | _, _ => false
end
mutual
theorem same_eq : ∀ {x y : D}, D.same x y = true → x = y
  | .non, y, h => by cases y <;> simp_all [D.same]
  | .bl a, y, h => by cases y <;> simp_all [D.same]
  | .int a, y, h => by cases y <;> simp_all [D.same]
  | .str a, y, h => by cases y <;> simp_all [D.same]
  | .lst f xs, y, h => by
    cases y <;> simp only [D.same] at h <;> try cases h
    simp only [Bool.and_eq_true, beq_iff_eq] at h
    rw [h.1, sames_eq h.2]
  | .tup xs, y, h => by
    cases y <;> simp only [D.same] at h <;> try cases h
    rw [sames_eq h]
  | .dic _ _, y, h => by simp [D.same] at h
  | .dit _ _, y, h => by simp [D.same] at h
  | .scr _, y, h => by simp [D.same] at h
theorem sames_eq : ∀ {x y : List D}, D.sames x y = true → x = y
  | [], [], _ => rfl
  | [], _ :: _, h => by simp [D.sames] at h
  | _ :: _, [], h => by simp [D.sames] at h
  | x :: xs, y :: ys, h => by
    simp only [D.sames, Bool.and_eq_true] at h
    rw [same_eq h.1, sames_eq h.2]
end
/-- is the slot's own list still that one? -/
def still (s : Nat) (d : D) (ρ : Ev) : Bool := match ρ[s]? with
  | some (.ow true e) => D.same e d
  | _ => false
structure ItOk (K : PySem.W.Frag) (N : Hp) (J : It) (items : List D) (g : Ev → Bool) (Src : (Nat → Option V) → Hp → Prop) : Prop where
  go : ∀ (k : Nat) (d : D), items[k]? = some d → ∀ (I : Nat → Option V) (B F0 : Hp) (ρ : Ev) (σ : L2.St) (H F : Hp), Rel K I N B F0 ρ σ H F → Src I F → g ρ = true → J.go k H ∧ ∀ x H3, J.yld k H x H3 → ∃ F3, Same F F3 ∧ Rel K I N B F0 ρ σ H3 F3 ∧ Rep K N F3 x d
  stop : ∀ (I : Nat → Option V) (B F0 : Hp) (ρ : Ev) (σ : L2.St) (H F : Hp), Rel K I N B F0 ρ σ H F → Src I F → g ρ = true → J.stop items.length H
  up : ∀ I F F', Same F F' → Src I F → Src I F'
/-- the items; the slot whose own list is walked -/
abbrev IF := Ev → Option (Ev × List D × Option Nat)
def SndI (K : PySem.W.Frag) (wi : TI) (f : IF) : Prop := ∀ (I : Nat → Option V) (N B F0 : Hp) (ρ : Ev) (σ : L2.St) (H F : Hp) (ρ' : Ev) (items : List D) (ks : Option Nat), Rel K I N B F0 ρ σ H F → f ρ = some (ρ', items, ks) →
  ∀ R : It → Hp → Prop, (∀ J H' F', Same F F' → Rel K I N B F0 ρ' σ H' F' → (match ks with
    | none => ∃ Src, ItOk K N J items (fun _ => true) Src ∧ ∀ I, Src I F'
    | some s => ∃ b d p, ρ'[s]? = some (.ow b d) ∧ σ[s]? = some (some (.ref p)) ∧ ItOk K N J items (still s d) (fun I _ => I s = some (.ref p))) → R J H') → wi σ H R
def iLst (f : EF) : IF := fun ρ => match f ρ with
  | some (ρ1, a) => match a.hold with
    | .val (.lst _ ds) => some (ρ1, ds, none)
    | .own s => match ρ1[s]? with
      | some (.ow _ (.lst _ ds)) => some (ρ1, ds, some s)
      | _ => none
    | _ => none
  | none => none
def iTupD (f : EF) : IF := fun ρ => match f ρ with
  | some (ρ1, a) => match a.hold with
    | .val (.tup ds) => some (ρ1, ds, none)
    | _ => none
  | none => none
theorem itok_lst {p : Addr} {vs : List V} {items : List D} : ItOk K N (Itl K p) items (fun _ => true) (fun _ G => G p = some (.lst vs) ∧ Reps K N G vs items) where
  go := fun k d hk I B F0 ρ σ H F W g _ => by
    obtain ⟨u, u1, u2⟩ := g.2.get hk
    refine ⟨⟨vs, u, .inl (.inl (W.sub _ _ g.1)), u1⟩, fun x H3 y => ?_⟩
    obtain ⟨rfl, y⟩ := y
    have := y vs (.inl (.inl (W.sub _ _ g.1)))
    rw [u1] at this
    cases this
    exact ⟨F, Same.refl _, W, u2⟩
  stop := fun I B F0 ρ σ H F W g _ => ⟨vs, .inl (.inl (W.sub _ _ g.1)), by rw [g.2.length]; exact Nat.le_refl _⟩
  up := fun I F F' s g => ⟨s _ _ g.1, g.2.mono s⟩
theorem still_eq {s : Nat} {d : D} {ρ : Ev} (h : still s d ρ = true) : ρ[s]? = some (.ow true d) := by
  unfold still at h
  split at h
  · rename_i e he
    rw [he, same_eq h]
  · cases h
theorem itok_own {p : Addr} {s : Nat} {fl : Bool} {items : List D} : ItOk K N (Itl K p) items (still s (.lst fl items)) (fun I _ => I s = some (.ref p)) where
  go := fun k d hk I B F0 ρ σ H F W g hs => by
    obtain ⟨g1, _, _⟩ := W.io s _ g
    obtain ⟨p', k1, _, _, vs, k4, k5⟩ := W.ow s _ _ (still_eq hs)
    rw [g1] at k1; cases k1
    obtain ⟨u, u1, u2⟩ := k5.get hk
    refine ⟨⟨vs, u, .inl (.inl k4), u1⟩, fun x H3 y => ?_⟩
    obtain ⟨rfl, y⟩ := y
    have := y vs (.inl (.inl k4))
    rw [u1] at this
    cases this
    exact ⟨F, Same.refl _, W, u2⟩
  stop := fun I B F0 ρ σ H F W g hs => by
    obtain ⟨g1, _, _⟩ := W.io s _ g
    obtain ⟨p', k1, _, _, vs, k4, k5⟩ := W.ow s _ _ (still_eq hs)
    rw [g1] at k1; cases k1
    exact ⟨vs, .inl (.inl k4), by rw [k5.length]; exact Nat.le_refl _⟩
  up := fun I F F' s g => g
theorem sndi_lst {te : TE} {f : EF} (hf : Snd K te f) : SndI K (iList K te) (iLst f) := by
  intro I N B F0 ρ σ H F ρ' items ks W h R q
  unfold iLst at h
  split at h
  · rename_i ρ1 a e1
    split at h
    · rename_i fl ds e2
      cases h
      refine hf I N B F0 ρ σ H F ρ' a W e1 _ fun v H1 F1 s1 W1 o1 => ?_
      obtain ⟨F2, s2, W2, o2⟩ := o1.hold W1
      rw [e2] at o2
      have o2' : Rep K N F2 v (.lst fl items) := o2
      cases o2' with
      | @lst p vs _ _ h1 hn r => exact ⟨p, rfl, ⟨vs, .inl (.inl (W2.sub _ _ h1))⟩, q (Itl K p) H1 F2 (s1.trans s2) W2 ⟨_, itok_lst, fun _ => ⟨h1, r⟩⟩⟩
    · rename_i s e2
      split at h
      · rename_i b fl ds e3
        cases h
        refine hf I N B F0 ρ σ H F ρ' a W e1 _ fun v H1 F1 s1 W1 o1 => ?_
        obtain ⟨F2, s2, W2, o2⟩ := o1.hold W1
        rw [e2] at o2
        obtain ⟨b0, d0, p, g1, rfl, g3⟩ := o2
        obtain ⟨p', k1, _, _, vs, k4, k5⟩ := W2.ow s _ _ e3
        rw [g3] at k1; cases k1
        exact ⟨p, rfl, ⟨vs, .inl (.inl k4)⟩, q (Itl K p) H1 F2 (s1.trans s2) W2 ⟨b, _, p, e3, g3, itok_own⟩⟩
      · cases h
    · cases h
  · cases h
theorem sndi_tup {te : TE} {f : EF} (hf : Snd K te f) : SndI K (iTup K te) (iTupD f) := by
  intro I N B F0 ρ σ H F ρ' items ks W h R q
  unfold iTupD at h
  split at h
  · rename_i ρ1 a e1
    split at h
    · rename_i ds e2
      cases h
      refine hf I N B F0 ρ σ H F ρ' a W e1 _ fun v H1 F1 s1 W1 o1 => ?_
      obtain ⟨F2, s2, W2, o2⟩ := o1.hold W1
      rw [e2] at o2
      have o2' : Rep K N F2 v (.tup items) := o2
      cases o2' with
      | @tup p vs _ h1 r =>
        refine ⟨p, rfl, ⟨vs, .inl (.inl (W2.sub _ _ h1))⟩, q (Itt K p) H1 F2 (s1.trans s2) W2 ⟨(fun _ G => G p = some (.tup vs) ∧ Reps K N G vs items), ⟨fun k d hk I B F0 ρ σ H F W g _ => ?_, fun I B F0 ρ σ H F W g _ => ?_, fun I F F' s g => ⟨s _ _ g.1, g.2.mono s⟩⟩, fun _ => ⟨h1, r⟩⟩⟩
        · obtain ⟨u, u1, u2⟩ := g.2.get hk
          refine ⟨⟨vs, u, .inl (.inl (W.sub _ _ g.1)), u1⟩, fun x H3 y => ?_⟩
          obtain ⟨rfl, y⟩ := y
          have := y vs (.inl (.inl (W.sub _ _ g.1)))
          rw [u1] at this
          cases this
          exact ⟨F, Same.refl _, W, u2⟩
        · exact ⟨vs, .inl (.inl (W.sub _ _ g.1)), by rw [g.2.length]; exact Nat.le_refl _⟩
    · cases h
  · cases h
/-- ranges -/
def rng (lo : Int) (n : Nat) : List D := (List.range n).map fun (k : Nat) => D.int (lo + (k : Int))
theorem rng_get {lo : Int} {n k : Nat} {d : D} (h : (rng lo n)[k]? = some d) : k < n ∧ d = .int (lo + k) := by
  unfold rng at h
  rw [List.getElem?_map] at h
  obtain ⟨j, h1, h2⟩ := Option.map_eq_some_iff.mp h
  have h3 := List.getElem?_eq_some_iff.mp h1
  obtain ⟨h4, h5⟩ := h3
  rw [List.getElem_range] at h5
  subst h5
  exact ⟨by simpa using h4, h2.symm⟩
theorem itok_rng (lo : Int) (n : Nat) : ItOk K N (Itr lo n) (rng lo n) (fun _ => true) (fun _ _ => True) where
  go := fun k d hk I B F0 ρ σ H F W _ _ => by
    obtain ⟨h1, rfl⟩ := rng_get hk
    refine ⟨h1, fun x H3 y => ?_⟩
    obtain ⟨rfl, rfl⟩ := y
    exact ⟨F, Same.refl _, W, .int _⟩
  stop := fun I B F0 ρ σ H F W _ _ => by
    show n ≤ (rng lo n).length
    simp [rng]
  up := fun _ _ _ _ h => h
def rOk (i : Int) : Bool := decide (-(2 ^ 62) ≤ i ∧ i < 2 ^ 62)
def iR1 (g : AF) : IF := fun ρ => match g ρ with
  | some (ρ1, [.val (.int n)]) => if rOk n = true then some (ρ1, rng 0 n.toNat, none) else none
  | _ => none
def iR2 (g : AF) : IF := fun ρ => match g ρ with
  | some (ρ1, [.val (.int m), .val (.int n)]) => if rOk m = true ∧ rOk n = true then some (ρ1, rng m (n - m).toNat, none) else none
  | _ => none
theorem rs1 {vs : List V} {d : D} (h : RsOk K N B ρ σ H F vs [.val d]) : ∃ v, vs = [v] ∧ Rep K N F v d := by
  cases h with
  | cons h r => cases r; exact ⟨_, rfl, h⟩
theorem rs2 {vs : List V} {d e : D} (h : RsOk K N B ρ σ H F vs [.val d, .val e]) : ∃ v w, vs = [v, w] ∧ Rep K N F v d ∧ Rep K N F w e := by
  cases h with
  | cons h r => cases r with
    | cons h' r => cases r; exact ⟨_, _, rfl, h, h'⟩
theorem rs3 {vs : List V} {d e f : D} (h : RsOk K N B ρ σ H F vs [.val d, .val e, .val f]) : ∃ v w x, vs = [v, w, x] ∧ Rep K N F v d ∧ Rep K N F w e ∧ Rep K N F x f := by
  cases h with
  | cons h r => cases r with
    | cons h' r => cases r with
      | cons h'' r => cases r; exact ⟨_, _, _, rfl, h, h', h''⟩
theorem sndi_r1 {ta : TA} {g : AF} (hg : SndA K ta g) : SndI K (iRng1 ta) (iR1 g) := by
  intro I N B F0 ρ σ H F ρ' items ks W h R q
  unfold iR1 at h
  split at h
  · rename_i ρ1 n e1
    split at h
    · rename_i hn
      cases h
      refine hg I N B F0 ρ σ H F ρ' _ W e1 _ fun vs H1 F1 s1 W1 o1 => ?_
      obtain ⟨v, rfl, r⟩ := rs1 o1
      cases r
      have hn' := of_decide_eq_true hn
      exact ⟨n, rfl, hn'.1, hn'.2, q _ H1 F1 s1 W1 ⟨_, itok_rng 0 n.toNat, fun _ => trivial⟩⟩
    · cases h
  · cases h
theorem sndi_r2 {ta : TA} {g : AF} (hg : SndA K ta g) : SndI K (iRng2 ta) (iR2 g) := by
  intro I N B F0 ρ σ H F ρ' items ks W h R q
  unfold iR2 at h
  split at h
  · rename_i ρ1 m n e1
    split at h
    · rename_i hn
      cases h
      refine hg I N B F0 ρ σ H F ρ' _ W e1 _ fun vs H1 F1 s1 W1 o1 => ?_
      obtain ⟨v, w, rfl, r, r'⟩ := rs2 o1
      cases r; cases r'
      have hm' := of_decide_eq_true hn.1
      have hn' := of_decide_eq_true hn.2
      exact ⟨m, n, rfl, ⟨hm'.1, hm'.2, hn'.1, hn'.2⟩, q _ H1 F1 s1 W1 ⟨_, itok_rng m (n - m).toNat, fun _ => trivial⟩⟩
    · cases h
  · cases h
/-- enumerate -/
def enumD (k : Nat) : List D → List D
  | [] => []
  | d :: r => .tup [.int k, d] :: enumD (k + 1) r
theorem enumD_get : ∀ {k : Nat} {ds : List D} {i : Nat} {d : D}, (enumD k ds)[i]? = some d → ∃ e, ds[i]? = some e ∧ d = .tup [.int ((k + i : Nat) : Int), e]
  | k, [], i, d, h => by simp [enumD] at h
  | k, e :: r, 0, d, h => by simp [enumD] at h; exact ⟨e, rfl, h.symm⟩
  | k, e :: r, i + 1, d, h => by
    simp only [enumD, List.getElem?_cons_succ] at h
    obtain ⟨e', h1, h2⟩ := enumD_get h
    exact ⟨e', by simpa using h1, by rw [h2]; congr 3; omega⟩
theorem enumD_len : ∀ (k : Nat) (ds : List D), (enumD k ds).length = ds.length
  | _, [] => rfl
  | k, d :: r => by rw [enumD, List.length_cons, enumD_len, List.length_cons]
def iEnu (g : AF) : IF := fun ρ => match g ρ with
  | some (ρ1, [.val (.lst _ ds)]) => some (ρ1, enumD 0 ds, none)
  | _ => none
theorem sndi_enu {ta : TA} {g : AF} (hg : SndA K ta g) : SndI K (iEnum K ta) (iEnu g) := by
  intro I N B F0 ρ σ H F ρ' items ks W h R q
  unfold iEnu at h
  split at h
  · rename_i ρ1 fl ds e1
    cases h
    refine hg I N B F0 ρ σ H F ρ' _ W e1 _ fun vs H1 F1 s1 W1 o1 => ?_
    obtain ⟨v, rfl, r0⟩ := rs1 o1
    cases r0 with
    | @lst p vs _ _ h1 hn r =>
      refine ⟨p, vs, rfl, .inl (.inl (W1.sub _ _ h1)), q (Ite K p) H1 F1 s1 W1 ⟨(fun _ G => G p = some (.lst vs) ∧ Reps K N G vs ds), ⟨fun k d hk I B F0 ρ σ H F W g _ => ?_, fun I B F0 ρ σ H F W g _ => ?_, fun I F F' s g => ⟨s _ _ g.1, g.2.mono s⟩⟩, fun _ => ⟨h1, r⟩⟩⟩
      · obtain ⟨e, e1, rfl⟩ := enumD_get hk
        obtain ⟨u, u1, u2⟩ := g.2.get e1
        refine ⟨⟨vs, u, .inl (.inl (W.sub _ _ g.1)), u1⟩, fun x H3 y => ?_⟩
        obtain ⟨T, x', rfl, hT, rfl, y⟩ := y
        have := y vs (.inl (.inl (W.sub _ _ g.1)))
        rw [u1] at this
        cases this
        obtain ⟨b, f, n⟩ := W.bnew hT
        have s2 : Same F (upd F T (.tup [.int (k : Nat), u])) := upd_new f
        refine ⟨_, s2, W.share hT, .tup upd_same (.cons ?_ (.cons (u2.mono s2) .nil))⟩
        rw [Nat.zero_add]
        exact .int _
      · exact ⟨vs, .inl (.inl (W.sub _ _ g.1)), by rw [g.2.length, enumD_len]; exact Nat.le_refl _⟩
  · cases h
/-- a slot's own list is walked: no store to the slot -/
theorem Rel.lock (W : Rel K I N B F0 ρ σ H F) {s : Nat} {b : Bool} {d : D} {p : Addr} (h : ρ[s]? = some (.ow b d)) (hs : σ[s]? = some (some (.ref p))) : Rel K (fun j => if j = s then some (.ref p) else I j) N B F0 (ρ.set s (.ow true d)) σ H F := by
  have hi : s < ρ.length := (List.getElem?_eq_some_iff.mp h).1
  have ne : ∀ {j : Nat} {bb : Bool} {e : D}, (ρ.set s (.ow true d))[j]? = some (.ow bb e) → ∃ b2, ρ[j]? = some (.ow b2 e) := by
    intro j bb e q
    by_cases hj : j = s
    · subst hj
      rw [List.getElem?_set_self hi] at q; cases q
      exact ⟨_, h⟩
    · rw [List.getElem?_set_ne (Ne.symm hj)] at q
      exact ⟨_, q⟩
  refine ⟨W.frame, W.dom, W.sub, W.ini, W.old, by simp [W.len], fun j e q => ?_, fun j bb e q => ?_, fun j k bb c d1 d2 p' h1 h2 h3 h4 => ?_, fun j p' q => ?_, fun j e q => ?_⟩
  · by_cases hj : j = s
    · subst hj
      rw [List.getElem?_set_self hi] at q; cases q
    · rw [List.getElem?_set_ne (Ne.symm hj)] at q
      exact W.fz j e q
  · obtain ⟨b2, q2⟩ := ne q
    exact W.ow j b2 e q2
  · obtain ⟨b1, q1⟩ := ne h1
    obtain ⟨b2, q2⟩ := ne h2
    exact W.sep j k b1 b2 d1 d2 p' q1 q2 h3 h4
  · have q' : (if j = s then some (.ref p) else I j) = some p' := q
    split at q'
    · rename_i hj
      subst hj
      cases q'
      exact ⟨hs, _, List.getElem?_set_self hi, rfl⟩
    · rename_i hj
      obtain ⟨g1, e, g2⟩ := W.io j p' q'
      exact ⟨g1, e, by rw [List.getElem?_set_ne (Ne.symm hj)]; exact g2⟩
  · by_cases hj : j = s
    · subst hj
      rw [List.getElem?_set_self hi] at q; cases q
    · rw [List.getElem?_set_ne (Ne.symm hj)] at q
      exact W.pn j e q
theorem Rel.unlock {s : Nat} {p : Addr} (W : Rel K (fun j => if j = s then some (.ref p) else I j) N B F0 ρ σ H F) {b : Bool} {d : D} (h : ρ[s]? = some (.ow true d)) (hI : ∀ q, I s = some q → b = true ∧ q = .ref p) : Rel K I N B F0 (ρ.set s (.ow b d)) σ H F := by
  have hi : s < ρ.length := (List.getElem?_eq_some_iff.mp h).1
  have ne : ∀ {j : Nat} {bb : Bool} {e : D}, (ρ.set s (.ow b d))[j]? = some (.ow bb e) → ∃ b2, ρ[j]? = some (.ow b2 e) := by
    intro j bb e q
    by_cases hj : j = s
    · subst hj
      rw [List.getElem?_set_self hi] at q; cases q
      exact ⟨_, h⟩
    · rw [List.getElem?_set_ne (Ne.symm hj)] at q
      exact ⟨_, q⟩
  have hs : σ[s]? = some (some (.ref p)) := (W.io s _ (if_pos rfl)).1
  refine ⟨W.frame, W.dom, W.sub, W.ini, W.old, by simp [W.len], fun j e q => ?_, fun j bb e q => ?_, fun j k bb c d1 d2 p' h1 h2 h3 h4 => ?_, fun j p' q => ?_, fun j e q => ?_⟩
  · by_cases hj : j = s
    · subst hj
      rw [List.getElem?_set_self hi] at q; cases q
    · rw [List.getElem?_set_ne (Ne.symm hj)] at q
      exact W.fz j e q
  · obtain ⟨b2, q2⟩ := ne q
    exact W.ow j b2 e q2
  · obtain ⟨b1, q1⟩ := ne h1
    obtain ⟨b2, q2⟩ := ne h2
    exact W.sep j k b1 b2 d1 d2 p' q1 q2 h3 h4
  · by_cases hj : j = s
    · subst hj
      obtain ⟨rfl, rfl⟩ := hI p' q
      exact ⟨hs, _, List.getElem?_set_self hi, rfl⟩
    · obtain ⟨g1, e, g2⟩ := W.io j p' (by show (if j = s then some (.ref p) else I j) = _; rw [if_neg hj]; exact q)
      exact ⟨g1, e, by rw [List.getElem?_set_ne (Ne.symm hj)]; exact g2⟩
  · by_cases hj : j = s
    · subst hj
      rw [List.getElem?_set_self hi] at q; cases q
    · rw [List.getElem?_set_ne (Ne.symm hj)] at q
      exact W.pn j e q
/-- the slot's flag as it was -/
def unlock (s : Nat) (b : Bool) (ρ : Ev) : Option Ev := match ρ[s]? with
  | some (.ow true d) => some (ρ.set s (.ow b d))
  | _ => none

/-! list comprehensions -/
def kills (ρ : Ev) : List Nat → Ev
  | [] => ρ
  | i :: r => (kills ρ r).set i .dead
def noIo (ρ : Ev) (vs : List Nat) : Bool := vs.all fun i => match ρ[i]? with
  | some c => !c.pin
  | _ => true
def lcLoop (p : P) (c : TF) (f : EF) (vs : List Nat) (g : Ev → Bool) : List D → Ev → Option (Ev × List D)
  | [], ρ => if g (kills ρ vs) = true then some (ρ, []) else none
  | d :: ds, ρ => if g (kills ρ vs) = true then match p.bind1 d (kills ρ vs) with
    | some ρ1 => match c ρ1 with
      | some (ρ2, true) => match f ρ2 with
        | some (ρ3, r) => match r.fix with
          | some y => match lcLoop p c f vs g ds ρ3 with
            | some (ρ4, ys) => some (ρ4, y :: ys)
            | none => none
          | none => none
        | none => none
      | some (ρ2, false) => lcLoop p c f vs g ds ρ2
      | none => none
    | none => none
    else none
def eLc (it : IF) (p : P) (c : TF) (f : EF) (vs : List Nat) : EF := fun ρ => match it ρ with
  | some (ρ1, items, ks) => if items.length ≤ 100000 ∧ noIo ρ1 vs = true then
      match ks with
      | none => match lcLoop p c f vs (fun _ => true) items ρ1 with
        | some (ρ2, ys) => some (kills ρ2 vs, .tmp (.lst true ys))
        | none => none
      | some s => if s ∈ vs then none else match ρ1[s]? with
        | some (.ow b d) => match lcLoop p c f vs (still s d) items (ρ1.set s (.ow true d)) with
          | some (ρ2, ys) => match unlock s b (kills ρ2 vs) with
            | some ρ3 => some (ρ3, .tmp (.lst true ys))
            | none => none
          | none => none
        | _ => none
    else none
  | none => none

theorem kills_out {i : Nat} : ∀ {vs : List Nat}, i ∉ vs → (kills ρ vs)[i]? = ρ[i]?
  | [], _ => rfl
  | v :: vs, h => by
    simp only [List.mem_cons, not_or] at h
    unfold kills
    rw [List.getElem?_set_ne (fun e => h.1 e.symm), kills_out h.2]
theorem kills_len : ∀ vs : List Nat, (kills ρ vs).length = ρ.length
  | [] => rfl
  | v :: vs => by unfold kills; rw [List.length_set, kills_len vs]
theorem kills_in {i : Nat} {c : C} : ∀ {vs : List Nat}, i ∈ vs → (kills ρ vs)[i]? = some c → c = .dead
  | v :: vs, h, e => by
    unfold kills at e
    by_cases hv : v = i
    · subst hv
      by_cases hl : v < (kills ρ vs).length
      · rw [List.getElem?_set_self hl] at e; exact (Option.some.inj e).symm
      · rw [List.getElem?_eq_none (by simpa using hl)] at e; cases e
    · rw [List.getElem?_set_ne hv] at e
      exact kills_in ((List.mem_cons.mp h).resolve_left fun z => hv z.symm) e
theorem Rel.kills (W : Rel K I N B F0 ρ σ H F) : ∀ {vs : List Nat}, (∀ i ∈ vs, I i = none) → Rel K I N B F0 (kills ρ vs) σ H F
  | [], _ => W
  | v :: vs, h => (W.kills fun i hi => h i (by simp [hi])).killed (h v (by simp))
/-- slots that are dead hold what they will -/
theorem Rel.slots {σ' : L2.St} {vs : List Nat} (W : Rel K I N B F0 (Z.kills ρ vs) σ H F) (l : σ'.length = σ.length) (k : ∀ j, j ∉ vs → σ'[j]? = σ[j]?) : Rel K I N B F0 (Z.kills ρ vs) σ' H F := by
  have ne : ∀ {j : Nat} {c : C}, (Z.kills ρ vs)[j]? = some c → c ≠ .dead → σ'[j]? = σ[j]? := fun {j c} q hc => k j fun hj => hc (kills_in hj q)
  refine ⟨W.frame, W.dom, W.sub, W.ini, W.old, by rw [W.len, l], fun j e q => ?_, fun j b e q => ?_, fun j k b c d1 d2 p h1 h2 h3 h4 => ?_, fun j p q => ?_, fun j e q => ?_⟩
  · rw [ne q (fun z => nomatch z)]; exact W.fz j e q
  · rw [ne q (fun z => nomatch z)]; exact W.ow j b e q
  · rw [ne h1 (fun z => nomatch z)] at h3
    rw [ne h2 (fun z => nomatch z)] at h4
    exact W.sep j k b c d1 d2 p h1 h2 h3 h4
  · obtain ⟨g1, e, g2, g3⟩ := W.io j p q
    exact ⟨by rw [ne g2 (fun z => by rw [z] at g3; cases g3)]; exact g1, e, g2, g3⟩
  · rw [ne q (fun z => nomatch z)]; exact W.pn j e q
theorem wipe_out' {i : Nat} {vs : List Nat} (h : i ∉ vs) : (wipe σ vs)[i]? = σ[i]? := wipe_out h
theorem wipe_eq : ∀ {vs : List Nat} {σ' : L2.St}, σ'.length = σ.length → (∀ j, j ∉ vs → σ'[j]? = σ[j]?) → wipe σ' vs = wipe σ vs := by
  intro vs σ' l k
  refine List.ext_getElem? fun j => ?_
  by_cases hj : j ∈ vs
  · have a : ∀ s : L2.St, j < s.length → (wipe s vs)[j]? = some none := by
      intro s hl
      clear k l
      induction vs with
      | nil => cases hj
      | cons v vs ih =>
        unfold wipe
        by_cases hv : v = j
        · subst hv
          rw [List.getElem?_set_self (by rw [wipe_length]; exact hl)]
        · rw [List.getElem?_set_ne hv]
          exact ih ((List.mem_cons.mp hj).resolve_left fun z => hv z.symm)
    by_cases hl : j < σ.length
    · rw [a σ hl, a σ' (by rw [l]; exact hl)]
    · rw [List.getElem?_eq_none (by rw [wipe_length, l]; omega), List.getElem?_eq_none (by rw [wipe_length]; omega)]
  · rw [wipe_out hj, wipe_out hj, k j hj]
/-- writing a thing that is neither shared nor owned -/
theorem Rel.poke (W : Rel K I N B F0 ρ σ H F) {p : Addr} {o : HO} (b : B p = none) (f : F p = none) (u : Unowned ρ σ p) : Rel K I N B F0 ρ σ (upd H p o) F :=
  W.heap (Same.refl _) (fun a x e => by rw [upd_ne (ne_of_none e f)]; exact W.sub a x e) (fun a x e => by rw [upd_ne (ne_of_none e b)]; exact W.frame a x e) (fun _ _ => rfl) fun i bb d q hi hs => by
    obtain ⟨q', h1, h2, h3, h4⟩ := W.ow i bb d hi
    rw [hs] at h1; cases h1
    have hq : q ≠ p := fun z => by subst z; exact u i bb d hi hs
    exact ⟨h3, fun o' e => by rw [upd_ne hq]; exact e⟩

/-- the walk itself -/
theorem lc_go {g : TG} {tt : TT} {te : TE} {p : P} {c : TF} {f : EF} {vs : List Nat} {gd : Ev → Bool} {Src : (Nat → Option V) → Hp → Prop} {J : It} {items ys : List D} {ρ1 ρe : Ev} {H1 F1 : Hp} {Q : VK} (hg : SndG K g p) (ht : SndT K tt c) (he : Snd K te f) (hp : ∀ j ∈ p.slots, j ∈ vs)
    (W1 : Rel K I N B F0 ρ1 σ H1 F1) (ok : ItOk K N J items gd Src) (src : Src I F1) (hlen : items.length ≤ 100000) (hio : ∀ i ∈ vs, I i = none) (e2 : lcLoop p c f vs gd items ρ1 = some (ρe, ys))
    (q : ∀ u H' F', Same F1 F' → Rel K I N B F0 (kills ρe vs) σ H' F' → ResOk K N B (kills ρe vs) σ H' F' u (.tmp (.lst true ys)) → Q u H') :
    ∀ D, H1 D = none → ∃ W : Nat → Nat → Hp → Prop, (∃ m, W 0 m (upd H1 D (.lst []))) ∧ ∀ i m H, W i m H →
  (J.stop i H ∧ Q (.ref D) H) ∨ (J.go i H ∧ ∃ Nx : Hp → Prop, (∀ H', Nx H' → ∃ m', m' < m ∧ W (i + 1) m' H') ∧ ∀ x H', J.yld i H x H' → g x (wipe σ vs) H' fun σ2 H2 => wipe σ2 vs = wipe σ vs ∧ tt σ2 H2 fun b H3 =>
    if b = true then te σ2 H3 fun y H4 => ∃ acc, H4 D = some (.lst acc) ∧ acc.length < sizeLine ∧ Nx (upd H4 D (.lst (acc ++ [y]))) else Nx H3) := by
  intro Dl hD
  obtain ⟨bD, fD, nD⟩ := W1.bnew hD
  refine ⟨fun i m H' => ∃ (ρi : Ev) (Fi : Hp) (acc : List V) (da db : List D), Rel K I N B F0 (kills ρi vs) (wipe σ vs) H' Fi ∧ Same F1 Fi ∧ Src I Fi ∧ H' Dl = some (.lst acc) ∧ Fi Dl = none ∧ Unowned (kills ρi vs) (wipe σ vs) Dl ∧ Reps K N Fi acc da ∧
    lcLoop p c f vs gd (items.drop i) ρi = some (ρe, db) ∧ da ++ db = ys ∧ i ≤ items.length ∧ m = items.length - i ∧ da.length ≤ i, ⟨items.length, ρ1, F1, [], [], ys, ?_, Same.refl _, src, upd_same, fD, ?_, .nil, e2, rfl, Nat.zero_le _, rfl, Nat.le_refl _⟩, ?_⟩
  · refine ((W1.kills hio).slots (by rw [wipe_length]) fun j hj => wipe_out hj).temp hD
  · exact ((W1.kills hio).slots (by rw [wipe_length]) fun j hj => wipe_out hj).unew hD
  · rintro i m H' ⟨ρi, Fi, acc, da, db, Wi, si, srci, hDi, fDi, uDi, ri, ei, ey, hil, rfl, hda⟩
    by_cases hlt : i < items.length
    · obtain ⟨d, hd⟩ : ∃ d, items[i]? = some d := ⟨items[i], by simp [hlt]⟩
      have hdrop : items.drop i = d :: items.drop (i + 1) := by
        rw [List.drop_eq_getElem_cons hlt]
        rw [List.getElem?_eq_getElem hlt] at hd
        rw [Option.some.inj hd]
      rw [hdrop] at ei
      unfold lcLoop at ei
      split at ei
      · rename_i hgd
        have Ww := Wi.widen
        obtain ⟨hgo, hy⟩ := ok.go i d hd I _ _ _ _ H' Fi Ww srci hgd
        have hst : star (kills ρi vs) (wipe σ vs) H' Dl ≠ none := by rw [star_un uDi, hDi]; simp
        refine .inr ⟨hgo, fun H2 => ∃ (ρ2 : Ev) (F2 : Hp) (acc2 : List V) (da2 db2 : List D), Rel K I N B F0 (kills ρ2 vs) (wipe σ vs) H2 F2 ∧ Same F1 F2 ∧ Src I F2 ∧ H2 Dl = some (.lst acc2) ∧ F2 Dl = none ∧ Unowned (kills ρ2 vs) (wipe σ vs) Dl ∧ Reps K N F2 acc2 da2 ∧
          lcLoop p c f vs gd (items.drop (i + 1)) ρ2 = some (ρe, db2) ∧ da2 ++ db2 = ys ∧ da2.length ≤ i + 1, fun H2 ⟨ρ2, F2, acc2, da2, db2, g1, g2, g3, g4, g5, g6, g7, g8, g9, g10⟩ => ⟨items.length - (i + 1), by omega, ρ2, F2, acc2, da2, db2, g1, g2, g3, g4, g5, g6, g7, g8, g9, hlt, rfl, g10⟩, fun x H3 hx => ?_⟩
        obtain ⟨F3, s3, W3, r3⟩ := hy x H3 hx
        split at ei
        · rename_i ρa ea
          refine hg I N _ Fi (kills ρi vs) (wipe σ vs) H3 F3 ρa x d W3 r3 ea _ fun σ2 W4 l4 k4 => ?_
          have hw : wipe σ2 vs = wipe σ vs := by
            have : wipe (wipe σ vs) vs = wipe σ vs := wipe_eq (by rw [wipe_length]) fun j hj => wipe_out hj
            rw [← this]
            exact wipe_eq l4 fun j hj => k4 j fun hj' => hj (hp j hj')
          have l5 : (wipe σ vs).length = σ2.length := by rw [l4]
          have k5 : ∀ j, j ∉ vs → (wipe σ vs)[j]? = σ2[j]? := fun j hj => (k4 j fun hj' => hj (hp j hj')).symm
          have back : ∀ {ρ5 : Ev} {H5 F5 : Hp}, Rel K I N (star (kills ρi vs) (wipe σ vs) H') Fi ρ5 σ2 H5 F5 → Rel K I N B F0 (kills ρ5 vs) (wipe σ vs) H5 F5 ∧ H5 Dl = some (.lst acc) ∧ F5 Dl = none ∧ Unowned (kills ρ5 vs) (wipe σ vs) Dl := by
            intro ρ5 H5 F5 W5
            have W6 := (W5.kills hio).slots l5 k5
            refine ⟨Wi.narrow W6, ?_, ?_, W6.bun hst⟩
            · exact W5.frame _ _ (by rw [star_un uDi]; exact hDi)
            · rw [W5.old _ hst]; exact fDi
          refine ⟨hw, ?_⟩
          split at ei
          · rename_i ρb eb
            refine ht I N _ Fi ρa σ2 H3 F3 ρb true W4 eb _ fun H5 F5 s5 W5 => iteT ?_
            split at ei
            · rename_i ρc r ec
              split at ei
              · rename_i y ef
                split at ei
                · rename_i ρd zs ed
                  cases ei
                  refine he I N _ Fi ρb σ2 H5 F5 ρc r W5 ec _ fun v H6 F6 s6 W6 o6 => ?_
                  obtain ⟨F7, s7, W7, r7⟩ := o6.fix W6 ef
                  obtain ⟨W8, hD8, fD8, uD8⟩ := back W7
                  have sall : Same Fi F7 := ((s3.trans s5).trans s6).trans s7
                  refine ⟨acc, hD8, Evl.sz_lt (by rw [ri.length]; omega), ρc, F7, acc ++ [v], da ++ [y], zs, W8.poke bD fD8 uD8, si.trans sall, ok.up _ _ _ sall srci, upd_same, fD8, uD8, (ri.mono sall).append (.one r7), ed, by rw [List.append_assoc]; exact ey, by rw [List.length_append]; simp; omega⟩
                · cases ei
              · cases ei
            · cases ei
          · rename_i ρb eb
            refine ht I N _ Fi ρa σ2 H3 F3 ρb false W4 eb _ fun H5 F5 s5 W5 => iteF ?_
            obtain ⟨W8, hD8, fD8, uD8⟩ := back W5
            have sall : Same Fi F5 := s3.trans s5
            exact ⟨ρb, F5, acc, da, db, W8, si.trans sall, ok.up _ _ _ sall srci, hD8, fD8, uD8, ri.mono sall, ei, ey, by omega⟩
          · cases ei
        · cases ei
      · cases ei
    · have hie : i = items.length := by omega
      subst hie
      rw [List.drop_length] at ei
      unfold lcLoop at ei
      split at ei
      · rename_i hgd
        cases ei
        rw [List.append_nil] at ey
        subst ey
        refine .inl ⟨ok.stop I _ _ _ _ H' Fi Wi srci hgd, ?_⟩
        have Wf := Wi.slots (σ' := σ) (by rw [wipe_length]) fun j hj => (wipe_out hj).symm
        refine q _ H' Fi si Wf ⟨Dl, rfl, bD, fDi, ⟨acc, hDi, ri⟩, fun i b d hd hs => ?_⟩
        by_cases hv : i ∈ vs
        · cases kills_in hv hd
        · exact uDi i b d hd (by rw [wipe_out hv]; exact hs)
      · cases ei
theorem snd_lc {wi : TI} {g : TG} {tt : TT} {te : TE} {it : IF} {p : P} {c : TF} {f : EF} {vs : List Nat} (hi : SndI K wi it) (hg : SndG K g p) (ht : SndT K tt c) (he : Snd K te f) (hp : ∀ j ∈ p.slots, j ∈ vs) :
    Snd K (tLc wi g tt te vs) (eLc it p c f vs) := by
  intro I N B F0 ρ σ H F ρ' res W h Q q
  unfold eLc at h
  split at h
  · rename_i ρ1 items ks e1
    split at h
    · rename_i hlen
      have hio : ∀ {H1 F1 : Hp}, Rel K I N B F0 ρ1 σ H1 F1 → ∀ i ∈ vs, I i = none := fun W1 i hv => W1.noIo fun e z hp => by
        have := List.all_eq_true.mp hlen.2 i hv
        rw [z] at this
        simp [hp] at this
      split at h
      · split at h
        · rename_i ρe ys e2
          cases h
          refine hi I N B F0 ρ σ H F ρ1 items none W e1 _ fun J H1 F1 s1 W1 src => ?_
          obtain ⟨Src, ok, src⟩ := src
          exact lc_go hg ht he hp W1 ok (src I) hlen.1 (hio W1) e2 fun u H' F' s' W' o' => q u H' F' (s1.trans s') W' o'
        · cases h
      · rename_i s
        split at h
        · cases h
        · rename_i hsv
          split at h
          · rename_i b d e3
            split at h
            · rename_i ρe ys e2
              split at h
              · rename_i ρf e4
                cases h
                refine hi I N B F0 ρ σ H F ρ1 items (some s) W e1 _ fun J H1 F1 s1 W1 src => ?_
                obtain ⟨b', d', pp, g1, g2, ok⟩ := src
                rw [e3] at g1
                cases g1
                have WL := W1.lock e3 g2
                refine lc_go hg ht he hp WL ok (if_pos rfl) hlen.1 (fun i hv => ?_) e2 fun u H' F' s' W' o' => ?_
                · have : i ≠ s := fun z => hsv (by rw [← z]; exact hv)
                  show (if i = s then some (.ref pp) else I i) = none
                  rw [if_neg this]
                  exact hio W1 i hv
                · unfold unlock at e4
                  split at e4
                  · rename_i d2 e5
                    cases e4
                    have hI : ∀ q, I s = some q → b = true ∧ q = .ref pp := fun q hq => by
                      obtain ⟨k1, e, k2, k3⟩ := W1.io s q hq
                      rw [g2] at k1
                      rw [e3] at k2
                      cases k1; cases k2
                      cases b with
                      | true => exact ⟨rfl, rfl⟩
                      | false => cases k3
                    refine q u H' F' (s1.trans s') (W'.unlock e5 hI) ?_
                    obtain ⟨pt, rfl, bt, ft, ot, ut⟩ := o'
                    refine ⟨pt, rfl, bt, ft, ot, fun j bb dd hj hs => ?_⟩
                    by_cases hjs : j = s
                    · subst hjs
                      exact ut j _ _ e5 hs
                    · rw [List.getElem?_set_ne (Ne.symm hjs)] at hj
                      exact ut j _ _ hj hs
                  · cases e4
              · cases h
            · cases h
          · cases h
    · cases h
  · cases h
end
end Z

namespace Z
open PySem L2 PySem.Spec PyProof.Rows

/-! what a statement ends in -/
inductive Out where
  | nx | bk | ct | rt (r : R)
abbrev SF := Ev → Option (Ev × Out)

section
variable {X : Cx} {K : PySem.W.Frag} {I : Nat → Option V} {N B F0 F H : Hp} {ρ : Ev} {σ : L2.St}

/-- the list that stands at an own thing's place -/
theorem pget_list : PGet X (fun o i H Q => rIxL X.K o i H Q) := by
  intro pins s σ H x y v u Q I rx ry h
  obtain ⟨p, xs, i, z, rfl, rfl, hq, he, q⟩ := h
  cases rx
  obtain ⟨t, rfl⟩ := ry
  obtain ⟨its, r, pl, hz⟩ := I.list hq
  obtain ⟨j, h1, h2, h3, h4, h5⟩ := atI_get he
  obtain ⟨w, ew, rw'⟩ := r.get h2
  have hl := r.length
  have hn := line63
  have fin : EP X pins σ Q w s := ⟨z, H, I, rw', q⟩
  by_cases h0 : 0 ≤ i
  · have hj : i.toNat = j := by
      rw [seqIndex_of h0 h5] at h1
      exact Option.some.inj h1
    exact wpAny_getItem_list pl.isList h0 (by omega) (by rw [hj]; simpa using ew) fin
  · have hj : (i + (its.toArray.size : Int)).toNat = j := by
      rw [seqIndex_neg (by omega) h4] at h1
      rw [List.size_toArray, ← hl]
      exact Option.some.inj h1
    exact wpAny_getItem_list_neg pl.isList (by omega) (by rw [List.size_toArray] <;> omega) (by omega) (by rw [hj]; simpa using ew) fin

theorem Rel.mutate (W : Rel K I N B F0 ρ σ H F) {i : Nat} {b : Bool} {d d' : D} {p : Addr} {o : HO} (h : ρ[i]? = some (.ow b d)) (hs : σ[i]? = some (some (.ref p))) (own : OwnAt K N F (upd H p o) p d') :
    Rel K I N B F0 (ρ.set i (.ow b d')) σ (upd H p o) F := by
  obtain ⟨p', g1, gB, gF, _⟩ := W.ow i b d h
  rw [hs] at g1
  cases g1
  have hi : i < ρ.length := (List.getElem?_eq_some_iff.mp h).1
  refine ⟨fun a x e => ?_, W.dom, fun a x e => ?_, W.ini, W.old, by simp [W.len], fun j e q => ?_, fun j bb e q => ?_, fun j k bb c d1 d2 p' h1 h2 h3 h4 => ?_, fun j p' q => ?_, fun j e q => ?_⟩
  · rw [upd_ne (ne_of_none e gB)]; exact W.frame a x e
  · rw [upd_ne (ne_of_none e gF)]; exact W.sub a x e
  · by_cases hj : j = i
    · subst hj
      rw [List.getElem?_set_self hi] at q; cases q
    · rw [List.getElem?_set_ne (Ne.symm hj)] at q
      exact W.fz j e q
  · by_cases hj : j = i
    · subst hj
      rw [List.getElem?_set_self hi] at q; cases q
      exact ⟨p, hs, gB, gF, own⟩
    · rw [List.getElem?_set_ne (Ne.symm hj)] at q
      obtain ⟨p2, g1, g2, g3, g4⟩ := W.ow j bb e q
      have hne : p2 ≠ p := by
        rintro rfl
        exact hj (W.sep j i _ _ _ _ p2 q h g1 hs)
      exact ⟨p2, g1, g2, g3, g4.mono (Same.refl _) fun o' e => by rw [upd_ne hne]; exact e⟩
  · have e1 : ∃ b1 e1, ρ[j]? = some (.ow b1 e1) := by
      by_cases hj : j = i
      · subst hj; exact ⟨_, _, h⟩
      · rw [List.getElem?_set_ne (Ne.symm hj)] at h1; exact ⟨_, _, h1⟩
    have e2 : ∃ b1 e1, ρ[k]? = some (.ow b1 e1) := by
      by_cases hj : k = i
      · subst hj; exact ⟨_, _, h⟩
      · rw [List.getElem?_set_ne (Ne.symm hj)] at h2; exact ⟨_, _, h2⟩
    obtain ⟨b1, x1, e1⟩ := e1
    obtain ⟨b2, x2, e2⟩ := e2
    exact W.sep j k _ _ _ _ p' e1 e2 h3 h4
  · obtain ⟨g1, e, g2, g3⟩ := W.io j p' q
    by_cases hj : j = i
    · subst hj
      rw [h] at g2
      cases g2
      refine ⟨g1, _, List.getElem?_set_self hi, ?_⟩
      cases b <;> first | rfl | cases g3
    · exact ⟨g1, e, by rw [List.getElem?_set_ne (Ne.symm hj)]; exact g2, g3⟩
  · by_cases hj : j = i
    · subst hj
      rw [List.getElem?_set_self hi] at q; cases q
    · rw [List.getElem?_set_ne (Ne.symm hj)] at q
      exact W.pn j e q

/-! methods of lists that change them -/
inductive MM where
  | append | extend | pop | popAt
  deriving DecidableEq
def MM.name : MM → PySem.Str
  | .append => "append" | .extend => "extend" | .pop => "pop" | .popAt => "pop"
def MM.id : MM → String
  | .append => "list.append" | .extend => "list.extend" | .pop => "list.pop" | .popAt => "list.pop"
def MM.rd : MM → V → List V → Hp → VK → Prop
  | .append => rAppend | .extend => rExtend | .pop => rPop | .popAt => rPopAt
theorem mm_rule (m : MM) : MtR X m.id m.rd := by
  cases m with
  | append => exact mt_append
  | extend => exact mt_extend
  | pop => exact mt_pop
  | popAt => exact mt_popAt
/-- of the list's items and the arguments: what is handed back, the new items -/
def MM.dd (ρ : Ev) : MM → List D → List R → Option (D × List D)
  | .append, ds, [.val d] => if ds.length < 100000 then some (.non, ds ++ [d]) else none
  | .extend, ds, [r] => match r.look ρ with
    | some (.lst _ es) => if ds.length + es.length ≤ 100000 then some (.non, ds ++ es) else none
    | _ => none
  | .pop, ds, [] => (ds[ds.length - 1]?).map fun d => (d, ds.dropLast)
  | .popAt, ds, [.val (.int i)] => if -(2 ^ 63) ≤ i ∧ i < 2 ^ 63 then match ixN ds.length i with
    | some k => (ds[k]?).map fun d => (d, ds.eraseIdx k)
    | none => none
    else none
  | _, _, _ => none
def eMth (m : MM) (f : EF) (g : AF) : EF := fun ρ => match f ρ with
  | some (ρ1, .own i) => match ρ1[i]? with
    | some (.ow _ (.lst _ _)) => match g ρ1 with
      | some (ρ2, rs) => match ρ2[i]? with
        | some (.ow b (.lst fl ds)) => match m.dd ρ2 ds rs with
          | some (d, es) => some (ρ2.set i (.ow b (.lst fl es)), .val d)
          | none => none
        | _ => none
      | none => none
    | _ => none
  | _ => none
theorem rs0 {vs : List V} (h : RsOk K N B ρ σ H F vs []) : vs = [] := by cases h; rfl
theorem mm_ok (m : MM) (W : Rel K I N B F0 ρ σ H F) {p : Addr} {ws vs : List V} {ds es : List D} {rs : List R} {d : D} (hp : H p = some (.lst ws)) (r : Reps K N F ws ds) (o : RsOk K N B ρ σ H F vs rs) (e : m.dd ρ ds rs = some (d, es))
    {Q : VK} (q : ∀ u us, Rep K N F u d → Reps K N F us es → Q u (upd H p (.lst us))) : m.rd (.ref p) vs H Q := by
  unfold MM.dd at e
  split at e
  · split at e
    · cases e
      obtain ⟨v, rfl, rv⟩ := rs1 o
      exact ⟨p, ws, v, rfl, rfl, hp, Evl.sz_lt (by rw [r.length]; assumption), q _ _ .non (r.append (.one rv))⟩
    · cases e
  · rename_i rr
    split at e
    · rename_i fl zs e1
      split at e
      · cases e
        cases o with
        | @cons v _ _ _ h o' =>
          cases o'
          obtain ⟨a, us, rfl, h1, r1⟩ := h.see W e1
          exact ⟨p, a, ws, us, rfl, rfl, hp, h1, Evl.sz_of (by rw [r.length, r1.length]; assumption), q _ _ .non (r.append r1)⟩
      · cases e
    · cases e
  · obtain ⟨x, e1, e2⟩ := Option.map_eq_some_iff.mp e
    cases e2
    cases rs0 o
    obtain ⟨u, u1, u2⟩ := r.get e1
    exact ⟨p, ws, u, rfl, rfl, hp, by rw [r.length]; exact u1, q _ _ u2 r.dropLast⟩
  · split at e
    · rename_i hb
      split at e
      · rename_i k e1
        obtain ⟨x, e2, e3⟩ := Option.map_eq_some_iff.mp e
        cases e3
        obtain ⟨v, rfl, rv⟩ := rs1 o
        cases rv
        obtain ⟨u, u1, u2⟩ := r.get e2
        exact ⟨p, ws, _, k, u, rfl, rfl, hp, hb.1, hb.2, by rw [r.length]; exact (ixN_seq e1).1, u1, q _ _ u2 (r.eraseIdx k)⟩
      · cases e
    · cases e
  · cases e
theorem snd_mth {to : TE} {ta : TA} {f : EF} {g : AF} (m : MM) (hf : Snd K to f) (hg : SndA K ta g) : Snd K (tBM K "list" m.rd to ta) (eMth m f g) := by
  intro I N B F0 ρ σ H F ρ' res W h Q q
  unfold eMth at h
  split at h
  · rename_i ρ1 i e1
    split at h
    · rename_i b0 fl0 ds0 e0
      split at h
      · rename_i ρ2 rs e2
        split at h
        · rename_i b fl ds e3
          split at h
          · rename_i d es e4
            cases h
            refine hf I N B F0 ρ σ H F ρ1 _ W e1 _ fun v H1 F1 s1 W1 o1 => ?_
            obtain ⟨b1, d1, p, g1, rfl, g3⟩ := o1
            rw [e0] at g1
            cases g1
            obtain ⟨p', k1, kB, kF, vs0, k4, k5⟩ := W1.ow i _ _ e0
            rw [g3] at k1; cases k1
            refine ⟨.inl ⟨rfl, vs0, .inl (.inl k4)⟩, ?_⟩
            refine hg I N B F0 ρ1 σ H1 F1 ρ2 rs W1 e2 _ fun vs H2 F2 s2 W2 o2 => ?_
            obtain ⟨p', k1, kB, kF, ws, k6, k7⟩ := W2.ow i _ _ e3
            rw [g3] at k1; cases k1
            refine mm_ok m W2 k6 k7 o2 e4 fun u us ru rus => ?_
            exact q u _ F2 (s1.trans s2) (W2.mutate (d' := .lst fl es) e3 g3 ⟨us, upd_same, rus⟩) ru
          · cases h
        · cases h
      · cases h
    · cases h
  · cases h
theorem snd_mth0 {to : TE} {f : EF} (m : MM) (hf : Snd K to f) : Snd K (tBM0 K "list" m.rd to) (eMth m f aNil) := by
  intro I N B F0 ρ σ H F ρ' res W h Q q
  have := snd_mth m hf snd_nil I N B F0 ρ σ H F ρ' res W h Q q
  exact this

/-! statements -/
def EndsOk (K : PySem.W.Frag) (I : Nat → Option V) (N B F0 : Hp) (D : Ends) (ρ : Ev) (F : Hp) : Out → Prop
  | .nx => ∀ σ' H' F', Same F F' → Rel K I N B F0 ρ σ' H' F' → D.nx σ' H'
  | .bk => ∀ σ' H' F', Same F F' → Rel K I N B F0 ρ σ' H' F' → D.bk σ' H'
  | .ct => ∀ σ' H' F', Same F F' → Rel K I N B F0 ρ σ' H' F' → D.ct σ' H'
  | .rt r => ∀ v σ' H' F', Same F F' → Rel K I N B F0 ρ σ' H' F' → ResOk K N B ρ σ' H' F' v r → D.rt v H'
theorem EndsOk.up {D : Ends} {F' : Hp} {o : Out} (h : EndsOk K I N B F0 D ρ F o) (s : Same F F') : EndsOk K I N B F0 D ρ F' o := by
  cases o with
  | nx => exact fun σ' H' F2 s2 W => h σ' H' F2 (s.trans s2) W
  | bk => exact fun σ' H' F2 s2 W => h σ' H' F2 (s.trans s2) W
  | ct => exact fun σ' H' F2 s2 W => h σ' H' F2 (s.trans s2) W
  | rt r => exact fun v σ' H' F2 s2 W o => h v σ' H' F2 (s.trans s2) W o
def SndS (K : PySem.W.Frag) (ts : TS) (f : SF) : Prop := ∀ (I : Nat → Option V) (N B F0 : Hp) (ρ : Ev) (σ : L2.St) (H F : Hp) (ρ' : Ev) (o : Out), Rel K I N B F0 ρ σ H F → f ρ = some (ρ', o) →
  ∀ D : Ends, EndsOk K I N B F0 D ρ' F o → ts D σ H

def sSkip : SF := fun ρ => some (ρ, .nx)
def sBreak : SF := fun ρ => some (ρ, .bk)
def sCont : SF := fun ρ => some (ρ, .ct)
def sSeq (f g : SF) : SF := fun ρ => match f ρ with
  | some (ρ1, .nx) => g ρ1
  | r => r
def storeR : P → R → Ev → Option Ev
  | .n i, .tmp d, ρ => setC ρ i (.ow false d)
  | .n i, .own j, ρ => if i = j then none else match ρ[j]? with
    | some (.ow false d) => setC (ρ.set j .dead) i (.ow false d)
    | _ => none
  | p, .val d, ρ => p.bind1 d ρ
  | _, _, _ => none
/-- x = e, what is new becomes the slot's own -/
def sAsg (p : P) (f : EF) : SF := fun ρ => match f ρ with
  | some (ρ1, r) => match storeR p r ρ1 with
    | some ρ2 => some (ρ2, .nx)
    | none => none
  | none => none
/-- x = e, shared -/
def sAsgF (p : P) (f : EF) : SF := fun ρ => match f ρ with
  | some (ρ1, r) => match r.fix with
    | some d => match p.bind1 d ρ1 with
      | some ρ2 => some (ρ2, .nx)
      | none => none
    | none => none
  | none => none
def sDrop (f : EF) : SF := fun ρ => match f ρ with
  | some (ρ1, _) => some (ρ1, .nx)
  | none => none
def sRet (f : EF) : SF := fun ρ => match f ρ with
  | some (ρ1, r) => some (ρ1, .rt r)
  | none => none
def sRetN : SF := fun ρ => some (ρ, .rt (.val .non))
def sIf (t : TF) (f g : SF) : SF := fun ρ => match t ρ with
  | some (ρ1, b) => if b = true then f ρ1 else g ρ1
  | none => none
/-- from here on a slot's own thing is shared -/
def sFz (i : Nat) : SF := fun ρ => match ρ[i]? with
  | some (.ow false d) => some (ρ.set i (.fz d), .nx)
  | _ => none
theorem snds_skip : SndS K tNext sSkip := by
  intro I N B F0 ρ σ H F ρ' o W h D e
  cases h
  exact e σ H F (Same.refl _) W
theorem snds_break : SndS K tBreak sBreak := by
  intro I N B F0 ρ σ H F ρ' o W h D e
  cases h
  exact e σ H F (Same.refl _) W
theorem snds_cont : SndS K tCont sCont := by
  intro I N B F0 ρ σ H F ρ' o W h D e
  cases h
  exact e σ H F (Same.refl _) W
theorem snds_seq {t u : TS} {f g : SF} (hf : SndS K t f) (hg : SndS K u g) : SndS K (tSeq t u) (sSeq f g) := by
  intro I N B F0 ρ σ H F ρ' o W h D e
  unfold sSeq at h
  split at h
  · rename_i ρ1 e1
    refine hf I N B F0 ρ σ H F ρ1 .nx W e1 { D with nx := u D } fun σ1 H1 F1 s1 W1 => ?_
    exact hg I N B F0 ρ1 σ1 H1 F1 ρ' o W1 h D (e.up s1)
  · rename_i hn
    refine hf I N B F0 ρ σ H F ρ' o W h { D with nx := u D } ?_
    cases o with
    | nx => exact absurd h (hn ρ')
    | bk => exact e
    | ct => exact e
    | rt r => exact e
theorem setC_inv {i : Nat} {c : C} {ρ' : Ev} (h : setC ρ i c = some ρ') : i < ρ.length ∧ (∀ c, ρ[i]? = some c → c.pin ≠ true) ∧ ρ' = ρ.set i c := by
  unfold setC at h
  split at h
  · rename_i c' hn
    split at h
    · cases h
    · rename_i hc
      cases h
      exact ⟨(List.getElem?_eq_some_iff.mp hn).1, fun e z => by rw [hn] at z; cases z; exact hc, rfl⟩
  · cases h
theorem snds_asgF {te : TE} {g : TG} {p : P} {f : EF} (hf : Snd K te f) (hg : SndG K g p) : SndS K (tAsg te g) (sAsgF p f) := by
  intro I N B F0 ρ σ H F ρ' o W h D e
  unfold sAsgF at h
  split at h
  · rename_i ρ1 r e1
    split at h
    · rename_i d e2
      split at h
      · rename_i ρ2 e3
        cases h
        refine hf I N B F0 ρ σ H F ρ1 r W e1 _ fun v H1 F1 s1 W1 o1 => ?_
        obtain ⟨F2, s2, W2, r2⟩ := o1.fix W1 e2
        exact hg I N B F0 ρ1 σ H1 F2 ρ' v d W2 r2 e3 D.nx fun σ' W3 _ _ => e σ' H1 F2 (s1.trans s2) W3
      · cases h
    · cases h
  · cases h
theorem snds_asgN {te : TE} {i : Nat} {f : EF} (hf : Snd K te f) : SndS K (tAsg te (gName i)) (sAsg (.n i) f) := by
  intro I N B F0 ρ σ H F ρ' o W h D e
  unfold sAsg at h
  split at h
  · rename_i ρ1 r e1
    split at h
    · rename_i ρ2 e3
      cases h
      refine hf I N B F0 ρ σ H F ρ1 r W e1 _ fun v H1 F1 s1 W1 o1 => ?_
      cases r with
      | val d => exact e _ H1 F1 s1 (W1.set (by simpa [storeR, P.bind1] using e3) o1)
      | tmp d =>
        obtain ⟨h1, h2, rfl⟩ := setC_inv (show setC ρ1 i (.ow false d) = some ρ' from e3)
        obtain ⟨p, rfl, b, fr, ow, un⟩ := o1
        exact e _ H1 F1 s1 (W1.setOw h1 (W1.noIo h2) b fr ow un)
      | own j =>
        simp only [storeR] at e3
        split at e3
        · cases e3
        · rename_i hij
          split at e3
          · rename_i d hj
            obtain ⟨h1, h2, rfl⟩ := setC_inv e3
            obtain ⟨b0, d0, p, g1, rfl, g3⟩ := o1
            rw [hj] at g1
            cases g1
            obtain ⟨p', k1, kB, kF, k4⟩ := W1.ow j _ _ hj
            rw [g3] at k1; cases k1
            have hjo : I j = none := W1.noIo fun e z => by rw [hj] at z; cases z; simp [C.pin]
            have W2 := W1.killed hjo
            have un : Unowned (ρ1.set j .dead) σ p := by
              intro k bb dd hk hs
              by_cases hkj : k = j
              · subst hkj
                rw [List.getElem?_set_self (List.getElem?_eq_some_iff.mp hj).1] at hk
                cases hk
              · rw [List.getElem?_set_ne (Ne.symm hkj)] at hk
                exact hkj (W1.sep k j _ _ _ _ p hk hj hs g3)
            exact e _ H1 F1 s1 (W2.setOw h1 (W2.noIo h2) kB kF k4 un)
          · cases e3
    · cases h
  · cases h
theorem snds_asgP {te : TE} {g : TG} {p : P} {f : EF} (hf : Snd K te f) (hg : SndG K g p) (hp : ∀ i, p ≠ .n i) : SndS K (tAsg te g) (sAsg p f) := by
  intro I N B F0 ρ σ H F ρ' o W h D e
  unfold sAsg at h
  split at h
  · rename_i ρ1 r e1
    split at h
    · rename_i ρ2 e3
      cases h
      refine hf I N B F0 ρ σ H F ρ1 r W e1 _ fun v H1 F1 s1 W1 o1 => ?_
      cases r with
      | val d =>
        have e4 : p.bind1 d ρ1 = some ρ' := by
          cases p <;> simpa [storeR] using e3
        exact hg I N B F0 ρ1 σ H1 F1 ρ' v d W1 o1 e4 D.nx fun σ' W3 _ _ => e σ' H1 F1 s1 W3
      | tmp d =>
        cases p with
        | n i => exact absurd rfl (hp i)
        | _ => simp [storeR] at e3
      | own j =>
        cases p with
        | n i => exact absurd rfl (hp i)
        | _ => simp [storeR] at e3
    · cases h
  · cases h
theorem snds_drop {te : TE} {f : EF} (hf : Snd K te f) : SndS K (tDrop te) (sDrop f) := by
  intro I N B F0 ρ σ H F ρ' o W h D e
  unfold sDrop at h
  split at h
  · rename_i ρ1 r e1
    cases h
    exact hf I N B F0 ρ σ H F ρ' r W e1 _ fun v H1 F1 s1 W1 o1 => e σ H1 F1 s1 W1
  · cases h
theorem snds_ret {te : TE} {f : EF} (hf : Snd K te f) : SndS K (tRet te) (sRet f) := by
  intro I N B F0 ρ σ H F ρ' o W h D e
  unfold sRet at h
  split at h
  · rename_i ρ1 r e1
    cases h
    exact hf I N B F0 ρ σ H F ρ' r W e1 _ fun v H1 F1 s1 W1 o1 => e v σ H1 F1 s1 W1 o1
  · cases h
theorem snds_retN : SndS K tRetN sRetN := by
  intro I N B F0 ρ σ H F ρ' o W h D e
  cases h
  exact e _ σ H F (Same.refl _) W .non
theorem snds_if {tt : TT} {t u : TS} {c : TF} {f g : SF} (hc : SndT K tt c) (hf : SndS K t f) (hg : SndS K u g) : SndS K (tIfS tt t u) (sIf c f g) := by
  intro I N B F0 ρ σ H F ρ' o W h D e
  unfold sIf at h
  split at h
  · rename_i ρ1 b e1
    refine hc I N B F0 ρ σ H F ρ1 b W e1 _ fun H1 F1 s1 W1 => ?_
    cases b with
    | true => exact iteT (hf I N B F0 ρ1 σ H1 F1 ρ' o W1 h D (e.up s1))
    | false => exact iteF (hg I N B F0 ρ1 σ H1 F1 ρ' o W1 h D (e.up s1))
  · cases h
/-- sharing is no statement: it goes ahead of one -/
theorem snds_fz {t : TS} {i : Nat} {f : SF} (hf : SndS K t f) : SndS K t (sSeq (sFz i) f) := by
  intro I N B F0 ρ σ H F ρ' o W h D e
  unfold sSeq sFz at h
  cases hi : ρ[i]? with
  | none => simp only [hi] at h; cases h
  | some c =>
    cases c with
    | dead => simp only [hi] at h; cases h
    | fz d => simp only [hi] at h; cases h
    | pn d => simp only [hi] at h; cases h
    | pd => simp only [hi] at h; cases h
    | ow b d =>
      cases b with
      | true => simp only [hi] at h; cases h
      | false =>
        simp only [hi] at h
        obtain ⟨p, k1, kB, kF, k4⟩ := W.ow i _ _ hi
        have hjo : I i = none := W.noIo fun e z => by rw [hi] at z; cases z; simp [C.pin]
        have hl := (List.getElem?_eq_some_iff.mp hi).1
        have un : Unowned (ρ.set i .dead) σ p := by
          intro k bb dd hk hs
          by_cases hkj : k = i
          · subst hkj
            rw [List.getElem?_set_self hl] at hk
            cases hk
          · rw [List.getElem?_set_ne (Ne.symm hkj)] at hk
            exact hkj (W.sep k i _ _ _ _ p hk hi hs k1)
        obtain ⟨F2, s2, W2, r2⟩ := k4.rep (W.killed hjo) kB kF un
        have hset : setC (ρ.set i .dead) i (.fz d) = some (ρ.set i (.fz d)) := by
          unfold setC
          rw [List.getElem?_set_self hl]
          simp [C.pin]
        have W3 := W2.set hset r2
        have hs : σ.set i (some (.ref p)) = σ := by
          refine List.ext_getElem? fun j => ?_
          by_cases hj : j = i
          · subst hj
            rw [List.getElem?_set_self (List.getElem?_eq_some_iff.mp k1).1, k1]
          · rw [List.getElem?_set_ne (Ne.symm hj)]
        rw [hs] at W3
        exact hf I N B F0 _ σ H F2 ρ' o W3 h D (e.up s2)

/-! x op= e -/
def augD : Operator → D → D → Option D
  | .Add, .int i, .int j => some (.int (i + j))
  | .Sub, .int i, .int j => some (.int (i - j))
  | _, _, _ => none
def augR : Operator → TIp
  | .Add => ipI fun i j => i + j
  | .Sub => ipI fun i j => i - j
  | _ => fun _ _ _ _ => False
theorem aug_rule (o : Operator) : PIp X o (augR o) := by
  cases o with
  | Add => exact ip_add
  | Sub => exact ip_sub
  | _ => exact fun _ _ _ _ _ _ _ _ _ _ _ _ h => h.elim
theorem aug_ok (o : Operator) {x y d : D} {v w : V} {H' : Hp} {Q : VK} (h : augD o x y = some d) (rx : Rep K N F v x) (ry : Rep K N F w y) (q : ∀ u, Rep K N F u d → Q u H') : augR o v w H' Q := by
  unfold augD at h
  split at h
  · cases h; cases rx; cases ry; exact ⟨_, _, rfl, rfl, q _ (.int _)⟩
  · cases h; cases rx; cases ry; exact ⟨_, _, rfl, rfl, q _ (.int _)⟩
  · cases h
def sAug (i : Nat) (op : Operator) (f : EF) : SF := fun ρ => match ρ[i]? with
  | some (.fz x) => match f ρ with
    | some (ρ1, .val y) => match augD op x y with
      | some d => match setC ρ1 i (.fz d) with
        | some ρ2 => some (ρ2, .nx)
        | none => none
      | none => none
    | _ => none
  | _ => none
theorem snds_aug {te : TE} {i : Nat} {op : Operator} {f : EF} (hf : Snd K te f) : SndS K (tAug i te (augR op)) (sAug i op f) := by
  intro I N B F0 ρ σ H F ρ' o W h D e
  unfold sAug at h
  split at h
  · rename_i x hx
    split at h
    · rename_i ρ1 y e1
      split at h
      · rename_i d e2
        split at h
        · rename_i ρ2 e3
          cases h
          obtain ⟨v, g1, g2⟩ := W.fz i x hx
          refine ⟨v, g1, hf I N B F0 ρ σ H F ρ1 _ W e1 _ fun w H1 F1 s1 W1 o1 => ?_⟩
          exact aug_ok op e2 (g2.mono s1) o1 fun u ru => e _ H1 F1 s1 (W1.set e3 ru)
        · cases h
      · cases h
    · cases h
  · cases h
/-- x[k] = e, x[k] op= e, x a slot's own list -/
def sSet (i : Nat) (k f : EF) : SF := fun ρ => match f ρ with
  | some (ρ1, r) => match r.fix with
    | some d => match ρ1[i]? with
      | some (.ow _ _) => match k ρ1 with
        | some (ρ2, .val (.int j)) => match ρ2[i]? with
          | some (.ow b (.lst fl ds)) => match ixN ds.length j with
            | some m => some (ρ2.set i (.ow b (.lst fl (ds.set m d))), .nx)
            | none => none
          | _ => none
        | _ => none
      | _ => none
    | none => none
  | none => none
theorem snds_set {te tk : TE} {i : Nat} {f k : EF} (hf : Snd K te f) (hk : Snd K tk k) : SndS K (tAsg te (gSub (tVar i) tk rSetL)) (sSet i k f) := by
  intro I N B F0 ρ σ H F ρ' o W h D e
  unfold sSet at h
  split at h
  · rename_i ρ1 r e1
    split at h
    · rename_i d e2
      split at h
      · rename_i b0 d0 e0
        split at h
        · rename_i ρ2 j e3
          split at h
          · rename_i b fl ds e4
            split at h
            · rename_i m e5
              cases h
              refine hf I N B F0 ρ σ H F ρ1 r W e1 _ fun v H1 F1 s1 W1 o1 => ?_
              obtain ⟨F2, s2, W2, r2⟩ := o1.fix W1 e2
              obtain ⟨p, k1, _, _, _⟩ := W2.ow i _ _ e0
              refine ⟨.ref p, k1, hk I N B F0 ρ1 σ H1 F2 ρ2 _ W2 e3 _ fun u H3 F3 s3 W3 o3 => ?_⟩
              cases o3
              obtain ⟨p', k2, _, _, ws, k6, k7⟩ := W3.ow i _ _ e4
              rw [k1] at k2; cases k2
              exact ⟨p, ws, j, m, rfl, rfl, k6, by rw [k7.length]; exact e5, e σ _ F3 ((s1.trans s2).trans s3) (W3.mutate (d' := .lst fl (ds.set m d)) e4 k1 ⟨_, upd_same, k7.set (r2.mono s3) m⟩)⟩
            · cases h
          · cases h
        · cases h
      · cases h
    · cases h
  · cases h
def sAugIx (i : Nat) (k : EF) (op : Operator) (f : EF) : SF := fun ρ => match ρ[i]? with
  | some (.ow _ _) => match k ρ with
    | some (ρ1, .val (.int j)) => match ρ1[i]? with
      | some (.ow _ (.lst _ ds0)) => match atI ds0 j with
        | some x => match f ρ1 with
          | some (ρ2, .val y) => match augD op x y with
            | some d => match ρ2[i]? with
              | some (.ow b (.lst fl ds)) => match ixN ds.length j with
                | some m => some (ρ2.set i (.ow b (.lst fl (ds.set m d))), .nx)
                | none => none
              | _ => none
            | none => none
          | _ => none
        | none => none
      | _ => none
    | _ => none
  | _ => none
theorem snds_augIx {te tk : TE} {i : Nat} {op : Operator} {f k : EF} (hf : Snd K te f) (hk : Snd K tk k) : SndS K (tAugS (tVar i) tk te (fun o i H Q => rIxL K o i H Q) (augR op) rSetL) (sAugIx i k op f) := by
  intro I N B F0 ρ σ H F ρ' o W h D e
  unfold sAugIx at h
  split at h
  · rename_i b0 d0 e0
    split at h
    · rename_i ρ1 j e1
      split at h
      · rename_i b1 fl1 ds0 e2
        split at h
        · rename_i x e3
          split at h
          · rename_i ρ2 y e4
            split at h
            · rename_i d e5
              split at h
              · rename_i b fl ds e6
                split at h
                · rename_i m e7
                  cases h
                  obtain ⟨p, k1, _, _, _⟩ := W.ow i _ _ e0
                  refine ⟨.ref p, k1, hk I N B F0 ρ σ H F ρ1 _ W e1 _ fun u H1 F1 s1 W1 o1 => ?_⟩
                  cases o1
                  obtain ⟨p', k2, _, _, ws0, k6, k7⟩ := W1.ow i _ _ e2
                  rw [k1] at k2; cases k2
                  obtain ⟨jj, g1, g2⟩ := getElem_atI (ys := ws0) k7.length.symm e3
                  obtain ⟨vx, u1, u2⟩ := k7.get g1
                  refine ⟨p, ws0, j, vx, rfl, rfl, .inl (.inl k6), g2 vx u1, hf I N B F0 ρ1 σ H1 F1 ρ2 _ W1 e4 _ fun w H2 F2 s2 W2 o2 => ?_⟩
                  refine aug_ok op e5 (u2.mono s2) o2 fun z rz => ?_
                  obtain ⟨p', k3, _, _, ws, k8, k9⟩ := W2.ow i _ _ e6
                  rw [k1] at k3; cases k3
                  exact ⟨p, ws, j, m, rfl, rfl, k8, by rw [k9.length]; exact e7, e σ _ F2 (s1.trans s2) (W2.mutate (d' := .lst fl (ds.set m d)) e6 k1 ⟨_, upd_same, k9.set rz m⟩)⟩
                · cases h
              · cases h
            · cases h
          · cases h
        · cases h
      · cases h
    · cases h
  · cases h

/-! loops -/
def forLoop (p : P) (f : SF) (g : Ev → Bool) : List D → Ev → Option (Ev × Out)
  | [], ρ => if g ρ = true then some (ρ, .nx) else none
  | d :: ds, ρ => if g ρ = true then match p.bind1 d ρ with
    | some ρ1 => match f ρ1 with
      | some (ρ2, .nx) => forLoop p f g ds ρ2
      | some (ρ2, .ct) => forLoop p f g ds ρ2
      | some (ρ2, .bk) => some (ρ2, .nx)
      | some (ρ2, .rt r) => some (ρ2, .rt r)
      | none => none
    | none => none
    else none
def sFor (it : IF) (p : P) (f : SF) : SF := fun ρ => match it ρ with
  | some (ρ1, items, none) => forLoop p f (fun _ => true) items ρ1
  | some (ρ1, items, some s) => match ρ1[s]? with
    | some (.ow b d) => match forLoop p f (still s d) items (ρ1.set s (.ow true d)) with
      | some (ρ2, o) => match unlock s b ρ2 with
        | some ρ3 => some (ρ3, o)
        | none => none
      | none => none
    | _ => none
  | none => none
theorem for_go {g : TG} {tb : TS} {p : P} {f : SF} {gd : Ev → Bool} {Src : (Nat → Option V) → Hp → Prop} {J : It} {items : List D} {ρ1 ρe : Ev} {H1 F1 : Hp} {oe : Out} {D : Ends} (hg : SndG K g p) (hb : SndS K tb f) (W1 : Rel K I N B F0 ρ1 σ H1 F1) (ok : ItOk K N J items gd Src) (src : Src I F1)
    (h : forLoop p f gd items ρ1 = some (ρe, oe)) (e : EndsOk K I N B F0 D ρe F1 oe) :
    ∃ W : Nat → Nat → L2.St → Hp → Prop, (∃ m, W 0 m σ H1) ∧ ∀ i m σ H, W i m σ H →
  (J.stop i H ∧ D.nx σ H) ∨ (J.go i H ∧ ∃ N : L2.St → Hp → Prop, (∀ σ' H', N σ' H' → ∃ m', m' < m ∧ W (i + 1) m' σ' H') ∧ ∀ x H', J.yld i H x H' → g x σ H' fun σ2 H2 => tb { D with nx := N, ct := N, bk := D.nx } σ2 H2) := by
  refine ⟨fun i m σ' H' => ∃ (ρi : Ev) (Fi : Hp), Rel K I N B F0 ρi σ' H' Fi ∧ Same F1 Fi ∧ Src I Fi ∧ forLoop p f gd (items.drop i) ρi = some (ρe, oe) ∧ i ≤ items.length ∧ m = items.length - i, ⟨items.length, ρ1, F1, W1, Same.refl _, src, h, Nat.zero_le _, rfl⟩, ?_⟩
  rintro i m σ' H' ⟨ρi, Fi, Wi, si, srci, ei, hil, rfl⟩
  by_cases hlt : i < items.length
  · obtain ⟨d, hd⟩ : ∃ d, items[i]? = some d := ⟨items[i], by simp [hlt]⟩
    have hdrop : items.drop i = d :: items.drop (i + 1) := by
      rw [List.drop_eq_getElem_cons hlt]
      rw [List.getElem?_eq_getElem hlt] at hd
      rw [Option.some.inj hd]
    rw [hdrop] at ei
    unfold forLoop at ei
    split at ei
    · rename_i hgd
      obtain ⟨hgo, hy⟩ := ok.go i d hd I B F0 ρi σ' H' Fi Wi srci hgd
      refine .inr ⟨hgo, fun σ2 H2 => ∃ (ρ2 : Ev) (F2 : Hp), Rel K I N B F0 ρ2 σ2 H2 F2 ∧ Same F1 F2 ∧ Src I F2 ∧ forLoop p f gd (items.drop (i + 1)) ρ2 = some (ρe, oe), fun σ2 H2 ⟨ρ2, F2, g1, g2, g3, g4⟩ => ⟨items.length - (i + 1), by omega, ρ2, F2, g1, g2, g3, g4, hlt, rfl⟩, fun x H3 hx => ?_⟩
      obtain ⟨F3, s3, W3, r3⟩ := hy x H3 hx
      split at ei
      · rename_i ρa ea
        refine hg I N B F0 ρi σ' H3 F3 ρa x d W3 r3 ea _ fun σ2 W4 _ _ => ?_
        have src3 : Src I F3 := ok.up _ _ _ s3 srci
        have s13 : Same F1 F3 := si.trans s3
        split at ei
        · rename_i ρb eb
          exact hb I N B F0 ρa σ2 H3 F3 ρb .nx W4 eb _ fun σ5 H5 F5 s5 W5 => ⟨ρb, F5, W5, s13.trans s5, ok.up _ _ _ s5 src3, ei⟩
        · rename_i ρb eb
          exact hb I N B F0 ρa σ2 H3 F3 ρb .ct W4 eb _ fun σ5 H5 F5 s5 W5 => ⟨ρb, F5, W5, s13.trans s5, ok.up _ _ _ s5 src3, ei⟩
        · rename_i ρb eb
          cases ei
          exact hb I N B F0 ρa σ2 H3 F3 ρe .bk W4 eb _ fun σ5 H5 F5 s5 W5 => e σ5 H5 F5 (s13.trans s5) W5
        · rename_i ρb r eb
          cases ei
          exact hb I N B F0 ρa σ2 H3 F3 ρe (.rt r) W4 eb _ fun v σ5 H5 F5 s5 W5 o5 => e v σ5 H5 F5 (s13.trans s5) W5 o5
        · cases ei
      · cases ei
    · cases ei
  · have hie : i = items.length := by omega
    subst hie
    rw [List.drop_length] at ei
    unfold forLoop at ei
    split at ei
    · rename_i hgd
      cases ei
      exact .inl ⟨ok.stop I B F0 ρe σ' H' Fi Wi srci hgd, e σ' H' Fi si Wi⟩
    · cases ei
theorem snds_for {wi : TI} {g : TG} {tb : TS} {it : IF} {p : P} {f : SF} (hi : SndI K wi it) (hg : SndG K g p) (hb : SndS K tb f) : SndS K (tFor wi g tb) (sFor it p f) := by
  intro I N B F0 ρ σ H F ρ' o W h D e
  unfold sFor at h
  split at h
  · rename_i ρ1 items e1
    refine hi I N B F0 ρ σ H F ρ1 items none W e1 _ fun J H1 F1 s1 W1 src => ?_
    obtain ⟨Src, ok, src⟩ := src
    exact for_go hg hb W1 ok (src I) h (e.up s1)
  · rename_i ρ1 items s e1
    split at h
    · rename_i b d e3
      split at h
      · rename_i ρ2 o2 e4
        split at h
        · rename_i ρ3 e5
          cases h
          refine hi I N B F0 ρ σ H F ρ1 items (some s) W e1 _ fun J H1 F1 s1 W1 src => ?_
          obtain ⟨b', d', pp, g1, g2, ok⟩ := src
          rw [e3] at g1
          cases g1
          have hI : ∀ q, I s = some q → b = true ∧ q = .ref pp := fun q hq => by
            obtain ⟨k1, e, k2, k3⟩ := W1.io s q hq
            rw [g2] at k1
            rw [e3] at k2
            cases k1; cases k2
            cases b with
            | true => exact ⟨rfl, rfl⟩
            | false => cases k3
          refine for_go hg hb (W1.lock e3 g2) ok (if_pos rfl) e4 ?_
          unfold unlock at e5
          split at e5
          · rename_i d2 e6
            cases e5
            have hl : s < ρ2.length := (List.getElem?_eq_some_iff.mp e6).1
            cases o with
            | nx => exact fun σ' H' F' s' W' => e σ' H' F' (s1.trans s') (W'.unlock e6 hI)
            | bk => exact fun σ' H' F' s' W' => e σ' H' F' (s1.trans s') (W'.unlock e6 hI)
            | ct => exact fun σ' H' F' s' W' => e σ' H' F' (s1.trans s') (W'.unlock e6 hI)
            | rt r =>
              refine fun v σ' H' F' s' W' o' => e v σ' H' F' (s1.trans s') (W'.unlock e6 hI) ?_
              cases r with
              | val d => exact o'
              | own i =>
                obtain ⟨b0, d0, p0, k1, k2, k3⟩ := o'
                by_cases his : i = s
                · subst his
                  exact ⟨_, _, p0, List.getElem?_set_self hl, k2, k3⟩
                · exact ⟨b0, d0, p0, by rw [List.getElem?_set_ne (Ne.symm his)]; exact k1, k2, k3⟩
              | tmp d =>
                obtain ⟨pt, rfl, bt, ft, ot, ut⟩ := o'
                refine ⟨pt, rfl, bt, ft, ot, fun j bb dd hj hs => ?_⟩
                by_cases hjs : j = s
                · subst hjs
                  exact ut j _ _ e6 hs
                · rw [List.getElem?_set_ne (Ne.symm hjs)] at hj
                  exact ut j _ _ hj hs
          · cases e5
        · cases h
      · cases h
    · cases h
  · cases h
def whLoop (t : TF) (f : SF) : Nat → Ev → Option (Ev × Out)
  | 0, _ => none
  | n + 1, ρ => match t ρ with
    | some (ρ1, true) => match f ρ1 with
      | some (ρ2, .nx) => whLoop t f n ρ2
      | some (ρ2, .ct) => whLoop t f n ρ2
      | some (ρ2, .bk) => some (ρ2, .nx)
      | some (ρ2, .rt r) => some (ρ2, .rt r)
      | none => none
    | some (ρ1, false) => some (ρ1, .nx)
    | none => none
def sWh (n : Nat) (t : TF) (f : SF) : SF := whLoop t f n
theorem snds_wh {tt : TT} {tb : TS} {t : TF} {f : SF} {n : Nat} (ht : SndT K tt t) (hb : SndS K tb f) : SndS K (tWhile tt tb) (sWh n t f) := by
  intro I N B F0 ρ σ H F ρ' o W h D e
  refine ⟨fun m σ' H' => ∃ (ρi : Ev) (Fi : Hp), Rel K I N B F0 ρi σ' H' Fi ∧ Same F Fi ∧ whLoop t f m ρi = some (ρ', o), ⟨n, ρ, F, W, Same.refl _, h⟩, ?_⟩
  rintro m σ' H' ⟨ρi, Fi, Wi, si, ei⟩
  cases m with
  | zero => cases ei
  | succ m =>
    unfold whLoop at ei
    split at ei
    · rename_i ρa ea
      refine ht I N B F0 ρi σ' H' Fi ρa true Wi ea _ fun H1 F1 s1 W1 => iteT ⟨fun σ2 H2 => ∃ (ρ2 : Ev) (F2 : Hp), Rel K I N B F0 ρ2 σ2 H2 F2 ∧ Same F F2 ∧ whLoop t f m ρ2 = some (ρ', o), fun σ2 H2 g => ⟨m, Nat.lt_succ_self m, g⟩, ?_⟩
      split at ei
      · rename_i ρb eb
        exact hb I N B F0 ρa σ' H1 F1 ρb .nx W1 eb _ fun σ5 H5 F5 s5 W5 => ⟨ρb, F5, W5, (si.trans s1).trans s5, ei⟩
      · rename_i ρb eb
        exact hb I N B F0 ρa σ' H1 F1 ρb .ct W1 eb _ fun σ5 H5 F5 s5 W5 => ⟨ρb, F5, W5, (si.trans s1).trans s5, ei⟩
      · rename_i ρb eb
        cases ei
        exact hb I N B F0 ρa σ' H1 F1 ρ' .bk W1 eb _ fun σ5 H5 F5 s5 W5 => e σ5 H5 F5 ((si.trans s1).trans s5) W5
      · rename_i ρb r eb
        cases ei
        exact hb I N B F0 ρa σ' H1 F1 ρ' (.rt r) W1 eb _ fun v σ5 H5 F5 s5 W5 o5 => e v σ5 H5 F5 ((si.trans s1).trans s5) W5 o5
      · cases ei
    · rename_i ρa ea
      cases ei
      exact ht I N B F0 ρi σ' H' Fi ρ' false Wi ea _ fun H1 F1 s1 W1 => iteF (e σ' H1 F1 (si.trans s1) W1)
    · cases ei
end
end Z

namespace Z
open PySem L2

abbrev FS := List D → Option (D × R)
/-- the arguments as a def finds them; io: its first parameter is a thing that it may change -/
def ArgsOk (K : PySem.W.Frag) (B F H : Hp) (io : Bool) (vs : List V) (ds : List D) : Prop :=
  if io = true then ∃ p vs' d ds', vs = .ref p :: vs' ∧ ds = d :: ds' ∧ B p = none ∧ F p = none ∧ OwnAt K B F H p d ∧ Reps K B F vs' ds'
  else Reps K B F vs ds
def OutOk (K : PySem.W.Frag) (B F H : Hp) (io : Bool) (vs : List V) (out : D) : Prop :=
  io = true → ∃ p vs', vs = .ref p :: vs' ∧ F p = none ∧ OwnAt K B F H p out
def RetOk (K : PySem.W.Frag) (B F H : Hp) (io : Bool) (vs : List V) (v : V) : R → Prop
  | .val d => Rep K B F v d
  | .tmp d => ∃ p, v = .ref p ∧ B p = none ∧ F p = none ∧ OwnAt K B F H p d ∧ (io = true → ∀ q vs', vs = .ref q :: vs' → q ≠ p)
  | .own _ => False
/-- a def's promise: what sem says of the data -/
def spOf (K : PySem.W.Frag) (n : Nat) (io : Bool) (sem : FS) : Sp := fun vs H Q _ => vs.length = n ∧ ∃ (B F : Hp) (ds : List D) (out : D) (r : R), Same B H ∧ Same F H ∧ ArgsOk K B F H io vs ds ∧ sem ds = some (out, r) ∧
  ∀ v H' F', Same B H' → Same F' H' → Same F F' → (∀ a, B a ≠ none → F' a = F a) → OutOk K B F' H' io vs out → RetOk K B F' H' io vs v r → Q v H'

/-! the def's side -/
def startC (n : Nat) (io : Bool) (ds : List D) : Ev := match io, ds with
  | true, d :: r => .ow true d :: (r.map .fz ++ List.replicate (n - ds.length) .dead)
  | _, ds => ds.map .fz ++ List.replicate (n - ds.length) .dead
def retR (ρ : Ev) : R → Option R
  | .val d => some (.val d)
  | .tmp d => some (.tmp d)
  | .own i => match ρ[i]? with
    | some (.ow false d) => some (.tmp d)
    | _ => none
def outOf (io : Bool) (ρ : Ev) : Option D := match io, ρ with
  | true, .ow true d :: _ => some d
  | true, _ => none
  | false, _ => some .non
theorem outOf_true {ρ : Ev} {out : D} (h : outOf true ρ = some out) : ρ[0]? = some (.ow true out) := by
  cases ρ with
  | nil => simp [outOf] at h
  | cons c r =>
    cases c with
    | ow b d =>
      cases b with
      | true => simp [outOf] at h; subst h; rfl
      | false => simp [outOf] at h
    | _ => simp [outOf] at h
def runFn (n k : Nat) (io : Bool) (f : SF) : FS := fun ds => if ds.length = k then match f (startC n io ds) with
  | some (ρ, .rt r) => match retR ρ r, outOf io ρ with
    | some r', some out => some (out, r')
    | _, _ => none
  | some (ρ, .nx) => match outOf io ρ with
    | some out => some (out, .val .non)
    | none => none
  | _ => none
  else none

section
variable {X : Cx} {K : PySem.W.Frag} {I : Nat → Option V} {N B F0 F H : Hp} {ρ : Ev} {σ : L2.St}

theorem start_get {Ns : List PySem.Str} {vs : List V} {i : Nat} {v : V} (h : vs[i]? = some v) : (L2.start Ns vs)[i]? = some (some v) := by
  unfold L2.start
  have hl := (List.getElem?_eq_some_iff.mp h).1
  rw [List.getElem?_append_left (by simpa using hl), List.getElem?_map, h]
  rfl
theorem start_len {Ns : List PySem.Str} {vs : List V} (h : vs.length ≤ Ns.length) : (L2.start Ns vs).length = Ns.length := by
  unfold L2.start
  rw [List.length_append, List.length_map, List.length_replicate]
  omega
theorem rel_start0 {Ns : List PySem.Str} {vs : List V} {ds : List D} (hl : vs.length ≤ Ns.length) (hB : Same B H) (hF : Same F H) (r : Reps K B F vs ds) :
    Rel K (fun _ => none) B B F (startC Ns.length false ds) (L2.start Ns vs) H F := by
  have hlen := r.length
  have key : ∀ {i : Nat} {c : C}, (startC Ns.length false ds)[i]? = some c → (∃ d, ds[i]? = some d ∧ c = .fz d) ∨ c = .dead := by
    intro i c h
    unfold startC at h
    by_cases hi : i < ds.length
    · rw [List.getElem?_append_left (by simpa using hi), List.getElem?_map] at h
      obtain ⟨d, h1, h2⟩ := Option.map_eq_some_iff.mp h
      exact .inl ⟨d, h1, h2.symm⟩
    · rw [List.getElem?_append_right (by simpa using hi), List.getElem?_replicate] at h
      split at h
      · cases h; exact .inr rfl
      · cases h
  refine ⟨hB, fun _ h => h, hF, Same.refl _, fun _ _ => rfl, ?_, fun i d h => ?_, fun i b d h => ?_, fun i j b c d e p h => ?_, fun j p h => (nomatch h), fun i d h => ?_⟩
  · rw [start_len hl]
    unfold startC
    rw [List.length_append, List.length_map, List.length_replicate]
    omega
  · rcases key h with ⟨d', h1, h2⟩ | h2
    · cases h2
      obtain ⟨v, g1, g2⟩ := r.get h1
      exact ⟨v, start_get g1, g2⟩
    · cases h2
  · rcases key h with ⟨d', h1, h2⟩ | h2 <;> cases h2
  · rcases key h with ⟨d', h1, h2⟩ | h2 <;> cases h2
  · rcases key h with ⟨d', h1, h2⟩ | h2 <;> cases h2
theorem rel_start1 {Ns : List PySem.Str} {vs : List V} {ds : List D} {p : Addr} {d : D} (hl : vs.length + 1 ≤ Ns.length) (hB : Same B H) (hF : Same F H) (bp : B p = none) (fp : F p = none) (op : OwnAt K B F H p d) (r : Reps K B F vs ds) :
    Rel K (fun j => if j = 0 then some (.ref p) else none) B B F (startC Ns.length true (d :: ds)) (L2.start Ns (.ref p :: vs)) H F := by
  have hlen := r.length
  have key : ∀ {i : Nat} {c : C}, (startC Ns.length true (d :: ds))[i]? = some c → (i = 0 ∧ c = .ow true d) ∨ (∃ j e, i = j + 1 ∧ ds[j]? = some e ∧ c = .fz e) ∨ c = .dead := by
    intro i c h
    unfold startC at h
    cases i with
    | zero => simp at h; exact .inl ⟨rfl, h.symm⟩
    | succ i =>
      simp only [List.getElem?_cons_succ] at h
      by_cases hi : i < ds.length
      · rw [List.getElem?_append_left (by simpa using hi), List.getElem?_map] at h
        obtain ⟨d, h1, h2⟩ := Option.map_eq_some_iff.mp h
        exact .inr (.inl ⟨i, d, rfl, h1, h2.symm⟩)
      · rw [List.getElem?_append_right (by simpa using hi), List.getElem?_replicate] at h
        split at h
        · cases h; exact .inr (.inr rfl)
        · cases h
  have s0 : (L2.start Ns (.ref p :: vs))[0]? = some (some (.ref p)) := start_get rfl
  refine ⟨hB, fun _ h => h, hF, Same.refl _, fun _ _ => rfl, ?_, fun i e h => ?_, fun i b e h => ?_, fun i j b c e1 e2 q h h' _ _ => ?_, fun j q h => ?_, fun i e h => ?_⟩
  · rw [start_len (by simpa using hl)]
    unfold startC
    rw [List.length_cons, List.length_append, List.length_map, List.length_replicate, List.length_cons]
    omega
  · rcases key h with ⟨_, h2⟩ | ⟨j, e', rfl, h1, h2⟩ | h2
    · cases h2
    · cases h2
      obtain ⟨v, g1, g2⟩ := r.get h1
      exact ⟨v, start_get (by simpa using g1), g2⟩
    · cases h2
  · rcases key h with ⟨rfl, h2⟩ | ⟨j, e', rfl, h1, h2⟩ | h2
    · cases h2
      exact ⟨p, s0, bp, fp, op⟩
    · cases h2
    · cases h2
  · rcases key h with ⟨rfl, h2⟩ | ⟨_, _, rfl, h1, h2⟩ | h2
    · rcases key h' with ⟨rfl, h2⟩ | ⟨_, _, rfl, h1, h2⟩ | h2
      · rfl
      · cases h2
      · cases h2
    · cases h2
    · cases h2
  · have h' : (if j = 0 then some (V.ref p) else none) = some q := h
    split at h'
    · cases h'
      rename_i h0
      subst h0
      exact ⟨s0, .ow true d, by unfold startC; rfl, rfl⟩
    · cases h'
  · rcases key h with ⟨_, h2⟩ | ⟨_, _, _, _, h2⟩ | h2 <;> cases h2
/-- the def's body keeps the promise -/
theorem fn_body {Ns : List PySem.Str} {k : Nat} {io : Bool} {t : TS} {f : SF} {vs : List V} {Q : VK} {E : XK} (hk : k ≤ Ns.length) (hf : SndS K t f) (h : spOf K k io (runFn Ns.length k io f) vs H Q E) :
    t { nx := fun _ H' => Q .non H', rt := Q } (L2.start Ns vs) H := by
  obtain ⟨hl, B, F, ds, out, r, hB, hF, ha, hs, q⟩ := h
  unfold runFn at hs
  split at hs
  · have fin : ∀ (I : Nat → Option V) (hi : io = true → ∀ p vs', vs = .ref p :: vs' → I 0 = some (.ref p)) (W : Rel K I B B F (startC Ns.length io ds) (L2.start Ns vs) H F), t { nx := fun _ H' => Q .non H', rt := Q } (L2.start Ns vs) H := by
      intro I hi W
      have outs : ∀ {ρ' : Ev} {σ' : L2.St} {H' F' : Hp} {out : D}, Rel K I B B F ρ' σ' H' F' → ArgsOk K B F H io vs ds → outOf io ρ' = some out → OutOk K B F' H' io vs out := by
        intro ρ' σ' H' F' out W' ha eo e
        subst e
        obtain ⟨p, vs', d, ds', rfl, _⟩ := ha
        obtain ⟨g1, _⟩ := W'.io 0 _ (hi rfl p vs' rfl)
        obtain ⟨p2, k1, _, k3, k4⟩ := W'.ow 0 true _ (outOf_true eo)
        rw [g1] at k1; cases k1
        exact ⟨p, vs', rfl, k3, k4⟩
      split at hs
      · rename_i ρ' rr e1
        split at hs
        · rename_i r' out' e2 eo
          cases hs
          refine hf I B B F _ _ H F ρ' (.rt rr) W e1 _ fun v σ' H' F' s' W' o' => ?_
          refine q v H' F' W'.frame W'.sub s' W'.old (outs W' ha eo) ?_
          cases rr with
          | val d => cases e2; exact o'
          | tmp d =>
            cases e2
            obtain ⟨p, rfl, b, fr, ow, un⟩ := o'
            refine ⟨p, rfl, b, fr, ow, fun e q vs' hv z => ?_⟩
            obtain ⟨g1, _⟩ := W'.io 0 _ (hi e q vs' hv)
            subst e
            exact un 0 _ _ (outOf_true eo) (by rw [g1, z])
          | own i =>
            simp only [retR] at e2
            split at e2
            · rename_i d hd
              cases e2
              obtain ⟨b0, d0, p, g1, rfl, g3⟩ := o'
              rw [hd] at g1
              cases g1
              obtain ⟨p', k1, kB, kF, k4⟩ := W'.ow i _ _ hd
              rw [g3] at k1; cases k1
              refine ⟨p, rfl, kB, kF, k4, fun e q vs' hv z => ?_⟩
              obtain ⟨g1, _⟩ := W'.io 0 _ (hi e q vs' hv)
              subst z
              subst e
              have h0 := outOf_true eo
              have := W'.sep i 0 _ _ _ _ _ hd h0 g3 g1
              subst this
              rw [hd] at h0
              cases h0
            · cases e2
        · cases hs
      · rename_i ρ' e1
        split at hs
        · rename_i out' eo
          cases hs
          refine hf I B B F _ _ H F ρ' .nx W e1 _ fun σ' H' F' s' W' => ?_
          exact q .non H' F' W'.frame W'.sub s' W'.old (outs W' ha eo) .non
        · cases hs
      · cases hs
    cases io with
    | false =>
      have ha' : Reps K B F vs ds := by unfold ArgsOk at ha; simpa using ha
      exact fin _ (fun e => nomatch e) (rel_start0 (by omega) hB hF ha')
    | true =>
      have ha' : ∃ p vs' d ds', vs = .ref p :: vs' ∧ ds = d :: ds' ∧ B p = none ∧ F p = none ∧ OwnAt K B F H p d ∧ Reps K B F vs' ds' := by unfold ArgsOk at ha; simpa using ha
      obtain ⟨p, vs', d, ds', rfl, rfl, bp, fp, op, rr⟩ := ha'
      rw [List.length_cons] at hl
      exact fin _ (fun _ q vs2 e => by cases e; rfl) (rel_start1 (by omega) hB hF bp fp op rr)
  · cases hs

/-! the caller's side -/
def oldVals : List R → Option (List D)
  | [] => some []
  | r :: rs => match r, oldVals rs with
    | .val d, some ds => some (d.old :: ds)
    | _, _ => none
theorem oldVals_reps {vs : List V} {rs : List R} (h : RsOk K N B ρ σ H F vs rs) : ∀ {ds : List D}, oldVals rs = some ds → ∀ M, Reps K M F vs ds := by
  induction h with
  | nil => intro ds e M; cases e; exact .nil
  | @cons v r vs rs h1 h2 ih =>
    intro ds e M
    unfold oldVals at e
    split at e
    · cases e
      exact .cons (Rep.old (show Rep K N F v _ from h1)) (ih (by assumption) M)
    · cases e
def D.oldKids : D → D
  | .lst f xs => .lst f (D.olds xs)
  | .dic f xs => .dic f (D.oldK xs)
  | .dit f xs => .dit f (D.oldT xs)
  | d => d
theorem OwnAt.oldKids {N' : Hp} {p : Addr} {d : D} (h : OwnAt K N F H p d) : OwnAt K N' F H p d.oldKids := by
  cases d with
  | lst f ds => obtain ⟨vs, h1, h2⟩ := h; exact ⟨vs, h1, h2.old⟩
  | dic f ds => obtain ⟨vs, h1, h2⟩ := h; exact ⟨vs, h1, h2.old⟩
  | dit f ds => obtain ⟨vs, h1, h2⟩ := h; exact ⟨vs, h1, h2.old⟩
  | _ => exact h.elim
/-- the arguments' data; own things are lent -/
def lent (ρ : Ev) : List R → Option (List D)
  | [] => some []
  | r :: rs => match r.look ρ, lent ρ rs with
    | some d, some ds => some (d.old :: ds)
    | _, _ => none
def eCall (io : Bool) (sem : FS) (g : AF) : EF := fun ρ => match g ρ with
  | some (ρ1, rs) => match io, rs with
    | true, .own i :: rs' => match ρ1[i]?, oldVals rs' with
      | some (.ow b d), some ds => match sem (d.oldKids :: ds) with
        | some (out, r) => some (ρ1.set i (.ow b out), r)
        | none => none
      | _, _ => none
    | false, rs => match oldVals rs with
      | some ds => match sem ds with
        | some (_, r) => some (ρ1, r)
        | none => none
      | none => match lent ρ1 rs with
        | some ds => match sem ds with
          | some (_, .val d) => if d.flat = true then some (ρ1, .val d) else none
          | _ => none
        | none => none
    | _, _ => none
  | none => none
theorem lent_reps (W : Rel K I N B F0 ρ σ H F) {vs : List V} {rs : List R} (h : RsOk K N B ρ σ H F vs rs) : ∀ {ds : List D}, lent ρ rs = some ds → ∀ M, Reps K M H vs ds := by
  induction h with
  | nil => intro ds e M; cases e; exact .nil
  | @cons v r vs rs h1 h2 ih =>
    intro ds e M
    unfold lent at e
    split at e
    · rename_i d ds' l1 l2
      cases e
      refine .cons ?_ (ih l2 M)
      cases r with
      | val d' => cases l1; exact (Rep.mono W.sub (show Rep K N F v _ from h1)).old
      | tmp d' =>
        cases l1
        obtain ⟨p, rfl, b, f, o, u⟩ := h1
        cases d with
        | lst fl ds => obtain ⟨ws, k1, k2⟩ := o; exact .lst k1 (fun z => nomatch z) (k2.mono W.sub).old
        | dic fl ds => obtain ⟨ws, k1, k2⟩ := o; exact .dic k1 (fun z => nomatch z) (k2.mono W.sub).old
        | dit fl ds => obtain ⟨ws, k1, k2⟩ := o; exact .dit k1 (fun z => nomatch z) (k2.mono W.sub).old
        | _ => exact o.elim
      | own i =>
        obtain ⟨bb, d', p, h1, rfl, h3⟩ := h1
        simp only [Z.R.look, h1, Option.some.injEq] at l1
        subst l1
        obtain ⟨q, g1, _, _, o⟩ := W.ow i bb d' h1
        rw [h3] at g1; cases g1
        cases d' with
        | lst fl ds => obtain ⟨ws, k1, k2⟩ := o; exact .lst k1 (fun z => nomatch z) (k2.mono W.sub).old
        | dic fl ds => obtain ⟨ws, k1, k2⟩ := o; exact .dic k1 (fun z => nomatch z) (k2.mono W.sub).old
        | dit fl ds => obtain ⟨ws, k1, k2⟩ := o; exact .dit k1 (fun z => nomatch z) (k2.mono W.sub).old
        | _ => exact o.elim
    · cases e
theorem Rep.flat_any {M G : Hp} {v : V} {d : D} (h : Rep K N F v d) (e : d.flat = true) : Rep K M G v d := by
  cases h <;> first | exact .non | exact .bl _ | exact .int _ | exact .str _ | cases e
theorem OwnAt.base {N' : Hp} {p : Addr} {d : D} (h : OwnAt K N F H p d) (hb : ∀ a, N a = none → N' a = none) : OwnAt K N' F H p d := by
  cases d with
  | lst f ds => obtain ⟨vs, h1, h2⟩ := h; exact ⟨vs, h1, h2.base hb⟩
  | dic f ds => obtain ⟨vs, h1, h2⟩ := h; exact ⟨vs, h1, h2.base hb⟩
  | dit f ds => obtain ⟨vs, h1, h2⟩ := h; exact ⟨vs, h1, h2.base hb⟩
  | _ => exact h.elim
/-- the caller's shared part behind the call -/
noncomputable def joinF (F H F' : Hp) : Hp := fun a => by
  classical
  exact if H a = none then F' a else F a
theorem joinF_new {F' : Hp} {a : Addr} (h : H a = none) : joinF F H F' a = F' a := by unfold joinF; exact if_pos h
theorem joinF_old {F' : Hp} {a : Addr} (h : H a ≠ none) : joinF F H F' a = F a := by unfold joinF; exact if_neg h
theorem some_ne {H : Hp} {a : Addr} {o : HO} (h : H a = some o) : H a ≠ none := by rw [h]; simp

theorem snd_call {ta : TA} {g : AF} {n : Nat} {io : Bool} {sem : FS} (hn : ∀ ρ ρ' rs, g ρ = some (ρ', rs) → rs.length = n) (hg : SndA K ta g) : Snd K (tCall (spOf K n io sem) [] E0 ta) (eCall io sem g) := by
  intro I N B F0 ρ σ H F ρ' res W h Q q
  unfold eCall at h
  split at h
  · rename_i ρ1 rs e1
    have hlen := hn _ _ _ e1
    refine hg I N B F0 ρ σ H F ρ1 rs W e1 _ fun vs H1 F1 s1 W1 o1 => ?_
    have hvl : ∀ {vs : List V} {rs : List R}, RsOk K N B ρ1 σ H1 F1 vs rs → vs.length = rs.length := by
      intro vs rs h
      induction h with
      | nil => rfl
      | cons _ _ ih => rw [List.length_cons, List.length_cons, ih]
    have hv := (hvl o1).trans hlen
    show spOf K n io sem (vs ++ []) H1 Q E0
    rw [List.append_nil]
    refine ⟨hv, ?_⟩
    split at h
    · -- the first argument is handed over
      rename_i i rs'
      split at h
      · rename_i b d ds hb hd
        split at h
        · rename_i out r e2
          cases h
          cases o1 with
          | @cons v _ vs' _ ho o1' =>
            obtain ⟨b0, d0, p, g1, rfl, g3⟩ := ho
            rw [hb] at g1
            cases g1
            obtain ⟨p', k1, kB, kF, k4⟩ := W1.ow i _ _ hb
            rw [g3] at k1; cases k1
            obtain ⟨po, hpo⟩ := k4.some
            have hi : i < ρ1.length := (List.getElem?_eq_some_iff.mp hb).1
            obtain ⟨B', B'p, B'n⟩ : ∃ B' : Hp, B' p = none ∧ ∀ a, a ≠ p → B' a = H1 a := ⟨fun a => if a = p then none else H1 a, if_pos rfl, fun a h => if_neg h⟩
            have nb : ∀ a, B' a = none → N a = none := fun a ha => by
              by_cases hap : a = p
              · subst hap; exact W1.dom _ kB
              · rw [B'n a hap] at ha; exact (W1.bnew ha).2.2
            have subB : Same B' H1 := fun a o e => by
              by_cases hap : a = p
              · subst hap; rw [B'p] at e; cases e
              · rw [B'n a hap] at e; exact e
            refine ⟨B', F1, d.oldKids :: ds, out, _, subB, W1.sub, ?_, e2, fun v H' F' hB hF' hs hold hout hret => ?_⟩
            · exact ⟨p, vs', d.oldKids, ds, rfl, rfl, B'p, kF, k4.oldKids, oldVals_reps o1' hd _⟩
            · obtain ⟨p2, vs2, e3, fp2, op2⟩ := hout rfl
              cases e3
              have sF : Same F1 (joinF F1 H1 F') := fun a o e => by rw [joinF_old (some_ne (W1.sub a o e))]; exact e
              have sF' : Same F' (joinF F1 H1 F') := fun a o e => by
                cases hh : H1 a with
                | none => rw [joinF_new hh]; exact e
                | some u =>
                  have hap : a ≠ p := fun z => by subst z; rw [fp2] at e; cases e
                  have := hold a (by rw [B'n a hap, hh]; simp)
                  rw [joinF_old (some_ne hh), ← this]; exact e
              have sH : Same (joinF F1 H1 F') H' := fun a o e => by
                cases hh : H1 a with
                | none => rw [joinF_new hh] at e; exact hF' a o e
                | some u => rw [joinF_old (some_ne hh)] at e; exact hF' a o (hs a o e)
              have W2 : Rel K I N B F0 (ρ1.set i (.ow b out)) σ H' (joinF F1 H1 F') := by
                refine ⟨fun a x e => ?_, W1.dom, sH, W1.ini.trans sF, fun a ha => ?_, by simp [W1.len], fun j e q => ?_, fun j bb e q => ?_, fun j k bb c d1 d2 p' h1 h2 h3 h4 => ?_, fun j p' q => ?_, fun j e q => ?_⟩
                · have hap : a ≠ p := fun z => by subst z; rw [kB] at e; cases e
                  exact hB a x (by rw [B'n a hap]; exact W1.frame a x e)
                · cases hh : B a with
                  | none => exact absurd hh ha
                  | some u => rw [joinF_old (some_ne (W1.frame a u hh)), W1.old a ha]
                · by_cases hj : j = i
                  · subst hj
                    rw [List.getElem?_set_self hi] at q; cases q
                  · rw [List.getElem?_set_ne (Ne.symm hj)] at q
                    obtain ⟨w, w1, w2⟩ := W1.fz j e q
                    exact ⟨w, w1, w2.mono sF⟩
                · by_cases hj : j = i
                  · subst hj
                    rw [List.getElem?_set_self hi] at q; cases q
                    exact ⟨p, g3, kB, by rw [joinF_old (some_ne hpo)]; exact kF, (op2.base nb).mono sF' fun o e => e⟩
                  · rw [List.getElem?_set_ne (Ne.symm hj)] at q
                    obtain ⟨p2, w1, w2, w3, w4⟩ := W1.ow j bb e q
                    have hne : p2 ≠ p := by
                      rintro rfl
                      exact hj (W1.sep j i _ _ _ _ p2 q hb w1 g3)
                    obtain ⟨o2, ho2⟩ := w4.some
                    exact ⟨p2, w1, w2, by rw [joinF_old (some_ne ho2)]; exact w3, w4.mono sF fun o e => hB _ _ (by rw [B'n p2 hne]; exact e)⟩
                · have e1 : ∃ b1 e1, ρ1[j]? = some (.ow b1 e1) := by
                    by_cases hj : j = i
                    · subst hj; exact ⟨_, _, hb⟩
                    · rw [List.getElem?_set_ne (Ne.symm hj)] at h1; exact ⟨_, _, h1⟩
                  have e2 : ∃ b1 e1, ρ1[k]? = some (.ow b1 e1) := by
                    by_cases hj : k = i
                    · subst hj; exact ⟨_, _, hb⟩
                    · rw [List.getElem?_set_ne (Ne.symm hj)] at h2; exact ⟨_, _, h2⟩
                  obtain ⟨b1, x1, e1⟩ := e1
                  obtain ⟨b2, x2, e2⟩ := e2
                  exact W1.sep j k _ _ _ _ p' e1 e2 h3 h4
                · obtain ⟨w1, e, w2, w3⟩ := W1.io j p' q
                  by_cases hj : j = i
                  · subst hj
                    rw [hb] at w2
                    cases w2
                    refine ⟨w1, _, List.getElem?_set_self hi, ?_⟩
                    cases b <;> first | rfl | cases w3
                  · exact ⟨w1, e, by rw [List.getElem?_set_ne (Ne.symm hj)]; exact w2, w3⟩
                · by_cases hj : j = i
                  · subst hj
                    rw [List.getElem?_set_self hi] at q; cases q
                  · rw [List.getElem?_set_ne (Ne.symm hj)] at q
                    obtain ⟨w, w1, w2⟩ := W1.pn j e q
                    exact ⟨w, w1, w2.mono sF⟩
              refine q v H' _ (s1.trans sF) W2 ?_
              cases res with
              | val d => exact (Rep.base nb hret).mono sF'
              | tmp d =>
                obtain ⟨pp, rfl, bpp, fpp, opp, hne⟩ := hret
                have hpp : p ≠ pp := hne rfl p vs' rfl
                have h1pp : H1 pp = none := by rw [← B'n pp (Ne.symm hpp)]; exact bpp
                refine ⟨pp, rfl, (W1.bnew h1pp).1, by rw [joinF_new h1pp]; exact fpp, (opp.base nb).mono sF' fun o e => e, fun j bb e hj hs => ?_⟩
                by_cases hji : j = i
                · subst hji
                  rw [g3] at hs
                  cases hs
                  exact hpp rfl
                · rw [List.getElem?_set_ne (Ne.symm hji)] at hj
                  exact W1.unew h1pp j bb e hj hs
              | own j => exact hret.elim
        · cases h
      · cases h
    · split at h
      · rename_i ds hd
        split at h
        · rename_i out r e2
          cases h
          have nb : ∀ a, H1 a = none → N a = none := fun a ha => (W1.bnew ha).2.2
          refine ⟨H1, F1, ds, out, _, Same.refl _, W1.sub, oldVals_reps o1 hd _, e2, fun v H' F' hB hF' hs hold hout hret => ?_⟩
          have sF : Same F1 (joinF F1 H1 F') := fun a o e => by rw [joinF_old (some_ne (W1.sub a o e))]; exact e
          have sF' : Same F' (joinF F1 H1 F') := fun a o e => by
            cases hh : H1 a with
            | none => rw [joinF_new hh]; exact e
            | some u =>
              have := hold a (some_ne hh)
              rw [joinF_old (some_ne hh), ← this]; exact e
          have sH : Same (joinF F1 H1 F') H' := fun a o e => by
            cases hh : H1 a with
            | none => rw [joinF_new hh] at e; exact hF' a o e
            | some u => rw [joinF_old (some_ne hh)] at e; exact hF' a o (hs a o e)
          have W2 : Rel K I N B F0 ρ' σ H' (joinF F1 H1 F') := by
            refine W1.heap sF sH (fun a o e => hB a o (W1.frame a o e)) (fun a ha => ?_) (fun i bb d p hi hs => ?_)
            · cases hh : B a with
              | none => exact absurd hh ha
              | some u => rw [joinF_old (some_ne (W1.frame a u hh))]
            · obtain ⟨p2, w1, w2, w3, w4⟩ := W1.ow i bb d hi
              rw [hs] at w1; cases w1
              obtain ⟨o2, ho2⟩ := w4.some
              exact ⟨by rw [joinF_old (some_ne ho2)]; exact w3, fun o e => hB _ _ e⟩
          refine q v H' _ (s1.trans sF) W2 ?_
          cases res with
          | val d => exact (Rep.base nb hret).mono sF'
          | tmp d =>
            obtain ⟨pp, rfl, bpp, fpp, opp, hne⟩ := hret
            exact ⟨pp, rfl, (W1.bnew bpp).1, by rw [joinF_new bpp]; exact fpp, (opp.base nb).mono sF' fun o e => e, W1.unew bpp⟩
          | own j => exact hret.elim
        · cases h
      · split at h
        · rename_i ds hd
          split at h
          · rename_i out d e2
            split at h
            · rename_i hfl
              cases h
              refine ⟨H1, H1, ds, out, _, Same.refl _, Same.refl _, lent_reps W1 o1 hd _, e2, fun v H' F' hB hF' hs hold hout hret => ?_⟩
              have W2 : Rel K I N B F0 ρ' σ H' F1 := by
                refine W1.heap (Same.refl _) (fun a o e => hB a o (W1.sub a o e)) (fun a o e => hB a o (W1.frame a o e)) (fun a ha => rfl) (fun i bb d p hi hs => ?_)
                obtain ⟨p2, w1, w2, w3, w4⟩ := W1.ow i bb d hi
                rw [hs] at w1; cases w1
                exact ⟨w3, fun o e => hB _ _ e⟩
              exact q v H' F1 s1 W2 (Rep.flat_any (show Rep K H1 F' v d from hret) hfl)
            · cases h
          · cases h
        · cases h
    · cases h
  · cases h
end
end Z

namespace Z
open PySem L2 PySem.Spec PyProof.Rows

/-! a < b < c -/
def eCh (o p : D → D → Option R) (f g h : EF) : EF := fun ρ => match f ρ with
  | some (ρ1, a) => match g ρ1 with
    | some (ρ2, b) => match a.hold.look ρ2, b.hold with
      | some x, .val y => match o x y with
        | some (.val (.bl true)) => match h ρ2 with
          | some (ρ3, c) => match c.look ρ3 with
            | some z => match p y z with
              | some r => some (ρ3, r)
              | none => none
            | none => none
          | none => none
        | some (.val (.bl false)) => some (ρ2, .val (.bl false))
        | _ => none
      | _, _ => none
    | none => none
  | none => none
section
variable {X : Cx} {K : PySem.W.Frag} {I : Nat → Option V} {N B F0 F H : Hp} {ρ : Ev} {σ : L2.St}
theorem snd_ch {ta tb tc : TE} {f g h : EF} {r r' : R2} {o p : D → D → Option R} (hf : Snd K ta f) (hg : Snd K tb g) (hh : Snd K tc h) (ho : Op2Ok K r o) (hp : Op2Ok K r' p) : Snd K (tChain r r' ta tb tc) (eCh o p f g h) := by
  intro I N B F0 ρ σ H F ρ' res W e Q q
  unfold eCh at e
  split at e
  · rename_i ρ1 a e1
    split at e
    · rename_i ρ2 b e2
      split at e
      · rename_i x y l1 l2
        refine hf I N B F0 ρ σ H F ρ1 a W e1 _ fun v H1 F1 s1 W1 o1 => ?_
        obtain ⟨F1', s1', W1', o1'⟩ := o1.hold W1
        refine hg I N B F0 ρ1 σ H1 F1' ρ2 b W1' e2 _ fun w H2 F2 s2 W2 o2 => ?_
        have o3 := o1'.later s2 W2 l1
        obtain ⟨F3, s3, W3, o4⟩ := o2.hold W2
        rw [l2] at o4
        have o4' : Rep K N F3 w y := o4
        have o5 : ResOk K N B ρ2 σ H2 F3 v a.hold := by
          have := o1'.later (s2.trans s3) W3 l1
          exact this
        have key := ho I N B F0 ρ2 σ H2 F3 W3 x y v w
        split at e
        · rename_i e3
          split at e
          · rename_i ρ3 c e4
            split at e
            · rename_i z l3
              split at e
              · rename_i r2 e5
                cases e
                refine key _ (o5.see W3 l1) (Rep.see o4' W3.sub) e3 _ fun u H4 F4 s4 W4 o6 => ?_
                cases o6
                refine ⟨true, rfl, iteT (hh I N B F0 ρ2 σ H4 F4 ρ' c W4 e4 _ fun w' H5 F5 s5 W5 o7 => ?_)⟩
                exact hp I N B F0 ρ' σ H5 F5 W5 y z w w' _ (Rep.see (o4'.mono (s4.trans s5)) W5.sub) (o7.see W5 l3) e5 Q fun u H6 F6 s6 W6 o8 => q u H6 F6 ((((((s1.trans s1').trans s2).trans s3).trans s4).trans s5).trans s6) W6 o8
              · cases e
            · cases e
          · cases e
        · rename_i e3
          cases e
          refine key _ (o5.see W3 l1) (Rep.see o4' W3.sub) e3 _ fun u H4 F4 s4 W4 o6 => ?_
          cases o6
          exact ⟨false, rfl, iteF (q _ H4 F4 ((((s1.trans s1').trans s2).trans s3).trans s4) W4 (.bl _))⟩
        · cases e
      · cases e
    · cases e
  · cases e
/-- where a value is a bool -/
theorem snd_test {te : TE} {f : EF} (hf : Snd K te f) : SndT K (tTest te) (fun ρ => match f ρ with
    | some (ρ1, .val (.bl b)) => some (ρ1, b)
    | _ => none) := by
  intro I N B F0 ρ σ H F ρ' b W e Q q
  simp only at e
  split at e
  · rename_i ρ1 b' e1
    cases e
    refine hf I N B F0 ρ σ H F ρ' _ W e1 _ fun v H1 F1 s1 W1 o1 => ?_
    cases o1
    exact ⟨_, rfl, q H1 F1 s1 W1⟩
  · cases e
end
def isBl (f : EF) : TF := fun ρ => match f ρ with
  | some (ρ1, .val (.bl b)) => some (ρ1, b)
  | _ => none

/-! the trees -/
inductive T where
  | v (i : Nat)
  | cN | cB (b : Bool) | cI (i : Int) | cS (s : PySem.Str)
  | nil | cons (a b : T)
  | lst (a : T) | tup (a : T)
  | bin (o : Operator) (a b : T) | un (o : UnaryOp) (a : T)
  | cmp (o : CmpOp) (a b : T) | cmp2 (o p : CmpOp) (a b c : T)
  | andv (a b : T) | orv (a b : T) | one (a : T) | notv (a : T)
  | tand (a b : T) | tor (a b : T) | tone (a : T) | tnot (a : T) | tst (a : T) | tcmp (o : CmpOp) (a b : T) | tcmp2 (o p : CmpOp) (a b c : T)
  | ifx (c a b : T)
  | ix (a b : T) | sl (a l h : T)
  | bi (f : BI) (a : T) | isa (t : Ty) (a : T)
  | call (f : Nat) (a : T)
  | mth (m : MM) (a b : T)
  | lc (own : List (PySem.Str × Nat)) (p : P) (it c e : T)
  | iL (a : T) | iT (a : T) | iR1 (a : T) | iR2 (a : T) | iE (a : T)
structure FnD where
  name : PySem.Str
  ps : List PySem.Str
  io : Bool
  sem : FS
def T.alen : T → Nat
  | .cons _ b => b.alen + 1
  | _ => 0
def T.isNil : T → Bool
  | .nil => true
  | _ => false
section
variable (Φ : List FnD)
mutual
def ev : T → EF
  | .v i => eVar i
  | .cN => eC .non | .cB b => eC (.bl b) | .cI i => eC (.int i) | .cS s => eC (.str s)
  | .lst a => eLst (evA a) | .tup a => eTup (evA a)
  | .bin o a b => eOp2 (binD o) (ev a) (ev b)
  | .un o a => eOp1 (unD o) (ev a)
  | .cmp o a b => eOp2 (cmpD o) (ev a) (ev b)
  | .cmp2 o p a b c => eCh (cmpD o) (cmpD p) (ev a) (ev b) (ev c)
  | .andv a b => eAnd (ev a) (ev b) | .orv a b => eOr (ev a) (ev b) | .one a => ev a | .notv a => eNot (ev a)
  | .ifx c a b => eIf (evT c) (ev a) (ev b)
  | .ix a b => eOp2 oIx (ev a) (ev b)
  | .sl a l h => eSl (ev a) (if l.isNil = true then none else some (ev l)) (if h.isNil = true then none else some (ev h))
  | .bi f a => eCB f.dd (evA a)
  | .isa t a => eIsa t (ev a)
  | .call f a => match Φ[f]? with
    | some F => if a.alen = F.ps.length then eCall F.io F.sem (evA a) else fun _ => none
    | none => fun _ => none
  | .mth m a b => eMth m (ev a) (evA b)
  | .lc own p it c e => if (p.slots.all fun i => (own.map (·.2)).contains i) = true then eLc (evI it) p (evC c) (ev e) (own.map (·.2)) else fun _ => none
  | _ => fun _ => none
def evA : T → AF
  | .nil => aNil
  | .cons a b => aCons (ev a) (evA b)
  | _ => fun _ => none
def evT : T → TF
  | .tand a b => tAnd (evT a) (evT b)
  | .tor a b => tOr (evT a) (evT b)
  | .tone a => evT a
  | .tnot a => tNot (evT a)
  | .tst a => tru (ev a)
  | .tcmp o a b => isBl (eOp2 (cmpD o) (ev a) (ev b))
  | .tcmp2 o p a b c => isBl (eCh (cmpD o) (cmpD p) (ev a) (ev b) (ev c))
  | _ => fun _ => none
def evC : T → TF
  | .nil => fun ρ => some (ρ, true)
  | .tand a b => tAnd (evT a) (evT b)
  | .tor a b => tOr (evT a) (evT b)
  | .tone a => evT a
  | .tnot a => tNot (evT a)
  | .tst a => tru (ev a)
  | .tcmp o a b => isBl (eOp2 (cmpD o) (ev a) (ev b))
  | .tcmp2 o p a b c => isBl (eCh (cmpD o) (cmpD p) (ev a) (ev b) (ev c))
  | _ => fun _ => none
def evI : T → IF
  | .iL a => iLst (ev a)
  | .iT a => iTupD (ev a)
  | .iR1 a => iR1 (evA a)
  | .iR2 a => iR2 (evA a)
  | .iE a => iEnu (evA a)
  | _ => fun _ => none
end
end
/-! their readings -/
section
variable (K : PySem.W.Frag) (Φ : List FnD)
mutual
def rdG : P → TG
  | .n i => gName i
  | .tp a => gTup K a.len (rdGs a)
  | _ => fun _ _ _ _ => False
def rdGs : P → TGs
  | .nil => gNil
  | .cons a b => gCons (rdG a) (rdGs b)
  | _ => fun _ _ _ _ => False
end
mutual
def rd : T → TE
  | .v i => tVar i
  | .cN => tC .non | .cB b => tC (.bl b) | .cI i => tC (.int i) | .cS s => tC (.str s)
  | .lst a => tLst (rdA a) | .tup a => tTup (rdA a)
  | .bin o a b => tOp (binR o) (rd a) (rd b)
  | .un o a => tUn (unR o) (rd a)
  | .cmp o a b => tOp (cmpR K o) (rd a) (rd b)
  | .cmp2 o p a b c => tChain (cmpR K o) (cmpR K p) (rd a) (rd b) (rd c)
  | .andv a b => tAndT K (rd a) (rd b) | .orv a b => tOrT K (rd a) (rd b) | .one a => rd a | .notv a => tNotT K (rd a)
  | .ifx c a b => tIf (rdT c) (rd a) (rd b)
  | .ix a b => tOp (rIx K) (rd a) (rd b)
  | .sl a l h => tSl (rSlL K) (rd a) (if l.isNil = true then tNoPart else tPart (rd l)) (if h.isNil = true then tNoPart else tPart (rd h))
  | .bi f a => tCB (f.rd K) (rdA a)
  | .isa t a => tCB (rIsi K) (tCons (rd a) (tCons (tC (.ty t.name)) tNil))
  | .call f a => match Φ[f]? with
    | some F => tCall (spOf K F.ps.length F.io F.sem) [] E0 (rdA a)
    | none => fun _ _ _ => False
  | .mth m a b => if b.isNil = true then tBM0 K "list" m.rd (rd a) else tBM K "list" m.rd (rd a) (rdA b)
  | .lc own p it c e => tLc (rdI it) (rdG K p) (rdC c) (rd e) (own.map (·.2))
  | _ => fun _ _ _ => False
def rdA : T → TA
  | .nil => tNil
  | .cons a b => tCons (rd a) (rdA b)
  | _ => fun _ _ _ => False
def rdT : T → TT
  | .tand a b => L2.tAnd (rdT a) (rdT b)
  | .tor a b => L2.tOr (rdT a) (rdT b)
  | .tone a => rdT a
  | .tnot a => L2.tNot (rdT a)
  | .tst a => fun σ H Q => rd a σ H fun x H' => ∃ k, TruV K x H' k ∧ Q k H'
  | .tcmp o a b => tTest (tOp (cmpR K o) (rd a) (rd b))
  | .tcmp2 o p a b c => tTest (tChain (cmpR K o) (cmpR K p) (rd a) (rd b) (rd c))
  | _ => fun _ _ _ => False
def rdC : T → TT
  | .nil => tYes
  | .tand a b => L2.tAnd (rdT a) (rdT b)
  | .tor a b => L2.tOr (rdT a) (rdT b)
  | .tone a => rdT a
  | .tnot a => L2.tNot (rdT a)
  | .tst a => fun σ H Q => rd a σ H fun x H' => ∃ k, TruV K x H' k ∧ Q k H'
  | .tcmp o a b => tTest (tOp (cmpR K o) (rd a) (rd b))
  | .tcmp2 o p a b c => tTest (tChain (cmpR K o) (cmpR K p) (rd a) (rd b) (rd c))
  | _ => fun _ _ _ => False
def rdI : T → TI
  | .iL a => iList K (rd a)
  | .iT a => iTup K (rd a)
  | .iR1 a => iRng1 (rdA a)
  | .iR2 a => iRng2 (rdA a)
  | .iE a => iEnum K (rdA a)
  | _ => fun _ _ _ => False
end
end
section
variable {K : PySem.W.Frag} {Φ : List FnD}
theorem snd_no {te : TE} : Snd K te (fun _ => none) := by
  intro I N B F0 ρ σ H F ρ' r W h
  cases h
theorem snda_no {ta : TA} : SndA K ta (fun _ => none) := by
  intro I N B F0 ρ σ H F ρ' r W h
  cases h
theorem sndt_no {tt : TT} : SndT K tt (fun _ => none) := by
  intro I N B F0 ρ σ H F ρ' r W h
  cases h
theorem sndi_no {wi : TI} : SndI K wi (fun _ => none) := by
  intro I N B F0 ρ σ H F ρ' r ks W h
  cases h
theorem sndg_no {g : TG} {p : P} (h : ∀ d ρ, p.bind1 d ρ = none) : SndG K g p := by
  intro I N B F0 ρ σ H F ρ' v d W r e
  rw [h] at e; cases e
theorem sndgs_no {g : TGs} {p : P} (h : ∀ d ρ, p.binds d ρ = none) : SndGs K g p := by
  intro I N B F0 ρ σ H F ρ' v d W r e
  rw [h] at e; cases e
mutual
theorem sndG : ∀ p : P, SndG K (rdG K p) p
  | .n i => by simp only [rdG]; exact sndg_n i
  | .tp a => by simp only [rdG]; exact sndg_tp (sndGs a) rfl
  | .nil => sndg_no fun d ρ => by simp [P.bind1]
  | .cons _ _ => sndg_no fun d ρ => by simp [P.bind1]
theorem sndGs : ∀ p : P, SndGs K (rdGs K p) p
  | .n i => sndgs_no fun d ρ => by simp [P.binds]
  | .tp a => sndgs_no fun d ρ => by simp [P.binds]
  | .nil => by simp only [rdGs]; exact sndgs_nil
  | .cons a b => by simp only [rdGs]; exact sndgs_cons (sndG a) (sndGs b)
end
theorem evA_len : ∀ (a : T) (ρ ρ' : Ev) (rs : List R), evA Φ a ρ = some (ρ', rs) → rs.length = a.alen := by
  intro a
  induction a with
  | nil => intro ρ ρ' rs h; simp only [evA] at h; cases h; rfl
  | cons a b _ ih =>
    intro ρ ρ' rs h
    simp only [evA, aCons] at h
    split at h
    · split at h
      · rename_i ρ1 r e1 ρ2 rs2 e2
        split at h
        · cases h
          rw [List.length_cons, ih _ _ _ e2]
          rfl
        · cases h
      · cases h
    · cases h
  | _ => intro ρ ρ' rs h; simp [evA] at h
theorem sndt_yes : SndT K tYes (fun ρ => some (ρ, true)) := by
  intro I N B F0 ρ σ H F ρ' b W h Q q
  cases h
  exact q H F (Same.refl _) W
theorem sndt_bl {te : TE} {f : EF} (hf : Snd K te f) : SndT K (tTest te) (isBl f) := snd_test hf
mutual
theorem sndE : ∀ t : T, Snd K (rd K Φ t) (ev Φ t)
  | .v i => by simp only [rd, ev]; exact snd_var i
  | .cN => by simp only [rd, ev]; exact snd_c fun _ _ => .non
  | .cB b => by simp only [rd, ev]; exact snd_c fun _ _ => .bl b
  | .cI b => by simp only [rd, ev]; exact snd_c fun _ _ => .int b
  | .cS b => by simp only [rd, ev]; exact snd_c fun _ _ => .str b
  | .lst a => by simp only [rd, ev]; exact snd_lst (sndA a)
  | .tup a => by simp only [rd, ev]; exact snd_tup (sndA a)
  | .bin o a b => by simp only [rd, ev]; exact snd_op2 (sndE a) (sndE b) (bin_ok o)
  | .un o a => by simp only [rd, ev]; exact snd_op1 (sndE a) (un_ok o)
  | .cmp o a b => by simp only [rd, ev]; exact snd_op2 (sndE a) (sndE b) (cmp_ok o)
  | .cmp2 o p a b c => by simp only [rd, ev]; exact snd_ch (sndE a) (sndE b) (sndE c) (cmp_ok o) (cmp_ok p)
  | .andv a b => by simp only [rd, ev]; exact snd_andT (sndE a) (sndE b)
  | .orv a b => by simp only [rd, ev]; exact snd_orT (sndE a) (sndE b)
  | .one a => by simp only [rd, ev]; exact sndE a
  | .notv a => by simp only [rd, ev]; exact snd_notT (sndE a)
  | .ifx c a b => by simp only [rd, ev]; exact snd_if (sndT c) (sndE a) (sndE b)
  | .ix a b => by simp only [rd, ev]; exact snd_op2 (sndE a) (sndE b) op2_ix
  | .sl a l h => by
    simp only [rd, ev]
    refine snd_sl (sndE a) ?_ ?_
    · split
      · exact sndo_none
      · exact sndo_some (sndE l)
    · split
      · exact sndo_none
      · exact sndo_some (sndE h)
  | .bi f a => by simp only [rd, ev]; exact snd_cb (sndA a) (bi_ok f)
  | .isa t a => by simp only [rd, ev]; exact snd_isa (sndE a)
  | .call f a => by
    simp only [rd, ev]
    split
    · split
      · rename_i hl
        exact snd_call (fun ρ ρ' rs h => (evA_len a ρ ρ' rs h).trans hl) (sndA a)
      · exact snd_no
    · exact snd_no
  | .mth m a b => by
    simp only [rd, ev]
    split
    · rename_i hb
      cases b with
      | nil => simp only [evA]; exact snd_mth0 m (sndE a)
      | _ => simp [T.isNil] at hb
    · exact snd_mth m (sndE a) (sndA b)
  | .lc own p it c e => by
    simp only [rd, ev]
    split
    · rename_i hp
      refine snd_lc (sndI it) (sndG p) (sndC c) (sndE e) fun j hj => ?_
      have := List.all_eq_true.mp hp j hj
      simpa using this
    · exact snd_no
  | .nil => by simp only [ev]; exact snd_no
  | .cons _ _ => by simp only [ev]; exact snd_no
  | .tand _ _ => by simp only [ev]; exact snd_no
  | .tor _ _ => by simp only [ev]; exact snd_no
  | .tone _ => by simp only [ev]; exact snd_no
  | .tnot _ => by simp only [ev]; exact snd_no
  | .tst _ => by simp only [ev]; exact snd_no
  | .tcmp _ _ _ => by simp only [ev]; exact snd_no
  | .tcmp2 _ _ _ _ _ => by simp only [ev]; exact snd_no
  | .iL _ => by simp only [ev]; exact snd_no
  | .iT _ => by simp only [ev]; exact snd_no
  | .iR1 _ => by simp only [ev]; exact snd_no
  | .iR2 _ => by simp only [ev]; exact snd_no
  | .iE _ => by simp only [ev]; exact snd_no
theorem sndA : ∀ t : T, SndA K (rdA K Φ t) (evA Φ t)
  | .nil => by simp only [rdA, evA]; exact snd_nil
  | .cons a b => by simp only [rdA, evA]; exact snd_cons (sndE a) (sndA b)
  | .v _ | .cN | .cB _ | .cI _ | .cS _ | .lst _ | .tup _ | .bin _ _ _ | .un _ _ | .cmp _ _ _ | .cmp2 _ _ _ _ _ | .andv _ _ | .orv _ _ | .one _ | .notv _ | .ifx _ _ _ | .ix _ _ | .sl _ _ _ | .bi _ _ | .isa _ _ | .call _ _ | .mth _ _ _ | .lc _ _ _ _ _
  | .tand _ _ | .tor _ _ | .tone _ | .tnot _ | .tst _ | .tcmp _ _ _ | .tcmp2 _ _ _ _ _ | .iL _ | .iT _ | .iR1 _ | .iR2 _ | .iE _ => by simp only [evA]; exact snda_no
theorem sndT : ∀ t : T, SndT K (rdT K Φ t) (evT Φ t)
  | .tand a b => by simp only [rdT, evT]; exact snd_and (sndT a) (sndT b)
  | .tor a b => by simp only [rdT, evT]; exact snd_or (sndT a) (sndT b)
  | .tone a => by simp only [rdT, evT]; exact sndT a
  | .tnot a => by simp only [rdT, evT]; exact snd_not (sndT a)
  | .tst a => by simp only [rdT, evT]; exact snd_tru (sndE a)
  | .tcmp o a b => by simp only [rdT, evT]; exact sndt_bl (snd_op2 (sndE a) (sndE b) (cmp_ok o))
  | .tcmp2 o p a b c => by simp only [rdT, evT]; exact sndt_bl (snd_ch (sndE a) (sndE b) (sndE c) (cmp_ok o) (cmp_ok p))
  | .nil | .cons _ _ | .v _ | .cN | .cB _ | .cI _ | .cS _ | .lst _ | .tup _ | .bin _ _ _ | .un _ _ | .cmp _ _ _ | .cmp2 _ _ _ _ _ | .andv _ _ | .orv _ _ | .one _ | .notv _ | .ifx _ _ _ | .ix _ _ | .sl _ _ _ | .bi _ _ | .isa _ _ | .call _ _ | .mth _ _ _ | .lc _ _ _ _ _
  | .iL _ | .iT _ | .iR1 _ | .iR2 _ | .iE _ => by simp only [evT]; exact sndt_no
theorem sndC : ∀ t : T, SndT K (rdC K Φ t) (evC Φ t)
  | .nil => by simp only [rdC, evC]; exact sndt_yes
  | .tand a b => by simp only [rdC, evC]; exact snd_and (sndT a) (sndT b)
  | .tor a b => by simp only [rdC, evC]; exact snd_or (sndT a) (sndT b)
  | .tone a => by simp only [rdC, evC]; exact sndT a
  | .tnot a => by simp only [rdC, evC]; exact snd_not (sndT a)
  | .tst a => by simp only [rdC, evC]; exact snd_tru (sndE a)
  | .tcmp o a b => by simp only [rdC, evC]; exact sndt_bl (snd_op2 (sndE a) (sndE b) (cmp_ok o))
  | .tcmp2 o p a b c => by simp only [rdC, evC]; exact sndt_bl (snd_ch (sndE a) (sndE b) (sndE c) (cmp_ok o) (cmp_ok p))
  | .cons _ _ | .v _ | .cN | .cB _ | .cI _ | .cS _ | .lst _ | .tup _ | .bin _ _ _ | .un _ _ | .cmp _ _ _ | .cmp2 _ _ _ _ _ | .andv _ _ | .orv _ _ | .one _ | .notv _ | .ifx _ _ _ | .ix _ _ | .sl _ _ _ | .bi _ _ | .isa _ _ | .call _ _ | .mth _ _ _ | .lc _ _ _ _ _
  | .iL _ | .iT _ | .iR1 _ | .iR2 _ | .iE _ => by simp only [evC]; exact sndt_no
theorem sndI : ∀ t : T, SndI K (rdI K Φ t) (evI Φ t)
  | .iL a => by simp only [rdI, evI]; exact sndi_lst (sndE a)
  | .iT a => by simp only [rdI, evI]; exact sndi_tup (sndE a)
  | .iR1 a => by simp only [rdI, evI]; exact sndi_r1 (sndA a)
  | .iR2 a => by simp only [rdI, evI]; exact sndi_r2 (sndA a)
  | .iE a => by simp only [rdI, evI]; exact sndi_enu (sndA a)
  | .nil | .cons _ _ | .v _ | .cN | .cB _ | .cI _ | .cS _ | .lst _ | .tup _ | .bin _ _ _ | .un _ _ | .cmp _ _ _ | .cmp2 _ _ _ _ _ | .andv _ _ | .orv _ _ | .one _ | .notv _ | .ifx _ _ _ | .ix _ _ | .sl _ _ _ | .bi _ _ | .isa _ _ | .call _ _ | .mth _ _ _ | .lc _ _ _ _ _
  | .tand _ _ | .tor _ _ | .tone _ | .tnot _ | .tst _ | .tcmp _ _ _ | .tcmp2 _ _ _ _ _ => by simp only [evI]; exact sndi_no
end
end
end Z

namespace Z
open PySem L2 PySem.Spec PyProof.Rows

/-! does a tree stand for a piece of syntax? -/
def notStar : Expr → Bool
  | .Starred _ _ => false
  | _ => true
def noDbg (x : PySem.Str) : Bool := !(x == ("__debug__" : PySem.Str)) && !(x == ("__classdict__" : PySem.Str))
def visB (sc : Scope) (x : PySem.Str) : Bool := match sc.names.lookup x with
  | some .local => true
  | some .cell => true
  | some .free => true
  | _ => false
def glB (sc : Scope) (x : PySem.Str) : Bool := match sc.names.lookup x with
  | some .globalImplicit => true
  | _ => false
def plainIx : Expr → Bool
  | .Slice .. => false
  | _ => true
def attrB : Expr → Bool
  | .Name .. => true
  | .Subscript .. => true
  | _ => false
def noSet : Expr → Bool
  | .Set .. => false
  | _ => true
/-- an expression whose truth is its value's -/
def plainT : Expr → Bool
  | .Name .. => true | .Call .. => true | .Subscript .. => true | .BinOp .. => true | .Constant .. => true
  | _ => false
def locB (fnb : PySem.Str → Bool) (sc : Scope) (x : PySem.Str) : Bool := match sc.names.lookup x with
  | some .local => true
  | some .cell => fnb x
  | _ => false
section
variable (Ns : List PySem.Str) (Φ : List FnD)
mutual
def chkG (fnb : PySem.Str → Bool) (sc : Scope) : P → Expr → Bool
  | .n i, .Name x _ => decide (Ns[i]? = some x) && locB fnb sc x
  | .tp a, .Tuple es _ _ => chkGs fnb sc a es
  | _, _ => false
def chkGs (fnb : PySem.Str → Bool) (sc : Scope) : P → List Expr → Bool
  | .nil, [] => true
  | .cons a b, e :: es => notStar e && chkG fnb sc a e && chkGs fnb sc b es
  | _, _ => false
end
mutual
def chk (sc : Scope) : T → Expr → Bool
  | .v i, .Name x _ => decide (Ns[i]? = some x) && visB sc x && noDbg x
  | .cN, .Constant .none _ _ => true
  | .cB b, .Constant (.bool c) _ _ => b == c
  | .cI i, .Constant (.int j) _ _ => i == j
  | .cS s, .Constant (.str t) _ _ => decide (s = t)
  | .lst a, .List es _ => chkA sc a es
  | .tup a, .Tuple es _ _ => chkA sc a es
  | .bin o a b, .BinOp l o' r _ => decide (o = o') && chk sc a l && chk sc b r
  | .un o a, .UnaryOp o' x _ => decide (o = o') && chk sc a x
  | .cmp o a b, .Compare l [o'] [r] _ => decide (o = o') && chk sc a l && chk sc b r && noSet r
  | .cmp2 o p a b c, .Compare l [o', p'] [m, r] _ => decide (o = o') && decide (p = p') && chk sc a l && chk sc b m && chk sc c r && noSet r
  | .andv a b, .BoolOp .And (x :: y :: r) pos => chk sc a x && chk sc b (.BoolOp .And (y :: r) pos)
  | .orv a b, .BoolOp .Or (x :: y :: r) pos => chk sc a x && chk sc b (.BoolOp .Or (y :: r) pos)
  | .one a, .BoolOp _ [x] _ => chk sc a x
  | .notv a, .UnaryOp .Not x _ => chk sc a x
  | .ifx c a b, .IfExp t x y _ => chkT sc c t && chk sc a x && chk sc b y
  | .ix a b, .Subscript x y _ => chk sc a x && chk sc b y && plainIx y
  | .sl a l h, .Subscript x (.Slice lo hi none _) _ => chk sc a x && chkO sc l lo && chkO sc h hi
  | .bi f a, .Call (.Name x _) (e :: es) [] _ => decide (x = f.name) && glB sc x && chkA sc a (e :: es)
  | .isa t a, .Call (.Name x _) [e, .Name y _] [] _ => decide (x = "isinstance") && decide (y = PySem.Str.ofString t.name) && glB sc x && glB sc y && notStar e && chk sc a e
  | .call f a, .Call (.Name x _) (e :: es) [] _ => (match Φ[f]? with
    | some F => decide (x = F.name) && glB sc x && noDbg x && chkA sc a (e :: es)
    | none => false)
  | .mth m a b, .Call (.Attribute o nm ap) es [] cp => decide (nm = m.name) && attrB o && (ap.endLine == cp.line) && decide (es.length < 20) && chk sc a o && chkA sc b es
  | .lc own p it c e, .ListComp elt [⟨tg, iter, ifs, 0⟩] scope _ => chkI sc it tg iter && noSet iter && blkC Ns sc scope own && chkG Ns (fun x => scope.names.lookup x == some .cell) (relS scope sc) p tg && chkC (relS scope sc) c ifs && chk (relS scope sc) e elt
  | _, _ => false
def chkA (sc : Scope) : T → List Expr → Bool
  | .nil, [] => true
  | .cons a b, e :: es => notStar e && chk sc a e && chkA sc b es
  | _, _ => false
def chkO (sc : Scope) : T → Option Expr → Bool
  | .nil, none => true
  | .nil, some _ => false
  | .v i, some (.Name x _) => decide (Ns[i]? = some x) && visB sc x && noDbg x
  | .cI i, some (.Constant (.int j) _ _) => i == j
  | .bin o a b, some (.BinOp l o' r _) => decide (o = o') && chk sc a l && chk sc b r
  | .un o a, some (.UnaryOp o' x _) => decide (o = o') && chk sc a x
  | .call f a, some (.Call (.Name x _) (e :: es) [] _) => (match Φ[f]? with
    | some F => decide (x = F.name) && glB sc x && noDbg x && chkA sc a (e :: es)
    | none => false)
  | _, _ => false
def chkT (sc : Scope) : T → Expr → Bool
  | .tand a b, .BoolOp .And (x :: y :: r) pos => chkT sc a x && chkW sc b (.BoolOp .And (y :: r) pos)
  | .tor a b, .BoolOp .Or (x :: y :: r) pos => chkT sc a x && chkW sc b (.BoolOp .Or (y :: r) pos)
  | .tnot a, .UnaryOp .Not x _ => chkT sc a x
  | .tst a, e => plainT e && chk sc a e
  | .tcmp o a b, .Compare l [o'] [r] _ => decide (o = o') && chk sc a l && chk sc b r && noSet r
  | .tcmp2 o p a b c, .Compare l [o', p'] [m, r] _ => decide (o = o') && decide (p = p') && chk sc a l && chk sc b m && chk sc c r && noSet r
  | _, _ => false
def chkW (sc : Scope) : T → Expr → Bool
  | .tand a b, .BoolOp .And (x :: y :: r) pos => chkT sc a x && chkW sc b (.BoolOp .And (y :: r) pos)
  | .tor a b, .BoolOp .Or (x :: y :: r) pos => chkT sc a x && chkW sc b (.BoolOp .Or (y :: r) pos)
  | .tone a, .BoolOp _ [x] _ => chkT sc a x
  | _, _ => false
def chkC (sc : Scope) : T → List Expr → Bool
  | .nil, [] => true
  | .tand a b, [.BoolOp .And (x :: y :: r) pos] => chkT sc a x && chkW sc b (.BoolOp .And (y :: r) pos)
  | .tor a b, [.BoolOp .Or (x :: y :: r) pos] => chkT sc a x && chkW sc b (.BoolOp .Or (y :: r) pos)
  | .tnot a, [.UnaryOp .Not x _] => chkT sc a x
  | .tst a, [e] => plainT e && chk sc a e
  | .tcmp o a b, [.Compare l [o'] [r] _] => decide (o = o') && chk sc a l && chk sc b r && noSet r
  | .tcmp2 o p a b c, [.Compare l [o', p'] [m, r] _] => decide (o = o') && decide (p = p') && chk sc a l && chk sc b m && chk sc c r && noSet r
  | _, _ => false
def chkI (sc : Scope) : T → Expr → Expr → Bool
  | .iL a, _, e => chk sc a e
  | .iT a, _, e => chk sc a e
  | .iR1 a, _, .Call (.Name x _) [e] [] _ => decide (x = "range") && glB sc x && chkA sc a [e]
  | .iR2 a, _, .Call (.Name x _) [e, f] [] _ => decide (x = "range") && glB sc x && chkA sc a [e, f]
  | .iE a, .Tuple _ _ _, .Call (.Name x _) [e] [] _ => decide (x = "enumerate") && glB sc x && chkA sc a [e]
  | _, _, _ => false
end
end

/-- what a def of the text is known for -/
def FnIn (Pr : Program) (w : World) (K : PySem.W.Frag) (mg : PySem.Str → Option Value) (base : Heap) (k : Nat) (F : FnD) : Prop :=
  ∃ f fd, FnOk Pr w K mg base CX0 k f fd F.ps (spOf K F.ps.length F.io F.sem) ∧ mg F.name = some (.ref f) ∧ PySem.W.keepIn K (.ref f) = true ∧ Binds K fd F.ps []
def bnames : List PySem.Str := ["len", "abs", "max", "min", "sum", "any", "all", "sorted", "list", "int", "isinstance", "range", "enumerate", "bool", "tuple", "str"]
structure XOk (X : Cx) (Ns : List PySem.Str) (sc : Scope) (Φ : List FnD) (k : Nat) : Prop where
  calm : X.calm = true
  names : X.N = Ns
  nd : Ns.Nodup
  scope : X.env.scope = sc
  room : Room k X.A
  fns : ∀ (i : Nat) (F : FnD), Φ[i]? = some F → FnIn X.prog X.w X.K X.mg X.base k F
  bt : ∀ x, x ∈ bnames → X.mg x = none
section
variable {X : Cx} {Ns : List PySem.Str} {sc : Scope} {Φ : List FnD} {k : Nat}
theorem vis_of (O : XOk X Ns sc Φ k) {x : PySem.Str} (h : visB sc x = true) : Vis X.env.scope x := by
  unfold visB at h
  unfold Vis
  rw [O.scope]
  split at h
  · exact .inl (by assumption)
  · exact .inr (.inl (by assumption))
  · exact .inr (.inr (by assumption))
  · cases h
theorem gl_of (O : XOk X Ns sc Φ k) {x : PySem.Str} (h : glB sc x = true) : Gl X x := by
  unfold glB at h
  unfold Gl Env.kindOf
  rw [O.scope]
  split at h
  · assumption
  · cases h
theorem dbg_of {x : PySem.Str} (h : noDbg x = true) : (x == ("__debug__" : PySem.Str)) = false ∧ (x == ("__classdict__" : PySem.Str)) = false := by
  unfold noDbg at h
  simpa using h
theorem star_cons {e : Expr} {es : List Expr} {env : Env} (h : notStar e = true) : starEach (e :: es) env = (false, eval e env) :: starEach es env := by
  cases e <;> first | rfl | cases h
theorem star_none {env : Env} {pos : Pos} : ∀ {es : List Expr}, (es.all notStar) = true → (backTo pos (starEach es env)).any (·.1) = false
  | [], _ => rfl
  | e :: es, h => by
    rw [List.all_cons, Bool.and_eq_true] at h
    rw [star_cons h.1]
    have := star_none (env := env) (pos := pos) h.2
    unfold backTo at *
    rw [List.map_cons, List.any_cons, this]
    rfl
theorem star_few {env : Env} {pos : Pos} : ∀ {es : List Expr}, (es.all notStar) = true → (backTo pos (starEach es env)).all (fun x => !x.1) = true
  | [], _ => rfl
  | e :: es, h => by
    rw [List.all_cons, Bool.and_eq_true] at h
    rw [star_cons h.1]
    have := star_few (env := env) (pos := pos) h.2
    unfold backTo at *
    rw [List.map_cons, List.all_cons, this]
    rfl
theorem chkA_stars : ∀ {a : T} {es : List Expr}, chkA Ns Φ sc a es = true → (es.all notStar) = true := by
  intro a
  induction a with
  | nil => intro es h; cases es with
    | nil => rfl
    | cons e es => simp [chkA] at h
  | cons a b _ ih => intro es h; cases es with
    | nil => rfl
    | cons e es =>
      simp only [chkA, Bool.and_eq_true] at h
      rw [List.all_cons, h.1.1, ih h.2]
      rfl
  | _ => intro es h; simp [chkA] at h
theorem plain_ix {y : Expr} (h : plainIx y = true) : PlainIx y := by
  cases y <;> first | exact fun _ _ => rfl | cases h
theorem attr_of {o : Expr} {nm : PySem.Str} {env : Env} (h : attrB o = true) : attributeBase o nm env (eval o env) = eval o env := by
  cases o <;> first | rfl | cases h
theorem set_of {o : Expr} {env : Env} (h : noSet o = true) : ∀ x, foldedSetIterable o env x = pure x := by
  cases o <;> first | exact fun _ => rfl | cases h
theorem mark_of {o : CmpOp} {r : Expr} (h : noSet r = true) : behindInMarks o r = false := by
  cases r <;> first | rfl | cases h
theorem mark2_of {o p : CmpOp} {m r : Expr} (h : noSet r = true) : lastMarks [o, p] [m, r] = false := by
  show behindInMarks p r = false
  exact mark_of h
theorem true_of {e : Expr} {env : Env} (h : plainT e = true) : ∀ whole, isTrue e env whole = (do let v ← whole; standAt e.pos; holding [v] (truthy v)) := by
  cases e <;> first | exact fun _ => rfl | cases h
theorem bi_in (f : BI) : f.name ∈ bnames := by cases f <;> decide +kernel
theorem bi_boot (f : BI) : bootBuiltins f.name = some f.fn := by cases f <;> decide +kernel
theorem bi_main (f : BI) : f.name ≠ "__name__" ∧ (f.name == ("__debug__" : PySem.Str)) = false := by cases f <;> exact ⟨by decide +kernel, by decide +kernel⟩
theorem ty_boot (t : Ty) : bootBuiltins (PySem.Str.ofString t.name) = some (.type t.name) := by cases t <;> decide +kernel
theorem ty_in (t : Ty) : PySem.Str.ofString t.name ∈ bnames := by cases t <;> decide +kernel
theorem ty_main (t : Ty) : PySem.Str.ofString t.name ≠ "__name__" ∧ (PySem.Str.ofString t.name == ("__debug__" : PySem.Str)) = false := by cases t <;> exact ⟨by decide +kernel, by decide +kernel⟩
theorem loc_of (O : XOk X Ns sc Φ k) {fnb : PySem.Str → Bool} (hf : ∀ x, fnb x = true → X.fn x = true) {x : PySem.Str} (h : locB fnb sc x = true) : L2.Loc X.env.scope x ∧ (X.fn x = true ∨ X.env.scope.names.lookup x = some .local) := by
  unfold locB at h
  unfold L2.Loc
  rw [O.scope]
  split at h
  · exact ⟨.inl (by assumption), .inr (by assumption)⟩
  · exact ⟨.inr (by assumption), .inl (hf x h)⟩
  · cases h
theorem assign_cons {e : Expr} {es : List Expr} {env : Env} (h : notStar e = true) : assignEach (e :: es) env = (false, assign e env) :: assignEach es env := by
  cases e <;> first | rfl | cases h
mutual
theorem peG (O : XOk X Ns sc Φ k) {fnb : PySem.Str → Bool} (hf : ∀ x, fnb x = true → X.fn x = true) : ∀ (p : P) (e : Expr), chkG Ns fnb sc p e = true → PG X e (rdG X.K p)
  | .n i, e, h => by
    cases e <;> simp only [chkG] at h <;> try cases h
    rename_i x pos
    simp only [Bool.and_eq_true, decide_eq_true_eq] at h
    obtain ⟨h1, h2⟩ := loc_of O hf h.2
    simp only [rdG]
    exact pg_name (by rw [O.names]; exact O.nd) (by rw [O.names]; exact h.1) h1 h2
  | .tp a, e, h => by
    cases e <;> simp only [chkG] at h <;> try cases h
    rename_i es kk pos
    obtain ⟨g1, g2, g3⟩ := peGs O hf a es h
    simp only [rdG]
    exact pg_tup O.calm g1 g2 g3
  | .nil, e, h => by cases e <;> simp [chkG] at h
  | .cons _ _, e, h => by cases e <;> simp [chkG] at h
theorem peGs (O : XOk X Ns sc Φ k) {fnb : PySem.Str → Bool} (hf : ∀ x, fnb x = true → X.fn x = true) : ∀ (p : P) (es : List Expr), chkGs Ns fnb sc p es = true → PGs X es (rdGs X.K p) ∧ (assignEach es X.env).length = p.len ∧ (assignEach es X.env).findIdx? (·.1) = none
  | .nil, es, h => by
    cases es with
    | nil => simp only [rdGs]; exact ⟨pgs_nil, rfl, rfl⟩
    | cons e es => simp [chkGs] at h
  | .cons a b, es, h => by
    cases es with
    | nil => simp [chkGs] at h
    | cons e es =>
      simp only [chkGs, Bool.and_eq_true] at h
      obtain ⟨g1, g2, g3⟩ := peGs O hf b es h.2
      have hc := assign_cons (es := es) (env := X.env) h.1.1
      simp only [rdGs]
      refine ⟨pgs_cons (peG O hf a e h.1.2) g1 (by rw [hc]; rfl), by rw [hc, List.length_cons, g2]; rfl, ?_⟩
      rw [hc, List.findIdx?_cons]
      simp [g3]
  | .n _, es, h => by cases es <;> simp [chkGs] at h
  | .tp _, es, h => by cases es <;> simp [chkGs] at h
end
theorem XOk.blk (O : XOk X Ns sc Φ k) (s : Shared) (H : Hp) (scope : Scope) (C : Addr) (cl : List (PySem.Str × Addr)) (fp : List Addr) : XOk (X.blk s H scope (compEnvC scope cl C X.env) fp) Ns (relS scope sc) Φ k := by
  refine ⟨O.calm, O.names, O.nd, ?_, O.room, O.fns, O.bt⟩
  show relS scope X.env.scope = _
  rw [O.scope]
theorem units_of (O : XOk X Ns sc Φ k) : X.A.units + 65 < cLine := by have := O.room.un; omega
/-- the call of a def -/
theorem pe_fn (O : XOk X Ns sc Φ k) {f : Nat} {F : FnD} (hF : Φ[f]? = some F) {x : PySem.Str} {p pos : Pos} {e : Expr} {es : List Expr} {ta : TA} (hx : x = F.name) (hg : glB sc x = true) (hd : noDbg x = true) (ha : PA X (e :: es) ta) (hs : ((e :: es).all notStar) = true) :
    PE X (.Call (.Name x p) (e :: es) [] pos) (tCall (spOf X.K F.ps.length F.io F.sem) [] E0 ta) := by
  obtain ⟨fa, fd, h1, h2, h3, h4⟩ := O.fns f F hF
  subst hx
  rw [List.all_cons, Bool.and_eq_true] at hs
  exact pe_call h1 O.room (gl_of O hg) h2 h3 h4 .nil pass0 ha (dbg_of hd).1 (star_cons hs.1) (star_none hs.2)
end
section
variable {Ns : List PySem.Str} {Φ : List FnD} {k : Nat}
mutual
theorem peE : ∀ (t : T) {X : Cx} {sc : Scope} (O : XOk X Ns sc Φ k) (e : Expr), chk Ns Φ sc t e = true → PE X e (rd X.K Φ t)
  | .v i, X, sc, O, e, h => by
    cases e <;> simp only [chk] at h <;> try cases h
    simp only [Bool.and_eq_true, decide_eq_true_eq] at h
    simp only [rd]
    exact pe_var (by rw [O.names]; exact h.1.1) (vis_of O h.1.2) (dbg_of h.2).1 (dbg_of h.2).2
  | .cN, X, sc, O, e, h => by
    unfold chk at h
    split at h <;> first | (simp only [rd]; exact pe_non) | simp_all
  | .cB b, X, sc, O, e, h => by
    unfold chk at h
    split at h <;> first | (simp at h; done) | skip
    all_goals (rename_i heq; cases heq)
    simp at h
    subst h
    simp only [rd]
    exact pe_bl
  | .cI b, X, sc, O, e, h => by
    unfold chk at h
    split at h <;> first | (simp at h; done) | skip
    all_goals (rename_i heq; cases heq)
    simp at h
    subst h
    simp only [rd]
    exact pe_int
  | .cS b, X, sc, O, e, h => by
    unfold chk at h
    split at h <;> first | (simp at h; done) | skip
    all_goals (rename_i heq; cases heq)
    simp at h
    subst h
    simp only [rd]
    exact pe_str
  | .lst a, X, sc, O, e, h => by
    cases e <;> simp only [chk] at h <;> try cases h
    simp only [rd]
    exact pe_lst (peA a O _ h)
  | .tup a, X, sc, O, e, h => by
    cases e <;> simp only [chk] at h <;> try cases h
    simp only [rd]
    exact pe_tup (peA a O _ h)
  | .bin o a b, X, sc, O, e, h => by
    cases e <;> simp only [chk] at h <;> try cases h
    simp only [Bool.and_eq_true, decide_eq_true_eq] at h
    obtain ⟨⟨rfl, h2⟩, h3⟩ := h
    simp only [rd]
    exact pe_op (bin_rule _) (peE a O _ h2) (peE b O _ h3)
  | .un o a, X, sc, O, e, h => by
    cases e <;> simp only [chk] at h <;> try cases h
    simp only [Bool.and_eq_true, decide_eq_true_eq] at h
    obtain ⟨rfl, h2⟩ := h
    simp only [rd]
    exact pe_un (un_rule _) (peE a O _ h2)
  | .cmp o a b, X, sc, O, e, h => by
    unfold chk at h
    split at h <;> first | (simp at h; done) | skip
    all_goals (rename_i heq; cases heq)
    simp only [Bool.and_eq_true, decide_eq_true_eq] at h
    obtain ⟨⟨⟨rfl, h2⟩, h3⟩, h4⟩ := h
    simp only [rd]
    exact pe_cmpR (cmp_rule (units_of O) _) (peE a O _ h2) (peE b O _ h3) (mark_of h4)
  | .cmp2 o p a b c, X, sc, O, e, h => by
    unfold chk at h
    split at h <;> first | (simp at h; done) | skip
    all_goals (rename_i heq; cases heq)
    simp only [Bool.and_eq_true, decide_eq_true_eq] at h
    obtain ⟨⟨⟨⟨⟨rfl, rfl⟩, h2⟩, h3⟩, h4⟩, h5⟩ := h
    simp only [rd]
    exact pe_chain (cmp_rule (units_of O) _) (cmp_rule (units_of O) _) (peE a O _ h2) (peE b O _ h3) (peE c O _ h4) (mark2_of h5)
  | .andv a b, X, sc, O, e, h => by
    unfold chk at h
    split at h <;> first | (simp at h; done) | skip
    all_goals (rename_i heq; cases heq)
    simp only [Bool.and_eq_true] at h
    simp only [rd]
    exact pe_andT (peE a O _ h.1) (peE b O _ h.2)
  | .orv a b, X, sc, O, e, h => by
    unfold chk at h
    split at h <;> first | (simp at h; done) | skip
    all_goals (rename_i heq; cases heq)
    simp only [Bool.and_eq_true] at h
    simp only [rd]
    exact pe_orT (peE a O _ h.1) (peE b O _ h.2)
  | .one a, X, sc, O, e, h => by
    unfold chk at h
    split at h <;> first | (simp at h; done) | skip
    all_goals (rename_i heq; cases heq)
    simp only [rd]
    exact pe_one (peE a O _ h)
  | .notv a, X, sc, O, e, h => by
    unfold chk at h
    split at h <;> first | (simp at h; done) | skip
    all_goals (rename_i heq; cases heq)
    simp only [rd]
    exact pe_notT (peE a O _ h)
  | .ifx c a b, X, sc, O, e, h => by
    cases e <;> simp only [chk] at h <;> try cases h
    simp only [Bool.and_eq_true] at h
    simp only [rd]
    exact pe_ifExp (peT c O _ h.1.1) (peE a O _ h.1.2) (peE b O _ h.2)
  | .ix a b, X, sc, O, e, h => by
    unfold chk at h
    split at h <;> first | (simp at h; done) | skip
    all_goals (rename_i heq; cases heq)
    simp only [Bool.and_eq_true] at h
    simp only [rd]
    exact pe_ix ix_seq (peE a O _ h.1.1) (peE b O _ h.1.2) (plain_ix h.2)
  | .sl a l hh, X, sc, O, e, h => by
    unfold chk at h
    split at h <;> first | (simp at h; done) | skip
    all_goals (rename_i heq; cases heq)
    simp only [Bool.and_eq_true] at h
    simp only [rd]
    exact pe_slice sl_list (peE a O _ h.1.1) (peO l O _ h.1.2) (peO hh O _ h.2)
  | .bi f a, X, sc, O, e, h => by
    unfold chk at h
    split at h <;> first | (simp at h; done) | skip
    all_goals (rename_i heq; cases heq)
    simp only [Bool.and_eq_true, decide_eq_true_eq] at h
    obtain ⟨⟨rfl, h2⟩, h3⟩ := h
    have hs := chkA_stars h3
    rw [List.all_cons, Bool.and_eq_true] at hs
    simp only [rd]
    have rule := bi_rule (units_of O) O.calm f
    have boot := bi_boot f
    have mg0 := O.bt _ (bi_in f)
    obtain ⟨m1, m2⟩ := bi_main f
    cases f with
    | list => exact pe_callTy rule (gl_of O h2) mg0 boot (peA a O _ h3) m1 m2 (star_cons hs.1) (star_none hs.2)
    | int => exact pe_callTy rule (gl_of O h2) mg0 boot (peA a O _ h3) m1 m2 (star_cons hs.1) (star_none hs.2)
    | _ => exact pe_callB rule (gl_of O h2) mg0 boot (peA a O _ h3) m1 m2 (star_cons hs.1) (star_none hs.2)
  | .isa t a, X, sc, O, e, h => by
    unfold chk at h
    split at h <;> first | (simp at h; done) | skip
    all_goals (rename_i heq; cases heq)
    simp only [Bool.and_eq_true, decide_eq_true_eq] at h
    obtain ⟨⟨⟨⟨⟨rfl, rfl⟩, h3⟩, h4⟩, h5⟩, h6⟩ := h
    simp only [rd]
    refine pe_callB call_isi (gl_of O h3) (O.bt _ (by decide +kernel)) (by decide +kernel) (pa_cons (peE a O _ h6) (pa_cons (pe_bltn (gl_of O h4) (O.bt _ (ty_in t)) (ty_boot t) rfl (ty_main t).1 (ty_main t).2) pa_nil) (star_cons h5)) (by decide +kernel) (by decide +kernel) (star_cons h5) (star_none rfl)
  | .call f a, X, sc, O, e, h => by
    unfold chk at h
    split at h <;> first | (simp at h; done) | skip
    all_goals (rename_i heq; cases heq)
    split at h
    · rename_i F hF
      simp only [Bool.and_eq_true, decide_eq_true_eq] at h
      obtain ⟨⟨⟨h1, h2⟩, h3⟩, h4⟩ := h
      simp only [rd, hF]
      exact pe_fn O hF h1 h2 h3 (peA a O _ h4) (chkA_stars h4)
    · cases h
  | .mth m a b, X, sc, O, e, h => by
    unfold chk at h
    split at h <;> first | (simp at h; done) | skip
    all_goals (rename_i heq; cases heq)
    rename_i nm ap es cp
    simp only [Bool.and_eq_true, decide_eq_true_eq] at h
    obtain ⟨⟨⟨⟨⟨rfl, h2⟩, h3⟩, h4⟩, h5⟩, h6⟩ := h
    have hs := chkA_stars h6
    simp only [rd]
    cases es with
    | nil =>
      have hb : b.isNil = true := by
        cases b <;> first | rfl | simp [chkA] at h6
      rw [if_pos hb]
      cases m with
      | append => exact pe_bm0 PySem.F.plainAttrs_list PySem.F.slot_list_append PySem.F.type_list_append (mm_rule .append) (peE a O _ h5) (attr_of h2) h3
      | extend => exact pe_bm0 PySem.F.plainAttrs_list PySem.F.slot_list_extend PySem.F.type_list_extend (mm_rule .extend) (peE a O _ h5) (attr_of h2) h3
      | pop => exact pe_bm0 PySem.F.plainAttrs_list PySem.F.slot_list_pop PySem.F.type_list_pop (mm_rule .pop) (peE a O _ h5) (attr_of h2) h3
      | popAt => exact pe_bm0 PySem.F.plainAttrs_list PySem.F.slot_list_pop PySem.F.type_list_pop (mm_rule .popAt) (peE a O _ h5) (attr_of h2) h3
    | cons e es =>
      have hb : ¬ b.isNil = true := by
        cases b <;> first | (simp [chkA] at h6; done) | simp [T.isNil]
      rw [if_neg hb]
      have few : ((backTo cp (starEach (e :: es) X.env)).all (fun x => !x.1) && (backToKw cp (keywordEach [] X.env)).all (fun x => x.1.isSome) && decide ((e :: es).length + ([] : List Keyword).length + (if ([] : List Keyword).isEmpty then 0 else 1) < 30)) = true := by
        rw [star_few hs, Bool.true_and]
        have e1 : (backToKw cp (keywordEach [] X.env)).all (fun x => x.1.isSome) = true := by simp [keywordEach, backToKw]
        rw [e1, Bool.true_and]
        refine decide_eq_true ?_
        simp only [List.length_nil, List.isEmpty_nil, if_true]
        omega
      rw [List.all_cons, Bool.and_eq_true] at hs
      cases m with
      | append => exact pe_bm PySem.F.plainAttrs_list PySem.F.slot_list_append PySem.F.type_list_append (mm_rule .append) (peE a O _ h5) (peA b O _ h6) (attr_of h2) few h3 (star_cons hs.1) (star_none hs.2)
      | extend => exact pe_bm PySem.F.plainAttrs_list PySem.F.slot_list_extend PySem.F.type_list_extend (mm_rule .extend) (peE a O _ h5) (peA b O _ h6) (attr_of h2) few h3 (star_cons hs.1) (star_none hs.2)
      | pop => exact pe_bm PySem.F.plainAttrs_list PySem.F.slot_list_pop PySem.F.type_list_pop (mm_rule .pop) (peE a O _ h5) (peA b O _ h6) (attr_of h2) few h3 (star_cons hs.1) (star_none hs.2)
      | popAt => exact pe_bm PySem.F.plainAttrs_list PySem.F.slot_list_pop PySem.F.type_list_pop (mm_rule .popAt) (peE a O _ h5) (peA b O _ h6) (attr_of h2) few h3 (star_cons hs.1) (star_none hs.2)
  | .lc own p it c e, X, sc, O, ex, h => by
    unfold chk at h
    split at h <;> first | (simp at h; done) | skip
    all_goals (rename_i heq; cases heq)
    rename_i elt tg iter ifs scope pos
    simp only [Bool.and_eq_true] at h
    obtain ⟨⟨⟨⟨⟨h1, h2⟩, h3⟩, h4⟩, h5⟩, h6⟩ := h
    simp only [rd]
    refine pe_lc O.calm (by rw [O.names]; exact O.nd) (peI it O _ _ h1) (blkOk_by (by rw [O.names, O.scope]; exact h3)) (fun s H C cl fp => ?_) (fun s H C cl fp => ?_) (fun s H C cl fp => ?_) (set_of h2)
    · exact peG (O.blk s H scope C cl fp) (fnb := fun x => scope.names.lookup x == some .cell) (fun x hx => hx) p tg h4
    · exact peC c (O.blk s H scope C cl fp) ifs h5
    · exact peE e (O.blk s H scope C cl fp) elt h6
  | .nil, _, _, _, e, h | .cons _ _, _, _, _, e, h | .tand _ _, _, _, _, e, h | .tor _ _, _, _, _, e, h | .tone _, _, _, _, e, h | .tnot _, _, _, _, e, h | .tst _, _, _, _, e, h | .tcmp _ _ _, _, _, _, e, h | .tcmp2 _ _ _ _ _, _, _, _, e, h
  | .iL _, _, _, _, e, h | .iT _, _, _, _, e, h | .iR1 _, _, _, _, e, h | .iR2 _, _, _, _, e, h | .iE _, _, _, _, e, h => by cases e <;> simp [chk] at h
theorem peA : ∀ (t : T) {X : Cx} {sc : Scope} (O : XOk X Ns sc Φ k) (es : List Expr), chkA Ns Φ sc t es = true → PA X es (rdA X.K Φ t)
  | .nil, X, sc, O, es, h => by
    cases es with
    | nil => simp only [rdA]; exact pa_nil
    | cons e es => simp [chkA] at h
  | .cons a b, X, sc, O, es, h => by
    cases es with
    | nil => simp [chkA] at h
    | cons e es =>
      simp only [chkA, Bool.and_eq_true] at h
      simp only [rdA]
      exact pa_cons (peE a O e h.1.2) (peA b O es h.2) (star_cons h.1.1)
  | .v _, _, _, _, e, h | .cN, _, _, _, e, h | .cB _, _, _, _, e, h | .cI _, _, _, _, e, h | .cS _, _, _, _, e, h | .lst _, _, _, _, e, h | .tup _, _, _, _, e, h | .bin _ _ _, _, _, _, e, h | .un _ _, _, _, _, e, h | .cmp _ _ _, _, _, _, e, h | .cmp2 _ _ _ _ _, _, _, _, e, h
  | .andv _ _, _, _, _, e, h | .orv _ _, _, _, _, e, h | .one _, _, _, _, e, h | .notv _, _, _, _, e, h | .ifx _ _ _, _, _, _, e, h | .ix _ _, _, _, _, e, h | .sl _ _ _, _, _, _, e, h | .bi _ _, _, _, _, e, h | .isa _ _, _, _, _, e, h | .call _ _, _, _, _, e, h | .mth _ _ _, _, _, _, e, h | .lc _ _ _ _ _, _, _, _, e, h
  | .tand _ _, _, _, _, e, h | .tor _ _, _, _, _, e, h | .tone _, _, _, _, e, h | .tnot _, _, _, _, e, h | .tst _, _, _, _, e, h | .tcmp _ _ _, _, _, _, e, h | .tcmp2 _ _ _ _ _, _, _, _, e, h
  | .iL _, _, _, _, e, h | .iT _, _, _, _, e, h | .iR1 _, _, _, _, e, h | .iR2 _, _, _, _, e, h | .iE _, _, _, _, e, h => by cases e <;> simp [chkA] at h
theorem peO : ∀ (t : T) {X : Cx} {sc : Scope} (O : XOk X Ns sc Φ k) (e : Option Expr), chkO Ns Φ sc t e = true → PO X e (if t.isNil = true then tNoPart else tPart (rd X.K Φ t))
  | .nil, X, sc, O, e, h => by
    cases e with
    | none => exact po_none
    | some e => simp [chkO] at h
  | .v i, X, sc, O, e, h => by
    unfold chkO at h
    split at h <;> first | (simp at h; done) | skip
    all_goals (rename_i heq; cases heq)
    simp only [Bool.and_eq_true, decide_eq_true_eq] at h
    refine po_some ?_
    simp only [rd]
    exact pe_var (by rw [O.names]; exact h.1.1) (vis_of O h.1.2) (dbg_of h.2).1 (dbg_of h.2).2
  | .cI i, X, sc, O, e, h => by
    unfold chkO at h
    split at h <;> first | (simp at h; done) | skip
    all_goals (rename_i heq; cases heq)
    simp at h
    subst h
    refine po_some ?_
    simp only [rd]
    exact pe_int
  | .bin o a b, X, sc, O, e, h => by
    unfold chkO at h
    split at h <;> first | (simp at h; done) | skip
    all_goals (rename_i heq; cases heq)
    simp only [Bool.and_eq_true, decide_eq_true_eq] at h
    obtain ⟨⟨rfl, h2⟩, h3⟩ := h
    refine po_some ?_
    simp only [rd]
    exact pe_op (bin_rule _) (peE a O _ h2) (peE b O _ h3)
  | .un o a, X, sc, O, e, h => by
    unfold chkO at h
    split at h <;> first | (simp at h; done) | skip
    all_goals (rename_i heq; cases heq)
    simp only [Bool.and_eq_true, decide_eq_true_eq] at h
    obtain ⟨rfl, h2⟩ := h
    refine po_some ?_
    simp only [rd]
    exact pe_un (un_rule _) (peE a O _ h2)
  | .call f a, X, sc, O, e, h => by
    unfold chkO at h
    split at h <;> first | (simp at h; done) | skip
    all_goals (rename_i heq; cases heq)
    split at h
    · rename_i F hF
      simp only [Bool.and_eq_true, decide_eq_true_eq] at h
      obtain ⟨⟨⟨h1, h2⟩, h3⟩, h4⟩ := h
      refine po_some ?_
      simp only [rd, hF]
      exact pe_fn O hF h1 h2 h3 (peA a O _ h4) (chkA_stars h4)
    · cases h
  | .cons _ _, _, _, _, e, h | .cN, _, _, _, e, h | .cB _, _, _, _, e, h | .cS _, _, _, _, e, h | .lst _, _, _, _, e, h | .tup _, _, _, _, e, h | .cmp _ _ _, _, _, _, e, h | .cmp2 _ _ _ _ _, _, _, _, e, h
  | .andv _ _, _, _, _, e, h | .orv _ _, _, _, _, e, h | .one _, _, _, _, e, h | .notv _, _, _, _, e, h | .ifx _ _ _, _, _, _, e, h | .ix _ _, _, _, _, e, h | .sl _ _ _, _, _, _, e, h | .bi _ _, _, _, _, e, h | .isa _ _, _, _, _, e, h | .mth _ _ _, _, _, _, e, h | .lc _ _ _ _ _, _, _, _, e, h
  | .tand _ _, _, _, _, e, h | .tor _ _, _, _, _, e, h | .tone _, _, _, _, e, h | .tnot _, _, _, _, e, h | .tst _, _, _, _, e, h | .tcmp _ _ _, _, _, _, e, h | .tcmp2 _ _ _ _ _, _, _, _, e, h
  | .iL _, _, _, _, e, h | .iT _, _, _, _, e, h | .iR1 _, _, _, _, e, h | .iR2 _, _, _, _, e, h | .iE _, _, _, _, e, h => by
    unfold chkO at h
    first | (cases h; done) | (split at h <;> simp_all)
theorem peT : ∀ (t : T) {X : Cx} {sc : Scope} (O : XOk X Ns sc Φ k) (e : Expr), chkT Ns Φ sc t e = true → PT X e (rdT X.K Φ t)
  | .tand a b, X, sc, O, e, h => by
    unfold chkT at h
    split at h <;> first | (simp at h; done) | skip
    all_goals (rename_i heq; cases heq)
    simp only [Bool.and_eq_true] at h
    simp only [rdT]
    exact PW.pt (pw_and (peT a O _ h.1) (peW b O _ h.2))
  | .tor a b, X, sc, O, e, h => by
    unfold chkT at h
    split at h <;> first | (simp at h; done) | skip
    all_goals (rename_i heq; cases heq)
    simp only [Bool.and_eq_true] at h
    simp only [rdT]
    exact PW.pt (pw_or (peT a O _ h.1) (peW b O _ h.2))
  | .tnot a, X, sc, O, e, h => by
    unfold chkT at h
    split at h <;> first | (simp at h; done) | skip
    all_goals (rename_i heq; cases heq)
    simp only [rdT]
    exact pt_not (peT a O _ h)
  | .tst a, X, sc, O, e, h => by
    simp only [chkT, Bool.and_eq_true] at h
    simp only [rdT]
    exact pt_truth (peE a O e h.2) (true_of h.1)
  | .tcmp o a b, X, sc, O, e, h => by
    unfold chkT at h
    split at h <;> first | (simp at h; done) | skip
    all_goals (rename_i heq; cases heq)
    simp only [Bool.and_eq_true, decide_eq_true_eq] at h
    obtain ⟨⟨⟨rfl, h2⟩, h3⟩, h4⟩ := h
    simp only [rdT]
    exact pt_cmpR (cmp_rule (units_of O) _) (peE a O _ h2) (peE b O _ h3) (mark_of h4)
  | .tcmp2 o p a b c, X, sc, O, e, h => by
    unfold chkT at h
    split at h <;> first | (simp at h; done) | skip
    all_goals (rename_i heq; cases heq)
    simp only [Bool.and_eq_true, decide_eq_true_eq] at h
    obtain ⟨⟨⟨⟨⟨rfl, rfl⟩, h2⟩, h3⟩, h4⟩, h5⟩ := h
    simp only [rdT]
    exact pt_chain (cmp_rule (units_of O) _) (cmp_rule (units_of O) _) (peE a O _ h2) (peE b O _ h3) (peE c O _ h4) (mark2_of h5)
  | .tone _, _, _, _, e, h | .nil, _, _, _, e, h | .cons _ _, _, _, _, e, h | .v _, _, _, _, e, h | .cN, _, _, _, e, h | .cB _, _, _, _, e, h | .cI _, _, _, _, e, h | .cS _, _, _, _, e, h | .lst _, _, _, _, e, h | .tup _, _, _, _, e, h | .bin _ _ _, _, _, _, e, h | .un _ _, _, _, _, e, h | .cmp _ _ _, _, _, _, e, h | .cmp2 _ _ _ _ _, _, _, _, e, h
  | .andv _ _, _, _, _, e, h | .orv _ _, _, _, _, e, h | .one _, _, _, _, e, h | .notv _, _, _, _, e, h | .ifx _ _ _, _, _, _, e, h | .ix _ _, _, _, _, e, h | .sl _ _ _, _, _, _, e, h | .bi _ _, _, _, _, e, h | .isa _ _, _, _, _, e, h | .call _ _, _, _, _, e, h | .mth _ _ _, _, _, _, e, h | .lc _ _ _ _ _, _, _, _, e, h
  | .iL _, _, _, _, e, h | .iT _, _, _, _, e, h | .iR1 _, _, _, _, e, h | .iR2 _, _, _, _, e, h | .iE _, _, _, _, e, h => by cases e <;> simp [chkT] at h
theorem peW : ∀ (t : T) {X : Cx} {sc : Scope} (O : XOk X Ns sc Φ k) (e : Expr), chkW Ns Φ sc t e = true → PW X e (rdT X.K Φ t)
  | .tand a b, X, sc, O, e, h => by
    unfold chkW at h
    split at h <;> first | (simp at h; done) | skip
    all_goals (rename_i heq; cases heq)
    simp only [Bool.and_eq_true] at h
    simp only [rdT]
    exact pw_and (peT a O _ h.1) (peW b O _ h.2)
  | .tor a b, X, sc, O, e, h => by
    unfold chkW at h
    split at h <;> first | (simp at h; done) | skip
    all_goals (rename_i heq; cases heq)
    simp only [Bool.and_eq_true] at h
    simp only [rdT]
    exact pw_or (peT a O _ h.1) (peW b O _ h.2)
  | .tone a, X, sc, O, e, h => by
    unfold chkW at h
    split at h <;> first | (simp at h; done) | skip
    all_goals (rename_i heq; cases heq)
    rename_i op x pos
    simp only [rdT]
    cases op with
    | And => exact pw_and1 (peT a O _ h)
    | Or => exact pw_or1 (peT a O _ h)
  | .tnot _, _, _, _, e, h | .tst _, _, _, _, e, h | .tcmp _ _ _, _, _, _, e, h | .tcmp2 _ _ _ _ _, _, _, _, e, h
  | .nil, _, _, _, e, h | .cons _ _, _, _, _, e, h | .v _, _, _, _, e, h | .cN, _, _, _, e, h | .cB _, _, _, _, e, h | .cI _, _, _, _, e, h | .cS _, _, _, _, e, h | .lst _, _, _, _, e, h | .tup _, _, _, _, e, h | .bin _ _ _, _, _, _, e, h | .un _ _, _, _, _, e, h | .cmp _ _ _, _, _, _, e, h | .cmp2 _ _ _ _ _, _, _, _, e, h
  | .andv _ _, _, _, _, e, h | .orv _ _, _, _, _, e, h | .one _, _, _, _, e, h | .notv _, _, _, _, e, h | .ifx _ _ _, _, _, _, e, h | .ix _ _, _, _, _, e, h | .sl _ _ _, _, _, _, e, h | .bi _ _, _, _, _, e, h | .isa _ _, _, _, _, e, h | .call _ _, _, _, _, e, h | .mth _ _ _, _, _, _, e, h | .lc _ _ _ _ _, _, _, _, e, h
  | .iL _, _, _, _, e, h | .iT _, _, _, _, e, h | .iR1 _, _, _, _, e, h | .iR2 _, _, _, _, e, h | .iE _, _, _, _, e, h => by cases e <;> simp [chkW] at h
theorem peC : ∀ (t : T) {X : Cx} {sc : Scope} (O : XOk X Ns sc Φ k) (es : List Expr), chkC Ns Φ sc t es = true → PTs X es (rdC X.K Φ t)
  | .nil, X, sc, O, es, h => by
    cases es with
    | nil => simp only [rdC]; exact pts_nil
    | cons e es => simp [chkC] at h
  | .tand a b, X, sc, O, e, h => by
    unfold chkC at h
    split at h <;> first | (simp at h; done) | skip
    all_goals (rename_i heq; cases heq)
    simp only [Bool.and_eq_true] at h
    simp only [rdC]
    exact pts_one (PW.pt (pw_and (peT a O _ h.1) (peW b O _ h.2)))
  | .tor a b, X, sc, O, e, h => by
    unfold chkC at h
    split at h <;> first | (simp at h; done) | skip
    all_goals (rename_i heq; cases heq)
    simp only [Bool.and_eq_true] at h
    simp only [rdC]
    exact pts_one (PW.pt (pw_or (peT a O _ h.1) (peW b O _ h.2)))
  | .tnot a, X, sc, O, e, h => by
    unfold chkC at h
    split at h <;> first | (simp at h; done) | skip
    all_goals (rename_i heq; cases heq)
    simp only [rdC]
    exact pts_one (pt_not (peT a O _ h))
  | .tst a, X, sc, O, es, h => by
    unfold chkC at h
    split at h <;> first | (simp at h; done) | skip
    all_goals (rename_i heq; cases heq)
    rename_i e
    simp only [Bool.and_eq_true] at h
    simp only [rdC]
    exact pts_one (pt_truth (peE a O e h.2) (true_of h.1))
  | .tcmp o a b, X, sc, O, e, h => by
    unfold chkC at h
    split at h <;> first | (simp at h; done) | skip
    all_goals (rename_i heq; cases heq)
    simp only [Bool.and_eq_true, decide_eq_true_eq] at h
    obtain ⟨⟨⟨rfl, h2⟩, h3⟩, h4⟩ := h
    simp only [rdC]
    exact pts_one (pt_cmpR (cmp_rule (units_of O) _) (peE a O _ h2) (peE b O _ h3) (mark_of h4))
  | .tcmp2 o p a b c, X, sc, O, e, h => by
    unfold chkC at h
    split at h <;> first | (simp at h; done) | skip
    all_goals (rename_i heq; cases heq)
    simp only [Bool.and_eq_true, decide_eq_true_eq] at h
    obtain ⟨⟨⟨⟨⟨rfl, rfl⟩, h2⟩, h3⟩, h4⟩, h5⟩ := h
    simp only [rdC]
    exact pts_one (pt_chain (cmp_rule (units_of O) _) (cmp_rule (units_of O) _) (peE a O _ h2) (peE b O _ h3) (peE c O _ h4) (mark2_of h5))
  | .tone _, _, _, _, e, h | .cons _ _, _, _, _, e, h | .v _, _, _, _, e, h | .cN, _, _, _, e, h | .cB _, _, _, _, e, h | .cI _, _, _, _, e, h | .cS _, _, _, _, e, h | .lst _, _, _, _, e, h | .tup _, _, _, _, e, h | .bin _ _ _, _, _, _, e, h | .un _ _, _, _, _, e, h | .cmp _ _ _, _, _, _, e, h | .cmp2 _ _ _ _ _, _, _, _, e, h
  | .andv _ _, _, _, _, e, h | .orv _ _, _, _, _, e, h | .one _, _, _, _, e, h | .notv _, _, _, _, e, h | .ifx _ _ _, _, _, _, e, h | .ix _ _, _, _, _, e, h | .sl _ _ _, _, _, _, e, h | .bi _ _, _, _, _, e, h | .isa _ _, _, _, _, e, h | .call _ _, _, _, _, e, h | .mth _ _ _, _, _, _, e, h | .lc _ _ _ _ _, _, _, _, e, h
  | .iL _, _, _, _, e, h | .iT _, _, _, _, e, h | .iR1 _, _, _, _, e, h | .iR2 _, _, _, _, e, h | .iE _, _, _, _, e, h => by
    unfold chkC at h
    first | (cases h; done) | (split at h <;> simp_all)
theorem peI : ∀ (t : T) {X : Cx} {sc : Scope} (O : XOk X Ns sc Φ k) (tg e : Expr), chkI Ns Φ sc t tg e = true → PI X tg e (rdI X.K Φ t)
  | .iL a, X, sc, O, tg, e, h => by
    simp only [chkI] at h
    simp only [rdI]
    exact pi_list (peE a O e h)
  | .iT a, X, sc, O, tg, e, h => by
    simp only [chkI] at h
    simp only [rdI]
    exact pi_tup (peE a O e h)
  | .iR1 a, X, sc, O, tg, e, h => by
    unfold chkI at h
    split at h <;> first | (simp at h; done) | skip
    all_goals (rename_i heq; cases heq)
    simp only [Bool.and_eq_true, decide_eq_true_eq] at h
    obtain ⟨⟨rfl, h2⟩, h3⟩ := h
    have hs := chkA_stars h3
    simp only [List.all_cons, Bool.and_eq_true] at hs
    simp only [rdI]
    exact pi_range1 (gl_of O h2) (O.bt _ (by decide +kernel)) (peA a O _ h3) (star_cons hs.1)
  | .iR2 a, X, sc, O, tg, e, h => by
    unfold chkI at h
    split at h <;> first | (simp at h; done) | skip
    all_goals (rename_i heq; cases heq)
    simp only [Bool.and_eq_true, decide_eq_true_eq] at h
    obtain ⟨⟨rfl, h2⟩, h3⟩ := h
    have hs := chkA_stars h3
    simp only [List.all_cons, Bool.and_eq_true] at hs
    simp only [rdI]
    exact pi_range2 (gl_of O h2) (O.bt _ (by decide +kernel)) (peA a O _ h3) (by rw [star_cons hs.1, star_cons hs.2.1]; rfl) (star_cons hs.2.1)
  | .iE a, X, sc, O, tg, e, h => by
    unfold chkI at h
    split at h <;> first | (simp at h; done) | skip
    all_goals (rename_i heq; cases heq)
    simp only [Bool.and_eq_true, decide_eq_true_eq] at h
    obtain ⟨⟨rfl, h2⟩, h3⟩ := h
    have hs := chkA_stars h3
    simp only [List.all_cons, Bool.and_eq_true] at hs
    simp only [rdI]
    exact pi_enum (gl_of O h2) (O.bt _ (by decide +kernel)) (peA a O _ h3) (star_cons hs.1)
  | .tand _ _, _, _, _, _, e, h | .tor _ _, _, _, _, _, e, h | .tnot _, _, _, _, _, e, h | .tst _, _, _, _, _, e, h | .tcmp _ _ _, _, _, _, _, e, h | .tcmp2 _ _ _ _ _, _, _, _, _, e, h
  | .tone _, _, _, _, _, e, h | .nil, _, _, _, _, e, h | .cons _ _, _, _, _, _, e, h | .v _, _, _, _, _, e, h | .cN, _, _, _, _, e, h | .cB _, _, _, _, _, e, h | .cI _, _, _, _, _, e, h | .cS _, _, _, _, _, e, h | .lst _, _, _, _, _, e, h | .tup _, _, _, _, _, e, h | .bin _ _ _, _, _, _, _, e, h | .un _ _, _, _, _, _, e, h | .cmp _ _ _, _, _, _, _, e, h | .cmp2 _ _ _ _ _, _, _, _, _, e, h
  | .andv _ _, _, _, _, _, e, h | .orv _ _, _, _, _, _, e, h | .one _, _, _, _, _, e, h | .notv _, _, _, _, _, e, h | .ifx _ _ _, _, _, _, _, e, h | .ix _ _, _, _, _, _, e, h | .sl _ _ _, _, _, _, _, e, h | .bi _ _, _, _, _, _, e, h | .isa _ _, _, _, _, _, e, h | .call _ _, _, _, _, _, e, h | .mth _ _ _, _, _, _, _, e, h | .lc _ _ _ _ _, _, _, _, _, e, h => by
    simp [chkI] at h
end
end
end Z

namespace Z
open PySem L2 PySem.Spec PyProof.Rows

/-! answers that are spoilt: what was got since a mark is changed by append, and not looked at any more -/
inductive SP where
  | nil
  | app (x e : T) (r : SP)          -- x.append(e)
  | forv (j i : Nat) (e : T) (r : SP)  -- for v_j in v_i: v_j.append(e)
def youngL : D → Bool
  | .lst true ds => decide (ds.length ≤ 50000)
  | _ => false
def kidOf (d : D) (k : Int) : Bool := decide (0 ≤ k) && (match d with
  | .lst _ ds => (match ds[k.toNat]? with | some e => youngL e | none => false)
  | .tup ds => (match ds[k.toNat]? with | some e => youngL e | none => false)
  | _ => false)
def tgtOk (ρ : Ev) : T → Bool
  | .v j => (match ρ[j]? with
    | some (.fz d) => youngL d
    | some (.ow _ (.lst _ ds)) => decide (ds.length ≤ 50000)
    | _ => false)
  | .ix (.v j) (.cI k) => (match ρ[j]? with
    | some (.fz d) => kidOf d k
    | some (.ow _ d) => kidOf d k
    | _ => false)
  | _ => false
def elOk (ρ : Ev) : T → Bool
  | .cI _ => true | .cN => true | .cB _ => true
  | .un .USub (.cI _) => true
  | .v j => (match ρ[j]? with
    | some (.fz d) => d.flat
    | some (.pn d) => d.flat
    | _ => false)
  | .lst .nil => true
  | .tup (.cons (.cI _) (.cons (.cI _) .nil)) => true
  | _ => false
def T.isV (j : Nat) : T → Bool
  | .v i => i == j
  | _ => false
def spOk (ρ : Ev) (n : Nat) : SP → Bool
  | .nil => true
  | .app x e r => decide (n ≤ 40000) && tgtOk ρ x && elOk ρ e && spOk ρ (n + 1) r
  | .forv j i e r => decide (n = 0) && decide (j < ρ.length) && !(e.isV j) && elOk ρ e && (match ρ[i]? with
    | some (.ow _ (.lst _ ds)) => decide (ds.length ≤ 40000) && ds.all youngL && spOk (ρ.set j .dead) ds.length r
    | _ => false)
def SP.slots : SP → List Nat
  | .nil => []
  | .app _ _ r => r.slots
  | .forv j _ _ r => j :: r.slots

/-- lists may have grown at their ends, by so many items; all else stands -/
def Wk (H G : Hp) (n : Nat) : Prop := ∀ a o, H a = some o → match o with
  | .lst us => ∃ us', G a = some (.lst us') ∧ us <+: us' ∧ us'.length ≤ us.length + n
  | o => G a = some o
section
variable {K : PySem.W.Frag} {Φ : List FnD} {I : Nat → Option V} {N B F0 F H : Hp} {ρ : Ev} {σ : L2.St}
theorem Wk.refl (H : Hp) : Wk H H 0 := fun a o e => by
  cases o <;> first | exact e | exact ⟨_, e, List.prefix_refl _, Nat.le_refl _⟩
theorem Wk.mono {G : Hp} {n m : Nat} (w : Wk H G n) (h : n ≤ m) : Wk H G m := fun a o e => by
  have := w a o e
  cases o <;> first | exact this | (obtain ⟨us, h1, h2, h3⟩ := this; exact ⟨us, h1, h2, Nat.le_trans h3 (by omega)⟩)
theorem Wk.ext {G G' : Hp} {n : Nat} (w : Wk H G n) (s : Same G G') : Wk H G' n := fun a o e => by
  have := w a o e
  cases o <;> first | exact s _ _ this | (obtain ⟨us, h1, h2, h3⟩ := this; exact ⟨us, s _ _ h1, h2, h3⟩)
theorem Wk.push {G : Hp} {n : Nat} (w : Wk H G n) {q : Addr} {us : List V} {v : V} (h : G q = some (.lst us)) : Wk H (upd G q (.lst (us ++ [v]))) (n + 1) := fun a o e => by
  have := w a o e
  by_cases ha : a = q
  · subst ha
    cases o with
    | lst us0 =>
      obtain ⟨us', h1, h2, h3⟩ := this
      rw [h] at h1
      cases h1
      exact ⟨_, upd_same, h2.trans (List.prefix_append _ _), by rw [List.length_append]; simp; omega⟩
    | _ => exact absurd (h.symm.trans this) (by simp)
  · cases o with
    | lst us0 =>
      obtain ⟨us', h1, h2, h3⟩ := this
      exact ⟨us', by rw [upd_ne ha]; exact h1, h2, by omega⟩
    | _ => show upd G q _ a = _; rw [upd_ne ha]; exact this
/-- what is appended is made anew or is flat -/
theorem el_ok {e : T} (W : Rel K I N B F0 ρ σ H F) (h : elOk ρ e = true) {σ' : L2.St} (hσ : ∀ (j : Nat) (c : C), ρ[j]? = some c → c ≠ .dead → e.isV j = true → σ'[j]? = σ[j]?) {G : Hp} {Q : VK} (q : ∀ v G', Same G G' → Q v G') : rd K Φ e σ' G Q := by
  unfold elOk at h
  split at h
  · simp only [rd]; exact q _ _ (Same.refl _)
  · simp only [rd]; exact q _ _ (Same.refl _)
  · simp only [rd]; exact q _ _ (Same.refl _)
  · simp only [rd]; exact ⟨_, rfl, q _ _ (Same.refl _)⟩
  · rename_i j
    simp only [rd]
    split at h
    · rename_i d hd
      obtain ⟨v, g1, g2⟩ := W.fz j d hd
      exact ⟨v, by rw [hσ j _ hd (fun z => nomatch z) (by simp [T.isV])]; exact g1, q _ _ (Same.refl _)⟩
    · rename_i d hd
      obtain ⟨v, g1, g2⟩ := W.pn j d hd
      exact ⟨v, by rw [hσ j _ hd (fun z => nomatch z) (by simp [T.isV])]; exact g1, q _ _ (Same.refl _)⟩
    · cases h
  · simp only [rd, rdA]
    exact ⟨Nat.zero_le _, fun p hp => q _ _ (upd_new hp)⟩
  · simp only [rd, rdA]
    exact ⟨by show 2 ≤ sizeLine; decide, fun p hp => q _ _ (upd_new hp)⟩
  · cases h
/-- the place of a list that was got since the mark -/
theorem young_at {v : V} {d : D} (h : Rep K N F v d) (y : youngL d = true) (s : Same F H) : ∃ q us, v = .ref q ∧ N q = none ∧ F q = some (.lst us) ∧ H q = some (.lst us) ∧ us.length ≤ 50000 := by
  unfold youngL at y
  split at y
  · cases h with
    | lst h f r => exact ⟨_, _, rfl, f rfl, h, s _ _ h, by rw [r.length]; exact of_decide_eq_true y⟩
  · cases y
theorem kid_at {a : Addr} {us : List V} {ds : List D} {k : Int} (r : Reps K N F us ds) (s : Same F H) (h : (decide (0 ≤ k) && (match ds[k.toNat]? with | some e => youngL e | none => false)) = true) :
    ∃ v, us[k.toNat]? = some v ∧ 0 ≤ k ∧ ∃ q ws, v = .ref q ∧ N q = none ∧ H q = some (.lst ws) ∧ ws.length ≤ 50000 := by
  simp only [Bool.and_eq_true, decide_eq_true_eq] at h
  obtain ⟨h0, h⟩ := h
  split at h
  · rename_i e he
    obtain ⟨v, g1, g2⟩ := r.get he
    obtain ⟨q, ws, rfl, q1, _, q2, q3⟩ := young_at g2 h s
    exact ⟨_, g1, h0, q, ws, rfl, q1, q2, q3⟩
  · cases h
theorem atI_pre {us us' : List V} {k : Int} {v : V} (h : us[k.toNat]? = some v) (h0 : 0 ≤ k) (p : us <+: us') : atI us' k = some v := by
  obtain ⟨t, rfl⟩ := p
  have hl := (List.getElem?_eq_some_iff.mp h).1
  have : (us ++ t)[k.toNat]? = some v := by rw [List.getElem?_append_left hl]; exact h
  have e : k = (k.toNat : Int) := by omega
  rw [e]
  exact atI_nat this
/-- where x.append goes -/
theorem tgt_ok {x : T} (W : Rel K I N B F0 ρ σ H F) (hNB : ∀ a, B a = none → N a = none) (h : tgtOk ρ x = true) {σ' : L2.St} (hσ : ∀ (j : Nat) (c : C), ρ[j]? = some c → c ≠ .dead → σ'[j]? = σ[j]?) {G : Hp} {n : Nat} (w : Wk H G n) {Q : VK}
    (q : ∀ p us, N p = none → G p = some (.lst us) → us.length ≤ 50000 + n → Q (.ref p) G) : rd K Φ x σ' G Q := by
  unfold tgtOk at h
  split at h
  · rename_i j
    simp only [rd]
    split at h
    · rename_i d hd
      obtain ⟨v, g1, g2⟩ := W.fz j d hd
      obtain ⟨p, us, rfl, q1, _, q2, q3⟩ := young_at g2 h W.sub
      obtain ⟨us', k1, k2, k3⟩ := w _ _ q2
      exact ⟨_, by rw [hσ j _ hd (fun z => nomatch z)]; exact g1, q p us' q1 k1 (by omega)⟩
    · rename_i b fl ds hd
      obtain ⟨p, g1, gB, _, vs, g4, g5⟩ := W.ow j _ _ hd
      obtain ⟨us', k1, k2, k3⟩ := w _ _ g4
      exact ⟨_, by rw [hσ j _ hd (fun z => nomatch z)]; exact g1, q p us' (hNB _ gB) k1 (by rw [g5.length] at k3; have := of_decide_eq_true h; omega)⟩
    · cases h
  · rename_i j k
    simp only [rd]
    have key : ∀ (v : V) (d : D), σ[j]? = some (some v) → ρ[j]? ≠ some .dead → (∃ c, ρ[j]? = some c) → See K N F H v d → kidOf d k = true → tOp (rIx K) (tVar j) (tC (.int k)) σ' G Q := by
      intro v d hs hnd ⟨c, hc⟩ hsee hk
      have hs' : σ'[j]? = some (some v) := by rw [hσ j c hc (fun z => hnd (by rw [hc, z]))]; exact hs
      refine ⟨v, hs', ?_⟩
      unfold kidOf at hk
      cases d with
      | lst fl ds =>
        obtain ⟨a, vs, rfl, h1, r⟩ := hsee
        obtain ⟨u, u1, u2, p, ws, rfl, p1, p2, p3⟩ := kid_at (a := a) r W.sub hk
        obtain ⟨us', k1, k2, k3⟩ := w _ _ h1
        obtain ⟨ws', l1, l2, l3⟩ := w _ _ p2
        exact .inl ⟨a, us', k, _, rfl, rfl, .inl (.inl k1), atI_pre u1 u2 k2, q p ws' p1 l1 (by omega)⟩
      | tup ds =>
        obtain ⟨a, vs, rfl, h1, r⟩ := hsee
        obtain ⟨u, u1, u2, p, ws, rfl, p1, p2, p3⟩ := kid_at (a := a) r W.sub hk
        have k1 : G a = some (.tup vs) := w _ _ h1
        obtain ⟨ws', l1, l2, l3⟩ := w _ _ p2
        exact .inr (.inl ⟨a, vs, k, _, rfl, rfl, .inl (.inl k1), atI_pre u1 u2 (List.prefix_refl _), q p ws' p1 l1 (by omega)⟩)
      | _ => simp at hk
    split at h
    · rename_i d hd
      obtain ⟨v, g1, g2⟩ := W.fz j d hd
      exact key v d g1 (by rw [hd]; simp) ⟨_, hd⟩ (g2.see W.sub) h
    · rename_i b d hd
      obtain ⟨p, g1, gB, _, g4⟩ := W.ow j _ _ hd
      exact key _ d g1 (by rw [hd]; simp) ⟨_, hd⟩ g4.see h
    · cases h
  · cases h
end
section
variable (K : PySem.W.Frag) (Φ : List FnD)
def rdApp (x e : T) : TS := tDrop (tBM K "list" rAppend (rd K Φ x) (tCons (rd K Φ e) tNil))
def rdSP : SP → TS → TS
  | .nil, u => u
  | .app x e r, u => tSeq (rdApp K Φ x e) (rdSP r u)
  | .forv j i e r, u => tSeq (tFor (iList K (tVar i)) (gName j) (tSeq (rdApp K Φ (.v j) e) tNext)) (rdSP r u)
end
section
variable {K : PySem.W.Frag} {Φ : List FnD} {I : Nat → Option V} {N B F0 F H H0 : Hp} {σ : L2.St}
theorem same_push {G : Hp} {q : Addr} {o : HO} (s : Same H0 G) (h : H0 q = none) : Same H0 (upd G q o) := fun a x e => by
  rw [upd_ne (ne_of_none e h)]; exact s a x e
theorem sz_push {n : Nat} (h : n ≤ 95000) : n < sizeLine := Evl.sz_lt (by omega)
/-- what x.append(e) does -/
theorem app_ok {ρ : Ev} {x e : T} (W : Rel K I N B F0 ρ σ H F) (hNB : ∀ a, B a = none → N a = none) {σ' : L2.St} (hσ : ∀ (j : Nat) (c : C), ρ[j]? = some c → c ≠ .dead → σ'[j]? = σ[j]?) {G : Hp} {n : Nat} (hn : n ≤ 40000) (w : Wk H G n)
    (h1 : tgtOk ρ x = true) (h2 : elOk ρ e = true) {D : Ends} (q : ∀ p us v G2, N p = none → Same G G2 → G2 p = some (.lst us) → Wk H (upd G2 p (.lst (us ++ [v]))) (n + 1) → D.nx σ' (upd G2 p (.lst (us ++ [v])))) : rdApp K Φ x e D σ' G := by
  refine tgt_ok W hNB h1 hσ w fun p us p1 p2 p3 => ?_
  refine ⟨.inl ⟨rfl, us, .inl (.inl p2)⟩, ?_⟩
  refine el_ok W h2 (fun j c hj hc _ => hσ j c hj hc) fun v G' s' => ?_
  refine ⟨p, us, v, rfl, rfl, s' _ _ p2, Evl.sz_lt (by omega), ?_⟩
  exact q p us v G' p1 s' (s' _ _ p2) ((w.ext s').push (s' _ _ p2))
/-- appends to what was got since the mark leave what stood at the mark -/
theorem sp_ok (u : TS) (D : Ends) (hNB : ∀ a, B a = none → N a = none) (hN : ∀ a, N a = none → H0 a = none) : ∀ (b : SP) (ρ : Ev) (n : Nat) (σ' : L2.St) (G : Hp), Rel K I N B F0 ρ σ H F → (∀ (j : Nat) (c : C), ρ[j]? = some c → c ≠ .dead → σ'[j]? = σ[j]?) → σ'.length = σ.length → Wk H G n → Same H0 G →
    (∀ (j : Nat), j ∈ b.slots → I j = none) → spOk ρ n b = true → (∀ σ2 G2, σ2.length = σ.length → (∀ (j : Nat), j ∉ b.slots → σ2[j]? = σ'[j]?) → Same H0 G2 → u D σ2 G2) → rdSP K Φ b u D σ' G
  | .nil, ρ, n, σ', G, W, hσ, hl, w, s, hi, h, q => q σ' G hl (fun _ _ => rfl) s
  | .app x e r, ρ, n, σ', G, W, hσ, hl, w, s, hi, h, q => by
    simp only [spOk, Bool.and_eq_true, decide_eq_true_eq] at h
    obtain ⟨⟨⟨h0, h1⟩, h2⟩, h3⟩ := h
    refine app_ok W hNB hσ h0 w h1 h2 fun p us v G2 p1 s2 p2 w2 => ?_
    exact sp_ok u D hNB hN r ρ (n + 1) σ' _ W hσ hl w2 (same_push (s.trans s2) (hN p p1)) (fun j hj => hi j hj) h3 q
  | .forv j i e r, ρ, n, σ', G, W, hσ, hl, w, s, hi, h, q => by
    simp only [spOk, Bool.and_eq_true, decide_eq_true_eq, Bool.not_eq_true'] at h
    obtain ⟨⟨⟨⟨h0, h1⟩, h2⟩, h3⟩, h4⟩ := h
    subst h0
    split at h4
    · rename_i b fl ds hd
      simp only [Bool.and_eq_true, decide_eq_true_eq] at h4
      obtain ⟨⟨h5, h6⟩, h7⟩ := h4
      obtain ⟨p, g1, gB, gF, vs, g4, g5⟩ := W.ow i _ _ hd
      obtain ⟨vs', k1, k2, k3⟩ := w _ _ g4
      obtain rfl : vs = vs' := k2.eq_of_length_le k3
      refine ⟨.ref p, by rw [hσ i _ hd (fun z => nomatch z)]; exact g1, p, rfl, ⟨vs, .inl (.inl k1)⟩, ?_⟩
      refine ⟨fun t m σ2 G2 => m = vs.length - t ∧ t ≤ vs.length ∧ σ2.length = σ.length ∧ (∀ k, k ≠ j → σ2[k]? = σ'[k]?) ∧ Wk H G2 t ∧ Same H0 G2 ∧ G2 p = some (.lst vs), ⟨_, rfl, Nat.zero_le _, hl, fun _ _ => rfl, w, s, k1⟩, ?_⟩
      rintro t m σ2 G2 ⟨rfl, i2, i3, i4, i5, i6, i7⟩
      by_cases hlt : t < vs.length
      · right
        have hx : vs[t]? = some vs[t] := List.getElem?_eq_getElem hlt
        refine ⟨⟨vs, vs[t], .inl (.inl i7), hx⟩, fun σ3 G3 => t + 1 ≤ vs.length ∧ σ3.length = σ.length ∧ (∀ k, k ≠ j → σ3[k]? = σ'[k]?) ∧ Wk H G3 (t + 1) ∧ Same H0 G3 ∧ G3 p = some (.lst vs), fun σ3 G3 z => ⟨_, by omega, rfl, z⟩, ?_⟩
        rintro x G3 ⟨rfl, hy⟩
        have hy' := hy vs (.inl (.inl i7))
        have hlt' : t < ds.length := by rw [← g5.length]; exact hlt
        obtain ⟨x', e1, d2⟩ := g5.get (List.getElem?_eq_getElem hlt')
        rw [e1] at hy'
        cases hy'
        have d1 := List.getElem?_eq_getElem hlt'
        generalize ds[t] = d at d1 d2
        have d3 : youngL d = true := (List.all_eq_true.mp h6) d (List.mem_of_getElem? d1)
        obtain ⟨q1, us, rfl, y1, y2, y3, y4⟩ := young_at d2 d3 W.sub
        obtain ⟨us', z1, z2, z3⟩ := i5 _ _ y3
        have hqp : p ≠ q1 := fun z => by subst z; rw [gF] at y2; cases y2
        have hjl : j < σ2.length := by rw [i3, ← W.len]; exact h1
        have hσ3 : ∀ k, k ≠ j → (σ2.set j (some (V.ref q1)))[k]? = σ'[k]? := fun k hk => by rw [List.getElem?_set_ne (Ne.symm hk)]; exact i4 k hk
        show tBM K "list" rAppend (rd K Φ (.v j)) (tCons (rd K Φ e) tNil) (σ2.set j (some (V.ref q1))) G3 _
        refine ⟨.ref q1, List.getElem?_set_self hjl, .inl ⟨rfl, us', .inl (.inl z1)⟩, ?_⟩
        refine el_ok W h3 (fun k c hk hc hv => ?_) fun v G' s' => ?_
        · have hkj : k ≠ j := fun z => by subst z; rw [h2] at hv; cases hv
          rw [hσ3 k hkj]
          exact hσ k c hk hc
        · refine ⟨q1, us', v, rfl, rfl, s' _ _ z1, Evl.sz_lt (by omega), ?_⟩
          refine ⟨hlt, by rw [List.length_set]; exact i3, hσ3, (i5.ext s').push (s' _ _ z1), same_push (i6.trans s') (hN _ y1), ?_⟩
          rw [upd_ne hqp]
          exact s' _ _ i7
      · left
        have : t = vs.length := by omega
        subst this
        refine ⟨⟨vs, .inl (.inl i7), Nat.le_refl _⟩, ?_⟩
        have W' := W.killed (hi j (by simp [SP.slots]))
        refine sp_ok u D hNB hN r (ρ.set j .dead) ds.length σ2 G2 W' (fun k c hk hc => ?_) i3 (by rw [← g5.length]; exact i5) i6 (fun k hk => hi k (by simp [SP.slots, hk])) h7 fun σ3 G3 l3 a3 s3 => q σ3 G3 l3 (fun k hk => ?_) s3
        · by_cases hkj : k = j
          · subst hkj
            exfalso
            by_cases hl : k < ρ.length
            · rw [List.getElem?_set_self hl] at hk
              exact hc (Option.some.inj hk).symm
            · rw [List.getElem?_eq_none (by simpa using hl)] at hk; cases hk
          · rw [List.getElem?_set_ne (Ne.symm hkj)] at hk
            rw [i4 k hkj]
            exact hσ k c hk hc
        · simp only [SP.slots, List.mem_cons, not_or] at hk
          rw [a3 k hk.2, i4 k hk.1]
    · cases h4
end
/-! the block: what it makes is spoilt at its end, all else stands as before -/
def ageC : C → C
  | .fz d => .pn d.old
  | .ow _ _ => .pd
  | .pn d => .pn d.old
  | .pd => .pd
  | .dead => .dead
def ageL (vs : List Nat) (ρ : Ev) : Ev := kills (ρ.map ageC) vs
def sSpl (vs : List Nat) (fa : SF) (b : SP) (fr : SF) : SF := fun ρ =>
  if noIo ρ vs = true ∧ b.slots.all (fun j => vs.contains j) = true then match fa (ageL vs ρ) with
    | some (ρ1, .nx) => if ρ1.length = ρ.length ∧ spOk ρ1 0 b = true then fr (kills ρ vs) else none
    | some (_, .rt (.val d)) => if d.flat = true then some (kills ρ vs, .rt (.val d)) else none
    | _ => none
  else none
section
variable {K : PySem.W.Frag} {Φ : List FnD} {I : Nat → Option V} {N B F0 F H H0 : Hp} {ρ : Ev} {σ : L2.St}
def ageI (vs : List Nat) (ρ : Ev) (σ : L2.St) : Nat → Option V := fun j => if vs.contains j = true then none else match ρ[j]? with
  | none => none
  | some .dead => none
  | some _ => (σ[j]?).join
theorem ageI_in {vs : List Nat} {j : Nat} (h : j ∈ vs) : ageI vs ρ σ j = none := by
  unfold ageI
  rw [if_pos (by simpa using h)]
theorem ageI_out {vs : List Nat} {j : Nat} {c : C} {v : V} (h : j ∉ vs) (hc : ρ[j]? = some c) (hd : c ≠ .dead) (hs : σ[j]? = some (some v)) : ageI vs ρ σ j = some v := by
  unfold ageI
  rw [if_neg (by simpa using h), hc]
  cases c <;> first | exact absurd rfl hd | (simp [hs])
theorem age_at {vs : List Nat} {j : Nat} {c : C} (h : (ageL vs ρ)[j]? = some c) (hc : c ≠ .dead) : j ∉ vs ∧ ∃ c0, ρ[j]? = some c0 ∧ c = ageC c0 := by
  have hj : j ∉ vs := fun z => hc (kills_in z h)
  refine ⟨hj, ?_⟩
  unfold ageL at h
  rw [kills_out hj, List.getElem?_map] at h
  obtain ⟨c0, h1, h2⟩ := Option.map_eq_some_iff.mp h
  exact ⟨c0, h1, h2.symm⟩
theorem Rel.aged (W : Rel K I N B F0 ρ σ H F) (vs : List Nat) : Rel K (ageI vs ρ σ) H H F (ageL vs ρ) σ H F := by
  have no_ow : ∀ (i : Nat) (b : Bool) (d : D), (ageL vs ρ)[i]? ≠ some (.ow b d) := fun i b d h => by
    obtain ⟨_, c0, _, h2⟩ := age_at h (fun z => nomatch z)
    cases c0 <;> cases h2
  refine ⟨Same.refl _, fun a h => h, W.sub, Same.refl _, fun _ _ => rfl, ?_, fun i d h => ?_, fun i b d h => absurd h (no_ow i b d), fun i j b c d e p h => absurd h (no_ow i b d), fun j v h => ?_, fun i d h => ?_⟩
  · show (Z.kills (ρ.map ageC) vs).length = _
    rw [kills_len, List.length_map]; exact W.len
  · obtain ⟨_, c0, _, h2⟩ := age_at h (fun z => nomatch z)
    cases c0 <;> cases h2
  · unfold ageI at h
    split at h
    · cases h
    · rename_i hv
      have hv' : j ∉ vs := by simpa using hv
      split at h
      · cases h
      · cases h
      · rename_i c hc hcc
        refine ⟨Option.join_eq_some_iff.mp h, ageC c, ?_, ?_⟩
        · unfold ageL
          rw [kills_out hv', List.getElem?_map, hcc]; rfl
        · cases c <;> first | rfl | exact absurd rfl (fun z => hc z)
  · obtain ⟨_, c0, h1, h2⟩ := age_at h (fun z => nomatch z)
    cases c0 with
    | fz e =>
      cases h2
      obtain ⟨v, g1, g2⟩ := W.fz i e h1
      exact ⟨v, g1, g2.old⟩
    | pn e =>
      cases h2
      obtain ⟨v, g1, g2⟩ := W.pn i e h1
      exact ⟨v, g1, g2.old⟩
    | _ => cases h2
theorem Rel.agree {σ' : L2.St} (W : Rel K I N B F0 ρ σ H F) (l : σ'.length = σ.length) (k : ∀ (j : Nat) (c : C) (v : V), ρ[j]? = some c → c ≠ .dead → σ[j]? = some (some v) → σ'[j]? = some (some v)) : Rel K I N B F0 ρ σ' H F := by
  refine ⟨W.frame, W.dom, W.sub, W.ini, W.old, by rw [W.len, l], fun j e q => ?_, fun j b e q => ?_, fun i j b c d1 d2 p h1 h2 h3 h4 => ?_, fun j p q => ?_, fun j e q => ?_⟩
  · obtain ⟨v, g1, g2⟩ := W.fz j e q
    exact ⟨v, k j _ v q (fun z => nomatch z) g1, g2⟩
  · obtain ⟨v, g1, g2⟩ := W.ow j b e q
    exact ⟨v, k j _ _ q (fun z => nomatch z) g1, g2⟩
  · obtain ⟨v, g1, g2⟩ := W.ow i b d1 h1
    obtain ⟨u, g3, g4⟩ := W.ow j c d2 h2
    rw [k i _ _ h1 (fun z => nomatch z) g1] at h3
    rw [k j _ _ h2 (fun z => nomatch z) g3] at h4
    cases h3; cases h4
    exact W.sep i j b c d1 d2 p h1 h2 g1 g3
  · obtain ⟨g1, e, g2, g3⟩ := W.io j p q
    exact ⟨k j e p g2 (fun z => by rw [z] at g3; cases g3) g1, e, g2, g3⟩
  · obtain ⟨v, g1, g2⟩ := W.pn j e q
    exact ⟨v, k j _ v q (fun z => nomatch z) g1, g2⟩
theorem Rel.later (W : Rel K I N B F0 ρ σ H F) {G : Hp} (s : Same H G) : Rel K I N B F0 ρ σ G F :=
  W.heap (Same.refl _) (W.sub.trans s) (W.frame.trans s) (fun _ _ => rfl) fun i b d p h1 h2 => by
    obtain ⟨q, g1, g2, g3, g4⟩ := W.ow i b d h1
    rw [h2] at g1
    cases g1
    exact ⟨g3, fun o e => s _ _ e⟩
theorem noIo_at {vs : List Nat} (h : noIo ρ vs = true) {i : Nat} (hi : i ∈ vs) : ∀ c, ρ[i]? = some c → c.pin ≠ true := fun c hc z => by
  have := (List.all_eq_true.mp h) i hi
  rw [hc] at this
  simp [z] at this
theorem snds_spl {ta u : TS} {fa fr : SF} {vs : List Nat} {b : SP} (ha : SndS K ta fa) (hr : SndS K u fr) : SndS K (tSeq ta (rdSP K Φ b u)) (sSpl vs fa b fr) := by
  intro I N B F0 ρ σ H F ρ' o W h D e
  unfold sSpl at h
  split at h
  · rename_i hg
    have WA := W.aged vs
    have hio : ∀ i ∈ vs, I i = none := fun i hi => W.noIo (noIo_at hg.1 hi)
    split at h
    · rename_i ρ1 e1
      split at h
      · rename_i hs
        refine ha _ H H F (ageL vs ρ) σ H F ρ1 .nx WA e1 { D with nx := rdSP K Φ b u D } fun σ1 H1 F1 s1 W1 => ?_
        have hl1 : σ1.length = σ.length := by rw [← W1.len, hs.1, W.len]
        refine sp_ok u D (fun _ z => z) (fun _ z => z) b ρ1 0 σ1 H1 W1 (fun _ _ _ _ => rfl) rfl (Wk.refl _) W1.frame (fun j hj => ageI_in (by have := (List.all_eq_true.mp hg.2) j hj; simpa using this)) hs.2 fun σ2 G2 l2 a2 s2 => ?_
        refine hr I N B F0 (kills ρ vs) σ2 G2 F ρ' o (((W.later s2).kills hio).agree (l2.trans hl1) fun j c v hj hc hv => ?_) h D e
        have hjv : j ∉ vs := fun z => hc (kills_in z hj)
        rw [kills_out hjv] at hj
        rw [a2 j (fun z => hjv (by have := (List.all_eq_true.mp hg.2) j z; simpa using this))]
        exact (W1.io j v (ageI_out hjv hj hc hv)).1
      · cases h
    · rename_i ρ1 d e1
      split at h
      · rename_i hf
        cases h
        refine ha _ H H F (ageL vs ρ) σ H F ρ1 (.rt (.val d)) WA e1 { D with nx := rdSP K Φ b u D } fun v σ1 H1 F1 s1 W1 o1 => ?_
        exact e v σ H1 F (Same.refl _) ((W.later W1.frame).kills hio) (Rep.flat_any (show Rep K H F1 v d from o1) hf)
      · cases h
    · cases h
  · cases h
end
end Z

namespace Z
open PySem L2 PySem.Spec PyProof.Rows

inductive S where
  | skip | seq (a b : S) | fz (i : Nat) (b : S)
  | asg (p : P) (t : T) | asgF (p : P) (t : T)
  | drop (t : T) | ret (t : T) | retN | brk | cont | pas
  | ifs (c : T) (a b : S) | for (p : P) (it : T) (b : S) | wh (n : Nat) (c : T) (b : S)
  | aug (i : Nat) (o : Operator) (t : T) | set (i : Nat) (k t : T) | augIx (i : Nat) (k : T) (o : Operator) (t : T)
  | spl (vs : List Nat) (a : S) (b : SP) (r : S)
section
variable (Φ : List FnD)
def ex : S → SF
  | .skip => sSkip
  | .seq a b => sSeq (ex a) (ex b)
  | .fz i b => sSeq (sFz i) (ex b)
  | .asg p t => sAsg p (ev Φ t)
  | .asgF p t => sAsgF p (ev Φ t)
  | .drop t => sDrop (ev Φ t)
  | .ret t => sRet (ev Φ t)
  | .retN => sRetN
  | .brk => sBreak
  | .cont => sCont
  | .pas => sSkip
  | .ifs c a b => sIf (evT Φ c) (ex a) (ex b)
  | .for p it b => sFor (evI Φ it) p (ex b)
  | .wh n c b => sWh n (evT Φ c) (ex b)
  | .aug i o t => sAug i o (ev Φ t)
  | .set i k t => sSet i (ev Φ k) (ev Φ t)
  | .augIx i k o t => sAugIx i (ev Φ k) o (ev Φ t)
  | .spl vs a b r => sSpl vs (ex a) b (ex r)
end
section
variable (K : PySem.W.Frag) (Φ : List FnD)
def rdS : S → TS
  | .skip => tNext
  | .seq a b => tSeq (rdS a) (rdS b)
  | .fz i b => rdS b
  | .asg p t => tAsg (rd K Φ t) (rdG K p)
  | .asgF p t => tAsg (rd K Φ t) (rdG K p)
  | .drop t => tDrop (rd K Φ t)
  | .ret t => tRet (rd K Φ t)
  | .retN => tRetN
  | .brk => tBreak
  | .cont => tCont
  | .pas => tNext
  | .ifs c a b => tIfS (rdT K Φ c) (rdS a) (rdS b)
  | .for p it b => tFor (rdI K Φ it) (rdG K p) (rdS b)
  | .wh n c b => tWhile (rdT K Φ c) (rdS b)
  | .aug i o t => tAug i (rd K Φ t) (augR o)
  | .set i k t => tAsg (rd K Φ t) (gSub (tVar i) (rd K Φ k) rSetL)
  | .augIx i k o t => tAugS (tVar i) (rd K Φ k) (rd K Φ t) (fun o i H Q => rIxL K o i H Q) (augR o) rSetL
  | .spl vs a b r => tSeq (rdS a) (rdSP K Φ b (rdS r))
end
theorem sndS {K : PySem.W.Frag} {Φ : List FnD} : ∀ s : S, SndS K (rdS K Φ s) (ex Φ s) := by
  intro s
  induction s with
  | skip => exact snds_skip
  | seq a b iha ihb => exact snds_seq iha ihb
  | fz i b ih => exact snds_fz ih
  | asg p t =>
    cases p with
    | n i => exact snds_asgN (sndE t)
    | tp a => exact snds_asgP (sndE t) (sndG _) (fun i => by simp)
    | nil => exact snds_asgP (sndE t) (sndG _) (fun i => by simp)
    | cons a b => exact snds_asgP (sndE t) (sndG _) (fun i => by simp)
  | asgF p t => exact snds_asgF (sndE t) (sndG p)
  | drop t => exact snds_drop (sndE t)
  | ret t => exact snds_ret (sndE t)
  | retN => exact snds_retN
  | brk => exact snds_break
  | cont => exact snds_cont
  | pas => exact snds_skip
  | ifs c a b iha ihb => exact snds_if (sndT c) iha ihb
  | «for» p it b ih => exact snds_for (sndI it) (sndG p) ih
  | wh n c b ih => exact snds_wh (sndT c) ih
  | aug i o t => exact snds_aug (sndE t)
  | set i k t => exact snds_set (sndE t) (sndE k)
  | augIx i k o t => exact snds_augIx (sndE t) (sndE k)
  | spl vs a b r iha ihr => exact snds_spl iha ihr

/-! statements against syntax -/
def S.len : S → Nat
  | .seq _ b => b.len + 1
  | .fz _ b => b.len
  | _ => 0
def SP.len : SP → Nat
  | .nil => 0
  | .app _ _ r => r.len + 1
  | .forv _ _ _ r => r.len + 1
def isComp : Expr → Bool
  | .ListComp .. => true | .SetComp .. => true | .DictComp .. => true
  | _ => false
def isTupE : Expr → Bool
  | .Tuple .. => true
  | _ => false
def isTupT : Expr → Bool
  | .Tuple .. => true
  | _ => false
/-- name = [..] is stored within the comprehension's frame -/
def swapB (sc : Scope) (tg e : Expr) : Bool := match tg, e with
  | .Name y py, .ListComp _ _ scope pos => (match sc.names.lookup y with | some .local => true | _ => false) && (py.line == pos.line) && !(scope.names.any fun (n, k) => n == y && (k == .local || k == .cell))
  | _, _ => false
/-- .. it is not, for sure -/
def noSwap (sc : Scope) (tg e : Expr) : Bool := match tg with
  | .Name y py => (match e with
    | .ListComp _ _ scope pos => !((match sc.names.lookup y with | some .local => true | _ => false) && (py.line == pos.line) && !(scope.names.any fun (n, k) => n == y && (k == .local || k == .cell)))
    | _ => !isComp e)
  | .Tuple .. => !isTupE e
  | _ => false
section
variable (Ns : List PySem.Str) (Φ : List FnD)
def chkAsg (sc : Scope) (p : P) (t : T) (tg e : Expr) : Bool :=
  chkG Ns (fun _ => true) sc p tg && chk Ns Φ sc t e && (noSwap sc tg e || (swapB sc tg e && (match p with | .n _ => true | _ => false)))
def chkApp (sc : Scope) (x e : T) : Stmt → Bool
  | .Expr ex _ => chk Ns Φ sc (.mth .append x (.cons e .nil)) ex && !isComp ex
  | _ => false
def chkFv (sc : Scope) (j i : Nat) (e : T) : Stmt → Bool
  | .For tg iter [b] [] _ => chkI Ns Φ sc (.iL (.v i)) tg iter && noSet iter && chkG Ns (fun _ => true) sc (.n j) tg && chkApp Ns Φ sc (.v j) e b
  | _ => false
def chkSP (sc : Scope) : SP → List Stmt → Bool
  | .nil, [] => true
  | .app x e r, s :: l => chkApp Ns Φ sc x e s && chkSP sc r l
  | .forv j i e r, s :: l => chkFv Ns Φ sc j i e s && chkSP sc r l
  | _, _ => false
mutual
def chkS (sc : Scope) : S → Stmt → Bool
  | .asg p t, .Assign [tg] e _ => chkAsg Ns Φ sc p t tg e
  | .asgF p t, .Assign [tg] e _ => chkAsg Ns Φ sc p t tg e
  | .drop t, .Expr e _ => chk Ns Φ sc t e && !isComp e
  | .ret t, .Return (some e) _ => chk Ns Φ sc t e
  | .retN, .Return none _ => true
  | .brk, .Break _ => true
  | .cont, .Continue _ => true
  | .pas, .Pass _ => true
  | .ifs c a b, .If e x y _ => chkT Ns Φ sc c e && chkB sc a x && chkB sc b y
  | .for p it b, .For tg iter body [] _ => chkI Ns Φ sc it tg iter && noSet iter && chkG Ns (fun _ => true) sc p tg && chkB sc b body
  | .wh _ c b, .While e body [] _ => chkT Ns Φ sc c e && chkB sc b body
  | .aug i o t, .AugAssign (.Name x _) o' e _ => decide (o = o') && decide (Ns[i]? = some x) && locB (fun _ => true) sc x && chk Ns Φ sc t e
  | .set i k t, .Assign [.Subscript (.Name x _) ke _] e _ => decide (Ns[i]? = some x) && visB sc x && noDbg x && plainIx ke && chk Ns Φ sc k ke && chk Ns Φ sc t e && !isComp e
  | .augIx i k o t, .AugAssign (.Subscript (.Name x _) ke _) o' e _ => decide (o = o') && decide (Ns[i]? = some x) && visB sc x && noDbg x && plainIx ke && chk Ns Φ sc k ke && chk Ns Φ sc t e
  | _, _ => false
def chkB (sc : Scope) : S → List Stmt → Bool
  | .skip, [] => true
  | .seq a b, s :: r => chkS sc a s && chkB sc b r
  | .fz _ b, l => chkB sc b l
  | .spl _ a b r, l => chkB sc a (l.take a.len) && chkSP Ns Φ sc b ((l.drop a.len).take b.len) && chkB sc r ((l.drop a.len).drop b.len)
  | _, _ => false
end
end
section
variable {Ns : List PySem.Str} {Φ : List FnD} {k : Nat} {X : Cx} {sc : Scope}
theorem swap_none {e : Expr} {tg : Option Expr} {l : Nat} {env : Env} (h : isComp e = false) : swapsWith e tg l env = pure false := by
  cases e <;> first | rfl | cases h
theorem swap_no {y : PySem.Str} {py : Pos} {e : Expr} {l : Nat} {env : Env} (hs : env.scope = sc) (h : noSwap sc (.Name y py) e = true) : swapsWith e (some (.Name y py)) l env = pure false := by
  simp only [noSwap] at h
  split at h
  · rename_i elt gs scope pos
    unfold swapsWith
    simp only
    congr 1
    subst hs
    simp only [Expr.pos, Env.kindOf]
    cases q : env.scope.names.lookup y with
    | none => simp
    | some kk =>
      rw [q] at h
      cases kk with
      | «local» =>
        simp only [Bool.true_and, Bool.not_eq_true'] at h
        rw [Bool.and_assoc, Bool.and_assoc, h]
        simp
      | _ => simp
  · exact swap_none (by simpa using h)
theorem assign1 {tg : Expr} {env : Env} (h : notStar tg = true) : (assignEach [tg] env).map (·.2) = [assign tg env] := by
  rw [assign_cons h]; rfl
theorem chk_lc {own : List (PySem.Str × Nat)} {p : P} {it c e : T} {elt : Expr} {gs : List Comprehension} {scope : Scope} {pos : Pos} (h : chk Ns Φ sc (.lc own p it c e) (.ListComp elt gs scope pos) = true) :
    ∃ tg iter ifs, gs = [⟨tg, iter, ifs, 0⟩] ∧ chkI Ns Φ sc it tg iter = true ∧ noSet iter = true ∧ blkC Ns sc scope own = true ∧ chkG Ns (fun x => scope.names.lookup x == some .cell) (relS scope sc) p tg = true ∧ chkC Ns Φ (relS scope sc) c ifs = true ∧ chk Ns Φ (relS scope sc) e elt = true := by
  cases gs with
  | nil => simp [chk] at h
  | cons g gs =>
    obtain ⟨tg, iter, ifs, as⟩ := g
    cases gs with
    | cons _ _ => simp [chk] at h
    | nil =>
      by_cases ha : as = 0
      · subst ha
        simp only [chk, Bool.and_eq_true] at h
        obtain ⟨⟨⟨⟨⟨h1, h2⟩, h3⟩, h4⟩, h5⟩, h6⟩ := h
        exact ⟨_, _, _, rfl, h1, h2, h3, h4, h5, h6⟩
      · exfalso
        unfold chk at h
        split at h <;> first | (simp at h; done) | (rename_i heq; cases heq; first | done | exact ha rfl)
theorem peAsg (O : XOk X Ns sc Φ k) (hkind : sc.kind = .function) (hfn : ∀ x, X.fn x = true) {p : P} {t : T} {tg e : Expr} {pos : Pos} (h : chkAsg Ns Φ sc p t tg e = true) : PS X (.Assign [tg] e pos) (tAsg (rd X.K Φ t) (rdG X.K p)) := by
  unfold chkAsg at h
  simp only [Bool.and_eq_true, Bool.or_eq_true] at h
  obtain ⟨⟨h1, h2⟩, h3⟩ := h
  have hG := peG O (fnb := fun _ => true) (fun x _ => hfn x) p tg h1
  rcases h3 with h3 | ⟨h3, h4⟩
  · cases tg <;> first | (simp [noSwap] at h3; done) | skip
    · rename_i y py
      refine ps_asg (peE t O e h2) hG ?_ ?_ rfl
      · show swapsWith e (some (.Name y py)) pos.line X.env = _
        exact swap_no O.scope h3
      · rfl
    · rename_i es kk ps
      have : isTupE e = false := by simpa [noSwap] using h3
      refine ps_asg (peE t O e h2) hG ?_ ?_ rfl
      · show swapsWith e (some (.Tuple es kk ps)) pos.line X.env = _
        cases e <;> first | rfl | cases this
      · cases e <;> first | rfl | cases this
  · cases p with
    | n i =>
      cases tg <;> first | (simp [swapB] at h3; done) | skip
      rename_i y py
      cases e <;> first | (simp [swapB] at h3; done) | skip
      rename_i elt gs scope epos
      simp only [swapB, Bool.and_eq_true, Bool.not_eq_true'] at h3
      obtain ⟨⟨g1, g2⟩, g3⟩ := h3
      have hl : sc.names.lookup y = some .local := by
        split at g1
        · assumption
        · cases g1
      simp only [chkG, Bool.and_eq_true, decide_eq_true_eq] at h1
      obtain ⟨own, p', it, c, et, rfl⟩ : ∃ own p' it c et, t = .lc own p' it c et := by
        cases t <;> first | exact ⟨_, _, _, _, _, rfl⟩ | (simp [chk] at h2; done)
      obtain ⟨tg, iter, ifs, rfl, k1, k2, k3, k4, k5, k6⟩ := chk_lc h2
      simp only [rd, rdG]
      refine ps_setLc O.calm (by rw [O.names]; exact O.nd) (by rw [O.names]; exact h1.1) (by rw [O.scope]; exact hl) (sw_true (by rw [O.scope]; exact hkind) (by rw [O.scope]; exact hl) g2 g3) (peI it O _ _ k1) (blkOk_by (by rw [O.names, O.scope]; exact k3)) (fun s H C cl fp => ?_) (fun s H C cl fp => ?_) (fun s H C cl fp => ?_) (set_of k2)
      · exact peG (O.blk s H scope C cl fp) (fnb := fun x => scope.names.lookup x == some .cell) (fun x hx => hx) p' tg k4
      · exact peC c (O.blk s H scope C cl fp) ifs k5
      · exact peE et (O.blk s H scope C cl fp) elt k6
    | _ => simp at h4
theorem augStore_of {ke : Expr} (h : plainIx ke = true) : ∀ ov iv new, augStore ke ov iv new = (do holding [new, ov, iv] (setItem ov iv new); release [new, ov, iv] []; pure .next) := by
  cases ke <;> first | (intros; rfl) | cases h
theorem sub_assign {x : PySem.Str} {px pos : Pos} {ke : Expr} {env : Env} (h : plainIx ke = true) : ∀ v, assign (.Subscript (.Name x px) ke pos) env v = (do
      let ov ← holding [v] (eval (.Name x px) env)
      let iv ← holding [v, ov] (eval ke env)
      standAt pos
      holding [v, ov, iv] (setItem ov iv v)
      release [v, ov, iv] []) := by
  cases ke <;> first | (intro v; rfl) | cases h
theorem pss_of {l : List Stmt} {t : TS} (h : PSs X (l ++ []) (tSeq t tNext)) : PSs X l t := by
  rw [List.append_nil] at h
  exact h
theorem rdSP_seq {K : PySem.W.Frag} {v u : TS} : ∀ b : SP, tSeq (rdSP K Φ b v) u = rdSP K Φ b (tSeq v u)
  | .nil => rfl
  | .app x e r => by
    show tSeq (tSeq (rdApp K Φ x e) (rdSP K Φ r v)) u = tSeq (rdApp K Φ x e) _
    rw [← rdSP_seq r]; rfl
  | .forv j i e r => by
    show tSeq (tSeq _ (rdSP K Φ r v)) u = tSeq _ _
    rw [← rdSP_seq r]; rfl
theorem peApp (O : XOk X Ns sc Φ k) (x e : T) (st : Stmt) (h : chkApp Ns Φ sc x e st = true) : PS X st (rdApp X.K Φ x e) := by
  unfold chkApp at h
  split at h <;> first | (simp at h; done) | skip
  simp only [Bool.and_eq_true, Bool.not_eq_true'] at h
  exact ps_expr (peE (.mth .append x (.cons e .nil)) O _ h.1) (swap_none h.2)
theorem peFv (O : XOk X Ns sc Φ k) (hfn : ∀ x, X.fn x = true) (hpo : PassesOwn (model X.prog X.w) X.A X.env X.xe) (j i : Nat) (e : T) (st : Stmt) (h : chkFv Ns Φ sc j i e st = true) : PS X st (tFor (iList X.K (tVar i)) (gName j) (tSeq (rdApp X.K Φ (.v j) e) tNext)) := by
  unfold chkFv at h
  split at h <;> first | (simp at h; done) | skip
  simp only [Bool.and_eq_true] at h
  obtain ⟨⟨⟨h1, h2⟩, h3⟩, h4⟩ := h
  exact ps_for hpo O.calm (peI (.iL (.v i)) O _ _ h1) (peG O (fnb := fun _ => true) (fun x _ => hfn x) (.n j) _ h3) (pss_cons (peApp O _ _ _ h4) pss_nil) (set_of h2)
theorem peSP (O : XOk X Ns sc Φ k) (hkind : sc.kind = .function) (hfn : ∀ x, X.fn x = true) (hpo : PassesOwn (model X.prog X.w) X.A X.env X.xe) : ∀ (s : SP) (l l2 : List Stmt) (u : TS), chkSP Ns Φ sc s l = true → PSs X l2 u → PSs X (l ++ l2) (rdSP X.K Φ s u)
  | .nil, l, l2, u, h, hu => by
    cases l with
    | nil => exact hu
    | cons _ _ => simp [chkSP] at h
  | .app x e r, l, l2, u, h, hu => by
    cases l with
    | nil => simp [chkSP] at h
    | cons st l =>
      simp only [chkSP, Bool.and_eq_true] at h
      exact pss_cons (peApp O _ _ st h.1) (peSP O hkind hfn hpo r l l2 u h.2 hu)
  | .forv j i e r, l, l2, u, h, hu => by
    cases l with
    | nil => simp [chkSP] at h
    | cons st l =>
      simp only [chkSP, Bool.and_eq_true] at h
      exact pss_cons (peFv O hfn hpo _ _ _ st h.1) (peSP O hkind hfn hpo r l l2 u h.2 hu)
mutual
theorem peS (O : XOk X Ns sc Φ k) (hkind : sc.kind = .function) (hfn : ∀ x, X.fn x = true) (hpo : PassesOwn (model X.prog X.w) X.A X.env X.xe) : ∀ (s : S) (st : Stmt), chkS Ns Φ sc s st = true → PS X st (rdS X.K Φ s)
  | .asg p t, st, h => by
    unfold chkS at h
    split at h <;> first | (simp at h; done) | skip
    all_goals (rename_i heq; cases heq)
    exact peAsg O hkind hfn h
  | .asgF p t, st, h => by
    unfold chkS at h
    split at h <;> first | (simp at h; done) | skip
    all_goals (rename_i heq; cases heq)
    exact peAsg O hkind hfn h
  | .drop t, st, h => by
    unfold chkS at h
    split at h <;> first | (simp at h; done) | skip
    all_goals (rename_i heq; cases heq)
    simp only [Bool.and_eq_true, Bool.not_eq_true'] at h
    exact ps_expr (peE t O _ h.1) (swap_none h.2)
  | .ret t, st, h => by
    unfold chkS at h
    split at h <;> first | (simp at h; done) | skip
    all_goals (rename_i heq; cases heq)
    exact ps_ret (peE t O _ h)
  | .retN, st, h => by
    unfold chkS at h
    split at h <;> first | (simp at h; done) | skip
    all_goals (rename_i heq; cases heq)
    exact ps_retN
  | .brk, st, h => by
    unfold chkS at h
    split at h <;> first | (simp at h; done) | skip
    all_goals (rename_i heq; cases heq)
    exact ps_break
  | .cont, st, h => by
    unfold chkS at h
    split at h <;> first | (simp at h; done) | skip
    all_goals (rename_i heq; cases heq)
    exact ps_continue
  | .pas, st, h => by
    unfold chkS at h
    split at h <;> first | (simp at h; done) | skip
    all_goals (rename_i heq; cases heq)
    exact ps_pass
  | .ifs c a b, st, h => by
    unfold chkS at h
    split at h <;> first | (simp at h; done) | skip
    all_goals (rename_i heq; cases heq)
    simp only [Bool.and_eq_true] at h
    exact ps_if (peT c O _ h.1.1) (pss_of (peBk O hkind hfn hpo a _ [] tNext h.1.2 pss_nil)) (pss_of (peBk O hkind hfn hpo b _ [] tNext h.2 pss_nil))
  | .for p it b, st, h => by
    unfold chkS at h
    split at h <;> first | (simp at h; done) | skip
    all_goals (rename_i heq; cases heq)
    simp only [Bool.and_eq_true] at h
    obtain ⟨⟨⟨h1, h2⟩, h3⟩, h4⟩ := h
    exact ps_for hpo O.calm (peI it O _ _ h1) (peG O (fnb := fun _ => true) (fun x _ => hfn x) p _ h3) (pss_of (peBk O hkind hfn hpo b _ [] tNext h4 pss_nil)) (set_of h2)
  | .wh n c b, st, h => by
    unfold chkS at h
    split at h <;> first | (simp at h; done) | skip
    all_goals (rename_i heq; cases heq)
    simp only [Bool.and_eq_true] at h
    exact ps_while hpo (peT c O _ h.1) (pss_of (peBk O hkind hfn hpo b _ [] tNext h.2 pss_nil))
  | .aug i o t, st, h => by
    unfold chkS at h
    split at h <;> first | (simp at h; done) | skip
    all_goals (rename_i heq; cases heq)
    simp only [Bool.and_eq_true, decide_eq_true_eq] at h
    obtain ⟨⟨⟨rfl, h2⟩, h3⟩, h4⟩ := h
    obtain ⟨l1, l2⟩ := loc_of O (fnb := fun _ => true) (fun x _ => hfn x) h3
    exact ps_aug (by rw [O.names]; exact O.nd) (by rw [O.names]; exact h2) l1 (peE t O _ h4) (aug_rule _) l2
  | .set i kk t, st, h => by
    unfold chkS at h
    split at h <;> first | (simp at h; done) | skip
    all_goals (rename_i heq; cases heq)
    simp only [Bool.and_eq_true, decide_eq_true_eq, Bool.not_eq_true'] at h
    obtain ⟨⟨⟨⟨⟨⟨h1, h2⟩, h3⟩, h4⟩, h5⟩, h6⟩, h7⟩ := h
    refine ps_asg (peE t O _ h6) (pg_sub (pe_var (by rw [O.names]; exact h1) (vis_of O h2) (dbg_of h3).1 (dbg_of h3).2) (peE kk O _ h5) set_list (sub_assign h4)) (by unfold swapsWithSole; exact swap_none h7) rfl rfl
  | .augIx i kk o t, st, h => by
    unfold chkS at h
    split at h <;> first | (simp at h; done) | skip
    all_goals (rename_i heq; cases heq)
    simp only [Bool.and_eq_true, decide_eq_true_eq] at h
    obtain ⟨⟨⟨⟨⟨⟨rfl, h1⟩, h2⟩, h3⟩, h4⟩, h5⟩, h6⟩ := h
    exact ps_augS (pe_var (by rw [O.names]; exact h1) (vis_of O h2) (dbg_of h3).1 (dbg_of h3).2) (peE kk O _ h5) pget_list (peE t O _ h6) (aug_rule _) set_list (augStore_of h4)
  | .skip, st, h => by simp [chkS] at h
  | .seq _ _, st, h => by simp [chkS] at h
  | .fz _ _, st, h => by simp [chkS] at h
  | .spl _ _ _ _, st, h => by simp [chkS] at h
theorem peBk (O : XOk X Ns sc Φ k) (hkind : sc.kind = .function) (hfn : ∀ x, X.fn x = true) (hpo : PassesOwn (model X.prog X.w) X.A X.env X.xe) : ∀ (s : S) (l l2 : List Stmt) (u : TS), chkB Ns Φ sc s l = true → PSs X l2 u → PSs X (l ++ l2) (tSeq (rdS X.K Φ s) u)
  | .skip, l, l2, u, h, hu => by
    cases l with
    | nil => exact hu
    | cons _ _ => simp [chkB] at h
  | .seq a b, l, l2, u, h, hu => by
    cases l with
    | nil => simp [chkB] at h
    | cons st r =>
      simp only [chkB, Bool.and_eq_true] at h
      have := pss_cons (peS O hkind hfn hpo a st h.1) (peBk O hkind hfn hpo b r l2 u h.2 hu)
      exact this
  | .fz i b, l, l2, u, h, hu => by
    simp only [chkB] at h
    exact peBk O hkind hfn hpo b l l2 u h hu
  | .spl vs a b r, l, l2, u, h, hu => by
    simp only [chkB, Bool.and_eq_true] at h
    have e : l ++ l2 = l.take a.len ++ ((l.drop a.len).take b.len ++ ((l.drop a.len).drop b.len ++ l2)) := by
      rw [← List.append_assoc ((l.drop a.len).take b.len), List.take_append_drop, ← List.append_assoc, List.take_append_drop]
    rw [e]
    have := peBk O hkind hfn hpo a _ _ _ h.1.1 (peSP O hkind hfn hpo b _ _ _ h.1.2 (peBk O hkind hfn hpo r _ l2 u h.2 hu))
    rw [← rdSP_seq] at this
    exact this
  | .asg _ _, l, l2, u, h, hu | .asgF _ _, l, l2, u, h, hu | .drop _, l, l2, u, h, hu | .ret _, l, l2, u, h, hu | .retN, l, l2, u, h, hu | .brk, l, l2, u, h, hu | .cont, l, l2, u, h, hu | .pas, l, l2, u, h, hu | .ifs _ _ _, l, l2, u, h, hu | .for _ _ _, l, l2, u, h, hu | .wh _ _ _, l, l2, u, h, hu | .aug _ _ _, l, l2, u, h, hu | .set _ _ _, l, l2, u, h, hu | .augIx _ _ _ _, l, l2, u, h, hu => by simp [chkB] at h
end
theorem peB (O : XOk X Ns sc Φ k) (hkind : sc.kind = .function) (hfn : ∀ x, X.fn x = true) (hpo : PassesOwn (model X.prog X.w) X.A X.env X.xe) (s : S) (l : List Stmt) (h : chkB Ns Φ sc s l = true) : PSs X l (rdS X.K Φ s) := by
  have := peBk O hkind hfn hpo s l [] tNext h pss_nil
  rw [List.append_nil] at this
  exact this
end

/-! a def of the text -/
structure DefOk (st : Stmt) (Ns ps : List PySem.Str) (Φ : List FnD) (s : S) : Prop where
  scope : FnScope Ns ps (defScope st)
  body : chkB Ns Φ (defScope st) s (defBody st) = true
def fnD (name : PySem.Str) (ps : List PySem.Str) (io : Bool) (n : Nat) (Φ : List FnD) (s : S) : FnD := ⟨name, ps, io, runFn n ps.length io (ex Φ s)⟩
section
variable {Pr : Program} {w : World} {K : PySem.W.Frag} {mg : PySem.Str → Option Value} {base : Heap}
/-- where the text's defs stand -/
structure DefAt (K : PySem.W.Frag) (mg : PySem.Str → Option Value) (name : PySem.Str) (st : Stmt) (ps : List PySem.Str) : Prop where
  ex : ∃ f fd, Fun K name name st f fd ∧ mg name = some (.ref f) ∧ Binds K fd ps []
theorem fn_ok {name : PySem.Str} {st : Stmt} {f : Addr} {fd : FuncData} {Ns ps : List PySem.Str} {Φ : List FnD} {s : S} {io : Bool} {k : Nat} (F : Fun K name name st f fd) (D : DefOk st Ns ps Φ s) (hl : ps.length ≤ Ns.length) (hΦ : ∀ (i : Nat) (F : FnD), Φ[i]? = some F → FnIn Pr w K mg base k F)
    (hbt : ∀ x, x ∈ bnames → mg x = none) : FnOk Pr w K mg base CX0 (k + 1) f fd ps (spOf K ps.length io (runFn Ns.length ps.length io (ex Φ s))) := by
  refine F.ok D.scope (fun vs H Q E h => h.1) (fun cdv A outer sh H vs Q E hr h => ?_)
  have O : XOk (cxOf CX0 Pr w K mg base Ns name (defScope st) f cdv A outer sh H E).nox Ns (defScope st) Φ k := ⟨rfl, rfl, D.scope.nd, rfl, hr, hΦ, hbt⟩
  refine ⟨_, peB O D.scope.kind (fun _ => rfl) PassesOwn.never s _ D.body, ?_⟩
  exact fn_body hl (sndS s) h
theorem fn_in {name : PySem.Str} {st : Stmt} {Ns ps : List PySem.Str} {Φ : List FnD} {s : S} {io : Bool} {k : Nat} (A : DefAt K mg name st ps) (D : DefOk st Ns ps Φ s) (hl : ps.length ≤ Ns.length) (hΦ : ∀ (i : Nat) (F : FnD), Φ[i]? = some F → FnIn Pr w K mg base k F)
    (hbt : ∀ x, x ∈ bnames → mg x = none) : FnIn Pr w K mg base (k + 1) (fnD name ps io Ns.length Φ s) := by
  obtain ⟨f, fd, F, hm, hb⟩ := A.ex
  exact ⟨f, fd, fn_ok F D hl hΦ hbt, hm, F.kp, hb⟩
/-- a def's place, from what the top has written -/
theorem def_at {h : Heap} (X : K.In h) (G : h.Ns mainGlobals mg) {name : PySem.Str} {st : Stmt} {ps : List PySem.Str} {f : Addr} {od an : Option Addr} {sl : Array (Option Value)} {oc kV dc pm cd ct : Value}
    (a : PySem.W.nsIn K mainGlobals name = some (some (.ref f))) (l : K.lookup f = some ⟨oc, od, .func (PySem.W.fnOf name name (defArgs st) (defBody st) (defScope st) .none kV dc pm an cd ct), sl⟩) (c : PySem.W.codeIn K cd name = true) (k : PySem.W.keepIn K (.ref f) = true)
    (b : ∀ (kV doc pm : Value) (an : Option Addr) (cdv ct : Value) (us : List Value), us.length = ps.length → bindArgs (PySem.W.fnOf name name (defArgs st) (defBody st) (defScope st) .none kV doc pm an cdv ct) ⟨us, []⟩ = pure (ps.zip us)) : DefAt K mg name st ps :=
  ⟨f, _, fun_mk (st := st) l c k, PySem.W.mg_of X G a, (fun_mk (st := st) l c k).binds b⟩
theorem FnIn.mono {j k : Nat} {F : FnD} (h : FnIn Pr w K mg base j F) (l : j ≤ k) : FnIn Pr w K mg base k F := by
  obtain ⟨f, fd, h1, h2⟩ := h
  exact ⟨f, fd, h1.mono l, h2⟩
end
end Z

namespace Z
open PySem L2

/-! plain types as data -/
def Okd (k : Nat) (p : PyData) : Prop := p.canLay0 = true ∧ p.depth ≤ k
theorem ok_of {d : D} {k : Nat} (h : Okd k d.py) (hk : k ≤ 64) : d.ok = true := by
  unfold D.ok SeqAt.shaped
  rw [h.1, Bool.true_and]
  exact decide_eq_true (Nat.le_trans h.2 hk)
class Enc (α : Type) [DecidableEq α] where
  enc : α → D
  dep : Nat
  old : ∀ a, (enc a).old = enc a
  ok : ∀ a, Okd dep (enc a).py
  eqv : ∀ a b, PyData.eqv (enc a).py (enc b).py = decide (a = b)
abbrev enc {α : Type} [DecidableEq α] [Enc α] (a : α) : D := Enc.enc a
mutual
theorem py_old : ∀ d : D, d.old.py = d.py
  | .non => rfl | .bl _ => rfl | .int _ => rfl | .str _ => rfl
  | .lst _ xs => by simp only [D.old, D.py, pys_olds xs]
  | .tup xs => by simp only [D.old, D.py, pys_olds xs]
  | .dic _ _ => rfl
  | .dit _ _ => rfl
  | .scr _ => rfl
theorem pys_olds : ∀ ds : List D, D.pys (D.olds ds) = D.pys ds
  | [] => rfl
  | d :: r => by simp only [D.olds, D.pys, py_old d, pys_olds r]
end
theorem pys_map {α : Type} (e : α → D) : ∀ xs : List α, D.pys (xs.map e) = xs.map fun x => (e x).py
  | [] => rfl
  | x :: xs => by simp only [List.map_cons, D.pys, pys_map e xs]
theorem olds_eq : ∀ ds : List D, D.olds ds = ds.map D.old
  | [] => rfl
  | d :: r => by simp only [D.olds, List.map_cons, olds_eq r]
theorem olds_map {α : Type} (e : α → D) (xs : List α) : D.olds (xs.map e) = xs.map fun x => (e x).old := by
  rw [olds_eq, List.map_map]; rfl
theorem okd_mono {j k : Nat} {p : PyData} (h : Okd j p) (l : j ≤ k) : Okd k p := ⟨h.1, Nat.le_trans h.2 l⟩
theorem okd_all {α : Type} {f : α → PyData} {k : Nat} (h : ∀ a, Okd k (f a)) : ∀ xs : List α, PyData.canLayAll0 (xs.map f) = true ∧ PyData.depthAll (xs.map f) ≤ k
  | [] => ⟨by simp [PyData.canLayAll0], by simp [PyData.depthAll]⟩
  | x :: xs => by
    obtain ⟨h1, h2⟩ := okd_all h xs
    obtain ⟨g1, g2⟩ := h x
    simp only [List.map_cons, PyData.canLayAll0, PyData.depthAll, h1, g1, Bool.and_self, true_and]
    omega
theorem eqv_all {α : Type} [DecidableEq α] {f : α → PyData} (h : ∀ a b, PyData.eqv (f a) (f b) = decide (a = b)) : ∀ xs ys : List α, PyData.eqvAll (xs.map f) (ys.map f) = decide (xs = ys)
  | [], [] => by simp [PyData.eqvAll]
  | [], _ :: _ => by simp [PyData.eqvAll]
  | _ :: _, [] => by simp [PyData.eqvAll]
  | x :: xs, y :: ys => by
    simp only [List.map_cons, PyData.eqvAll, h, eqv_all h xs ys, List.cons.injEq]
    by_cases h1 : x = y <;> by_cases h2 : xs = ys <;> simp [h1, h2]
instance : Enc Int where
  enc := D.int
  dep := 0
  old := fun _ => rfl
  ok := fun a => ⟨by simp [D.py, PyData.canLay0], by simp [D.py, PyData.depth]⟩
  eqv := fun a b => by
    simp only [D.py, PyData.eqv]
    by_cases h : a = b <;> simp [h]
instance {α : Type} [DecidableEq α] [Enc α] : Enc (List α) where
  enc := fun xs => .lst false (xs.map enc)
  dep := Enc.dep α + 1
  old := fun xs => by
    simp only [D.old, olds_map]
    congr 1
    exact List.map_congr_left fun a _ => Enc.old a
  ok := fun xs => by
    obtain ⟨h1, h2⟩ := okd_all (f := fun a : α => (enc a).py) (fun a => Enc.ok a) xs
    simp only [D.py, pys_map]
    exact ⟨by simp only [PyData.canLay0]; exact h1, by simp only [PyData.depth]; omega⟩
  eqv := fun xs ys => by
    simp only [D.py, pys_map, PyData.eqv]
    exact eqv_all (fun a b => Enc.eqv a b) xs ys
instance {α β : Type} [DecidableEq α] [DecidableEq β] [Enc α] [Enc β] : Enc (α × β) where
  enc := fun p => .tup [enc p.1, enc p.2]
  dep := max (Enc.dep α) (Enc.dep β) + 1
  old := fun p => by simp only [D.old, D.olds, Enc.old]
  ok := fun p => by
    have h1 : Okd (Enc.dep α) (enc p.1).py := Enc.ok p.1
    have h2 : Okd (Enc.dep β) (enc p.2).py := Enc.ok p.2
    refine ⟨by simp [D.py, D.pys, PyData.canLay0, PyData.canLayAll0, h1.1, h2.1], ?_⟩
    simp only [D.py, D.pys, PyData.depth, PyData.depthAll]
    have := h1.2; have := h2.2
    omega
  eqv := fun p q => by
    simp only [D.py, D.pys, PyData.eqv, PyData.eqvAll, Enc.eqv]
    obtain ⟨a, b⟩ := p
    obtain ⟨c, d⟩ := q
    by_cases h1 : a = c <;> by_cases h2 : b = d <;> simp [h1, h2]
section
variable {α β : Type} [DecidableEq α] [DecidableEq β] [Enc α] [Enc β]
theorem enc_int (i : Int) : enc i = .int i := rfl
theorem enc_list (xs : List α) : enc xs = .lst false (xs.map enc) := rfl
theorem enc_pair (p : α × β) : enc p = .tup [enc p.1, enc p.2] := rfl
theorem enc_inj {a b : α} : enc a = enc b ↔ a = b := by
  refine ⟨fun h => ?_, fun h => by rw [h]⟩
  have := Enc.eqv a b
  rw [show Enc.enc a = Enc.enc b from h, Enc.eqv] at this
  exact of_decide_eq_true (by rw [← this]; simp)
theorem ok_enc {d : D} {a : α} (h : d.old = enc a) (hk : Enc.dep α ≤ 64) : d.ok = true := by
  refine ok_of (k := Enc.dep α) ?_ hk
  rw [← py_old, h]
  exact Enc.ok a
theorem oEq_enc {x y : D} {a b : α} {k : Bool} (hx : x.old = enc a) (hy : y.old = enc b) (hk : Enc.dep α ≤ 64) (h : k = true ↔ a = b) : oEq x y = some (.val (.bl k)) := by
  unfold oEq
  rw [if_pos ⟨ok_enc hx hk, ok_enc hy hk⟩, ← py_old x, ← py_old y, hx, hy]
  have e : k = decide (a = b) := by rw [Bool.eq_iff_iff, h, decide_eq_true_iff]
  rw [e]
  exact congrArg (fun z => some (R.val (D.bl z))) (Enc.eqv a b)
theorem oNe_enc {x y : D} {a b : α} {k : Bool} (hx : x.old = enc a) (hy : y.old = enc b) (hk : Enc.dep α ≤ 64) (h : k = true ↔ a ≠ b) : oNe x y = some (.val (.bl k)) := by
  unfold oNe
  rw [if_pos ⟨ok_enc hx hk, ok_enc hy hk⟩, ← py_old x, ← py_old y, hx, hy]
  have e : k = !decide (a = b) := by rw [Bool.eq_iff_iff, h]; simp
  rw [e]
  exact congrArg (fun z => some (R.val (D.bl (!z)))) (Enc.eqv a b)
theorem isIn_map {x : D} {a : α} (hx : x.old = enc a) : ∀ {ds : List D} {xs : List α}, ds.map D.old = xs.map enc → isIn x ds = decide (a ∈ xs)
  | [], [], _ => by simp [isIn]
  | [], _ :: _, h => by simp at h
  | _ :: _, [], h => by simp at h
  | d :: ds, y :: xs, h => by
    simp only [List.map_cons, List.cons.injEq] at h
    have ih := isIn_map hx h.2
    unfold isIn at *
    rw [List.any_cons, ih, ← py_old d, ← py_old x, h.1, hx]
    rw [show PyData.eqv (Enc.enc y).py (Enc.enc a).py = decide (y = a) from Enc.eqv y a]
    by_cases h1 : a = y
    · simp [h1]
    · simp [h1, Ne.symm h1]
theorem oIn_enc {neg : Bool} {x y : D} {a : α} {xs : List α} {k : Bool} (hx : x.old = enc a) (hy : y.old = enc xs) (hk : Enc.dep α ≤ 60) (h : k = true ↔ (if neg then a ∉ xs else a ∈ xs)) : oIn neg x y = some (.val (.bl k)) := by
  have hok := ok_enc hy (Nat.le_trans (Nat.add_le_add_right hk 1) (by decide))
  have e : k = if neg then !decide (a ∈ xs) else decide (a ∈ xs) := by
    cases neg <;> rw [Bool.eq_iff_iff, h] <;> simp
  cases y with
  | lst f ds =>
    have h2 : ds.map D.old = xs.map enc := by
      rw [enc_list] at hy
      simp only [D.old, olds_eq, D.lst.injEq, true_and] at hy
      exact hy
    show (if x.ok = true ∧ (D.lst f ds).ok = true then some (R.val (D.bl (if neg then !isIn x ds else isIn x ds))) else none) = _
    rw [if_pos ⟨ok_enc hx (Nat.le_trans hk (by decide)), hok⟩, isIn_map hx h2, e]
  | _ => simp [D.old, enc_list] at hy
theorem enc_ps (ps : List (Int × Int)) : enc ps = .lst false (ps.map dPair) := rfl
theorem enc_is (ks : List Int) : enc ks = .lst false (ks.map D.int) := rfl
end
theorem old_int (i : Int) : (D.int i).old = .int i := rfl
theorem old_bl (i : Bool) : (D.bl i).old = .bl i := rfl
theorem old_non : D.non.old = .non := rfl
theorem old_enc {α : Type} [DecidableEq α] [Enc α] (a : α) : (enc a).old = enc a := Enc.old a
theorem pin_fz {d : D} : (C.fz d).pin = false := rfl
theorem pin_dead : C.dead.pin = false := rfl
theorem pin_ow {b : Bool} {d : D} : (C.ow b d).pin = b := by cases b <;> rfl
/-! places -/
theorem atI_at {α : Type} {xs : List α} {i : Int} (h0 : 0 ≤ i) : atI xs i = xs[i.toNat]? := by
  unfold atI ixN
  rw [if_pos h0]
  split
  · rfl
  · simp only [Option.bind_none]
    rw [List.getElem?_eq_none]; omega
theorem ixN_at {n : Nat} {i : Int} (h0 : 0 ≤ i) (h1 : i < n) : ixN n i = some i.toNat := by
  unfold ixN
  rw [if_pos h0, if_pos h1]
theorem oCat_ok {f g : Bool} {a b : List D} (h : a.length + b.length ≤ 100000) : oCat (.lst f a) (.lst g b) = some (.tmp (.lst true (a ++ b))) := if_pos h
theorem eLst_ok {f : Bool} {a b : List D} (h : a.length + b.length ≤ 100000) : oCat (.lst f a) (.lst f b) = some (.tmp (.lst true (a ++ b))) := if_pos h
/-! comprehensions -/
section
variable {Φ : List FnD}
theorem lc_run {α : Type} {p : P} {c : TF} {f : EF} {vs : List Nat} {g : Ev → Bool} {e y : α → D} {b : α → Bool} {κ : Ev} (hg : g κ = true) : ∀ (xs : List α), (∀ x ∈ xs, ∃ ρ2, p.bind1 (e x) κ = some ρ2 ∧ ∃ ρ3, c ρ2 = some (ρ3, b x) ∧ kills ρ3 vs = κ ∧ (b x = true → ∃ ρ4 r, f ρ3 = some (ρ4, r) ∧ r.fix = some (y x) ∧ kills ρ4 vs = κ)) →
    ∀ ρ, kills ρ vs = κ → ∃ ρ', lcLoop p c f vs g (xs.map e) ρ = some (ρ', (xs.filter b).map y) ∧ kills ρ' vs = κ
  | [], _, ρ, hρ => ⟨ρ, by simp only [List.map_nil, lcLoop, hρ, hg, if_true, List.filter_nil], hρ⟩
  | x :: xs, h, ρ, hρ => by
    obtain ⟨ρ2, h1, ρ3, h2, h3, h4⟩ := h x (by simp)
    have ih := lc_run hg xs (fun z hz => h z (by simp [hz]))
    rcases hb : b x with _ | _
    · obtain ⟨ρ', g1, g2⟩ := ih ρ3 h3
      refine ⟨ρ', ?_, g2⟩
      rw [hb] at h2
      simp only [List.map_cons, lcLoop, hρ, hg, if_true, h1, h2, g1, List.filter_cons, hb, Bool.false_eq_true, if_false]
    · obtain ⟨ρ4, r, k1, k2, k3⟩ := h4 hb
      obtain ⟨ρ', g1, g2⟩ := ih ρ4 k3
      refine ⟨ρ', ?_, g2⟩
      rw [hb] at h2
      simp only [List.map_cons, lcLoop, hρ, hg, if_true, h1, h2, k1, k2, g1, List.filter_cons, hb, List.map_cons]
/-- a comprehension over shared data or a range that leaves all as it was -/
theorem ev_lc {α : Type} {own : List (PySem.Str × Nat)} {p : P} {it c t : T} {ρ ρ1 κ : Ev} {vs : List Nat} {e y : α → D} {b : α → Bool} (xs : List α) (hi : evI Φ it ρ = some (ρ1, xs.map e, none)) (hv : own.map (·.2) = vs) (h0 : (p.slots.all fun i => vs.contains i) = true) (hn : noIo ρ1 vs = true) (hκ : kills ρ1 vs = κ) (hl : xs.length ≤ 100000)
    (h : ∀ x ∈ xs, ∃ ρ2, p.bind1 (e x) κ = some ρ2 ∧ ∃ ρ3, evC Φ c ρ2 = some (ρ3, b x) ∧ kills ρ3 vs = κ ∧ (b x = true → ∃ ρ4 r, ev Φ t ρ3 = some (ρ4, r) ∧ r.fix = some (y x) ∧ kills ρ4 vs = κ)) :
    ev Φ (.lc own p it c t) ρ = some (κ, .tmp (.lst true ((xs.filter b).map y))) := by
  subst hv
  simp only [ev]
  rw [if_pos h0]
  unfold eLc
  obtain ⟨ρ', g1, g2⟩ := lc_run (g := fun _ => true) rfl xs h ρ1 hκ
  simp only [hi, List.length_map, hl, hn, and_self, if_true, g1, g2]
/-- .. over an own list -/
theorem ev_lcO {α : Type} {own : List (PySem.Str × Nat)} {p : P} {it c t : T} {ρ ρ1 κ : Ev} {vs : List Nat} {e y : α → D} {b : α → Bool} {s : Nat} {io : Bool} {d : D} (xs : List α) (hi : evI Φ it ρ = some (ρ1, xs.map e, some s)) (hv : own.map (·.2) = vs) (h0 : (p.slots.all fun i => vs.contains i) = true) (hn : noIo ρ1 vs = true) (hs : s ∉ vs) (hd : ρ1[s]? = some (.ow io d)) (hκ : kills (ρ1.set s (.ow true d)) vs = κ) (hst : still s d κ = true) (hl : xs.length ≤ 100000)
    (h : ∀ x ∈ xs, ∃ ρ2, p.bind1 (e x) κ = some ρ2 ∧ ∃ ρ3, evC Φ c ρ2 = some (ρ3, b x) ∧ kills ρ3 vs = κ ∧ (b x = true → ∃ ρ4 r, ev Φ t ρ3 = some (ρ4, r) ∧ r.fix = some (y x) ∧ kills ρ4 vs = κ)) :
    ev Φ (.lc own p it c t) ρ = some (κ.set s (.ow io d), .tmp (.lst true ((xs.filter b).map y))) := by
  subst hv
  simp only [ev]
  rw [if_pos h0]
  unfold eLc
  obtain ⟨ρ', g1, g2⟩ := lc_run hst xs h _ hκ
  have h6 := still_eq hst
  simp only [hi, List.length_map, hl, hn, and_self, if_true, hs, if_false, hd, g1, g2, unlock, h6]
/-- .. whose parts leave all as it was -/
theorem lc_pure {α : Type} {own : List (PySem.Str × Nat)} {p : P} {it c t : T} {ρ ρ1 κ : Ev} {vs : List Nat} {e : α → D} (xs : List α) (b : α → Bool) (r : α → R) {y : α → D} (hi : evI Φ it ρ = some (ρ1, xs.map e, none)) (hv : own.map (·.2) = vs) (h0 : (p.slots.all fun i => vs.contains i) = true) (hn : noIo ρ1 vs = true) (hκ : kills ρ1 vs = κ) (hl : xs.length ≤ 100000)
    {g : α → Ev} (hg : ∀ x, p.bind1 (e x) κ = some (g x)) (hk : ∀ x, kills (g x) vs = κ) (hc : ∀ x ∈ xs, evC Φ c (g x) = some (g x, b x)) (ht : ∀ x ∈ xs, b x = true → ev Φ t (g x) = some (g x, r x)) (hr : ∀ x, (r x).fix = some (y x)) :
    ev Φ (.lc own p it c t) ρ = some (κ, .tmp (.lst true ((xs.filter b).map y))) :=
  ev_lc xs hi hv h0 hn hκ hl fun x hx => ⟨g x, hg x, g x, hc x hx, hk x, fun hb => ⟨g x, r x, ht x hx hb, hr x, hk x⟩⟩
theorem lc_pureO {α : Type} {own : List (PySem.Str × Nat)} {p : P} {it c t : T} {ρ ρ1 κ : Ev} {vs : List Nat} {e : α → D} {s : Nat} {io : Bool} {d : D} (xs : List α) (b : α → Bool) (r : α → R) {y : α → D} (hi : evI Φ it ρ = some (ρ1, xs.map e, some s)) (hv : own.map (·.2) = vs) (h0 : (p.slots.all fun i => vs.contains i) = true) (hn : noIo ρ1 vs = true) (hs : s ∉ vs) (hd : ρ1[s]? = some (.ow io d)) (hκ : kills (ρ1.set s (.ow true d)) vs = κ) (hst : still s d κ = true) (hl : xs.length ≤ 100000)
    {g : α → Ev} (hg : ∀ x, p.bind1 (e x) κ = some (g x)) (hk : ∀ x, kills (g x) vs = κ) (hc : ∀ x ∈ xs, evC Φ c (g x) = some (g x, b x)) (ht : ∀ x ∈ xs, b x = true → ev Φ t (g x) = some (g x, r x)) (hr : ∀ x, (r x).fix = some (y x)) :
    ev Φ (.lc own p it c t) ρ = some (κ.set s (.ow io d), .tmp (.lst true ((xs.filter b).map y))) :=
  ev_lcO xs hi hv h0 hn hs hd hκ hst hl fun x hx => ⟨g x, hg x, g x, hc x hx, hk x, fun hb => ⟨g x, r x, ht x hx hb, hr x, hk x⟩⟩
/-- .. whose parts change what stands there -/
theorem lc_inv {p : P} {c : TF} {f : EF} {vs : List Nat} (P : Ev → Prop) (Y : D → Prop) : ∀ (items : List D), (∀ x ∈ items, ∀ κ, P κ → ∃ ρ2 ρ3, p.bind1 x κ = some ρ2 ∧ ((c ρ2 = some (ρ3, false) ∧ P (kills ρ3 vs)) ∨ (c ρ2 = some (ρ3, true) ∧ ∃ ρ4 r y, f ρ3 = some (ρ4, r) ∧ r.fix = some y ∧ Y y ∧ P (kills ρ4 vs)))) →
    ∀ ρ, P (kills ρ vs) → ∃ ρ' ys, lcLoop p c f vs (fun _ => true) items ρ = some (ρ', ys) ∧ P (kills ρ' vs) ∧ (∀ y ∈ ys, Y y) ∧ ys.length ≤ items.length
  | [], _, ρ, hρ => ⟨ρ, [], by simp only [lcLoop, if_true], hρ, by simp, Nat.le_refl _⟩
  | x :: xs, h, ρ, hρ => by
    obtain ⟨ρ2, ρ3, h1, h2⟩ := h x (by simp) _ hρ
    have ih := lc_inv P Y xs fun z hz => h z (by simp [hz])
    rcases h2 with ⟨g1, g2⟩ | ⟨g1, ρ4, r, y, g2, g3, g4, g5⟩
    · obtain ⟨ρ', ys, k1, k2, k3, k4⟩ := ih ρ3 g2
      exact ⟨ρ', ys, by simp only [lcLoop, if_true, h1, g1, k1], k2, k3, by rw [List.length_cons]; omega⟩
    · obtain ⟨ρ', ys, k1, k2, k3, k4⟩ := ih ρ4 g5
      refine ⟨ρ', y :: ys, by simp only [lcLoop, if_true, h1, g1, g2, g3, k1], k2, fun z hz => ?_, by rw [List.length_cons, List.length_cons]; omega⟩
      rcases List.mem_cons.mp hz with rfl | hz
      · exact g4
      · exact k3 z hz
theorem ev_lcI {own : List (PySem.Str × Nat)} {p : P} {it c t : T} {ρ ρ1 : Ev} {vs : List Nat} {items : List D} (P : Ev → Prop) (Y : D → Prop) (hi : evI Φ it ρ = some (ρ1, items, none)) (hv : own.map (·.2) = vs) (h0 : (p.slots.all fun i => vs.contains i) = true) (hn : noIo ρ1 vs = true) (hl : items.length ≤ 100000) (hP : P (kills ρ1 vs))
    (h : ∀ x ∈ items, ∀ κ, P κ → ∃ ρ2 ρ3, p.bind1 x κ = some ρ2 ∧ ((evC Φ c ρ2 = some (ρ3, false) ∧ P (kills ρ3 vs)) ∨ (evC Φ c ρ2 = some (ρ3, true) ∧ ∃ ρ4 r y, ev Φ t ρ3 = some (ρ4, r) ∧ r.fix = some y ∧ Y y ∧ P (kills ρ4 vs)))) :
    ∃ κ ys, ev Φ (.lc own p it c t) ρ = some (κ, .tmp (.lst true ys)) ∧ P κ ∧ (∀ y ∈ ys, Y y) ∧ ys.length ≤ items.length := by
  subst hv
  obtain ⟨ρ', ys, g1, g2, g3, g4⟩ := lc_inv (p := p) (c := evC Φ c) (f := ev Φ t) P Y items h ρ1 hP
  refine ⟨_, ys, ?_, g2, g3, g4⟩
  simp only [ev]
  rw [if_pos h0]
  unfold eLc
  simp only [hi, hl, hn, and_self, if_true, g1]
theorem all_map {α : Type} {e : α → D} {P : α → Prop} : ∀ {ys : List D}, (∀ y ∈ ys, ∃ a, y = e a ∧ P a) → ∃ as : List α, ys = as.map e ∧ ∀ a ∈ as, P a
  | [], _ => ⟨[], rfl, by simp⟩
  | y :: ys, h => by
    obtain ⟨a, rfl, ha⟩ := h y (by simp)
    obtain ⟨as, rfl, h2⟩ := all_map (e := e) (P := P) (ys := ys) fun z hz => h z (List.mem_cons_of_mem _ hz)
    refine ⟨a :: as, rfl, fun z hz => ?_⟩
    rcases List.mem_cons.mp hz with rfl | hz
    · exact ha
    · exact h2 z hz
/-! loops -/
theorem for_run {p : P} {f : SF} {g : Ev → Bool} (P : Nat → Ev → Prop) {items : List D} (hg : ∀ k ρ, P k ρ → g ρ = true) (h : ∀ k d ρ, items[k]? = some d → P k ρ → ∃ ρ1 ρ2 o, p.bind1 d ρ = some ρ1 ∧ f ρ1 = some (ρ2, o) ∧ (o = .nx ∨ o = .ct) ∧ P (k + 1) ρ2) :
    ∀ (n : Nat) (ρ : Ev), n ≤ items.length → P n ρ → ∃ ρ', forLoop p f g (items.drop n) ρ = some (ρ', .nx) ∧ P items.length ρ' := by
  intro n ρ hn
  induction hm : items.length - n generalizing n ρ with
  | zero =>
    intro hP
    have : n = items.length := by omega
    subst this
    exact ⟨ρ, by simp [forLoop, hg _ _ hP], hP⟩
  | succ m ih =>
    intro hP
    have hlt : n < items.length := by omega
    obtain ⟨ρ1, ρ2, o, h1, h2, h3, h4⟩ := h n items[n] ρ (List.getElem?_eq_getElem hlt) hP
    obtain ⟨ρ', g1, g2⟩ := ih (n + 1) ρ2 (by omega) (by omega) h4
    refine ⟨ρ', ?_, g2⟩
    rw [List.drop_eq_getElem_cons hlt]
    rcases h3 with rfl | rfl <;> simp [forLoop, hg _ _ hP, h1, h2, g1]
theorem ex_for {p : P} {it : T} {a : S} {ρ ρ1 : Ev} {items : List D} (P : Nat → Ev → Prop) (hi : evI Φ it ρ = some (ρ1, items, none)) (h0 : P 0 ρ1)
    (h : ∀ k d ρ, items[k]? = some d → P k ρ → ∃ ρ1 ρ2 o, p.bind1 d ρ = some ρ1 ∧ ex Φ a ρ1 = some (ρ2, o) ∧ (o = .nx ∨ o = .ct) ∧ P (k + 1) ρ2) :
    ∃ ρ', ex Φ (.for p it a) ρ = some (ρ', .nx) ∧ P items.length ρ' := by
  obtain ⟨ρ', g1, g2⟩ := for_run (g := fun _ => true) P (fun _ _ _ => rfl) h 0 ρ1 (Nat.zero_le _) h0
  refine ⟨ρ', ?_, g2⟩
  simp only [ex, sFor, hi]
  exact g1
theorem ex_seq {a b : S} {ρ ρ1 : Ev} (h : ex Φ a ρ = some (ρ1, .nx)) : ex Φ (.seq a b) ρ = ex Φ b ρ1 := by
  simp only [ex, sSeq, h]
theorem ex_skip {ρ : Ev} : ex Φ .skip ρ = some (ρ, .nx) := rfl
theorem run_val {n k : Nat} {io : Bool} {f : SF} {ds : List D} {ρ' : Ev} {d out : D} (h : f (startC n io ds) = some (ρ', .rt (.val d))) (ho : outOf io ρ' = some out) (hl : ds.length = k) : runFn n k io f ds = some (out, .val d) := by
  simp only [runFn, hl, if_true, h, retR, ho]
theorem run_tmp {n k : Nat} {io : Bool} {f : SF} {ds : List D} {ρ' : Ev} {d out : D} (h : f (startC n io ds) = some (ρ', .rt (.tmp d))) (ho : outOf io ρ' = some out) (hl : ds.length = k) : runFn n k io f ds = some (out, .tmp d) := by
  simp only [runFn, hl, if_true, h, retR, ho]
theorem run_own {n k : Nat} {io : Bool} {f : SF} {ds : List D} {ρ' : Ev} {i : Nat} {d out : D} (h : f (startC n io ds) = some (ρ', .rt (.own i))) (hi : ρ'[i]? = some (.ow false d)) (ho : outOf io ρ' = some out) (hl : ds.length = k) : runFn n k io f ds = some (out, .tmp d) := by
  simp only [runFn, hl, if_true, h, retR, hi, ho]
end
/-! what a block ends in -/
def WS (Φ : List FnD) (s : S) (ρ : Ev) (Q : Ev → Out → Prop) : Prop := ∃ ρ' o, ex Φ s ρ = some (ρ', o) ∧ Q ρ' o
def FnOk (sem : FS) (ds : List D) (Q : D → R → Prop) : Prop := ∃ out r, sem ds = some (out, r) ∧ Q out r
section
variable {Φ : List FnD} {ρ ρ1 ρ2 : Ev} {Q : Ev → Out → Prop}
theorem ws_seq {a b : S} (h : ex Φ a ρ = some (ρ1, .nx)) (k : WS Φ b ρ1 Q) : WS Φ (.seq a b) ρ Q := by
  obtain ⟨ρ', o, h1, h2⟩ := k
  exact ⟨ρ', o, by rw [ex_seq h, h1], h2⟩
theorem ws_skip (h : Q ρ .nx) : WS Φ .skip ρ Q := ⟨ρ, _, rfl, h⟩
theorem ws_one {a : S} {o : Out} (h : ex Φ a ρ = some (ρ1, o)) (q : Q ρ1 o) : WS Φ a ρ Q := ⟨ρ1, o, h, q⟩
theorem ws_mono {a : S} {Q' : Ev → Out → Prop} (h : WS Φ a ρ Q') (q : ∀ ρ o, Q' ρ o → Q ρ o) : WS Φ a ρ Q := by
  obtain ⟨ρ', o, h1, h2⟩ := h
  exact ⟨ρ', o, h1, q _ _ h2⟩
/-- a block, then the rest -/
theorem ws_then {a b : S} (h : WS Φ a ρ fun ρ1 o => match o with
    | .nx => WS Φ b ρ1 Q
    | o => Q ρ1 o) : WS Φ (.seq a b) ρ Q := by
  obtain ⟨ρ1, o, h1, h2⟩ := h
  cases o with
  | nx => exact ws_seq h1 h2
  | bk => exact ⟨ρ1, _, by simp only [ex, sSeq, h1], h2⟩
  | ct => exact ⟨ρ1, _, by simp only [ex, sSeq, h1], h2⟩
  | rt r => exact ⟨ρ1, _, by simp only [ex, sSeq, h1], h2⟩
theorem ws_if {c : T} {a b : S} {k : Bool} (h : evT Φ c ρ = some (ρ1, k)) (ht : k = true → WS Φ a ρ1 Q) (hf : k = false → WS Φ b ρ1 Q) : WS Φ (.ifs c a b) ρ Q := by
  cases k with
  | true =>
    obtain ⟨ρ', o, h1, h2⟩ := ht rfl
    exact ⟨ρ', o, by simp only [ex, sIf, h, if_true, h1], h2⟩
  | false =>
    obtain ⟨ρ', o, h1, h2⟩ := hf rfl
    exact ⟨ρ', o, by simp only [ex, sIf, h, Bool.false_eq_true, if_false, h1], h2⟩
/-- a test that holds or not, then the rest; the block ends in its return -/
theorem ws_ifF {c : T} {a b : S} (h : evT Φ c ρ = some (ρ1, false)) (hb : WS Φ b ρ1 Q) : WS Φ (.seq (.ifs c a .skip) b) ρ Q :=
  ws_then (ws_if h (fun z => nomatch z) fun _ => ws_skip hb)
theorem ws_ret {t : T} {r : R} (h : ev Φ t ρ = some (ρ1, r)) (q : Q ρ1 (.rt r)) : WS Φ (.seq (.ret t) .skip) ρ Q :=
  ⟨ρ1, _, by simp only [ex, sSeq, sRet, h], q⟩
theorem ws_for {p : P} {it : T} {a b : S} {items : List D} (P : Nat → Ev → Prop) (hi : evI Φ it ρ = some (ρ1, items, none)) (h0 : P 0 ρ1)
    (h : ∀ k d ρ, items[k]? = some d → P k ρ → ∃ ρ1, p.bind1 d ρ = some ρ1 ∧ WS Φ a ρ1 fun ρ2 o => (o = .nx ∨ o = .ct) ∧ P (k + 1) ρ2) (hb : ∀ ρ', P items.length ρ' → WS Φ b ρ' Q) : WS Φ (.seq (.for p it a) b) ρ Q := by
  obtain ⟨ρ', g1, g2⟩ := ex_for (a := a) P hi h0 fun k d ρ hk hP => by
    obtain ⟨ρ1, h1, ρ2, o, h2, h3, h4⟩ := h k d ρ hk hP
    exact ⟨ρ1, ρ2, o, h1, h2, h3, h4⟩
  exact ws_seq g1 (hb ρ' g2)
/-- .. over an own list -/
theorem ws_forO {p : P} {it : T} {a b : S} {items : List D} {s : Nat} {io : Bool} {d : D} (P : Nat → Ev → Prop) (hi : evI Φ it ρ = some (ρ1, items, some s)) (hd : ρ1[s]? = some (.ow io d)) (h0 : P 0 (ρ1.set s (.ow true d))) (hs : ∀ k ρ, P k ρ → still s d ρ = true)
    (h : ∀ k d ρ, items[k]? = some d → P k ρ → ∃ ρ1, p.bind1 d ρ = some ρ1 ∧ WS Φ a ρ1 fun ρ2 o => (o = .nx ∨ o = .ct) ∧ P (k + 1) ρ2) (hb : ∀ ρ', P items.length ρ' → WS Φ b (ρ'.set s (.ow io d)) Q) : WS Φ (.seq (.for p it a) b) ρ Q := by
  obtain ⟨ρ', g1, g2⟩ := for_run (p := p) (f := ex Φ a) (g := still s d) P hs (fun k d ρ hk hP => by
    obtain ⟨ρ1, h1, ρ2, o, h2, h3, h4⟩ := h k d ρ hk hP
    exact ⟨ρ1, ρ2, o, h1, h2, h3, h4⟩) 0 _ (Nat.zero_le _) h0
  refine ws_seq (ρ1 := ρ'.set s (.ow io d)) ?_ (hb ρ' g2)
  have h6 := still_eq (hs _ _ g2)
  rw [List.drop_zero] at g1
  simp only [ex, sFor, hi, hd, g1, unlock, h6]
theorem ws_spl {vs : List Nat} {a r : S} {b : SP} {ρa : Ev} (hn : noIo ρ vs = true) (hs : (b.slots.all fun j => vs.contains j) = true) (ha : ageL vs ρ = ρa) (h : WS Φ a ρa fun ρ1 o => o = .nx ∧ ρ1.length = ρ.length ∧ spOk ρ1 0 b = true) (hr : WS Φ r (kills ρ vs) Q) : WS Φ (.spl vs a b r) ρ Q := by
  obtain ⟨ρ1, o, h1, rfl, h3, h4⟩ := h
  obtain ⟨ρ2, o2, g1, g2⟩ := hr
  subst ha
  exact ⟨ρ2, o2, by simp only [ex, sSpl, hn, hs, and_self, if_true, h1, h3, h4, g1], g2⟩
theorem ex_asg {p : P} {t : T} {r : R} (h : ev Φ t ρ = some (ρ1, r)) (h2 : storeR p r ρ1 = some ρ2) : ex Φ (.asg p t) ρ = some (ρ2, .nx) := by
  simp only [ex, sAsg, h, h2]
theorem ex_asgF {p : P} {t : T} {r : R} {d : D} (h : ev Φ t ρ = some (ρ1, r)) (hr : r.fix = some d) (h2 : p.bind1 d ρ1 = some ρ2) : ex Φ (.asgF p t) ρ = some (ρ2, .nx) := by
  simp only [ex, sAsgF, h, hr, h2]
theorem ws_fn {n k : Nat} {io : Bool} {t : S} {ds : List D} {Q : D → R → Prop} (hl : ds.length = k) (h : WS Φ t (startC n io ds) fun ρ o => match o with
    | .rt r => ∃ r' out, retR ρ r = some r' ∧ outOf io ρ = some out ∧ Q out r'
    | .nx => ∃ out, outOf io ρ = some out ∧ Q out (.val .non)
    | _ => False) : FnOk (runFn n k io (ex Φ t)) ds Q := by
  obtain ⟨ρ', o, h1, h2⟩ := h
  cases o with
  | nx =>
    obtain ⟨out, h3, h4⟩ := h2
    exact ⟨out, _, by simp only [runFn, hl, if_true, h1, h3], h4⟩
  | rt r =>
    obtain ⟨r', out, h3, h4, h5⟩ := h2
    exact ⟨out, r', by simp only [runFn, hl, if_true, h1, h3, h4], h5⟩
  | bk => exact h2.elim
  | ct => exact h2.elim
end
theorem filter_yes {α : Type} (xs : List α) : xs.filter (fun _ => true) = xs := by simp
theorem erase_map {α β : Type} (f : α → β) : ∀ (xs : List α) (k : Nat), (xs.map f).eraseIdx k = (xs.eraseIdx k).map f
  | [], _ => rfl
  | _ :: _, 0 => rfl
  | x :: xs, k + 1 => by simp only [List.map_cons, List.eraseIdx_cons_succ, erase_map f xs k]
theorem erase_perm {α : Type} : ∀ {xs : List α} {k : Nat} (h : k < xs.length), (xs[k] :: xs.eraseIdx k).Perm xs
  | x :: xs, 0, _ => by simp
  | x :: xs, k + 1, h => by
    have := erase_perm (xs := xs) (k := k) (by simpa using h)
    simp only [List.getElem_cons_succ, List.eraseIdx_cons_succ]
    exact (List.Perm.swap _ _ _).trans (this.cons x)
theorem nodup_sub {α : Type} [DecidableEq α] : ∀ {l m : List α}, l.Nodup → (∀ x ∈ l, x ∈ m) → l.length ≤ m.length
  | [], _, _, _ => Nat.zero_le _
  | x :: l, m, h, s => by
    have h1 := List.nodup_cons.mp h
    have h2 := s x (by simp)
    have := nodup_sub (m := m.erase x) h1.2 fun y hy => (List.mem_erase_of_ne (a := y) (b := x) (fun e => h1.1 (by rw [← e]; exact hy))).mpr (s y (by simp [hy]))
    rw [List.length_erase_of_mem h2] at this
    have := List.length_pos_of_mem h2
    rw [List.length_cons]; omega
theorem lt_ext : ∀ {l m : List Int}, l.Pairwise (· < ·) → m.Pairwise (· < ·) → (∀ x, x ∈ l ↔ x ∈ m) → l = m
  | [], [], _, _, _ => rfl
  | [], y :: m, _, _, h => absurd ((h y).mpr (by simp)) (by simp)
  | x :: l, [], _, _, h => absurd ((h x).mp (by simp)) (by simp)
  | x :: l, y :: m, hl, hm, h => by
    obtain ⟨l1, l2⟩ := List.pairwise_cons.mp hl
    obtain ⟨m1, m2⟩ := List.pairwise_cons.mp hm
    have e : x = y := by
      rcases List.mem_cons.mp ((h x).mp (by simp)) with e | hx
      · exact e
      · rcases List.mem_cons.mp ((h y).mpr (by simp)) with e | hy
        · exact e.symm
        · have := l1 y hy; have := m1 x hx; omega
    subst e
    congr 1
    refine lt_ext l2 m2 fun z => ⟨fun hz => ?_, fun hz => ?_⟩
    · rcases List.mem_cons.mp ((h z).mp (by simp [hz])) with e | q
      · have := l1 z hz; omega
      · exact q
    · rcases List.mem_cons.mp ((h z).mpr (by simp [hz])) with e | q
      · have := m1 z hz; omega
      · exact q
/-! ranges -/
def up (lo : Int) (n : Nat) : List Int := (List.range n).map fun (k : Nat) => lo + (k : Int)
theorem rng_up (lo : Int) (n : Nat) : rng lo n = (up lo n).map D.int := by
  unfold rng up
  rw [List.map_map]; rfl
theorem up_len (lo : Int) (n : Nat) : (up lo n).length = n := by simp [up]
theorem up_get {lo : Int} {n k : Nat} (h : k < n) : (up lo n)[k]? = some (lo + k) := by simp [up, h]
theorem mem_up {lo x : Int} {n : Nat} : x ∈ up lo n ↔ lo ≤ x ∧ x < lo + n := by
  unfold up
  simp only [List.mem_map, List.mem_range]
  constructor
  · rintro ⟨k, h, rfl⟩; omega
  · rintro ⟨h1, h2⟩; exact ⟨(x - lo).toNat, by omega, by omega⟩
theorem up_lt (lo : Int) (n : Nat) : (up lo n).Pairwise (· < ·) := by
  unfold up
  refine List.pairwise_map.mpr (List.pairwise_lt_range.imp fun {a b} h => ?_)
  omega
theorem map_at {α : Type} {e : α → D} {xs : List α} {k : Nat} {d : D} (h : (xs.map e)[k]? = some d) : ∃ x, xs[k]? = some x ∧ d = e x := by
  rw [List.getElem?_map] at h
  obtain ⟨x, h1, h2⟩ := Option.map_eq_some_iff.mp h
  exact ⟨x, h1, h2.symm⟩
theorem enumD_up : ∀ (k : Nat) (ds : List D), enumD k ds = (up k ds.length).map fun i => D.tup [.int i, ds[(i - k).toNat]?.getD .non]
  | k, [] => rfl
  | k, d :: ds => by
    rw [enumD, enumD_up (k + 1) ds]
    unfold up
    rw [List.length_cons, List.range_succ_eq_map, List.map_cons, List.map_cons, List.map_map, List.map_map, List.map_map]
    congr 1
    · simp
    · refine List.map_congr_left fun j _ => ?_
      simp only [Function.comp_apply]
      have e1 : (((k + 1 : Nat) : Int) + (j : Int)) = (k : Int) + ((j.succ : Nat) : Int) := by push_cast; omega
      have e2 : ((k : Int) + ((j.succ : Nat) : Int) - ((k + 1 : Nat) : Int)).toNat = j := by omega
      have e3 : ((k : Int) + ((j.succ : Nat) : Int) - (k : Int)).toNat = j + 1 := by omega
      rw [e1, e2, e3]
      rfl
mutual
theorem same_refl : ∀ d : D, d.ok = true → D.same d d = true
  | .non, _ => rfl
  | .bl b, _ => by simp [D.same]
  | .int b, _ => by simp [D.same]
  | .str b, _ => by simp [D.same]
  | .lst f xs, h => by
    have h' := SeqAt.canLay_of_shaped h
    simp only [D.same, beq_self_eq_true, Bool.true_and]
    exact sames_refl xs (by simpa [D.py, PyData.canLay0] using h')
  | .tup xs, h => by
    have h' := SeqAt.canLay_of_shaped h
    simp only [D.same]
    exact sames_refl xs (by simpa [D.py, PyData.canLay0] using h')
  | .dic _ _, h => by have h' := SeqAt.canLay_of_shaped h; simp [D.py, PyData.canLay0] at h'
  | .dit _ _, h => by have h' := SeqAt.canLay_of_shaped h; simp [D.py, PyData.canLay0] at h'
  | .scr _, h => by have h' := SeqAt.canLay_of_shaped h; simp [D.py, PyData.canLay0] at h'
theorem sames_refl : ∀ ds : List D, PyData.canLayAll0 (D.pys ds) = true → D.sames ds ds = true
  | [], _ => rfl
  | d :: r, h => by
    simp only [D.pys, PyData.canLayAll0, Bool.and_eq_true] at h
    simp only [D.sames, Bool.and_eq_true]
    refine ⟨?_, sames_refl r h.2⟩
    cases d with
    | non => rfl
    | bl b => simp [D.same]
    | int b => simp [D.same]
    | str b => simp [D.same]
    | lst f xs =>
      simp only [D.same, beq_self_eq_true, Bool.true_and]
      exact sames_refl xs (by simpa [D.py, PyData.canLay0] using h.1)
    | tup xs =>
      simp only [D.same]
      exact sames_refl xs (by simpa [D.py, PyData.canLay0] using h.1)
    | _ => simp [D.py, PyData.canLay0] at h
end
theorem still_ok {s : Nat} {d : D} {ρ : Ev} (h : ρ[s]? = some (.ow true d)) (ok : d.ok = true) : still s d ρ = true := by
  unfold still
  rw [h]
  exact same_refl d ok
theorem dLi_old (f : Bool) (ns : List Int) : (dLi f ns).old = enc ns := by
  simp only [dLi, D.old, olds_map]; rfl
theorem lls_old (f g : Bool) (nss : List (List Int)) : (D.lst f (nss.map (dLi g))).old = enc nss := by
  simp only [D.old, olds_map, dLi_old]; rfl
theorem ints_old (f : Bool) (ns : List Int) : (D.lst f (ns.map .int)).old = enc ns := dLi_old f ns
theorem ps_old (f : Bool) (ps : List (Int × Int)) : (D.lst f (ps.map dPair)).old = enc ps := by
  simp only [D.old, olds_map]; rfl
theorem enc_ls (nss : List (List Int)) : enc nss = .lst false (nss.map (dLi false)) := rfl
/-! draws -/
/-- what draws read: cells, the next one's place, what is left of a great cell, the mix -/
def feedD (fl : Bool) (ns : List Int) (p : Nat) (s h : Int) : D := .lst fl [.lst false (ns.map .int), .int p, .int s, .int h]
def isFeed (d : D) : Prop := ∃ fl ns p s h, d.oldKids = feedD fl ns p s h ∧ p ≤ ns.length ∧ 0 ≤ h ∧ h < 2147483647
theorem olds_int (ns : List Int) : D.olds (ns.map .int) = ns.map .int := by rw [olds_map]; rfl
theorem feedKids {fl : Bool} {ns : List Int} {p : Nat} {s h : Int} : (feedD fl ns p s h).oldKids = feedD fl ns p s h := by
  simp only [feedD, D.oldKids, D.olds, D.old, olds_int]
theorem oEq_int (i j : Int) : oEq (.int i) (.int j) = some (.val (.bl (decide (i = j)))) := oEq_enc (α := Int) rfl rfl (by decide) (by simp)
theorem oNe_int (i j : Int) : oNe (.int i) (.int j) = some (.val (.bl (!decide (i = j)))) := oNe_enc (α := Int) rfl rfl (by decide) (by simp)
theorem isFeed.kids {d : D} (h : isFeed d) : isFeed d.oldKids := by
  obtain ⟨fl, ns, p, s, hh, h0, h1⟩ := h
  exact ⟨fl, ns, p, s, hh, by rw [h0, feedKids], h1⟩
/-- the promise of a draw -/
def DrawOk (sem : FS) : Prop := ∀ (d : D) (m : Int), isFeed d → 0 < m → m < 1000000 → FnOk sem [d.oldKids, .int m] fun out r => isFeed out ∧ ∃ k : Int, r = .val (.int k) ∧ 0 ≤ k ∧ k < m
theorem DrawOk.at {sem : FS} (h : DrawOk sem) {d : D} {m : Int} (hd : isFeed d) (h0 : 0 < m) (h1 : m < 1000000) : ∃ d' k, sem [d.oldKids, .int m] = some (d', .val (.int k)) ∧ isFeed d' ∧ 0 ≤ k ∧ k < m := by
  obtain ⟨d', r, e, f, k, rfl, g⟩ := h d m hd h0 h1
  exact ⟨d', k, e, f, g⟩
/-! the law's end -/
theorem law_end {K : PySem.W.Frag} {H : L2.Hp} {a : Addr} {ns : List Int} {sem : FS} (hS : L2.SqL K H a (ns.map L2.V.int)) (h : sem [.scr ns] = some (.non, .val (.bl true))) : spOf K 1 false sem [.ref a] H (fun v _ => v = .bl true) fun _ _ _ => False := by
  refine ⟨rfl, H, H, [.scr ns], .non, .val (.bl true), fun _ _ e => e, fun _ _ e => e, ?_, h, fun v H' F' _ _ _ _ _ hr => ?_⟩
  · exact .cons (.scr hS) .nil
  · cases hr; rfl
theorem none_all {mg : PySem.Str → Option Value} (h : mg "len" = none ∧ mg "abs" = none ∧ mg "max" = none ∧ mg "min" = none ∧ mg "sum" = none ∧ mg "any" = none ∧ mg "all" = none ∧ mg "sorted" = none ∧ mg "list" = none ∧ mg "int" = none ∧ mg "isinstance" = none ∧ mg "range" = none ∧ mg "enumerate" = none ∧ mg "bool" = none ∧ mg "tuple" = none ∧ mg "str" = none) : ∀ x, x ∈ bnames → mg x = none := by
  intro x hx
  obtain ⟨h1, h2, h3, h4, h5, h6, h7, h8, h9, h10, h11, h12, h13, h14, h15, h16⟩ := h
  simp only [bnames, List.mem_cons, List.not_mem_nil, or_false] at hx
  rcases hx with rfl | rfl | rfl | rfl | rfl | rfl | rfl | rfl | rfl | rfl | rfl | rfl | rfl | rfl | rfl | rfl <;> assumption
end Z

set_option maxHeartbeats 1000000
namespace Z
open PySem
/-- def number i of those at hand -/
def HasFn (Φ : List FnD) (i : Nat) (io : Bool) (n : Nat) (sem : FS) : Prop := ∃ F, Φ[i]? = some F ∧ F.io = io ∧ F.ps.length = n ∧ F.sem = sem
section
variable {Φ : List FnD}
/-! the script as a feed -/
def ct_feed : S := (.seq (.ret (.lst (.cons (.bi .list (.cons (.v 0) .nil)) (.cons (.cI 0) (.cons (.cI 0) (.cons (.cI 1) .nil)))))) .skip)
theorem feed_ok (ns : List Int) : ∃ d, runFn 1 1 false (ex Φ ct_feed) [.scr ns] = some (.non, .tmp d) ∧ isFeed d := by
  refine ⟨.lst true [.lst true (ns.map .int), .int 0, .int 0, .int 1], run_tmp (ρ' := [.fz (.scr ns)]) ?_ rfl rfl, true, ns, 0, 0, 1, ?_, Nat.zero_le _, by omega, by omega⟩
  · simp [ct_feed, -List.map_map, startC, ex, ev, evA, evT, evC, evI, sSeq, sIf, sSkip, Z.tAnd, Z.tOr, Z.tNot, isBl, tru, D.truth, eOp1, eOp2, eVar, eC, R.hold, R.look, oIx, Z.atI_at, cmpD, ofB, unD, eCB, looks, aCons, aNil, BI.dd, R.live, sAsg, sAsgF, storeR, R.fix, P.bind1, P.binds, setC, pin_fz, pin_dead, pin_ow, sAugIx, sSet, Z.ixN_at, augD, binD, ofI, cpowB, cmulB, cmodB, cdivB, sRet, sRetN, retR, outOf, sDrop, sFz, sAug, eLst, eTup, vals, eMth, MM.dd, eIf, eOr, eAnd, eNot, tres, eIsa, D.isa, oldVals, old_int, old_bl, old_non, old_enc, iLst, iTupD, iR1, iR2, iEnu, eSl, oPart, rng_up, oEq_int, oNe_int, T.isNil, T.alen, eCall, kills, noIo]
  · simp [D.oldKids, D.olds, D.old, feedD, olds_int]
/-! draws -/
def ct_draw : S := (.seq (.ifs (.tand (.tcmp .Eq (.ix (.v 0) (.cI 2)) (.cI 0)) (.tone (.tcmp .Lt (.ix (.v 0) (.cI 1)) (.bi .len (.cons (.ix (.v 0) (.cI 0)) .nil))))) (.seq (.asgF (.n 3) (.bi .abs (.cons (.bi .int (.cons (.ix (.ix (.v 0) (.cI 0)) (.ix (.v 0) (.cI 1))) .nil)) .nil))) (.seq (.augIx 0 (.cI 1) .Add (.cI 1)) (.seq (.ifs (.tcmp .GtE (.v 3) (.bin .Pow (.cI 10) (.cI 18))) (.seq (.set 0 (.cI 2) (.v 3)) .skip) (.seq (.set 0 (.cI 3) (.bin .Mod (.bi .int (.cons (.bin .Add (.bin .Add (.bin .Mult (.ix (.v 0) (.cI 3)) (.cI 48271)) (.bin .Mult (.v 3) (.cI 69621))) (.ix (.v 0) (.cI 1))) .nil)) (.cI 2147483647))) .skip)) .skip))) .skip) (.seq (.ifs (.tcmp .Gt (.ix (.v 0) (.cI 2)) (.cI 0)) (.seq (.asg (.n 4) (.bin .Mod (.bi .int (.cons (.ix (.v 0) (.cI 2)) .nil)) (.v 1))) (.seq (.set 0 (.cI 2) (.bin .FloorDiv (.ix (.v 0) (.cI 2)) (.v 1))) (.seq (.ret (.v 4)) .skip))) .skip) (.seq (.set 0 (.cI 3) (.bin .Mod (.bi .int (.cons (.bin .Add (.bin .Mult (.ix (.v 0) (.cI 3)) (.cI 16807)) (.cI 12345)) .nil)) (.cI 2147483647))) (.seq (.asgF (.n 2) (.bin .Mod (.bi .int (.cons (.bin .Add (.bin .Mult (.ix (.v 0) (.cI 3)) (.ix (.v 0) (.cI 3))) (.ix (.v 0) (.cI 3))) .nil)) (.cI 2147483629))) (.seq (.ret (.bin .Mod (.bin .FloorDiv (.v 2) (.cI 11)) (.v 1))) .skip)))))
def draw_rest : S := match ct_draw with | .seq _ b => b | _ => .skip
theorem draw_tail {fl : Bool} {ns : List Int} {p : Nat} {s hh m : Int} {y : C} (hm : 0 < m) (hm3 : m < 1073741824) (h1 : p ≤ ns.length) (h2 : 0 ≤ hh) (h3 : hh < 2147483647) :
  ∃ ρ' k d', ex Φ draw_rest [.ow true (feedD fl ns p s hh), .fz (.int m), .dead, y, .dead] = some (ρ', .rt (.val (.int k))) ∧ outOf true ρ' = some d' ∧ isFeed d' ∧ 0 ≤ k ∧ k < m := by
  simp only [draw_rest, ct_draw]
  by_cases hs : 0 < s
  · refine ⟨_, s % m, feedD fl ns p (s / m) hh, by simp [-List.map_map, startC, ex, ev, evA, evT, evC, evI, sSeq, sIf, sSkip, Z.tAnd, Z.tOr, Z.tNot, isBl, tru, D.truth, eOp1, eOp2, eVar, eC, R.hold, R.look, oIx, Z.atI_at, cmpD, ofB, unD, eCB, looks, aCons, aNil, BI.dd, R.live, sAsg, sAsgF, storeR, R.fix, P.bind1, P.binds, setC, pin_fz, pin_dead, pin_ow, sAugIx, sSet, Z.ixN_at, augD, binD, ofI, cpowB, cmulB, cmodB, cdivB, sRet, sRetN, retR, outOf, sDrop, sFz, sAug, eLst, eTup, vals, eMth, MM.dd, eIf, eOr, eAnd, eNot, tres, eIsa, D.isa, oldVals, old_int, old_bl, old_non, old_enc, iLst, iTupD, iR1, iR2, iEnu, eSl, oPart, rng_up, oEq_int, oNe_int, T.isNil, T.alen, eCall, kills, noIo, feedD, hs, hm, hm3]; rfl, by rfl, ⟨_, _, _, _, _, feedKids, h1, h2, h3⟩, Int.emod_nonneg _ (by omega), Int.emod_lt_of_pos _ hm⟩
  · have g1 : 0 ≤ (hh * 16807 + 12345) % 2147483647 := Int.emod_nonneg _ (by omega)
    have g2 : (hh * 16807 + 12345) % 2147483647 < 2147483647 := Int.emod_lt_of_pos _ (by omega)
    have g3 : -18446744073709551616 < (hh * 16807 + 12345) % 2147483647 := by omega
    have g4 : (hh * 16807 + 12345) % 2147483647 < 18446744073709551616 := by omega
    refine ⟨_, _, feedD fl ns p s ((hh * 16807 + 12345) % 2147483647), by simp [-List.map_map, startC, ex, ev, evA, evT, evC, evI, sSeq, sIf, sSkip, Z.tAnd, Z.tOr, Z.tNot, isBl, tru, D.truth, eOp1, eOp2, eVar, eC, R.hold, R.look, oIx, Z.atI_at, cmpD, ofB, unD, eCB, looks, aCons, aNil, BI.dd, R.live, sAsg, sAsgF, storeR, R.fix, P.bind1, P.binds, setC, pin_fz, pin_dead, pin_ow, sAugIx, sSet, Z.ixN_at, augD, binD, ofI, cpowB, cmulB, cmodB, cdivB, sRet, sRetN, retR, outOf, sDrop, sFz, sAug, eLst, eTup, vals, eMth, MM.dd, eIf, eOr, eAnd, eNot, tres, eIsa, D.isa, oldVals, old_int, old_bl, old_non, old_enc, iLst, iTupD, iR1, iR2, iEnu, eSl, oPart, rng_up, oEq_int, oNe_int, T.isNil, T.alen, eCall, kills, noIo, feedD, hs, hm, hm3, g3, g4]; exact ⟨rfl, rfl⟩, by rfl, ⟨_, _, _, _, _, feedKids, h1, g1, g2⟩, Int.emod_nonneg _ (by omega), Int.emod_lt_of_pos _ hm⟩
theorem draw_ok : DrawOk (runFn 5 2 true (ex Φ ct_draw)) := by
  intro d m h hm hm2
  obtain ⟨fl, ns, p, s, hh, h0, h1, h2, h3⟩ := h
  have hm3 : m < 1073741824 := by omega
  rw [h0]
  obtain ⟨s', h', p', y, e, q1, q2, q3⟩ : ∃ s' h' p' y, ex Φ ct_draw (startC 5 true [feedD fl ns p s hh, .int m]) = ex Φ draw_rest [.ow true (feedD fl ns p' s' h'), .fz (.int m), .dead, y, .dead] ∧ p' ≤ ns.length ∧ 0 ≤ h' ∧ h' < 2147483647 := by
    by_cases hs : s = 0 ∧ p < ns.length
    · obtain ⟨rfl, hp⟩ := hs
      by_cases hb : 1000000000000000000 ≤ (if ns[p] < 0 then -ns[p] else ns[p])
      · refine ⟨(if ns[p] < 0 then -ns[p] else ns[p]), hh, p + 1, .fz (.int (if ns[p] < 0 then -ns[p] else ns[p])), ?_, hp, h2, h3⟩
        refine ex_seq ?_
        simp [-List.map_map, startC, ex, ev, evA, evT, evC, evI, sSeq, sIf, sSkip, Z.tAnd, Z.tOr, Z.tNot, isBl, tru, D.truth, eOp1, eOp2, eVar, eC, R.hold, R.look, oIx, Z.atI_at, cmpD, ofB, unD, eCB, looks, aCons, aNil, BI.dd, R.live, sAsg, sAsgF, storeR, R.fix, P.bind1, P.binds, setC, pin_fz, pin_dead, pin_ow, sAugIx, sSet, Z.ixN_at, augD, binD, ofI, cpowB, cmulB, cmodB, cdivB, sRet, sRetN, retR, outOf, sDrop, sFz, sAug, eLst, eTup, vals, eMth, MM.dd, eIf, eOr, eAnd, eNot, tres, eIsa, D.isa, oldVals, old_int, old_bl, old_non, old_enc, iLst, iTupD, iR1, iR2, iEnu, eSl, oPart, rng_up, oEq_int, oNe_int, T.isNil, T.alen, eCall, kills, noIo, feedD, hp, hb]
      · refine ⟨0, (hh * 48271 + (if ns[p] < 0 then -ns[p] else ns[p]) * 69621 + ((p + 1 : Nat) : Int)) % 2147483647, p + 1, .fz (.int (if ns[p] < 0 then -ns[p] else ns[p])), ?_, hp, Int.emod_nonneg _ (by omega), Int.emod_lt_of_pos _ (by omega)⟩
        refine ex_seq ?_
        simp [-List.map_map, startC, ex, ev, evA, evT, evC, evI, sSeq, sIf, sSkip, Z.tAnd, Z.tOr, Z.tNot, isBl, tru, D.truth, eOp1, eOp2, eVar, eC, R.hold, R.look, oIx, Z.atI_at, cmpD, ofB, unD, eCB, looks, aCons, aNil, BI.dd, R.live, sAsg, sAsgF, storeR, R.fix, P.bind1, P.binds, setC, pin_fz, pin_dead, pin_ow, sAugIx, sSet, Z.ixN_at, augD, binD, ofI, cpowB, cmulB, cmodB, cdivB, sRet, sRetN, retR, outOf, sDrop, sFz, sAug, eLst, eTup, vals, eMth, MM.dd, eIf, eOr, eAnd, eNot, tres, eIsa, D.isa, oldVals, old_int, old_bl, old_non, old_enc, iLst, iTupD, iR1, iR2, iEnu, eSl, oPart, rng_up, oEq_int, oNe_int, T.isNil, T.alen, eCall, kills, noIo, feedD, hp, hb]
    · refine ⟨s, hh, p, .dead, ?_, h1, h2, h3⟩
      refine ex_seq ?_
      by_cases hs0 : s = 0
      · have hp : ¬ p < ns.length := fun z => hs ⟨hs0, z⟩
        simp [-List.map_map, startC, ex, ev, evA, evT, evC, evI, sSeq, sIf, sSkip, Z.tAnd, Z.tOr, Z.tNot, isBl, tru, D.truth, eOp1, eOp2, eVar, eC, R.hold, R.look, oIx, Z.atI_at, cmpD, ofB, unD, eCB, looks, aCons, aNil, BI.dd, R.live, sAsg, sAsgF, storeR, R.fix, P.bind1, P.binds, setC, pin_fz, pin_dead, pin_ow, sAugIx, sSet, Z.ixN_at, augD, binD, ofI, cpowB, cmulB, cmodB, cdivB, sRet, sRetN, retR, outOf, sDrop, sFz, sAug, eLst, eTup, vals, eMth, MM.dd, eIf, eOr, eAnd, eNot, tres, eIsa, D.isa, oldVals, old_int, old_bl, old_non, old_enc, iLst, iTupD, iR1, iR2, iEnu, eSl, oPart, rng_up, oEq_int, oNe_int, T.isNil, T.alen, eCall, kills, noIo, feedD, hp, hs0]
      · simp [-List.map_map, startC, ex, ev, evA, evT, evC, evI, sSeq, sIf, sSkip, Z.tAnd, Z.tOr, Z.tNot, isBl, tru, D.truth, eOp1, eOp2, eVar, eC, R.hold, R.look, oIx, Z.atI_at, cmpD, ofB, unD, eCB, looks, aCons, aNil, BI.dd, R.live, sAsg, sAsgF, storeR, R.fix, P.bind1, P.binds, setC, pin_fz, pin_dead, pin_ow, sAugIx, sSet, Z.ixN_at, augD, binD, ofI, cpowB, cmulB, cmodB, cdivB, sRet, sRetN, retR, outOf, sDrop, sFz, sAug, eLst, eTup, vals, eMth, MM.dd, eIf, eOr, eAnd, eNot, tres, eIsa, D.isa, oldVals, old_int, old_bl, old_non, old_enc, iLst, iTupD, iR1, iR2, iEnu, eSl, oPart, rng_up, oEq_int, oNe_int, T.isNil, T.alen, eCall, kills, noIo, feedD, hs0]
  obtain ⟨ρ', k, d', g1, g2, g3, g4, g5⟩ := draw_tail (Φ := Φ) (fl := fl) (y := y) (s := s') hm hm3 q1 q2 q3
  exact ⟨d', _, run_val (by rw [e, g1]) g2 rfl, g3, k, rfl, g4, g5⟩
/-! the drawn order -/
def OrderOk (sem : FS) : Prop := ∀ (d : D) (n : Int), isFeed d → 0 ≤ n → n ≤ 1000 → FnOk sem [d.oldKids, .int n] fun out r => isFeed out ∧ ∃ ks : List Int, r = .tmp (.lst true (ks.map D.int)) ∧ ks.Perm (up 0 n.toNat)
def ct_order (i_law_draw : Nat) : S := (.seq (.asg (.n 2) (.lc [("k", 4)] (.n 4) (.iR1 (.cons (.v 1) .nil)) .nil (.v 4))) (.seq (.asg (.n 3) (.lst .nil)) (.seq (.for (.n 4) (.iR1 (.cons (.v 1) .nil)) (.seq (.drop (.mth .append (.v 3) (.cons (.mth .popAt (.v 2) (.cons (.call i_law_draw (.cons (.v 0) (.cons (.bin .Sub (.v 1) (.v 4)) .nil))) .nil)) .nil))) .skip)) (.seq (.ret (.v 3)) .skip))))
theorem order_ok {i : Nat} {sd : FS} (hd : HasFn Φ i true 2 sd) (HD : DrawOk sd) : OrderOk (runFn 5 2 true (ex Φ (ct_order i))) := by
  intro d n h hn hn1
  obtain ⟨Fd, f1, f2, f3, rfl⟩ := hd
  have hr : rOk n = true := decide_eq_true (by omega)
  replace h := h.kids
  generalize d.oldKids = d at h
  refine ws_fn rfl ?_
  simp only [ct_order]
  refine ws_seq (ex_asg (ev_lc (up 0 n.toNat) (e := D.int) (y := D.int) (b := fun _ => true) (by (simp [-List.map_map, startC, ex, ev, evA, evT, evC, evI, sSeq, sIf, sSkip, Z.tAnd, Z.tOr, Z.tNot, isBl, tru, D.truth, eOp1, eOp2, eVar, eC, R.hold, R.look, oIx, Z.atI_at, cmpD, ofB, unD, eCB, looks, aCons, aNil, BI.dd, R.live, sAsg, sAsgF, storeR, R.fix, P.bind1, P.binds, setC, pin_fz, pin_dead, pin_ow, sAugIx, sSet, Z.ixN_at, augD, binD, ofI, cpowB, cmulB, cmodB, cdivB, sRet, sRetN, retR, outOf, sDrop, sFz, sAug, eLst, eTup, vals, eMth, MM.dd, eIf, eOr, eAnd, eNot, tres, eIsa, D.isa, oldVals, old_int, old_bl, old_non, old_enc, iLst, iTupD, iR1, iR2, iEnu, eSl, oPart, rng_up, oEq_int, oNe_int, T.isNil, T.alen, eCall, kills, noIo, hr] <;> first | rfl | exact ⟨rfl, rfl⟩ | exact ⟨rfl, rfl, rfl⟩)) rfl rfl rfl rfl (by rw [up_len]; omega) (fun x hx => ⟨_, by rfl, _, by rfl, by rfl, fun _ => ⟨_, _, by rfl, by rfl, by rfl⟩⟩)) rfl) ?_
  simp only [filter_yes]
  refine ws_seq (by (simp [-List.map_map, startC, ex, ev, evA, evT, evC, evI, sSeq, sIf, sSkip, Z.tAnd, Z.tOr, Z.tNot, isBl, tru, D.truth, eOp1, eOp2, eVar, eC, R.hold, R.look, oIx, Z.atI_at, cmpD, ofB, unD, eCB, looks, aCons, aNil, BI.dd, R.live, sAsg, sAsgF, storeR, R.fix, P.bind1, P.binds, setC, pin_fz, pin_dead, pin_ow, sAugIx, sSet, Z.ixN_at, augD, binD, ofI, cpowB, cmulB, cmodB, cdivB, sRet, sRetN, retR, outOf, sDrop, sFz, sAug, eLst, eTup, vals, eMth, MM.dd, eIf, eOr, eAnd, eNot, tres, eIsa, D.isa, oldVals, old_int, old_bl, old_non, old_enc, iLst, iTupD, iR1, iR2, iEnu, eSl, oPart, rng_up, oEq_int, oNe_int, T.isNil, T.alen, eCall, kills, noIo] <;> first | rfl | exact ⟨rfl, rfl⟩ | exact ⟨rfl, rfl, rfl⟩)) ?_
  refine ws_for (fun k ρ => ∃ (d : D) (ls os : List Int) (c : C), ρ = [.ow true d, .fz (.int n), .ow false (.lst true (ls.map D.int)), .ow false (.lst true (os.map D.int)), c] ∧ c.pin = false ∧ isFeed d ∧ ls.length + k = n.toNat ∧ (os ++ ls).Perm (up 0 n.toNat)) (by (simp [-List.map_map, startC, ex, ev, evA, evT, evC, evI, sSeq, sIf, sSkip, Z.tAnd, Z.tOr, Z.tNot, isBl, tru, D.truth, eOp1, eOp2, eVar, eC, R.hold, R.look, oIx, Z.atI_at, cmpD, ofB, unD, eCB, looks, aCons, aNil, BI.dd, R.live, sAsg, sAsgF, storeR, R.fix, P.bind1, P.binds, setC, pin_fz, pin_dead, pin_ow, sAugIx, sSet, Z.ixN_at, augD, binD, ofI, cpowB, cmulB, cmodB, cdivB, sRet, sRetN, retR, outOf, sDrop, sFz, sAug, eLst, eTup, vals, eMth, MM.dd, eIf, eOr, eAnd, eNot, tres, eIsa, D.isa, oldVals, old_int, old_bl, old_non, old_enc, iLst, iTupD, iR1, iR2, iEnu, eSl, oPart, rng_up, oEq_int, oNe_int, T.isNil, T.alen, eCall, kills, noIo, hr] <;> first | rfl | exact ⟨rfl, rfl⟩ | exact ⟨rfl, rfl, rfl⟩)) ?_ ?_ ?_
  · exact ⟨d, up 0 n.toNat, [], _, rfl, rfl, h, by rw [up_len]; rfl, List.Perm.refl _⟩
  · rintro k dd ρ hk ⟨d, ls, os, c, rfl, hc, hf, hl, hp⟩
    obtain ⟨x, hx, rfl⟩ := map_at hk
    have hkn : k < n.toNat := by have := (List.getElem?_eq_some_iff.mp hx).1; rw [up_len] at this; exact this
    rw [up_get hkn] at hx
    cases hx
    refine ⟨_, by (simp [-List.map_map, startC, ex, ev, evA, evT, evC, evI, sSeq, sIf, sSkip, Z.tAnd, Z.tOr, Z.tNot, isBl, tru, D.truth, eOp1, eOp2, eVar, eC, R.hold, R.look, oIx, Z.atI_at, cmpD, ofB, unD, eCB, looks, aCons, aNil, BI.dd, R.live, sAsg, sAsgF, storeR, R.fix, P.bind1, P.binds, setC, pin_fz, pin_dead, pin_ow, sAugIx, sSet, Z.ixN_at, augD, binD, ofI, cpowB, cmulB, cmodB, cdivB, sRet, sRetN, retR, outOf, sDrop, sFz, sAug, eLst, eTup, vals, eMth, MM.dd, eIf, eOr, eAnd, eNot, tres, eIsa, D.isa, oldVals, old_int, old_bl, old_non, old_enc, iLst, iTupD, iR1, iR2, iEnu, eSl, oPart, rng_up, oEq_int, oNe_int, T.isNil, T.alen, eCall, kills, noIo, hc] <;> first | rfl | exact ⟨rfl, rfl⟩ | exact ⟨rfl, rfl, rfl⟩), ?_⟩
    obtain ⟨d', j, e1, e2, e3, e4⟩ := HD.at hf (m := n - k) (by omega) (by omega)
    have hj : j.toNat < ls.length := by omega
    have hj2 : j < ls.length := by omega
    have hol : os.length < 100000 := by have := hp.length_eq; rw [List.length_append, up_len] at this; omega
    have hj3 : -9223372036854775808 ≤ j := by omega
    have hj4 : j < 9223372036854775808 := by omega
    refine ws_seq (ρ1 := [.ow true d', .fz (.int n), .ow false (.lst true ((ls.eraseIdx j.toNat).map D.int)), .ow false (.lst true ((os ++ [ls[j.toNat]]).map D.int)), .fz (.int k)]) ?_ (ws_skip ⟨.inl rfl, _, _, _, _, rfl, rfl, e2, ?_, ?_⟩)
    · simp [-List.map_map, startC, ex, ev, evA, evT, evC, evI, sSeq, sIf, sSkip, Z.tAnd, Z.tOr, Z.tNot, isBl, tru, D.truth, eOp1, eOp2, eVar, eC, R.hold, R.look, oIx, Z.atI_at, cmpD, ofB, unD, eCB, looks, aCons, aNil, BI.dd, R.live, sAsg, sAsgF, storeR, R.fix, P.bind1, P.binds, setC, pin_fz, pin_dead, pin_ow, sAugIx, sSet, Z.ixN_at, augD, binD, ofI, cpowB, cmulB, cmodB, cdivB, sRet, sRetN, retR, outOf, sDrop, sFz, sAug, eLst, eTup, vals, eMth, MM.dd, eIf, eOr, eAnd, eNot, tres, eIsa, D.isa, oldVals, old_int, old_bl, old_non, old_enc, iLst, iTupD, iR1, iR2, iEnu, eSl, oPart, rng_up, oEq_int, oNe_int, T.isNil, T.alen, eCall, kills, noIo, f1, f2, f3, e1, e3, hj2, hj3, hj4, hj, hol, erase_map]
    · rw [List.length_eraseIdx]; simp only [hj, if_true]; omega
    · refine List.Perm.trans ?_ hp
      rw [List.append_assoc]
      exact List.Perm.append_left _ (erase_perm hj)
  · rintro ρ ⟨d, ls, os, c, rfl, hc, hf, hl, hp⟩
    refine ws_ret (by (simp [-List.map_map, startC, ex, ev, evA, evT, evC, evI, sSeq, sIf, sSkip, Z.tAnd, Z.tOr, Z.tNot, isBl, tru, D.truth, eOp1, eOp2, eVar, eC, R.hold, R.look, oIx, Z.atI_at, cmpD, ofB, unD, eCB, looks, aCons, aNil, BI.dd, R.live, sAsg, sAsgF, storeR, R.fix, P.bind1, P.binds, setC, pin_fz, pin_dead, pin_ow, sAugIx, sSet, Z.ixN_at, augD, binD, ofI, cpowB, cmulB, cmodB, cdivB, sRet, sRetN, retR, outOf, sDrop, sFz, sAug, eLst, eTup, vals, eMth, MM.dd, eIf, eOr, eAnd, eNot, tres, eIsa, D.isa, oldVals, old_int, old_bl, old_non, old_enc, iLst, iTupD, iR1, iR2, iEnu, eSl, oPart, rng_up, oEq_int, oNe_int, T.isNil, T.alen, eCall, kills, noIo] <;> first | rfl | exact ⟨rfl, rfl⟩ | exact ⟨rfl, rfl, rfl⟩)) ?_
    refine ⟨_, _, rfl, rfl, hf, os, rfl, ?_⟩
    rw [List.length_map, up_len] at hl
    have : ls = [] := List.length_eq_zero_iff.mp (by omega)
    subst this
    simpa using hp
/-! whole numbers -/
def ct_whole : S := (.seq (.ret (.andv (.isa .int (.v 0)) (.one (.notv (.isa .bool (.v 0)))))) .skip)
theorem whole_ok (i : Int) : runFn 1 1 false (ex Φ ct_whole) [.int i] = some (.non, .val (.bl true)) := by
  refine run_val (ρ' := [.fz (.int i)]) ?_ rfl rfl
  simp [ct_whole, -List.map_map, startC, ex, ev, evA, evT, evC, evI, sSeq, sIf, sSkip, Z.tAnd, Z.tOr, Z.tNot, isBl, tru, D.truth, eOp1, eOp2, eVar, eC, R.hold, R.look, oIx, Z.atI_at, cmpD, ofB, unD, eCB, looks, aCons, aNil, BI.dd, R.live, sAsg, sAsgF, storeR, R.fix, P.bind1, P.binds, setC, pin_fz, pin_dead, pin_ow, sAugIx, sSet, Z.ixN_at, augD, binD, ofI, cpowB, cmulB, cmodB, cdivB, sRet, sRetN, retR, outOf, sDrop, sFz, sAug, eLst, eTup, vals, eMth, MM.dd, eIf, eOr, eAnd, eNot, tres, eIsa, D.isa, oldVals, old_int, old_bl, old_non, old_enc, iLst, iTupD, iR1, iR2, iEnu, eSl, oPart, rng_up, oEq_int, oNe_int, T.isNil, T.alen, eCall, kills, noIo]
def WholeOk (sem : FS) : Prop := ∀ i : Int, sem [.int i] = some (.non, .val (.bl true))
theorem all_yes {α : Type} : ∀ xs : List α, getBools (xs.map fun _ => D.bl true) = some (xs.map fun _ => true)
  | [] => rfl
  | x :: xs => by simp [getBools, all_yes xs]
def cl_wholes (i_law_whole : Nat) : T := (.lc [("k", 2)] (.n 2) (.iL (.v 0)) .nil (.call i_law_whole (.cons (.v 2) .nil)))
def ct_wholes (i_law_whole : Nat) : S := (.seq (.ifs (.tor (.tnot (.tst (.isa .list (.v 0)))) (.tone (.tcmp .NotEq (.bi .len (.cons (.v 0) .nil)) (.v 1)))) (.seq (.ret (.cB false)) .skip) .skip) (.seq (.ret (.bi .all (.cons (cl_wholes i_law_whole) .nil))) .skip))
def WholesOk (sem : FS) : Prop := ∀ (f : Bool) (ks : List Int) (n : Int), ks.length ≤ 100000 → sem [.lst f (ks.map D.int), .int n] = some (.non, .val (.bl (decide ((ks.length : Int) = n))))
theorem wholes_ok {i : Nat} {sw : FS} (hw : HasFn Φ i false 1 sw) (HW : WholeOk sw) : WholesOk (runFn 3 2 false (ex Φ (ct_wholes i))) := by
  intro f ks n hl
  obtain ⟨Fd, f1, f2, f3, rfl⟩ := hw
  by_cases h : (ks.length : Int) = n
  · refine run_val (ρ' := [.fz (.lst f (ks.map D.int)), .fz (.int n), .dead]) ?_ rfl rfl
    have e : ev Φ (cl_wholes i) [.fz (.lst f (ks.map D.int)), .fz (.int n), .dead] = some ([.fz (.lst f (ks.map D.int)), .fz (.int n), .dead], .tmp (.lst true (ks.map fun _ => D.bl true))) := by
      have := ev_lc (Φ := Φ) (own := [("k", 2)]) (p := .n 2) (it := .iL (.v 0)) (c := .nil) (t := .call i (.cons (.v 2) .nil)) (ρ := [.fz (.lst f (ks.map D.int)), .fz (.int n), .dead]) ks (e := D.int) (y := fun _ => D.bl true) (b := fun _ => true) (by (simp [-List.map_map, startC, ex, ev, evA, evT, evC, evI, sSeq, sIf, sSkip, Z.tAnd, Z.tOr, Z.tNot, isBl, tru, D.truth, eOp1, eOp2, eVar, eC, R.hold, R.look, oIx, Z.atI_at, cmpD, ofB, unD, eCB, looks, aCons, aNil, BI.dd, R.live, sAsg, sAsgF, storeR, R.fix, P.bind1, P.binds, setC, pin_fz, pin_dead, pin_ow, sAugIx, sSet, Z.ixN_at, augD, binD, ofI, cpowB, cmulB, cmodB, cdivB, sRet, sRetN, retR, outOf, sDrop, sFz, sAug, eLst, eTup, vals, eMth, MM.dd, eIf, eOr, eAnd, eNot, tres, eIsa, D.isa, oldVals, old_int, old_bl, old_non, old_enc, iLst, iTupD, iR1, iR2, iEnu, eSl, oPart, rng_up, oEq_int, oNe_int, T.isNil, T.alen, eCall, kills, noIo] <;> first | rfl | exact ⟨rfl, rfl⟩ | exact ⟨rfl, rfl, rfl⟩)) rfl rfl rfl rfl hl (fun x hx => ⟨_, by rfl, _, by rfl, by rfl, fun _ => ⟨_, .val (.bl true), by simp [-List.map_map, startC, ex, ev, evA, evT, evC, evI, sSeq, sIf, sSkip, Z.tAnd, Z.tOr, Z.tNot, isBl, tru, D.truth, eOp1, eOp2, eVar, eC, R.hold, R.look, oIx, Z.atI_at, cmpD, ofB, unD, eCB, looks, aCons, aNil, BI.dd, R.live, sAsg, sAsgF, storeR, R.fix, P.bind1, P.binds, setC, pin_fz, pin_dead, pin_ow, sAugIx, sSet, Z.ixN_at, augD, binD, ofI, cpowB, cmulB, cmodB, cdivB, sRet, sRetN, retR, outOf, sDrop, sFz, sAug, eLst, eTup, vals, eMth, MM.dd, eIf, eOr, eAnd, eNot, tres, eIsa, D.isa, oldVals, old_int, old_bl, old_non, old_enc, iLst, iTupD, iR1, iR2, iEnu, eSl, oPart, rng_up, oEq_int, oNe_int, T.isNil, T.alen, eCall, kills, noIo, f1, f2, f3, HW x]; rfl, by rfl, by rfl⟩⟩)
      simp only [filter_yes] at this
      exact this
    simp [ct_wholes, -List.map_map, startC, ex, ev, evA, evT, evC, evI, sSeq, sIf, sSkip, Z.tAnd, Z.tOr, Z.tNot, isBl, tru, D.truth, eOp1, eOp2, eVar, eC, R.hold, R.look, oIx, Z.atI_at, cmpD, ofB, unD, eCB, looks, aCons, aNil, BI.dd, R.live, sAsg, sAsgF, storeR, R.fix, P.bind1, P.binds, setC, pin_fz, pin_dead, pin_ow, sAugIx, sSet, Z.ixN_at, augD, binD, ofI, cpowB, cmulB, cmodB, cdivB, sRet, sRetN, retR, outOf, sDrop, sFz, sAug, eLst, eTup, vals, eMth, MM.dd, eIf, eOr, eAnd, eNot, tres, eIsa, D.isa, oldVals, old_int, old_bl, old_non, old_enc, iLst, iTupD, iR1, iR2, iEnu, eSl, oPart, rng_up, oEq_int, oNe_int, T.isNil, T.alen, eCall, kills, noIo, h, e, all_yes]
  · refine run_val (ρ' := [.fz (.lst f (ks.map D.int)), .fz (.int n), .dead]) ?_ rfl rfl
    simp [ct_wholes, -List.map_map, startC, ex, ev, evA, evT, evC, evI, sSeq, sIf, sSkip, Z.tAnd, Z.tOr, Z.tNot, isBl, tru, D.truth, eOp1, eOp2, eVar, eC, R.hold, R.look, oIx, Z.atI_at, cmpD, ofB, unD, eCB, looks, aCons, aNil, BI.dd, R.live, sAsg, sAsgF, storeR, R.fix, P.bind1, P.binds, setC, pin_fz, pin_dead, pin_ow, sAugIx, sSet, Z.ixN_at, augD, binD, ofI, cpowB, cmulB, cmodB, cdivB, sRet, sRetN, retR, outOf, sDrop, sFz, sAug, eLst, eTup, vals, eMth, MM.dd, eIf, eOr, eAnd, eNot, tres, eIsa, D.isa, oldVals, old_int, old_bl, old_non, old_enc, iLst, iTupD, iR1, iR2, iEnu, eSl, oPart, rng_up, oEq_int, oNe_int, T.isNil, T.alen, eCall, kills, noIo, h]
/-! pairs of places -/
def pairsOf (n : Nat) : List (Int × Int) := (up 0 n).flatMap fun i => (up (i + 1) (n - (i + 1)).toNat).map fun j => (i, j)
theorem mem_pairsOf {n : Nat} {p : Int × Int} : p ∈ pairsOf n ↔ 0 ≤ p.1 ∧ p.1 < p.2 ∧ p.2 < n := by
  obtain ⟨a, b⟩ := p
  unfold pairsOf
  simp only [List.mem_flatMap, List.mem_map, mem_up, Prod.mk.injEq]
  constructor
  · rintro ⟨i, h1, j, h2, rfl, rfl⟩; omega
  · intro h; exact ⟨a, by omega, b, by omega, rfl, rfl⟩
def cl_pairs : T := (.lc [("j", 3)] (.n 3) (.iR2 (.cons (.bin .Add (.v 2) (.cI 1)) (.cons (.v 0) .nil))) .nil (.tup (.cons (.v 2) (.cons (.v 3) .nil))))
def ct_pairs : S := (.seq (.asg (.n 1) (.lst .nil)) (.seq (.for (.n 2) (.iR1 (.cons (.v 0) .nil)) (.seq (.asg (.n 1) (.bin .Add (.v 1) cl_pairs)) .skip)) (.seq (.ret (.v 1)) .skip)))
theorem flat_len {α β : Type} {f : α → List β} {m : Nat} : ∀ xs : List α, (∀ x ∈ xs, (f x).length ≤ m) → (xs.flatMap f).length ≤ xs.length * m
  | [], _ => by simp
  | x :: xs, h => by
    have h1 := h x (by simp)
    have h2 := flat_len xs fun z hz => h z (by simp [hz])
    simp only [List.flatMap_cons, List.length_append, List.length_cons, Nat.succ_mul]
    omega
theorem pairs_step {n : Int} {acc bb : List (Int × Int)} {k : Int} (e : ev Φ cl_pairs [.fz (.int n), .ow false (.lst true (acc.map dPair)), .fz (.int k), .dead] = some ([.fz (.int n), .ow false (.lst true (acc.map dPair)), .fz (.int k), .dead], .tmp (.lst true (bb.map dPair))))
  (hb2 : (acc.map dPair).length + (bb.map dPair).length ≤ 100000) : ex Φ (.asg (.n 1) (.bin .Add (.v 1) cl_pairs)) [.fz (.int n), .ow false (.lst true (acc.map dPair)), .fz (.int k), .dead] = some ([.fz (.int n), .ow false (.lst true ((acc ++ bb).map dPair)), .fz (.int k), .dead], .nx) := by
  simp [-List.map_map, startC, ex, ev, evA, evT, evC, evI, sSeq, sIf, sSkip, Z.tAnd, Z.tOr, Z.tNot, isBl, tru, D.truth, eOp1, eOp2, eVar, eC, R.hold, R.look, oIx, Z.atI_at, cmpD, ofB, unD, eCB, looks, aCons, aNil, BI.dd, R.live, sAsg, sAsgF, storeR, R.fix, P.bind1, P.binds, setC, pin_fz, pin_dead, pin_ow, sAugIx, sSet, Z.ixN_at, augD, binD, ofI, cpowB, cmulB, cmodB, cdivB, sRet, sRetN, retR, outOf, sDrop, sFz, sAug, eLst, eTup, vals, eMth, MM.dd, eIf, eOr, eAnd, eNot, tres, eIsa, D.isa, oldVals, old_int, old_bl, old_non, old_enc, iLst, iTupD, iR1, iR2, iEnu, eSl, oPart, rng_up, oEq_int, oNe_int, T.isNil, T.alen, eCall, kills, noIo, e, oCat_ok hb2]
theorem pairs_ok (n : Nat) (hn : n ≤ 100) : runFn 4 1 false (ex Φ ct_pairs) [.int n] = some (.non, .tmp (.lst true ((pairsOf n).map dPair))) := by
  have hr : rOk n = true := decide_eq_true (by omega)
  have key : FnOk (runFn 4 1 false (ex Φ ct_pairs)) [.int n] fun out r => out = .non ∧ r = .tmp (.lst true ((pairsOf n).map dPair)) := by
    refine ws_fn rfl ?_
    simp only [ct_pairs]
    refine ws_seq (by (simp [-List.map_map, startC, ex, ev, evA, evT, evC, evI, sSeq, sIf, sSkip, Z.tAnd, Z.tOr, Z.tNot, isBl, tru, D.truth, eOp1, eOp2, eVar, eC, R.hold, R.look, oIx, Z.atI_at, cmpD, ofB, unD, eCB, looks, aCons, aNil, BI.dd, R.live, sAsg, sAsgF, storeR, R.fix, P.bind1, P.binds, setC, pin_fz, pin_dead, pin_ow, sAugIx, sSet, Z.ixN_at, augD, binD, ofI, cpowB, cmulB, cmodB, cdivB, sRet, sRetN, retR, outOf, sDrop, sFz, sAug, eLst, eTup, vals, eMth, MM.dd, eIf, eOr, eAnd, eNot, tres, eIsa, D.isa, oldVals, old_int, old_bl, old_non, old_enc, iLst, iTupD, iR1, iR2, iEnu, eSl, oPart, rng_up, oEq_int, oNe_int, T.isNil, T.alen, eCall, kills, noIo] <;> first | rfl | exact ⟨rfl, rfl⟩ | exact ⟨rfl, rfl, rfl⟩)) ?_
    refine ws_for (fun k ρ => ∃ (c : C), ρ = [.fz (.int n), .ow false (.lst true (((up 0 k).flatMap fun i => (up (i + 1) (n - (i + 1)).toNat).map fun j => (i, j)).map dPair)), c, .dead] ∧ c.pin = false) (by (simp [-List.map_map, startC, ex, ev, evA, evT, evC, evI, sSeq, sIf, sSkip, Z.tAnd, Z.tOr, Z.tNot, isBl, tru, D.truth, eOp1, eOp2, eVar, eC, R.hold, R.look, oIx, Z.atI_at, cmpD, ofB, unD, eCB, looks, aCons, aNil, BI.dd, R.live, sAsg, sAsgF, storeR, R.fix, P.bind1, P.binds, setC, pin_fz, pin_dead, pin_ow, sAugIx, sSet, Z.ixN_at, augD, binD, ofI, cpowB, cmulB, cmodB, cdivB, sRet, sRetN, retR, outOf, sDrop, sFz, sAug, eLst, eTup, vals, eMth, MM.dd, eIf, eOr, eAnd, eNot, tres, eIsa, D.isa, oldVals, old_int, old_bl, old_non, old_enc, iLst, iTupD, iR1, iR2, iEnu, eSl, oPart, rng_up, oEq_int, oNe_int, T.isNil, T.alen, eCall, kills, noIo, hr] <;> first | rfl | exact ⟨rfl, rfl⟩ | exact ⟨rfl, rfl, rfl⟩)) ?_ ?_ ?_
    · exact ⟨_, rfl, rfl⟩
    · rintro k dd ρ hk ⟨c, rfl, hc⟩
      obtain ⟨x, hx, rfl⟩ := map_at hk
      have hkn : k < n := by have := (List.getElem?_eq_some_iff.mp hx).1; rw [up_len] at this; exact this
      rw [up_get hkn, Int.zero_add] at hx
      cases hx
      refine ⟨_, by (simp [-List.map_map, startC, ex, ev, evA, evT, evC, evI, sSeq, sIf, sSkip, Z.tAnd, Z.tOr, Z.tNot, isBl, tru, D.truth, eOp1, eOp2, eVar, eC, R.hold, R.look, oIx, Z.atI_at, cmpD, ofB, unD, eCB, looks, aCons, aNil, BI.dd, R.live, sAsg, sAsgF, storeR, R.fix, P.bind1, P.binds, setC, pin_fz, pin_dead, pin_ow, sAugIx, sSet, Z.ixN_at, augD, binD, ofI, cpowB, cmulB, cmodB, cdivB, sRet, sRetN, retR, outOf, sDrop, sFz, sAug, eLst, eTup, vals, eMth, MM.dd, eIf, eOr, eAnd, eNot, tres, eIsa, D.isa, oldVals, old_int, old_bl, old_non, old_enc, iLst, iTupD, iR1, iR2, iEnu, eSl, oPart, rng_up, oEq_int, oNe_int, T.isNil, T.alen, eCall, kills, noIo, hc] <;> first | rfl | exact ⟨rfl, rfl⟩ | exact ⟨rfl, rfl, rfl⟩), ?_⟩
      generalize hg : ((up 0 k).flatMap fun i => (up (i + 1) (n - (i + 1)).toNat).map fun j => (i, j)) = acc
      have hr1 : rOk ((k : Int) + 1) = true := decide_eq_true (by omega)
      have e : ev Φ cl_pairs [.fz (.int n), .ow false (.lst true (acc.map dPair)), .fz (.int k), .dead] = some ([.fz (.int n), .ow false (.lst true (acc.map dPair)), .fz (.int k), .dead], .tmp (.lst true (((up ((k : Int) + 1) ((n : Int) - (k + 1)).toNat).map fun j => ((k : Int), j)).map dPair))) := by
        refine (ev_lc (Φ := Φ) (up ((k : Int) + 1) ((n : Int) - (k + 1)).toNat) (e := D.int) (y := fun j => dPair (k, j)) (b := fun _ => true) (by (simp [-List.map_map, startC, ex, ev, evA, evT, evC, evI, sSeq, sIf, sSkip, Z.tAnd, Z.tOr, Z.tNot, isBl, tru, D.truth, eOp1, eOp2, eVar, eC, R.hold, R.look, oIx, Z.atI_at, cmpD, ofB, unD, eCB, looks, aCons, aNil, BI.dd, R.live, sAsg, sAsgF, storeR, R.fix, P.bind1, P.binds, setC, pin_fz, pin_dead, pin_ow, sAugIx, sSet, Z.ixN_at, augD, binD, ofI, cpowB, cmulB, cmodB, cdivB, sRet, sRetN, retR, outOf, sDrop, sFz, sAug, eLst, eTup, vals, eMth, MM.dd, eIf, eOr, eAnd, eNot, tres, eIsa, D.isa, oldVals, old_int, old_bl, old_non, old_enc, iLst, iTupD, iR1, iR2, iEnu, eSl, oPart, rng_up, oEq_int, oNe_int, T.isNil, T.alen, eCall, kills, noIo, hr, hr1] <;> first | rfl | exact ⟨rfl, rfl⟩ | exact ⟨rfl, rfl, rfl⟩)) rfl rfl rfl rfl (by rw [up_len]; omega) (fun x hx => ⟨_, by rfl, _, by rfl, by rfl, fun _ => ⟨_, _, by (simp [-List.map_map, startC, ex, ev, evA, evT, evC, evI, sSeq, sIf, sSkip, Z.tAnd, Z.tOr, Z.tNot, isBl, tru, D.truth, eOp1, eOp2, eVar, eC, R.hold, R.look, oIx, Z.atI_at, cmpD, ofB, unD, eCB, looks, aCons, aNil, BI.dd, R.live, sAsg, sAsgF, storeR, R.fix, P.bind1, P.binds, setC, pin_fz, pin_dead, pin_ow, sAugIx, sSet, Z.ixN_at, augD, binD, ofI, cpowB, cmulB, cmodB, cdivB, sRet, sRetN, retR, outOf, sDrop, sFz, sAug, eLst, eTup, vals, eMth, MM.dd, eIf, eOr, eAnd, eNot, tres, eIsa, D.isa, oldVals, old_int, old_bl, old_non, old_enc, iLst, iTupD, iR1, iR2, iEnu, eSl, oPart, rng_up, oEq_int, oNe_int, T.isNil, T.alen, eCall, kills, noIo] <;> first | rfl | exact ⟨rfl, rfl⟩ | exact ⟨rfl, rfl, rfl⟩), by rfl, by rfl⟩⟩)).trans ?_
        simp only [filter_yes, List.map_map]; rfl
      have hlen : acc.length ≤ k * n := by
        rw [← hg]
        refine Nat.le_trans (flat_len (m := n) _ fun x hx => ?_) (by rw [up_len]; exact Nat.le_refl _)
        rw [List.length_map, up_len]
        have := mem_up.mp hx
        omega
      have hb : acc.length + ((n : Int) - (k + 1)).toNat ≤ 100000 := by
        have : k * n ≤ 100 * 100 := Nat.mul_le_mul (by omega) hn
        omega
      refine ws_seq (ρ1 := [.fz (.int n), .ow false (.lst true ((acc ++ ((up ((k : Int) + 1) ((n : Int) - (k + 1)).toNat).map fun j => ((k : Int), j))).map dPair)), .fz (.int k), .dead]) ?_ (ws_skip ⟨.inl rfl, .fz (.int k), ?_, rfl⟩)
      · have hb2 : (acc.map dPair).length + (((up ((k : Int) + 1) ((n : Int) - (k + 1)).toNat).map fun j => ((k : Int), j)).map dPair).length ≤ 100000 := by simp only [List.length_map, up_len]; exact hb
        exact pairs_step e hb2
      · rw [← hg]
        have : up 0 (k + 1) = up 0 k ++ [(k : Int)] := by
          unfold up
          rw [List.range_succ, List.map_append]
          simp
        rw [this, List.flatMap_append]
        simp
    · rintro ρ ⟨c, rfl, hc⟩
      refine ws_ret (by (simp [-List.map_map, startC, ex, ev, evA, evT, evC, evI, sSeq, sIf, sSkip, Z.tAnd, Z.tOr, Z.tNot, isBl, tru, D.truth, eOp1, eOp2, eVar, eC, R.hold, R.look, oIx, Z.atI_at, cmpD, ofB, unD, eCB, looks, aCons, aNil, BI.dd, R.live, sAsg, sAsgF, storeR, R.fix, P.bind1, P.binds, setC, pin_fz, pin_dead, pin_ow, sAugIx, sSet, Z.ixN_at, augD, binD, ofI, cpowB, cmulB, cmodB, cdivB, sRet, sRetN, retR, outOf, sDrop, sFz, sAug, eLst, eTup, vals, eMth, MM.dd, eIf, eOr, eAnd, eNot, tres, eIsa, D.isa, oldVals, old_int, old_bl, old_non, old_enc, iLst, iTupD, iR1, iR2, iEnu, eSl, oPart, rng_up, oEq_int, oNe_int, T.isNil, T.alen, eCall, kills, noIo] <;> first | rfl | exact ⟨rfl, rfl⟩ | exact ⟨rfl, rfl, rfl⟩)) ?_
      refine ⟨_, _, rfl, rfl, rfl, ?_⟩
      simp only [List.length_map, up_len, Int.toNat_natCast]
      rfl
  obtain ⟨out, r, e, rfl, rfl⟩ := key
  exact e
def PairsOk (sem : FS) : Prop := ∀ n : Nat, n ≤ 100 → sem [.int n] = some (.non, .tmp (.lst true ((pairsOf n).map dPair)))
/-! joined -/
def ct_joined : S := (.seq (.ret (.orv (.cmp .In (.tup (.cons (.v 1) (.cons (.v 2) .nil))) (.v 0)) (.one (.cmp .In (.tup (.cons (.v 2) (.cons (.v 1) .nil))) (.v 0))))) .skip)
def JoinedOk (sem : FS) : Prop := ∀ (ps : List (Int × Int)) (i j : Int), sem [enc ps, .int i, .int j] = some (.non, .val (.bl (decide ((i, j) ∈ ps ∨ (j, i) ∈ ps))))
theorem in_pairs (neg : Bool) (i j : Int) (ps : List (Int × Int)) : oIn neg (.tup [.int i, .int j]) (enc ps) = some (.val (.bl (if neg then !decide ((i, j) ∈ ps) else decide ((i, j) ∈ ps)))) :=
  oIn_enc (a := (i, j)) rfl (Enc.old ps) (by decide) (by cases neg <;> simp)
theorem joined_ok : JoinedOk (runFn 3 3 false (ex Φ ct_joined)) := by
  intro ps i j
  refine run_val (ρ' := [.fz (enc ps), .fz (.int i), .fz (.int j)]) ?_ rfl rfl
  by_cases h : (i, j) ∈ ps
  · simp [ct_joined, -List.map_map, startC, ex, ev, evA, evT, evC, evI, sSeq, sIf, sSkip, Z.tAnd, Z.tOr, Z.tNot, isBl, tru, D.truth, eOp1, eOp2, eVar, eC, R.hold, R.look, oIx, Z.atI_at, cmpD, ofB, unD, eCB, looks, aCons, aNil, BI.dd, R.live, sAsg, sAsgF, storeR, R.fix, P.bind1, P.binds, setC, pin_fz, pin_dead, pin_ow, sAugIx, sSet, Z.ixN_at, augD, binD, ofI, cpowB, cmulB, cmodB, cdivB, sRet, sRetN, retR, outOf, sDrop, sFz, sAug, eLst, eTup, vals, eMth, MM.dd, eIf, eOr, eAnd, eNot, tres, eIsa, D.isa, oldVals, old_int, old_bl, old_non, old_enc, iLst, iTupD, iR1, iR2, iEnu, eSl, oPart, rng_up, oEq_int, oNe_int, T.isNil, T.alen, eCall, kills, noIo, in_pairs, h]
  · simp [ct_joined, -List.map_map, startC, ex, ev, evA, evT, evC, evI, sSeq, sIf, sSkip, Z.tAnd, Z.tOr, Z.tNot, isBl, tru, D.truth, eOp1, eOp2, eVar, eC, R.hold, R.look, oIx, Z.atI_at, cmpD, ofB, unD, eCB, looks, aCons, aNil, BI.dd, R.live, sAsg, sAsgF, storeR, R.fix, P.bind1, P.binds, setC, pin_fz, pin_dead, pin_ow, sAugIx, sSet, Z.ixN_at, augD, binD, ofI, cpowB, cmulB, cmodB, cdivB, sRet, sRetN, retR, outOf, sDrop, sFz, sAug, eLst, eTup, vals, eMth, MM.dd, eIf, eOr, eAnd, eNot, tres, eIsa, D.isa, oldVals, old_int, old_bl, old_non, old_enc, iLst, iTupD, iR1, iR2, iEnu, eSl, oPart, rng_up, oEq_int, oNe_int, T.isNil, T.alen, eCall, kills, noIo, in_pairs, h, oInT]
/-! sorted, renamed ties -/
theorem dd_sortP (f : Bool) (ps : List (Int × Int)) : BI.sorted.dd [.lst f (ps.map dPair)] = some (.tmp (.lst true ((sortP ps).map dPair))) := by
  simp only [BI.dd]
  cases ps with
  | nil => simp [getInts, sortI, sortP]
  | cons p r =>
    rw [show getInts ((p :: r).map dPair) = none from rfl, pairs_map]
def tieOf (names : List Int) (p : Int × Int) : Int × Int := (min (names[p.1.toNat]?.getD 0) (names[p.2.toNat]?.getD 0), max (names[p.1.toNat]?.getD 0) (names[p.2.toNat]?.getD 0))
def cl_renamed : T := (.lc [("i", 2), ("j", 3)] (.tp (.cons (.n 2) (.cons (.n 3) .nil))) (.iL (.v 0)) .nil (.tup (.cons (.bi .min2 (.cons (.ix (.v 1) (.v 2)) (.cons (.ix (.v 1) (.v 3)) .nil))) (.cons (.bi .max2 (.cons (.ix (.v 1) (.v 2)) (.cons (.ix (.v 1) (.v 3)) .nil))) .nil))))
def ct_renamed : S := (.seq (.ret (.bi .sorted (.cons cl_renamed .nil))) .skip)
def RenamedOk (sem : FS) : Prop := ∀ (ps : List (Int × Int)) (names : List Int), ps.length ≤ 100000 → (∀ p ∈ ps, 0 ≤ p.1 ∧ p.1 < names.length ∧ 0 ≤ p.2 ∧ p.2 < names.length) → sem [enc ps, enc names] = some (.non, .tmp (.lst true ((sortP (ps.map (tieOf names))).map dPair)))
theorem renamed_ok : RenamedOk (runFn 4 2 false (ex Φ ct_renamed)) := by
  intro ps names hl hp
  refine run_tmp (ρ' := [.fz (enc ps), .fz (enc names), .dead, .dead]) ?_ rfl rfl
  have e : ev Φ cl_renamed [.fz (enc ps), .fz (enc names), .dead, .dead] = some ([.fz (enc ps), .fz (enc names), .dead, .dead], .tmp (.lst true ((ps.map (tieOf names)).map dPair))) := by
    refine (ev_lc (Φ := Φ) ps (e := dPair) (y := fun p => dPair (tieOf names p)) (b := fun _ => true) (by (simp [-List.map_map, startC, ex, ev, evA, evT, evC, evI, sSeq, sIf, sSkip, Z.tAnd, Z.tOr, Z.tNot, isBl, tru, D.truth, eOp1, eOp2, eVar, eC, R.hold, R.look, oIx, Z.atI_at, cmpD, ofB, unD, eCB, looks, aCons, aNil, BI.dd, R.live, sAsg, sAsgF, storeR, R.fix, P.bind1, P.binds, setC, pin_fz, pin_dead, pin_ow, sAugIx, sSet, Z.ixN_at, augD, binD, ofI, cpowB, cmulB, cmodB, cdivB, sRet, sRetN, retR, outOf, sDrop, sFz, sAug, eLst, eTup, vals, eMth, MM.dd, eIf, eOr, eAnd, eNot, tres, eIsa, D.isa, oldVals, old_int, old_bl, old_non, old_enc, iLst, iTupD, iR1, iR2, iEnu, eSl, oPart, rng_up, oEq_int, oNe_int, T.isNil, T.alen, eCall, kills, noIo, enc_ps] <;> first | rfl | exact ⟨rfl, rfl⟩ | exact ⟨rfl, rfl, rfl⟩)) rfl rfl rfl rfl hl (fun p hx => ⟨_, by rfl, _, by rfl, by rfl, fun _ => ?_⟩)).trans ?_
    · obtain ⟨h1, h2, h3, h4⟩ := hp p hx
      obtain ⟨g1, e1⟩ : ∃ a, names[p.1.toNat]? = some a := ⟨names[p.1.toNat]'(by omega), List.getElem?_eq_getElem (by omega)⟩
      obtain ⟨g2, e2⟩ : ∃ a, names[p.2.toNat]? = some a := ⟨names[p.2.toNat]'(by omega), List.getElem?_eq_getElem (by omega)⟩
      refine ⟨[.fz (enc ps), .fz (enc names), .fz (.int p.1), .fz (.int p.2)], .val (dPair (tieOf names p)), ?_, rfl, rfl⟩
      simp only [dPair, enc_is, tieOf, e1, e2, Option.getD_some]
      simp [-List.map_map, startC, ex, ev, evA, evT, evC, evI, sSeq, sIf, sSkip, Z.tAnd, Z.tOr, Z.tNot, isBl, tru, D.truth, eOp1, eOp2, eVar, eC, R.hold, R.look, oIx, Z.atI_at, cmpD, ofB, unD, eCB, looks, aCons, aNil, BI.dd, R.live, sAsg, sAsgF, storeR, R.fix, P.bind1, P.binds, setC, pin_fz, pin_dead, pin_ow, sAugIx, sSet, Z.ixN_at, augD, binD, ofI, cpowB, cmulB, cmodB, cdivB, sRet, sRetN, retR, outOf, sDrop, sFz, sAug, eLst, eTup, vals, eMth, MM.dd, eIf, eOr, eAnd, eNot, tres, eIsa, D.isa, oldVals, old_int, old_bl, old_non, old_enc, iLst, iTupD, iR1, iR2, iEnu, eSl, oPart, rng_up, oEq_int, oNe_int, T.isNil, T.alen, eCall, kills, noIo, h1, h3, e1, e2]
      rfl
    · simp only [filter_yes, List.map_map]; rfl
  simp [-List.map_map, ct_renamed, startC, ex, sSeq, sRet, ev, eCB, evA, aCons, aNil, e, R.hold, R.live, looks, R.look, dd_sortP, sSkip]
/-! drawn ties -/
/-- ties of n places -/
def IsTies (n : Int) (ps : List (Int × Int)) : Prop := (∀ p ∈ ps, 0 ≤ p.1 ∧ p.1 < p.2 ∧ p.2 < n) ∧ ps.Nodup
def IsWeb (n : Int) (ps : List (Int × Int)) : Prop := IsTies n ps ∧ (ps.Pairwise fun a b => leP a b = true) ∧ ps.length ≤ 40
theorem up_nodup (lo : Int) (n : Nat) : (up lo n).Nodup := by
  unfold up
  refine List.pairwise_map.mpr (List.nodup_range.imp fun {a b} h e => h ?_)
  omega
theorem minmax {a b c d : Int} (h1 : min a b = min c d) (h2 : max a b = max c d) : (a = c ∧ b = d) ∨ (a = d ∧ b = c) := by omega
theorem nodup_inj {α : Type} {xs : List α} (h : xs.Nodup) {i j : Nat} (hi : i < xs.length) (hj : j < xs.length) (e : xs[i] = xs[j]) : i = j := by
  have h' := List.pairwise_iff_getElem.mp h
  rcases Nat.lt_trichotomy i j with g | g | g
  · exact absurd e (h' i j hi hj g)
  · exact g
  · exact absurd e.symm (h' j i hj hi g)
theorem mm_ok' {a b n : Int} (h1 : 0 ≤ a) (h2 : a < n) (h3 : 0 ≤ b) (h4 : b < n) (h : a ≠ b) : 0 ≤ min a b ∧ min a b < max a b ∧ max a b < n := by omega
theorem tie_web {n : Int} {ps : List (Int × Int)} {names : List Int} (h : IsTies n ps) (hn : names.Perm (up 0 n.toNat)) (hl : ps.length ≤ 40) : IsWeb n (sortP (ps.map (tieOf names))) := by
  have hlen : names.length = n.toNat := by rw [hn.length_eq, up_len]
  have hnd : names.Nodup := hn.nodup_iff.mpr (up_nodup _ _)
  have key : ∀ p : Int × Int, 0 ≤ p.1 → p.1 < p.2 → p.2 < n → ∃ (h1 : p.1.toNat < names.length) (h2 : p.2.toNat < names.length), tieOf names p = (min names[p.1.toNat] names[p.2.toNat], max names[p.1.toNat] names[p.2.toNat]) := by
    intro p h1 h2 h3
    have g1 : p.1.toNat < names.length := by omega
    have g2 : p.2.toNat < names.length := by omega
    refine ⟨g1, g2, ?_⟩
    simp only [tieOf, List.getElem?_eq_getElem g1, List.getElem?_eq_getElem g2, Option.getD_some]
  have inj : ∀ i j (hi : i < names.length) (hj : j < names.length), names[i] = names[j] → i = j := fun i j hi hj e => nodup_inj hnd hi hj e
  have pm := sortP_perm (ps.map (tieOf names))
  refine ⟨⟨fun p hp => ?_, pm.nodup_iff.mpr ?_⟩, sortP_sorted _, by rw [pm.length_eq, List.length_map]; exact hl⟩
  · obtain ⟨q, hq, rfl⟩ := List.mem_map.mp (pm.mem_iff.mp hp)
    obtain ⟨q1, q2, q3⟩ := h.1 q hq
    obtain ⟨g1, g2, e⟩ := key q q1 q2 q3
    rw [e]
    have m1 := mem_up.mp (hn.mem_iff.mp (List.getElem_mem g1))
    have m2 := mem_up.mp (hn.mem_iff.mp (List.getElem_mem g2))
    have ne : names[q.1.toNat] ≠ names[q.2.toNat] := fun z => by
      have := inj _ _ g1 g2 z
      omega
    exact mm_ok' m1.1 (by omega) m2.1 (by omega) ne
  · refine List.pairwise_map.mpr (h.2.imp_of_mem fun {p q} hp hq hne e => hne ?_)
    obtain ⟨p1, p2, p3⟩ := h.1 p hp
    obtain ⟨q1, q2, q3⟩ := h.1 q hq
    obtain ⟨g1, g2, e1⟩ := key p p1 p2 p3
    obtain ⟨g3, g4, e2⟩ := key q q1 q2 q3
    rw [e1, e2] at e
    simp only [Prod.mk.injEq] at e
    rcases minmax e.1 e.2 with ⟨u, v⟩ | ⟨u, v⟩
    · have c1 := inj _ _ g1 g3 u
      have c2 := inj _ _ g2 g4 v
      exact Prod.ext (by omega) (by omega)
    · have c1 := inj _ _ g1 g4 u
      have c2 := inj _ _ g2 g3 v
      omega
def WebOk (sem : FS) : Prop := ∀ (d : D) (n : Int), isFeed d → 1 ≤ n → n ≤ 100 → FnOk sem [d.oldKids, .int n] fun out r => isFeed out ∧ ∃ ps, r = .tmp (.lst true (ps.map dPair)) ∧ IsWeb n ps
end
end Z

set_option maxHeartbeats 1000000
namespace Z
open PySem
section
variable {Φ : List FnD}
def cl_web_1 : T := (.lc [("k", 6)] (.n 6) (.iR1 (.cons (.bin .Sub (.v 1) (.cI 1)) .nil)) .nil (.tup (.cons (.v 6) (.cons (.bin .Add (.v 6) (.cI 1)) .nil))))
def cl_web_2 : T := (.lc [("k", 6)] (.n 6) (.iR2 (.cons (.cI 1) (.cons (.v 1) .nil))) .nil (.tup (.cons (.cI 0) (.cons (.v 6) .nil))))
def cb_web_0 : S := (.seq (.asg (.n 3) (.bin .Add (.v 3) (.lst (.cons (.tup (.cons (.cI 0) (.cons (.bin .Sub (.v 1) (.cI 1)) .nil))) .nil)))) .skip)
def cb_web_3 (i_law_pairs : Nat) : S := (.seq (.asg (.n 3) (.call i_law_pairs (.cons (.v 1) .nil))) .skip)
def cb_web_5 (i_law_draw : Nat) : S := (.seq (.ifs (.tcmp .Lt (.call i_law_draw (.cons (.v 0) (.cons (.cI 6) .nil))) (.v 4)) (.seq (.drop (.mth .append (.v 3) (.cons (.v 5) .nil))) .skip) .skip) .skip)
def cb_web_4 (i_law_draw i_law_pairs : Nat) : S := (.seq (.asgF (.n 4) (.bin .Add (.cI 1) (.call i_law_draw (.cons (.v 0) (.cons (.cI 5) .nil))))) (.seq (.asg (.n 3) (.lst .nil)) (.seq (.for (.n 5) (.iL (.call i_law_pairs (.cons (.v 1) .nil))) (cb_web_5 i_law_draw)) .skip)))
def cb_web_6 (i_law_order i_law_renamed : Nat) : S := (.seq (.ret (.call i_law_renamed (.cons (.sl (.v 3) .nil (.cI 40)) (.cons (.call i_law_order (.cons (.v 0) (.cons (.v 1) .nil))) .nil)))) .skip)
def ct_web (i_law_draw i_law_order i_law_pairs i_law_renamed : Nat) : S := (.seq (.asgF (.n 2) (.call i_law_draw (.cons (.v 0) (.cons (.cI 9) .nil)))) (.seq (.asg (.n 3) cl_web_1) (.seq (.ifs (.tand (.tcmp .Eq (.v 2) (.cI 0)) (.tone (.tcmp .Gt (.v 1) (.cI 2)))) cb_web_0 .skip) (.seq (.ifs (.tcmp .Eq (.v 2) (.cI 2)) (.seq (.asg (.n 3) cl_web_2) .skip) .skip) (.seq (.ifs (.tcmp .Eq (.v 2) (.cI 3)) (cb_web_3 i_law_pairs) .skip) (.seq (.ifs (.tcmp .Gt (.v 2) (.cI 3)) (cb_web_4 i_law_draw i_law_pairs) .skip) (cb_web_6 i_law_order i_law_renamed)))))))
/-- where the ties so far stand -/
def WebAt (n kind : Int) (ρ : Ev) : Prop := ∃ (d : D) (ps : List (Int × Int)) (c4 c5 : C), ρ = [.ow true d, .fz (.int n), .fz (.int kind), .ow false (.lst true (ps.map dPair)), c4, c5, .dead] ∧ c4.pin = false ∧ c5.pin = false ∧ isFeed d ∧ IsTies n ps ∧ ps.length ≤ 50000
theorem pairsOf_len (n : Nat) (h : n ≤ 100) : (pairsOf n).length ≤ 10000 := by
  refine Nat.le_trans (flat_len (m := n) _ fun x hx => ?_) ?_
  · rw [List.length_map, up_len]
    have := mem_up.mp hx
    omega
  · rw [up_len]
    exact Nat.le_trans (Nat.mul_le_mul h h) (by decide)
theorem pairsOf_ties (n : Nat) : IsTies n (pairsOf n) := by
  refine ⟨fun p hp => mem_pairsOf.mp hp, ?_⟩
  unfold pairsOf
  refine List.pairwise_flatMap.mpr ⟨fun i hi => List.pairwise_map.mpr ((up_nodup _ _).imp fun h e => h (by simpa using e)), (up_nodup _ _).imp fun {i j} h x hx y hy e => h ?_⟩
  obtain ⟨a, _, rfl⟩ := List.mem_map.mp hx
  obtain ⟨b, _, rfl⟩ := List.mem_map.mp hy
  exact (Prod.mk.inj e).1
theorem path_ties (n : Nat) : IsTies n ((up 0 (n - 1)).map fun k => (k, k + 1)) := by
  refine ⟨fun p hp => ?_, List.pairwise_map.mpr ((up_nodup _ _).imp fun h e => h (Prod.mk.inj e).1)⟩
  obtain ⟨k, hk, rfl⟩ := List.mem_map.mp hp
  have := mem_up.mp hk
  simp only
  omega
theorem star_ties (n : Nat) : IsTies n ((up 1 (n - 1)).map fun k => (0, k)) := by
  refine ⟨fun p hp => ?_, List.pairwise_map.mpr ((up_nodup _ _).imp fun h e => h (Prod.mk.inj e).2)⟩
  obtain ⟨k, hk, rfl⟩ := List.mem_map.mp hp
  have := mem_up.mp hk
  simp only
  omega
theorem web1 {n kind : Int} {d : D} (h1 : 1 ≤ n) (h2 : n ≤ 100) (hd : isFeed d) : ∃ ρ', ex Φ (.asg (.n 3) cl_web_1) [.ow true d, .fz (.int n), .fz (.int kind), .dead, .dead, .dead, .dead] = some (ρ', .nx) ∧ WebAt n kind ρ' ∧ ∃ d, ρ' = [.ow true d, .fz (.int n), .fz (.int kind), .ow false (.lst true (((up 0 (n.toNat - 1)).map fun k => (k, k + 1)).map dPair)), .dead, .dead, .dead] := by
  have hr : rOk (n - 1) = true := decide_eq_true (by omega)
  have e : ev Φ cl_web_1 [.ow true d, .fz (.int n), .fz (.int kind), .dead, .dead, .dead, .dead] = some ([.ow true d, .fz (.int n), .fz (.int kind), .dead, .dead, .dead, .dead], .tmp (.lst true (((up 0 (n.toNat - 1)).map fun k => (k, k + 1)).map dPair))) := by
    refine (ev_lc (Φ := Φ) (up 0 (n.toNat - 1)) (e := D.int) (y := fun k => dPair (k, k + 1)) (b := fun _ => true) (ρ1 := [.ow true d, .fz (.int n), .fz (.int kind), .dead, .dead, .dead, .dead]) ?_ rfl rfl rfl rfl (by rw [up_len]; omega) (fun x hx => ⟨_, by rfl, _, by rfl, by rfl, fun _ => ⟨_, _, by (simp [-List.map_map, startC, ex, ev, evA, evT, evC, evI, sSeq, sIf, sSkip, Z.tAnd, Z.tOr, Z.tNot, isBl, tru, D.truth, eOp1, eOp2, eVar, eC, R.hold, R.look, oIx, Z.atI_at, cmpD, ofB, unD, eCB, looks, aCons, aNil, BI.dd, R.live, sAsg, sAsgF, storeR, R.fix, P.bind1, P.binds, setC, pin_fz, pin_dead, pin_ow, sAugIx, sSet, Z.ixN_at, augD, binD, ofI, cpowB, cmulB, cmodB, cdivB, sRet, sRetN, retR, outOf, sDrop, sFz, sAug, eLst, eTup, vals, eMth, MM.dd, eIf, eOr, eAnd, eNot, tres, eIsa, D.isa, oldVals, old_int, old_bl, old_non, old_enc, iLst, iTupD, iR1, iR2, iEnu, eSl, oPart, rng_up, oEq_int, oNe_int, T.isNil, T.alen, eCall, kills, noIo] <;> first | rfl | exact ⟨rfl, rfl⟩ | exact ⟨rfl, rfl, rfl⟩), by rfl, by rfl⟩⟩)).trans ?_
    · simp [-List.map_map, startC, ex, ev, evA, evT, evC, evI, sSeq, sIf, sSkip, Z.tAnd, Z.tOr, Z.tNot, isBl, tru, D.truth, eOp1, eOp2, eVar, eC, R.hold, R.look, oIx, Z.atI_at, cmpD, ofB, unD, eCB, looks, aCons, aNil, BI.dd, R.live, sAsg, sAsgF, storeR, R.fix, P.bind1, P.binds, setC, pin_fz, pin_dead, pin_ow, sAugIx, sSet, Z.ixN_at, augD, binD, ofI, cpowB, cmulB, cmodB, cdivB, sRet, sRetN, retR, outOf, sDrop, sFz, sAug, eLst, eTup, vals, eMth, MM.dd, eIf, eOr, eAnd, eNot, tres, eIsa, D.isa, oldVals, old_int, old_bl, old_non, old_enc, iLst, iTupD, iR1, iR2, iEnu, eSl, oPart, rng_up, oEq_int, oNe_int, T.isNil, T.alen, eCall, kills, noIo, hr]
    · simp only [filter_yes, List.map_map]; rfl
  have hn : ((n.toNat : Nat) : Int) = n := by omega
  refine ⟨_, ex_asg e rfl, ⟨d, _, .dead, .dead, rfl, rfl, rfl, hd, ?_, ?_⟩, d, rfl⟩
  · have := path_ties n.toNat
    rw [hn] at this
    exact this
  · rw [List.length_map, up_len]; omega
theorem web2 {n kind : Int} {ρ : Ev} (h1 : 1 ≤ n) (h2 : n ≤ 100) (hw : WebAt n kind ρ) : ∃ ρ', ex Φ (.asg (.n 3) cl_web_2) ρ = some (ρ', .nx) ∧ WebAt n kind ρ' := by
  obtain ⟨d, ps, c4, c5, rfl, hc4, hc5, hd, ht, hl⟩ := hw
  have hr : rOk n = true := decide_eq_true (by omega)
  have hr1 : rOk 1 = true := rfl
  generalize hx : D.lst true (ps.map dPair) = dx
  have e : ev Φ cl_web_2 [.ow true d, .fz (.int n), .fz (.int kind), .ow false dx, c4, c5, .dead] = some ([.ow true d, .fz (.int n), .fz (.int kind), .ow false dx, c4, c5, .dead], .tmp (.lst true (((up 1 (n.toNat - 1)).map fun k => (0, k)).map dPair))) := by
    refine (ev_lc (Φ := Φ) (up 1 (n.toNat - 1)) (e := D.int) (y := fun k => dPair (0, k)) (b := fun _ => true) (ρ1 := [.ow true d, .fz (.int n), .fz (.int kind), .ow false dx, c4, c5, .dead]) ?_ rfl rfl rfl rfl (by rw [up_len]; omega) (fun x hx => ⟨_, by rfl, _, by rfl, by rfl, fun _ => ⟨_, _, by (simp [-List.map_map, startC, ex, ev, evA, evT, evC, evI, sSeq, sIf, sSkip, Z.tAnd, Z.tOr, Z.tNot, isBl, tru, D.truth, eOp1, eOp2, eVar, eC, R.hold, R.look, oIx, Z.atI_at, cmpD, ofB, unD, eCB, looks, aCons, aNil, BI.dd, R.live, sAsg, sAsgF, storeR, R.fix, P.bind1, P.binds, setC, pin_fz, pin_dead, pin_ow, sAugIx, sSet, Z.ixN_at, augD, binD, ofI, cpowB, cmulB, cmodB, cdivB, sRet, sRetN, retR, outOf, sDrop, sFz, sAug, eLst, eTup, vals, eMth, MM.dd, eIf, eOr, eAnd, eNot, tres, eIsa, D.isa, oldVals, old_int, old_bl, old_non, old_enc, iLst, iTupD, iR1, iR2, iEnu, eSl, oPart, rng_up, oEq_int, oNe_int, T.isNil, T.alen, eCall, kills, noIo] <;> first | rfl | exact ⟨rfl, rfl⟩ | exact ⟨rfl, rfl, rfl⟩), by rfl, by rfl⟩⟩)).trans ?_
    · simp [-List.map_map, startC, ex, ev, evA, evT, evC, evI, sSeq, sIf, sSkip, Z.tAnd, Z.tOr, Z.tNot, isBl, tru, D.truth, eOp1, eOp2, eVar, eC, R.hold, R.look, oIx, Z.atI_at, cmpD, ofB, unD, eCB, looks, aCons, aNil, BI.dd, R.live, sAsg, sAsgF, storeR, R.fix, P.bind1, P.binds, setC, pin_fz, pin_dead, pin_ow, sAugIx, sSet, Z.ixN_at, augD, binD, ofI, cpowB, cmulB, cmodB, cdivB, sRet, sRetN, retR, outOf, sDrop, sFz, sAug, eLst, eTup, vals, eMth, MM.dd, eIf, eOr, eAnd, eNot, tres, eIsa, D.isa, oldVals, old_int, old_bl, old_non, old_enc, iLst, iTupD, iR1, iR2, iEnu, eSl, oPart, rng_up, oEq_int, oNe_int, T.isNil, T.alen, eCall, kills, noIo, hr, hr1]
    · simp only [filter_yes, List.map_map]; rfl
  have hn : ((n.toNat : Nat) : Int) = n := by omega
  refine ⟨_, ex_asg e rfl, ⟨d, _, c4, c5, rfl, hc4, hc5, hd, ?_, ?_⟩⟩
  · have := star_ties n.toNat
    rw [hn] at this
    exact this
  · rw [List.length_map, up_len]; omega
theorem web0 {n : Int} {ρ : Ev} {d : D} (h1 : 2 < n) (h2 : n ≤ 100) (hd : isFeed d) (hw : ρ = [.ow true d, .fz (.int n), .fz (.int 0), .ow false (.lst true (((up 0 (n.toNat - 1)).map fun k => (k, k + 1)).map dPair)), .dead, .dead, .dead]) : ∃ ρ', ex Φ cb_web_0 ρ = some (ρ', .nx) ∧ WebAt n 0 ρ' := by
  subst hw
  have hb : ((((up 0 (n.toNat - 1)).map fun k => (k, k + 1)).map dPair).length + [dPair (0, n - 1)].length) ≤ 100000 := by
    rw [List.length_map, List.length_map, up_len]; simp only [List.length_singleton]; omega
  generalize hps : ((up 0 (n.toNat - 1)).map fun k => (k, k + 1)) = ps at hb
  refine ⟨[.ow true d, .fz (.int n), .fz (.int 0), .ow false (.lst true ((ps ++ [(0, n - 1)]).map dPair)), .dead, .dead, .dead], ?_, d, _, .dead, .dead, rfl, rfl, rfl, hd, ?_, ?_⟩
  · have e := oCat_ok (f := true) (g := true) hb
    simp only [dPair] at e
    simp [cb_web_0, -List.map_map, startC, ex, ev, evA, evT, evC, evI, sSeq, sIf, sSkip, Z.tAnd, Z.tOr, Z.tNot, isBl, tru, D.truth, eOp1, eOp2, eVar, eC, R.hold, R.look, oIx, Z.atI_at, cmpD, ofB, unD, eCB, looks, aCons, aNil, BI.dd, R.live, sAsg, sAsgF, storeR, R.fix, P.bind1, P.binds, setC, pin_fz, pin_dead, pin_ow, sAugIx, sSet, Z.ixN_at, augD, binD, ofI, cpowB, cmulB, cmodB, cdivB, sRet, sRetN, retR, outOf, sDrop, sFz, sAug, eLst, eTup, vals, eMth, MM.dd, eIf, eOr, eAnd, eNot, tres, eIsa, D.isa, oldVals, old_int, old_bl, old_non, old_enc, iLst, iTupD, iR1, iR2, iEnu, eSl, oPart, rng_up, oEq_int, oNe_int, T.isNil, T.alen, eCall, kills, noIo, e, dPair]
  · have hn : ((n.toNat : Nat) : Int) = n := by omega
    have := path_ties n.toNat
    rw [hn, hps] at this
    refine ⟨fun p hp => ?_, ?_⟩
    · rcases List.mem_append.mp hp with h | h
      · exact this.1 p h
      · obtain rfl := List.mem_singleton.mp h
        simp only; omega
    · refine List.pairwise_append.mpr ⟨this.2, List.pairwise_singleton _ _, fun a ha b hb e => ?_⟩
      obtain rfl := List.mem_singleton.mp hb
      subst e
      rw [← hps] at ha
      obtain ⟨k, hk, e⟩ := List.mem_map.mp ha
      have := Prod.mk.inj e
      omega
  · rw [← hps]; simp only [List.length_append, List.length_map, up_len, List.length_singleton]; omega
theorem web3 {n kind : Int} {ρ : Ev} {i : Nat} {sp : FS} (hp : HasFn Φ i false 1 sp) (HP : PairsOk sp) (h1 : 1 ≤ n) (h2 : n ≤ 100) (hw : WebAt n kind ρ) : ∃ ρ', ex Φ (cb_web_3 i) ρ = some (ρ', .nx) ∧ WebAt n kind ρ' := by
  obtain ⟨d, ps, c4, c5, rfl, hc4, hc5, hd, ht, hl⟩ := hw
  obtain ⟨Fd, f1, f2, f3, rfl⟩ := hp
  obtain ⟨m, rfl⟩ : ∃ m : Nat, n = m := ⟨n.toNat, by omega⟩
  have e := HP m (by omega)
  refine ⟨[.ow true d, .fz (.int m), .fz (.int kind), .ow false (.lst true ((pairsOf m).map dPair)), c4, c5, .dead], ?_, d, _, c4, c5, rfl, hc4, hc5, hd, pairsOf_ties m, Nat.le_trans (pairsOf_len m (by omega)) (by decide)⟩
  simp [cb_web_3, -List.map_map, startC, ex, ev, evA, evT, evC, evI, sSeq, sIf, sSkip, Z.tAnd, Z.tOr, Z.tNot, isBl, tru, D.truth, eOp1, eOp2, eVar, eC, R.hold, R.look, oIx, Z.atI_at, cmpD, ofB, unD, eCB, looks, aCons, aNil, BI.dd, R.live, sAsg, sAsgF, storeR, R.fix, P.bind1, P.binds, setC, pin_fz, pin_dead, pin_ow, sAugIx, sSet, Z.ixN_at, augD, binD, ofI, cpowB, cmulB, cmodB, cdivB, sRet, sRetN, retR, outOf, sDrop, sFz, sAug, eLst, eTup, vals, eMth, MM.dd, eIf, eOr, eAnd, eNot, tres, eIsa, D.isa, oldVals, old_int, old_bl, old_non, old_enc, iLst, iTupD, iR1, iR2, iEnu, eSl, oPart, rng_up, oEq_int, oNe_int, T.isNil, T.alen, eCall, kills, noIo, f1, f2, f3, e]
theorem web4 {n kind : Int} {ρ : Ev} {i j : Nat} {sp sd : FS} (hp : HasFn Φ i false 1 sp) (HP : PairsOk sp) (hd : HasFn Φ j true 2 sd) (HD : DrawOk sd) (h1 : 1 ≤ n) (h2 : n ≤ 100) (hw : WebAt n kind ρ) : ∃ ρ', ex Φ (cb_web_4 j i) ρ = some (ρ', .nx) ∧ WebAt n kind ρ' := by
  obtain ⟨d, ps, c4, c5, rfl, hc4, hc5, hf, ht, hl⟩ := hw
  obtain ⟨Fd, f1, f2, f3, rfl⟩ := hp
  obtain ⟨Fe, g1, g2, g3, rfl⟩ := hd
  obtain ⟨m, rfl⟩ : ∃ m : Nat, n = m := ⟨n.toNat, by omega⟩
  have e := HP m (by omega)
  have eo : (D.lst true ((pairsOf m).map dPair)).old = .lst false ((pairsOf m).map dPair) := Enc.old (pairsOf m)
  obtain ⟨d1, k1, u1, u2, u3, u4⟩ := HD.at hf (m := 5) (by omega) (by omega)
  suffices WS Φ (cb_web_4 j i) [.ow true d, .fz (.int m), .fz (.int kind), .ow false (.lst true (ps.map dPair)), c4, c5, .dead] fun ρ o => o = .nx ∧ WebAt m kind ρ by
    obtain ⟨ρ', o, w1, rfl, w2⟩ := this
    exact ⟨ρ', w1, w2⟩
  simp only [cb_web_4]
  refine ws_seq (ρ1 := [.ow true d1, .fz (.int m), .fz (.int kind), .ow false (.lst true (ps.map dPair)), .fz (.int (1 + k1)), c5, .dead]) (by simp [-List.map_map, startC, ex, ev, evA, evT, evC, evI, sSeq, sIf, sSkip, Z.tAnd, Z.tOr, Z.tNot, isBl, tru, D.truth, eOp1, eOp2, eVar, eC, R.hold, R.look, oIx, Z.atI_at, cmpD, ofB, unD, eCB, looks, aCons, aNil, BI.dd, R.live, sAsg, sAsgF, storeR, R.fix, P.bind1, P.binds, setC, pin_fz, pin_dead, pin_ow, sAugIx, sSet, Z.ixN_at, augD, binD, ofI, cpowB, cmulB, cmodB, cdivB, sRet, sRetN, retR, outOf, sDrop, sFz, sAug, eLst, eTup, vals, eMth, MM.dd, eIf, eOr, eAnd, eNot, tres, eIsa, D.isa, oldVals, old_int, old_bl, old_non, old_enc, iLst, iTupD, iR1, iR2, iEnu, eSl, oPart, rng_up, oEq_int, oNe_int, T.isNil, T.alen, eCall, kills, noIo, g1, g2, g3, u1, hc4]) ?_
  refine ws_seq (ρ1 := [.ow true d1, .fz (.int m), .fz (.int kind), .ow false (.lst true []), .fz (.int (1 + k1)), c5, .dead]) (by simp [-List.map_map, startC, ex, ev, evA, evT, evC, evI, sSeq, sIf, sSkip, Z.tAnd, Z.tOr, Z.tNot, isBl, tru, D.truth, eOp1, eOp2, eVar, eC, R.hold, R.look, oIx, Z.atI_at, cmpD, ofB, unD, eCB, looks, aCons, aNil, BI.dd, R.live, sAsg, sAsgF, storeR, R.fix, P.bind1, P.binds, setC, pin_fz, pin_dead, pin_ow, sAugIx, sSet, Z.ixN_at, augD, binD, ofI, cpowB, cmulB, cmodB, cdivB, sRet, sRetN, retR, outOf, sDrop, sFz, sAug, eLst, eTup, vals, eMth, MM.dd, eIf, eOr, eAnd, eNot, tres, eIsa, D.isa, oldVals, old_int, old_bl, old_non, old_enc, iLst, iTupD, iR1, iR2, iEnu, eSl, oPart, rng_up, oEq_int, oNe_int, T.isNil, T.alen, eCall, kills, noIo]) ?_
  refine ws_for (items := (pairsOf m).map dPair) (ρ1 := [.ow true d1, .fz (.int m), .fz (.int kind), .ow false (.lst true []), .fz (.int (1 + k1)), c5, .dead]) (fun k ρ => ∃ (d : D) (c5 : C) (qs : List (Int × Int)), ρ = [.ow true d, .fz (.int m), .fz (.int kind), .ow false (.lst true (qs.map dPair)), .fz (.int (1 + k1)), c5, .dead] ∧ isFeed d ∧ c5.pin = false ∧ qs.Sublist ((pairsOf m).take k)) (by simp [-List.map_map, startC, ex, ev, evA, evT, evC, evI, sSeq, sIf, sSkip, Z.tAnd, Z.tOr, Z.tNot, isBl, tru, D.truth, eOp1, eOp2, eVar, eC, R.hold, R.look, oIx, Z.atI_at, cmpD, ofB, unD, eCB, looks, aCons, aNil, BI.dd, R.live, sAsg, sAsgF, storeR, R.fix, P.bind1, P.binds, setC, pin_fz, pin_dead, pin_ow, sAugIx, sSet, Z.ixN_at, augD, binD, ofI, cpowB, cmulB, cmodB, cdivB, sRet, sRetN, retR, outOf, sDrop, sFz, sAug, eLst, eTup, vals, eMth, MM.dd, eIf, eOr, eAnd, eNot, tres, eIsa, D.isa, oldVals, old_int, old_bl, old_non, old_enc, iLst, iTupD, iR1, iR2, iEnu, eSl, oPart, rng_up, oEq_int, oNe_int, T.isNil, T.alen, eCall, kills, noIo, f1, f2, f3, e]) ⟨d1, c5, [], rfl, u2, hc5, by simp⟩ ?_ ?_
  · rintro k dd ρ hk ⟨d, c5, qs, rfl, hf, hc5, hs⟩
    obtain ⟨p, hp, rfl⟩ := map_at hk
    refine ⟨_, by simp [-List.map_map, startC, ex, ev, evA, evT, evC, evI, sSeq, sIf, sSkip, Z.tAnd, Z.tOr, Z.tNot, isBl, tru, D.truth, eOp1, eOp2, eVar, eC, R.hold, R.look, oIx, Z.atI_at, cmpD, ofB, unD, eCB, looks, aCons, aNil, BI.dd, R.live, sAsg, sAsgF, storeR, R.fix, P.bind1, P.binds, setC, pin_fz, pin_dead, pin_ow, sAugIx, sSet, Z.ixN_at, augD, binD, ofI, cpowB, cmulB, cmodB, cdivB, sRet, sRetN, retR, outOf, sDrop, sFz, sAug, eLst, eTup, vals, eMth, MM.dd, eIf, eOr, eAnd, eNot, tres, eIsa, D.isa, oldVals, old_int, old_bl, old_non, old_enc, iLst, iTupD, iR1, iR2, iEnu, eSl, oPart, rng_up, oEq_int, oNe_int, T.isNil, T.alen, eCall, kills, noIo, hc5]; rfl, ?_⟩
    obtain ⟨d', k', v1, v2, v3, v4⟩ := HD.at hf (m := 6) (by omega) (by omega)
    have hs2 : (pairsOf m).take (k + 1) = (pairsOf m).take k ++ [p] := by
      rw [List.take_add_one, hp]; rfl
    have hql : qs.length < 100000 := by
      have := hs.length_le
      have h4 := pairsOf_len m (by omega)
      rw [List.length_take] at this
      omega
    simp only [cb_web_5]
    by_cases hlt : k' < 1 + k1
    · refine ws_seq (ρ1 := [.ow true d', .fz (.int m), .fz (.int kind), .ow false (.lst true ((qs ++ [p]).map dPair)), .fz (.int (1 + k1)), .fz (dPair p), .dead]) ?_ (ws_skip ⟨.inl rfl, _, _, _, rfl, v2, rfl, ?_⟩)
      · simp [-List.map_map, startC, ex, ev, evA, evT, evC, evI, sSeq, sIf, sSkip, Z.tAnd, Z.tOr, Z.tNot, isBl, tru, D.truth, eOp1, eOp2, eVar, eC, R.hold, R.look, oIx, Z.atI_at, cmpD, ofB, unD, eCB, looks, aCons, aNil, BI.dd, R.live, sAsg, sAsgF, storeR, R.fix, P.bind1, P.binds, setC, pin_fz, pin_dead, pin_ow, sAugIx, sSet, Z.ixN_at, augD, binD, ofI, cpowB, cmulB, cmodB, cdivB, sRet, sRetN, retR, outOf, sDrop, sFz, sAug, eLst, eTup, vals, eMth, MM.dd, eIf, eOr, eAnd, eNot, tres, eIsa, D.isa, oldVals, old_int, old_bl, old_non, old_enc, iLst, iTupD, iR1, iR2, iEnu, eSl, oPart, rng_up, oEq_int, oNe_int, T.isNil, T.alen, eCall, kills, noIo, g1, g2, g3, v1, hlt, hql]
      · rw [hs2]; exact hs.append (List.Sublist.refl _)
    · refine ws_seq (ρ1 := [.ow true d', .fz (.int m), .fz (.int kind), .ow false (.lst true (qs.map dPair)), .fz (.int (1 + k1)), .fz (dPair p), .dead]) ?_ (ws_skip ⟨.inl rfl, _, _, _, rfl, v2, rfl, ?_⟩)
      · simp [-List.map_map, startC, ex, ev, evA, evT, evC, evI, sSeq, sIf, sSkip, Z.tAnd, Z.tOr, Z.tNot, isBl, tru, D.truth, eOp1, eOp2, eVar, eC, R.hold, R.look, oIx, Z.atI_at, cmpD, ofB, unD, eCB, looks, aCons, aNil, BI.dd, R.live, sAsg, sAsgF, storeR, R.fix, P.bind1, P.binds, setC, pin_fz, pin_dead, pin_ow, sAugIx, sSet, Z.ixN_at, augD, binD, ofI, cpowB, cmulB, cmodB, cdivB, sRet, sRetN, retR, outOf, sDrop, sFz, sAug, eLst, eTup, vals, eMth, MM.dd, eIf, eOr, eAnd, eNot, tres, eIsa, D.isa, oldVals, old_int, old_bl, old_non, old_enc, iLst, iTupD, iR1, iR2, iEnu, eSl, oPart, rng_up, oEq_int, oNe_int, T.isNil, T.alen, eCall, kills, noIo, g1, g2, g3, v1, hlt]
      · rw [hs2]; exact hs.trans (List.sublist_append_left _ _)
  · rintro ρ ⟨d, c5, qs, rfl, hf, hc5, hs⟩
    have hs' := hs.trans (List.take_sublist _ _)
    refine ws_skip ⟨rfl, d, qs, _, c5, rfl, rfl, hc5, hf, ⟨fun p hp => (pairsOf_ties m).1 p (hs'.mem hp), (pairsOf_ties m).2.sublist hs'⟩, ?_⟩
    have := hs'.length_le
    have h4 := pairsOf_len m (by omega)
    omega
theorem web6 {n kind : Int} {ρ : Ev} {i j : Nat} {so sr : FS} (ho : HasFn Φ i true 2 so) (HO : OrderOk so) (hr : HasFn Φ j false 2 sr) (HR : RenamedOk sr) (h1 : 1 ≤ n) (h2 : n ≤ 100) (hw : WebAt n kind ρ) : ∃ ρ' d' ps, ex Φ (cb_web_6 i j) ρ = some (ρ', .rt (.tmp (.lst true (ps.map dPair)))) ∧ outOf true ρ' = some d' ∧ isFeed d' ∧ IsWeb n ps := by
  obtain ⟨d, ps, c4, c5, rfl, hc4, hc5, hf, ht, hl⟩ := hw
  obtain ⟨Fo, f1, f2, f3, rfl⟩ := ho
  obtain ⟨Fr, g1, g2, g3, rfl⟩ := hr
  obtain ⟨d', r, e1, e2, ks, rfl, e4⟩ := HO d n hf (by omega) (by omega)
  have hcut : cutD (ps.map dPair) none (some 40) = (ps.take 40).map dPair := by
    unfold cutD
    simp [HT.sIx, List.map_take]
  have hks : ks.length = n.toNat := by rw [e4.length_eq, up_len]
  have e5 := HR (ps.take 40) ks (by rw [List.length_take]; omega) (fun p hp => by
    have := ht.1 p (List.mem_of_mem_take hp)
    omega)
  have eo : (D.lst true ((ps.take 40).map dPair)).old = enc (ps.take 40) := Enc.old (ps.take 40)
  have eo2 : (D.lst true (ks.map D.int)).old = enc ks := Enc.old ks
  refine ⟨[.ow true d', .fz (.int n), .fz (.int kind), .ow false (.lst true (ps.map dPair)), c4, c5, .dead], d', sortP ((ps.take 40).map (tieOf ks)), ?_, rfl, e2, tie_web ⟨fun p hp => ht.1 p (List.mem_of_mem_take hp), ht.2.sublist (List.take_sublist _ _)⟩ e4 (by rw [List.length_take]; omega)⟩
  generalize ps.take 40 = qs at *
  simp [cb_web_6, -List.map_map, startC, ex, ev, evA, evT, evC, evI, sSeq, sIf, sSkip, Z.tAnd, Z.tOr, Z.tNot, isBl, tru, D.truth, eOp1, eOp2, eVar, eC, R.hold, R.look, oIx, Z.atI_at, cmpD, ofB, unD, eCB, looks, aCons, aNil, BI.dd, R.live, sAsg, sAsgF, storeR, R.fix, P.bind1, P.binds, setC, pin_fz, pin_dead, pin_ow, sAugIx, sSet, Z.ixN_at, augD, binD, ofI, cpowB, cmulB, cmodB, cdivB, sRet, sRetN, retR, outOf, sDrop, sFz, sAug, eLst, eTup, vals, eMth, MM.dd, eIf, eOr, eAnd, eNot, tres, eIsa, D.isa, oldVals, old_int, old_bl, old_non, old_enc, iLst, iTupD, iR1, iR2, iEnu, eSl, oPart, rng_up, oEq_int, oNe_int, T.isNil, T.alen, eCall, kills, noIo, f1, f2, f3, g1, g2, g3, e1, hcut, eo, eo2, e5]
theorem web_ok {i1 i2 i3 i4 : Nat} {sd so sp sr : FS} (hd : HasFn Φ i1 true 2 sd) (HD : DrawOk sd) (ho : HasFn Φ i2 true 2 so) (HO : OrderOk so) (hp : HasFn Φ i3 false 1 sp) (HP : PairsOk sp) (hr : HasFn Φ i4 false 2 sr) (HR : RenamedOk sr) : WebOk (runFn 7 2 true (ex Φ (ct_web i1 i2 i3 i4))) := by
  intro d n hf h1 h2
  replace hf := hf.kids
  generalize d.oldKids = d at hf
  obtain ⟨Fd, f1, f2, f3, hs⟩ := hd
  obtain ⟨d1, k, u1, u2, u3, u4⟩ := HD.at hf (m := 9) (by omega) (by omega)
  rw [← hs] at u1
  refine ws_fn rfl ?_
  simp only [ct_web]
  refine ws_seq (ρ1 := [.ow true d1, .fz (.int n), .fz (.int k), .dead, .dead, .dead, .dead]) (by simp [-List.map_map, startC, ex, ev, evA, evT, evC, evI, sSeq, sIf, sSkip, Z.tAnd, Z.tOr, Z.tNot, isBl, tru, D.truth, eOp1, eOp2, eVar, eC, R.hold, R.look, oIx, Z.atI_at, cmpD, ofB, unD, eCB, looks, aCons, aNil, BI.dd, R.live, sAsg, sAsgF, storeR, R.fix, P.bind1, P.binds, setC, pin_fz, pin_dead, pin_ow, sAugIx, sSet, Z.ixN_at, augD, binD, ofI, cpowB, cmulB, cmodB, cdivB, sRet, sRetN, retR, outOf, sDrop, sFz, sAug, eLst, eTup, vals, eMth, MM.dd, eIf, eOr, eAnd, eNot, tres, eIsa, D.isa, oldVals, old_int, old_bl, old_non, old_enc, iLst, iTupD, iR1, iR2, iEnu, eSl, oPart, rng_up, oEq_int, oNe_int, T.isNil, T.alen, eCall, kills, noIo, f1, f2, f3, u1]) ?_
  obtain ⟨ρ1, e1, w1, d2, w2⟩ := web1 (Φ := Φ) (kind := k) h1 h2 u2
  refine ws_seq e1 ?_
  -- kind 0
  have s0 : ∃ ρ2, ex Φ (.ifs (.tand (.tcmp .Eq (.v 2) (.cI 0)) (.tone (.tcmp .Gt (.v 1) (.cI 2)))) cb_web_0 .skip) ρ1 = some (ρ2, .nx) ∧ WebAt n k ρ2 := by
    by_cases hk : k = 0 ∧ 2 < n
    · obtain ⟨rfl, hn⟩ := hk
      have hfd : isFeed d2 := by
        obtain ⟨d3, ps, c4, c5, e, _, _, hf3, _⟩ := w1
        rw [w2] at e
        simp only [List.cons.injEq, C.ow.injEq] at e
        rw [e.1.2]; exact hf3
      obtain ⟨ρ2, g1, g2⟩ := web0 (Φ := Φ) hn h2 hfd w2
      refine ⟨ρ2, ?_, g2⟩
      rw [w2] at g1 ⊢
      rw [ex, sIf]
      simp [-List.map_map, evT, Z.tAnd, isBl, eOp2, ev, eVar, eC, R.hold, R.look, cmpD, oEq_int, ofB, hn]
      exact g1
    · refine ⟨ρ1, ?_, w1⟩
      rw [w2]
      by_cases hk0 : k = 0
      · have hn : ¬ 2 < n := fun z => hk ⟨hk0, z⟩
        simp [-List.map_map, startC, ex, ev, evA, evT, evC, evI, sSeq, sIf, sSkip, Z.tAnd, Z.tOr, Z.tNot, isBl, tru, D.truth, eOp1, eOp2, eVar, eC, R.hold, R.look, oIx, Z.atI_at, cmpD, ofB, unD, eCB, looks, aCons, aNil, BI.dd, R.live, sAsg, sAsgF, storeR, R.fix, P.bind1, P.binds, setC, pin_fz, pin_dead, pin_ow, sAugIx, sSet, Z.ixN_at, augD, binD, ofI, cpowB, cmulB, cmodB, cdivB, sRet, sRetN, retR, outOf, sDrop, sFz, sAug, eLst, eTup, vals, eMth, MM.dd, eIf, eOr, eAnd, eNot, tres, eIsa, D.isa, oldVals, old_int, old_bl, old_non, old_enc, iLst, iTupD, iR1, iR2, iEnu, eSl, oPart, rng_up, oEq_int, oNe_int, T.isNil, T.alen, eCall, kills, noIo, hk0, hn]
      · simp [-List.map_map, startC, ex, ev, evA, evT, evC, evI, sSeq, sIf, sSkip, Z.tAnd, Z.tOr, Z.tNot, isBl, tru, D.truth, eOp1, eOp2, eVar, eC, R.hold, R.look, oIx, Z.atI_at, cmpD, ofB, unD, eCB, looks, aCons, aNil, BI.dd, R.live, sAsg, sAsgF, storeR, R.fix, P.bind1, P.binds, setC, pin_fz, pin_dead, pin_ow, sAugIx, sSet, Z.ixN_at, augD, binD, ofI, cpowB, cmulB, cmodB, cdivB, sRet, sRetN, retR, outOf, sDrop, sFz, sAug, eLst, eTup, vals, eMth, MM.dd, eIf, eOr, eAnd, eNot, tres, eIsa, D.isa, oldVals, old_int, old_bl, old_non, old_enc, iLst, iTupD, iR1, iR2, iEnu, eSl, oPart, rng_up, oEq_int, oNe_int, T.isNil, T.alen, eCall, kills, noIo, hk0]
  obtain ⟨ρ2, e2, w3⟩ := s0
  refine ws_seq e2 ?_
  have test : ∀ (ρ : Ev) (o : CmpOp) (m : Int) (b : Bool), WebAt n k ρ → cmpD o (.int k) (.int m) = some (.val (.bl b)) → evT Φ (.tcmp o (.v 2) (.cI m)) ρ = some (ρ, b) := by
    rintro ρ o m b ⟨d, ps, c4, c5, rfl, _⟩ hc
    simp [evT, isBl, eOp2, ev, eVar, eC, R.hold, R.look, hc]
  have s2 : ∃ ρ3, ex Φ (.ifs (.tcmp .Eq (.v 2) (.cI 2)) (.seq (.asg (.n 3) cl_web_2) .skip) .skip) ρ2 = some (ρ3, .nx) ∧ WebAt n k ρ3 := by
    obtain ⟨ρ3, g1, g2⟩ := web2 (Φ := Φ) h1 h2 w3
    have t := test ρ2 .Eq 2 (decide (k = 2)) w3 (by simp [cmpD, oEq_int])
    by_cases hk : k = 2
    · exact ⟨ρ3, by simp only [ex, sIf, t, hk, decide_true, if_true, sSeq, sSkip]; simp only [ex] at g1; rw [g1], g2⟩
    · exact ⟨ρ2, by simp [ex, sIf, t, hk, sSkip], w3⟩
  obtain ⟨ρ3, e3, w4⟩ := s2
  refine ws_seq e3 ?_
  have s3 : ∃ ρ4, ex Φ (.ifs (.tcmp .Eq (.v 2) (.cI 3)) (cb_web_3 i3) .skip) ρ3 = some (ρ4, .nx) ∧ WebAt n k ρ4 := by
    obtain ⟨ρ4, g1, g2⟩ := web3 (Φ := Φ) hp HP h1 h2 w4
    have t := test ρ3 .Eq 3 (decide (k = 3)) w4 (by simp [cmpD, oEq_int])
    by_cases hk : k = 3
    · exact ⟨ρ4, by simp only [ex, sIf, t, hk, decide_true, if_true]; exact g1, g2⟩
    · exact ⟨ρ3, by simp [ex, sIf, t, hk, sSkip], w4⟩
  obtain ⟨ρ4, e4, w5⟩ := s3
  refine ws_seq e4 ?_
  have s4 : ∃ ρ5, ex Φ (.ifs (.tcmp .Gt (.v 2) (.cI 3)) (cb_web_4 i1 i3) .skip) ρ4 = some (ρ5, .nx) ∧ WebAt n k ρ5 := by
    obtain ⟨ρ5, g1, g2⟩ := web4 (Φ := Φ) hp HP ⟨Fd, f1, f2, f3, hs⟩ HD h1 h2 w5
    have t := test ρ4 .Gt 3 (decide (3 < k)) w5 (by simp [cmpD, ofB])
    by_cases hk : 3 < k
    · exact ⟨ρ5, by simp only [ex, sIf, t, hk, decide_true, if_true]; exact g1, g2⟩
    · exact ⟨ρ4, by simp [ex, sIf, t, hk, sSkip], w5⟩
  obtain ⟨ρ5, e5, w6⟩ := s4
  refine ws_seq e5 ?_
  obtain ⟨ρ6, d6, ps, e6, o6, f6, g6⟩ := web6 (Φ := Φ) ho HO hr HR h1 h2 w6
  exact ⟨ρ6, _, e6, _, d6, rfl, o6, f6, ps, rfl, g6⟩
end
end Z

namespace K45
open PySem L2 PySem.Spec PyProof.Rows Z
/-! the text -/
def topS (i : Nat) : Stmt := PySem.Challenge.pw_tiesasplaces_k45_sets_of_bunches.main.body.getD i (.Pass ⟨0, 0, 0, 0⟩)
/-! sets_of -/
abbrev i_sets_of : Nat := 0
abbrev n_sets_of : List PySem.Str := ["n", "bunches", "place", "at", "bunch"]
abbrev p_sets_of : List PySem.Str := ["n", "bunches"]
def l_sets_of_1 : T := (.lc [("at", 3), ("bunch", 4)] (.tp (.cons (.n 3) (.cons (.n 4) .nil))) (.iE (.cons (.v 1) .nil)) (.tcmp .In (.v 2) (.v 4)) (.v 3))
def l_sets_of_2 : T := (.lc [("place", 2)] (.n 2) (.iR1 (.cons (.v 0) .nil)) .nil l_sets_of_1)
def t_sets_of : S := (.seq (.ret l_sets_of_2) .skip)
def Φ_0 : List FnD := []
def f_sets_of : FnD := fnD "sets_of" p_sets_of false n_sets_of.length Φ_0 t_sets_of
@[simp] theorem fp_sets_of : f_sets_of.ps.length = 2 := rfl
@[simp] theorem fi_sets_of : f_sets_of.io = false := rfl
theorem fs_sets_of : f_sets_of.sem = runFn 5 2 false (ex Φ_0 t_sets_of) := rfl
theorem ok_sets_of : DefOk (topS 1) n_sets_of p_sets_of Φ_0 t_sets_of := ⟨⟨rfl, rfl, rfl, by decide +kernel, rfl, by decide +kernel, by decide +kernel⟩, by decide +kernel⟩
/-! _law_feed -/
abbrev i_law_feed : Nat := 1
abbrev n_law_feed : List PySem.Str := ["script"]
abbrev p_law_feed : List PySem.Str := ["script"]
def t_law_feed : S := (.seq (.ret (.lst (.cons (.bi .list (.cons (.v 0) .nil)) (.cons (.cI 0) (.cons (.cI 0) (.cons (.cI 1) .nil)))))) .skip)
def Φ_1 : List FnD := [f_sets_of]
def f_law_feed : FnD := fnD "_law_feed" p_law_feed false n_law_feed.length Φ_1 t_law_feed
@[simp] theorem fp_law_feed : f_law_feed.ps.length = 1 := rfl
@[simp] theorem fi_law_feed : f_law_feed.io = false := rfl
theorem fs_law_feed : f_law_feed.sem = runFn 1 1 false (ex Φ_1 t_law_feed) := rfl
theorem ok_law_feed : DefOk (topS 3) n_law_feed p_law_feed Φ_1 t_law_feed := ⟨⟨rfl, rfl, rfl, by decide +kernel, rfl, by decide +kernel, by decide +kernel⟩, by decide +kernel⟩
/-! _law_draw -/
abbrev i_law_draw : Nat := 2
abbrev n_law_draw : List PySem.Str := ["feed", "many", "mixed", "cell", "told"]
abbrev p_law_draw : List PySem.Str := ["feed", "many"]
def t_law_draw : S := (.seq (.ifs (.tand (.tcmp .Eq (.ix (.v 0) (.cI 2)) (.cI 0)) (.tone (.tcmp .Lt (.ix (.v 0) (.cI 1)) (.bi .len (.cons (.ix (.v 0) (.cI 0)) .nil))))) (.seq (.asgF (.n 3) (.bi .abs (.cons (.bi .int (.cons (.ix (.ix (.v 0) (.cI 0)) (.ix (.v 0) (.cI 1))) .nil)) .nil))) (.seq (.augIx 0 (.cI 1) .Add (.cI 1)) (.seq (.ifs (.tcmp .GtE (.v 3) (.bin .Pow (.cI 10) (.cI 18))) (.seq (.set 0 (.cI 2) (.v 3)) .skip) (.seq (.set 0 (.cI 3) (.bin .Mod (.bi .int (.cons (.bin .Add (.bin .Add (.bin .Mult (.ix (.v 0) (.cI 3)) (.cI 48271)) (.bin .Mult (.v 3) (.cI 69621))) (.ix (.v 0) (.cI 1))) .nil)) (.cI 2147483647))) .skip)) .skip))) .skip) (.seq (.ifs (.tcmp .Gt (.ix (.v 0) (.cI 2)) (.cI 0)) (.seq (.asg (.n 4) (.bin .Mod (.bi .int (.cons (.ix (.v 0) (.cI 2)) .nil)) (.v 1))) (.seq (.set 0 (.cI 2) (.bin .FloorDiv (.ix (.v 0) (.cI 2)) (.v 1))) (.seq (.ret (.v 4)) .skip))) .skip) (.seq (.set 0 (.cI 3) (.bin .Mod (.bi .int (.cons (.bin .Add (.bin .Mult (.ix (.v 0) (.cI 3)) (.cI 16807)) (.cI 12345)) .nil)) (.cI 2147483647))) (.seq (.asgF (.n 2) (.bin .Mod (.bi .int (.cons (.bin .Add (.bin .Mult (.ix (.v 0) (.cI 3)) (.ix (.v 0) (.cI 3))) (.ix (.v 0) (.cI 3))) .nil)) (.cI 2147483629))) (.seq (.ret (.bin .Mod (.bin .FloorDiv (.v 2) (.cI 11)) (.v 1))) .skip)))))
def Φ_2 : List FnD := [f_sets_of, f_law_feed]
def f_law_draw : FnD := fnD "_law_draw" p_law_draw true n_law_draw.length Φ_2 t_law_draw
@[simp] theorem fp_law_draw : f_law_draw.ps.length = 2 := rfl
@[simp] theorem fi_law_draw : f_law_draw.io = true := rfl
theorem fs_law_draw : f_law_draw.sem = runFn 5 2 true (ex Φ_2 t_law_draw) := rfl
theorem ok_law_draw : DefOk (topS 4) n_law_draw p_law_draw Φ_2 t_law_draw := ⟨⟨rfl, rfl, rfl, by decide +kernel, rfl, by decide +kernel, by decide +kernel⟩, by decide +kernel⟩
/-! _law_whole -/
abbrev i_law_whole : Nat := 3
abbrev n_law_whole : List PySem.Str := ["x"]
abbrev p_law_whole : List PySem.Str := ["x"]
def t_law_whole : S := (.seq (.ret (.andv (.isa .int (.v 0)) (.one (.notv (.isa .bool (.v 0)))))) .skip)
def Φ_3 : List FnD := [f_sets_of, f_law_feed, f_law_draw]
def f_law_whole : FnD := fnD "_law_whole" p_law_whole false n_law_whole.length Φ_3 t_law_whole
@[simp] theorem fp_law_whole : f_law_whole.ps.length = 1 := rfl
@[simp] theorem fi_law_whole : f_law_whole.io = false := rfl
theorem fs_law_whole : f_law_whole.sem = runFn 1 1 false (ex Φ_3 t_law_whole) := rfl
theorem ok_law_whole : DefOk (topS 5) n_law_whole p_law_whole Φ_3 t_law_whole := ⟨⟨rfl, rfl, rfl, by decide +kernel, rfl, by decide +kernel, by decide +kernel⟩, by decide +kernel⟩
/-! _law_wholes -/
abbrev i_law_wholes : Nat := 4
abbrev n_law_wholes : List PySem.Str := ["x", "n", "k"]
abbrev p_law_wholes : List PySem.Str := ["x", "n"]
def l_law_wholes_1 : T := (.lc [("k", 2)] (.n 2) (.iL (.v 0)) .nil (.call i_law_whole (.cons (.v 2) .nil)))
def t_law_wholes : S := (.seq (.ifs (.tor (.tnot (.tst (.isa .list (.v 0)))) (.tone (.tcmp .NotEq (.bi .len (.cons (.v 0) .nil)) (.v 1)))) (.seq (.ret (.cB false)) .skip) .skip) (.seq (.ret (.bi .all (.cons l_law_wholes_1 .nil))) .skip))
def Φ_4 : List FnD := [f_sets_of, f_law_feed, f_law_draw, f_law_whole]
def f_law_wholes : FnD := fnD "_law_wholes" p_law_wholes false n_law_wholes.length Φ_4 t_law_wholes
@[simp] theorem fp_law_wholes : f_law_wholes.ps.length = 2 := rfl
@[simp] theorem fi_law_wholes : f_law_wholes.io = false := rfl
theorem fs_law_wholes : f_law_wholes.sem = runFn 3 2 false (ex Φ_4 t_law_wholes) := rfl
@[simp] theorem g_4_3 : Φ_4[(3 : Nat)]? = some f_law_whole := rfl
theorem ok_law_wholes : DefOk (topS 6) n_law_wholes p_law_wholes Φ_4 t_law_wholes := ⟨⟨rfl, rfl, rfl, by decide +kernel, rfl, by decide +kernel, by decide +kernel⟩, by decide +kernel⟩
/-! _law_order -/
abbrev i_law_order : Nat := 5
abbrev n_law_order : List PySem.Str := ["feed", "n", "left", "order", "k"]
abbrev p_law_order : List PySem.Str := ["feed", "n"]
def l_law_order_1 : T := (.lc [("k", 4)] (.n 4) (.iR1 (.cons (.v 1) .nil)) .nil (.v 4))
def t_law_order : S := (.seq (.asg (.n 2) l_law_order_1) (.seq (.asg (.n 3) (.lst .nil)) (.seq (.for (.n 4) (.iR1 (.cons (.v 1) .nil)) (.seq (.drop (.mth .append (.v 3) (.cons (.mth .popAt (.v 2) (.cons (.call i_law_draw (.cons (.v 0) (.cons (.bin .Sub (.v 1) (.v 4)) .nil))) .nil)) .nil))) .skip)) (.seq (.ret (.v 3)) .skip))))
def Φ_5 : List FnD := [f_sets_of, f_law_feed, f_law_draw, f_law_whole, f_law_wholes]
def f_law_order : FnD := fnD "_law_order" p_law_order true n_law_order.length Φ_5 t_law_order
@[simp] theorem fp_law_order : f_law_order.ps.length = 2 := rfl
@[simp] theorem fi_law_order : f_law_order.io = true := rfl
theorem fs_law_order : f_law_order.sem = runFn 5 2 true (ex Φ_5 t_law_order) := rfl
@[simp] theorem g_5_2 : Φ_5[(2 : Nat)]? = some f_law_draw := rfl
theorem ok_law_order : DefOk (topS 7) n_law_order p_law_order Φ_5 t_law_order := ⟨⟨rfl, rfl, rfl, by decide +kernel, rfl, by decide +kernel, by decide +kernel⟩, by decide +kernel⟩
/-! _law_pairs -/
abbrev i_law_pairs : Nat := 6
abbrev n_law_pairs : List PySem.Str := ["n", "found", "i", "j"]
abbrev p_law_pairs : List PySem.Str := ["n"]
def l_law_pairs_1 : T := (.lc [("j", 3)] (.n 3) (.iR2 (.cons (.bin .Add (.v 2) (.cI 1)) (.cons (.v 0) .nil))) .nil (.tup (.cons (.v 2) (.cons (.v 3) .nil))))
def t_law_pairs : S := (.seq (.asg (.n 1) (.lst .nil)) (.seq (.for (.n 2) (.iR1 (.cons (.v 0) .nil)) (.seq (.asg (.n 1) (.bin .Add (.v 1) l_law_pairs_1)) .skip)) (.seq (.ret (.v 1)) .skip)))
def Φ_6 : List FnD := [f_sets_of, f_law_feed, f_law_draw, f_law_whole, f_law_wholes, f_law_order]
def f_law_pairs : FnD := fnD "_law_pairs" p_law_pairs false n_law_pairs.length Φ_6 t_law_pairs
@[simp] theorem fp_law_pairs : f_law_pairs.ps.length = 1 := rfl
@[simp] theorem fi_law_pairs : f_law_pairs.io = false := rfl
theorem fs_law_pairs : f_law_pairs.sem = runFn 4 1 false (ex Φ_6 t_law_pairs) := rfl
theorem ok_law_pairs : DefOk (topS 8) n_law_pairs p_law_pairs Φ_6 t_law_pairs := ⟨⟨rfl, rfl, rfl, by decide +kernel, rfl, by decide +kernel, by decide +kernel⟩, by decide +kernel⟩
/-! _law_renamed -/
abbrev i_law_renamed : Nat := 7
abbrev n_law_renamed : List PySem.Str := ["ties", "names", "i", "j"]
abbrev p_law_renamed : List PySem.Str := ["ties", "names"]
def l_law_renamed_1 : T := (.lc [("i", 2), ("j", 3)] (.tp (.cons (.n 2) (.cons (.n 3) .nil))) (.iL (.v 0)) .nil (.tup (.cons (.bi .min2 (.cons (.ix (.v 1) (.v 2)) (.cons (.ix (.v 1) (.v 3)) .nil))) (.cons (.bi .max2 (.cons (.ix (.v 1) (.v 2)) (.cons (.ix (.v 1) (.v 3)) .nil))) .nil))))
def t_law_renamed : S := (.seq (.ret (.bi .sorted (.cons l_law_renamed_1 .nil))) .skip)
def Φ_7 : List FnD := [f_sets_of, f_law_feed, f_law_draw, f_law_whole, f_law_wholes, f_law_order, f_law_pairs]
def f_law_renamed : FnD := fnD "_law_renamed" p_law_renamed false n_law_renamed.length Φ_7 t_law_renamed
@[simp] theorem fp_law_renamed : f_law_renamed.ps.length = 2 := rfl
@[simp] theorem fi_law_renamed : f_law_renamed.io = false := rfl
theorem fs_law_renamed : f_law_renamed.sem = runFn 4 2 false (ex Φ_7 t_law_renamed) := rfl
theorem ok_law_renamed : DefOk (topS 9) n_law_renamed p_law_renamed Φ_7 t_law_renamed := ⟨⟨rfl, rfl, rfl, by decide +kernel, rfl, by decide +kernel, by decide +kernel⟩, by decide +kernel⟩
/-! _law_joined -/
abbrev i_law_joined : Nat := 8
abbrev n_law_joined : List PySem.Str := ["ties", "i", "j"]
abbrev p_law_joined : List PySem.Str := ["ties", "i", "j"]
def t_law_joined : S := (.seq (.ret (.orv (.cmp .In (.tup (.cons (.v 1) (.cons (.v 2) .nil))) (.v 0)) (.one (.cmp .In (.tup (.cons (.v 2) (.cons (.v 1) .nil))) (.v 0))))) .skip)
def Φ_8 : List FnD := [f_sets_of, f_law_feed, f_law_draw, f_law_whole, f_law_wholes, f_law_order, f_law_pairs, f_law_renamed]
def f_law_joined : FnD := fnD "_law_joined" p_law_joined false n_law_joined.length Φ_8 t_law_joined
@[simp] theorem fp_law_joined : f_law_joined.ps.length = 3 := rfl
@[simp] theorem fi_law_joined : f_law_joined.io = false := rfl
theorem fs_law_joined : f_law_joined.sem = runFn 3 3 false (ex Φ_8 t_law_joined) := rfl
theorem ok_law_joined : DefOk (topS 10) n_law_joined p_law_joined Φ_8 t_law_joined := ⟨⟨rfl, rfl, rfl, by decide +kernel, rfl, by decide +kernel, by decide +kernel⟩, by decide +kernel⟩
/-! _law_web -/
abbrev i_law_web : Nat := 9
abbrev n_law_web : List PySem.Str := ["feed", "n", "kind", "ties", "share", "pair", "k"]
abbrev p_law_web : List PySem.Str := ["feed", "n"]
def l_law_web_1 : T := (.lc [("k", 6)] (.n 6) (.iR1 (.cons (.bin .Sub (.v 1) (.cI 1)) .nil)) .nil (.tup (.cons (.v 6) (.cons (.bin .Add (.v 6) (.cI 1)) .nil))))
def l_law_web_2 : T := (.lc [("k", 6)] (.n 6) (.iR2 (.cons (.cI 1) (.cons (.v 1) .nil))) .nil (.tup (.cons (.cI 0) (.cons (.v 6) .nil))))
def t_law_web : S := (.seq (.asgF (.n 2) (.call i_law_draw (.cons (.v 0) (.cons (.cI 9) .nil)))) (.seq (.asg (.n 3) l_law_web_1) (.seq (.ifs (.tand (.tcmp .Eq (.v 2) (.cI 0)) (.tone (.tcmp .Gt (.v 1) (.cI 2)))) (.seq (.asg (.n 3) (.bin .Add (.v 3) (.lst (.cons (.tup (.cons (.cI 0) (.cons (.bin .Sub (.v 1) (.cI 1)) .nil))) .nil)))) .skip) .skip) (.seq (.ifs (.tcmp .Eq (.v 2) (.cI 2)) (.seq (.asg (.n 3) l_law_web_2) .skip) .skip) (.seq (.ifs (.tcmp .Eq (.v 2) (.cI 3)) (.seq (.asg (.n 3) (.call i_law_pairs (.cons (.v 1) .nil))) .skip) .skip) (.seq (.ifs (.tcmp .Gt (.v 2) (.cI 3)) (.seq (.asgF (.n 4) (.bin .Add (.cI 1) (.call i_law_draw (.cons (.v 0) (.cons (.cI 5) .nil))))) (.seq (.asg (.n 3) (.lst .nil)) (.seq (.for (.n 5) (.iL (.call i_law_pairs (.cons (.v 1) .nil))) (.seq (.ifs (.tcmp .Lt (.call i_law_draw (.cons (.v 0) (.cons (.cI 6) .nil))) (.v 4)) (.seq (.drop (.mth .append (.v 3) (.cons (.v 5) .nil))) .skip) .skip) .skip)) .skip))) .skip) (.seq (.ret (.call i_law_renamed (.cons (.sl (.v 3) .nil (.cI 40)) (.cons (.call i_law_order (.cons (.v 0) (.cons (.v 1) .nil))) .nil)))) .skip)))))))
def Φ_9 : List FnD := [f_sets_of, f_law_feed, f_law_draw, f_law_whole, f_law_wholes, f_law_order, f_law_pairs, f_law_renamed, f_law_joined]
def f_law_web : FnD := fnD "_law_web" p_law_web true n_law_web.length Φ_9 t_law_web
@[simp] theorem fp_law_web : f_law_web.ps.length = 2 := rfl
@[simp] theorem fi_law_web : f_law_web.io = true := rfl
theorem fs_law_web : f_law_web.sem = runFn 7 2 true (ex Φ_9 t_law_web) := rfl
@[simp] theorem g_9_2 : Φ_9[(2 : Nat)]? = some f_law_draw := rfl
@[simp] theorem g_9_5 : Φ_9[(5 : Nat)]? = some f_law_order := rfl
@[simp] theorem g_9_6 : Φ_9[(6 : Nat)]? = some f_law_pairs := rfl
@[simp] theorem g_9_7 : Φ_9[(7 : Nat)]? = some f_law_renamed := rfl
theorem ok_law_web : DefOk (topS 11) n_law_web p_law_web Φ_9 t_law_web := ⟨⟨rfl, rfl, rfl, by decide +kernel, rfl, by decide +kernel, by decide +kernel⟩, by decide +kernel⟩
/-! _law_bunches -/
abbrev i_law_bunches : Nat := 10
abbrev n_law_bunches : List PySem.Str := ["n", "ties", "lists", "place", "found", "own", "more", "k", "j"]
abbrev p_law_bunches : List PySem.Str := ["n", "ties"]
def l_law_bunches_1 : T := (.lc [("k", 7)] (.n 7) (.iL (.v 5)) (.tcmp .In (.tup (.cons (.v 7) (.cons (.v 3) .nil))) (.v 1)) (.v 7))
def l_law_bunches_2 : T := (.lc [("own", 5)] (.n 5) (.iL (.v 2)) (.tcmp .Eq (.bi .len (.cons l_law_bunches_1 .nil)) (.bi .len (.cons (.v 5) .nil))) (.bin .Add (.v 5) (.lst (.cons (.v 3) .nil))))
def l_law_bunches_3 : T := (.lc [("j", 8)] (.n 8) (.iL (.v 5)) (.tst (.call i_law_joined (.cons (.v 1) (.cons (.v 8) (.cons (.v 7) .nil))))) (.v 8))
def l_law_bunches_4 : T := (.lc [("k", 7)] (.n 7) (.iR1 (.cons (.v 0) .nil)) (.tand (.tcmp .NotIn (.v 7) (.v 5)) (.tone (.tcmp .Eq (.bi .len (.cons l_law_bunches_3 .nil)) (.bi .len (.cons (.v 5) .nil))))) (.v 7))
def t_law_bunches : S := (.seq (.asgF (.n 2) (.lst (.cons (.lst .nil) .nil))) (.seq (.for (.n 3) (.iR1 (.cons (.v 0) .nil)) (.seq (.asgF (.n 2) (.bin .Add (.v 2) l_law_bunches_2)) .skip)) (.seq (.asg (.n 4) (.lst .nil)) (.seq (.for (.n 5) (.iL (.v 2)) (.seq (.asgF (.n 6) l_law_bunches_4) (.seq (.ifs (.tand (.tcmp .Gt (.bi .len (.cons (.v 5) .nil)) (.cI 0)) (.tone (.tcmp .Eq (.bi .len (.cons (.v 6) .nil)) (.cI 0)))) (.seq (.drop (.mth .append (.v 4) (.cons (.v 5) .nil))) .skip) .skip) .skip))) (.seq (.ret (.bi .sorted (.cons (.v 4) .nil))) .skip)))))
def Φ_10 : List FnD := [f_sets_of, f_law_feed, f_law_draw, f_law_whole, f_law_wholes, f_law_order, f_law_pairs, f_law_renamed, f_law_joined, f_law_web]
def f_law_bunches : FnD := fnD "_law_bunches" p_law_bunches false n_law_bunches.length Φ_10 t_law_bunches
@[simp] theorem fp_law_bunches : f_law_bunches.ps.length = 2 := rfl
@[simp] theorem fi_law_bunches : f_law_bunches.io = false := rfl
theorem fs_law_bunches : f_law_bunches.sem = runFn 9 2 false (ex Φ_10 t_law_bunches) := rfl
@[simp] theorem g_10_8 : Φ_10[(8 : Nat)]? = some f_law_joined := rfl
theorem ok_law_bunches : DefOk (topS 12) n_law_bunches p_law_bunches Φ_10 t_law_bunches := ⟨⟨rfl, rfl, rfl, by decide +kernel, rfl, by decide +kernel, by decide +kernel⟩, by decide +kernel⟩
/-! _law_lists_same -/
abbrev i_law_lists_same : Nat := 11
abbrev n_law_lists_same : List PySem.Str := ["told", "due", "at"]
abbrev p_law_lists_same : List PySem.Str := ["told", "due"]
def t_law_lists_same : S := (.seq (.ifs (.tor (.tnot (.tst (.isa .list (.v 0)))) (.tone (.tcmp .NotEq (.bi .len (.cons (.v 0) .nil)) (.bi .len (.cons (.v 1) .nil))))) (.seq (.ret (.cB false)) .skip) .skip) (.seq (.for (.n 2) (.iR1 (.cons (.bi .len (.cons (.v 1) .nil)) .nil)) (.seq (.ifs (.tor (.tnot (.tst (.call i_law_wholes (.cons (.ix (.v 0) (.v 2)) (.cons (.bi .len (.cons (.ix (.v 1) (.v 2)) .nil)) .nil))))) (.tone (.tcmp .NotEq (.ix (.v 0) (.v 2)) (.ix (.v 1) (.v 2))))) (.seq (.ret (.cB false)) .skip) .skip) .skip)) (.seq (.ret (.cB true)) .skip)))
def Φ_11 : List FnD := [f_sets_of, f_law_feed, f_law_draw, f_law_whole, f_law_wholes, f_law_order, f_law_pairs, f_law_renamed, f_law_joined, f_law_web, f_law_bunches]
def f_law_lists_same : FnD := fnD "_law_lists_same" p_law_lists_same false n_law_lists_same.length Φ_11 t_law_lists_same
@[simp] theorem fp_law_lists_same : f_law_lists_same.ps.length = 2 := rfl
@[simp] theorem fi_law_lists_same : f_law_lists_same.io = false := rfl
theorem fs_law_lists_same : f_law_lists_same.sem = runFn 3 2 false (ex Φ_11 t_law_lists_same) := rfl
@[simp] theorem g_11_4 : Φ_11[(4 : Nat)]? = some f_law_wholes := rfl
theorem ok_law_lists_same : DefOk (topS 13) n_law_lists_same p_law_lists_same Φ_11 t_law_lists_same := ⟨⟨rfl, rfl, rfl, by decide +kernel, rfl, by decide +kernel, by decide +kernel⟩, by decide +kernel⟩
/-! _law_drawn -/
abbrev i_law_drawn : Nat := 12
abbrev n_law_drawn : List PySem.Str := ["feed", "n", "ties", "bunch", "step", "more", "k", "j"]
abbrev p_law_drawn : List PySem.Str := ["feed", "n", "ties"]
def l_law_drawn_1 : T := (.lc [("j", 7)] (.n 7) (.iL (.v 3)) (.tst (.call i_law_joined (.cons (.v 2) (.cons (.v 7) (.cons (.v 6) .nil))))) (.v 7))
def l_law_drawn_2 : T := (.lc [("k", 6)] (.n 6) (.iR1 (.cons (.v 1) .nil)) (.tand (.tcmp .NotIn (.v 6) (.v 3)) (.tone (.tcmp .Eq (.bi .len (.cons l_law_drawn_1 .nil)) (.bi .len (.cons (.v 3) .nil))))) (.v 6))
def t_law_drawn : S := (.seq (.asg (.n 3) (.lst (.cons (.call i_law_draw (.cons (.v 0) (.cons (.v 1) .nil))) .nil))) (.seq (.for (.n 4) (.iR1 (.cons (.call i_law_draw (.cons (.v 0) (.cons (.cI 5) .nil))) .nil)) (.seq (.asgF (.n 5) l_law_drawn_2) (.seq (.ifs (.tcmp .Gt (.bi .len (.cons (.v 5) .nil)) (.cI 0)) (.seq (.drop (.mth .append (.v 3) (.cons (.ix (.v 5) (.call i_law_draw (.cons (.v 0) (.cons (.bi .len (.cons (.v 5) .nil)) .nil)))) .nil))) .skip) .skip) .skip))) (.seq (.ret (.bi .sorted (.cons (.v 3) .nil))) .skip)))
def Φ_12 : List FnD := [f_sets_of, f_law_feed, f_law_draw, f_law_whole, f_law_wholes, f_law_order, f_law_pairs, f_law_renamed, f_law_joined, f_law_web, f_law_bunches, f_law_lists_same]
def f_law_drawn : FnD := fnD "_law_drawn" p_law_drawn true n_law_drawn.length Φ_12 t_law_drawn
@[simp] theorem fp_law_drawn : f_law_drawn.ps.length = 3 := rfl
@[simp] theorem fi_law_drawn : f_law_drawn.io = true := rfl
theorem fs_law_drawn : f_law_drawn.sem = runFn 8 3 true (ex Φ_12 t_law_drawn) := rfl
@[simp] theorem g_12_2 : Φ_12[(2 : Nat)]? = some f_law_draw := rfl
@[simp] theorem g_12_8 : Φ_12[(8 : Nat)]? = some f_law_joined := rfl
theorem ok_law_drawn : DefOk (topS 14) n_law_drawn p_law_drawn Φ_12 t_law_drawn := ⟨⟨rfl, rfl, rfl, by decide +kernel, rfl, by decide +kernel, by decide +kernel⟩, by decide +kernel⟩
/-! _law_right -/
abbrev i_law_right : Nat := 13
abbrev n_law_right : List PySem.Str := ["n", "bunches", "handed", "due", "told", "back", "bunch", "own", "i", "place", "at", "j"]
abbrev p_law_right : List PySem.Str := ["n", "bunches"]
def l_law_right_1 : T := (.lc [("bunch", 6)] (.n 6) (.iL (.v 1)) .nil (.bi .list (.cons (.v 6) .nil)))
def l_law_right_2 : T := (.lc [("at", 10)] (.n 10) (.iR1 (.cons (.bi .len (.cons (.v 1) .nil)) .nil)) (.tcmp .In (.v 9) (.ix (.v 1) (.v 10))) (.v 10))
def l_law_right_3 : T := (.lc [("place", 9)] (.n 9) (.iR1 (.cons (.v 0) .nil)) .nil l_law_right_2)
def l_law_right_4 : T := (.lc [("place", 9)] (.n 9) (.iR1 (.cons (.v 0) .nil)) (.tcmp .In (.v 10) (.ix (.v 4) (.v 9))) (.v 9))
def l_law_right_5 : T := (.lc [("at", 10)] (.n 10) (.iR1 (.cons (.bi .len (.cons (.v 1) .nil)) .nil)) .nil l_law_right_4)
def l_law_right_6 : T := (.lc [("at", 10)] (.n 10) (.iL (.ix (.v 4) (.v 8))) (.tcmp .In (.v 10) (.ix (.v 4) (.v 11))) (.v 10))
def t_law_right : S := (.seq (.asgF (.n 2) l_law_right_1) (.seq (.asgF (.n 3) l_law_right_3) (.spl [4, 5, 10, 9, 6, 8, 11, 7] (.seq (.asg (.n 4) (.call i_sets_of (.cons (.v 0) (.cons (.v 2) .nil)))) (.seq (.ifs (.tor (.tnot (.tst (.call i_law_lists_same (.cons (.v 4) (.cons (.v 3) .nil))))) (.tone (.tcmp .NotEq (.v 2) (.v 1)))) (.seq (.ret (.cB false)) .skip) .skip) (.seq (.asgF (.n 5) l_law_right_5) (.seq (.ifs (.tcmp .NotEq (.v 5) (.v 1)) (.seq (.ret (.cB false)) .skip) .skip) (.seq (.for (.n 6) (.iL (.v 1)) (.seq (.for (.n 8) (.iL (.v 6)) (.seq (.for (.n 11) (.iL (.v 6)) (.seq (.ifs (.tcmp .Eq (.bi .len (.cons l_law_right_6 .nil)) (.cI 0)) (.seq (.ret (.cB false)) .skip) .skip) .skip)) .skip)) .skip)) (.seq (.drop (.mth .append (.v 4) (.cons (.lst .nil) .nil))) .skip)))))) (.forv 7 4 (.cI 0) .nil) (.seq (.ret (.andv (.call i_law_lists_same (.cons (.call i_sets_of (.cons (.v 0) (.cons (.v 2) .nil))) (.cons (.v 3) .nil))) (.one (.cmp .Eq (.v 2) (.v 1))))) .skip))))
def Φ_13 : List FnD := [f_sets_of, f_law_feed, f_law_draw, f_law_whole, f_law_wholes, f_law_order, f_law_pairs, f_law_renamed, f_law_joined, f_law_web, f_law_bunches, f_law_lists_same, f_law_drawn]
def f_law_right : FnD := fnD "_law_right" p_law_right false n_law_right.length Φ_13 t_law_right
@[simp] theorem fp_law_right : f_law_right.ps.length = 2 := rfl
@[simp] theorem fi_law_right : f_law_right.io = false := rfl
theorem fs_law_right : f_law_right.sem = runFn 12 2 false (ex Φ_13 t_law_right) := rfl
@[simp] theorem g_13_0 : Φ_13[(0 : Nat)]? = some f_sets_of := rfl
@[simp] theorem g_13_11 : Φ_13[(11 : Nat)]? = some f_law_lists_same := rfl
theorem ok_law_right : DefOk (topS 15) n_law_right p_law_right Φ_13 t_law_right := ⟨⟨rfl, rfl, rfl, by decide +kernel, rfl, by decide +kernel, by decide +kernel⟩, by decide +kernel⟩
/-! law -/
abbrev i_law : Nat := 14
abbrev n_law : List PySem.Str := ["script", "feed", "turn", "n", "ties", "bunches", "k"]
abbrev p_law : List PySem.Str := ["script"]
def l_law_1 : T := (.lc [("k", 6)] (.n 6) (.iR1 (.cons (.call i_law_draw (.cons (.v 1) (.cons (.cI 13) .nil))) .nil)) .nil (.call i_law_drawn (.cons (.v 1) (.cons (.v 3) (.cons (.v 4) .nil)))))
def t_law : S := (.seq (.asg (.n 1) (.call i_law_feed (.cons (.v 0) .nil))) (.seq (.for (.n 2) (.iR1 (.cons (.cI 3) .nil)) (.seq (.asgF (.n 3) (.bin .Add (.cI 1) (.call i_law_draw (.cons (.v 1) (.cons (.cI 12) .nil))))) (.seq (.asgF (.n 4) (.call i_law_web (.cons (.v 1) (.cons (.v 3) .nil)))) (.seq (.asgF (.n 5) l_law_1) (.seq (.ifs (.tand (.tcmp .Gt (.bi .len (.cons (.v 5) .nil)) (.cI 0)) (.tone (.tcmp .Eq (.call i_law_draw (.cons (.v 1) (.cons (.cI 3) .nil))) (.cI 0)))) (.seq (.asgF (.n 5) (.bin .Add (.v 5) (.lst (.cons (.bi .list (.cons (.ix (.v 5) (.call i_law_draw (.cons (.v 1) (.cons (.bi .len (.cons (.v 5) .nil)) .nil)))) .nil)) .nil)))) .skip) .skip) (.seq (.ifs (.tor (.tnot (.tst (.call i_law_right (.cons (.v 3) (.cons (.v 5) .nil))))) (.tone (.tnot (.tst (.call i_law_right (.cons (.v 3) (.cons (.call i_law_bunches (.cons (.v 3) (.cons (.v 4) .nil))) .nil))))))) (.seq (.ret (.cB false)) .skip) .skip) .skip)))))) (.seq (.ifs (.tor (.tcmp .NotEq (.call i_sets_of (.cons (.cI 0) (.cons (.lst .nil) .nil))) (.lst .nil)) (.tone (.tcmp .NotEq (.call i_sets_of (.cons (.cI 2) (.cons (.lst .nil) .nil))) (.lst (.cons (.lst .nil) (.cons (.lst .nil) .nil)))))) (.seq (.ret (.cB false)) .skip) .skip) (.seq (.ret (.cmp .Eq (.call i_sets_of (.cons (.cI 3) (.cons (.lst (.cons (.lst (.cons (.cI 0) (.cons (.cI 1) .nil))) (.cons (.lst (.cons (.cI 1) (.cons (.cI 2) .nil))) (.cons (.lst (.cons (.cI 1) .nil)) .nil)))) .nil))) (.lst (.cons (.lst (.cons (.cI 0) .nil)) (.cons (.lst (.cons (.cI 0) (.cons (.cI 1) (.cons (.cI 2) .nil)))) (.cons (.lst (.cons (.cI 1) .nil)) .nil)))))) .skip))))
def Φ_14 : List FnD := [f_sets_of, f_law_feed, f_law_draw, f_law_whole, f_law_wholes, f_law_order, f_law_pairs, f_law_renamed, f_law_joined, f_law_web, f_law_bunches, f_law_lists_same, f_law_drawn, f_law_right]
def f_law : FnD := fnD "law" p_law false n_law.length Φ_14 t_law
@[simp] theorem fp_law : f_law.ps.length = 1 := rfl
@[simp] theorem fi_law : f_law.io = false := rfl
theorem fs_law : f_law.sem = runFn 7 1 false (ex Φ_14 t_law) := rfl
@[simp] theorem g_14_0 : Φ_14[(0 : Nat)]? = some f_sets_of := rfl
@[simp] theorem g_14_1 : Φ_14[(1 : Nat)]? = some f_law_feed := rfl
@[simp] theorem g_14_2 : Φ_14[(2 : Nat)]? = some f_law_draw := rfl
@[simp] theorem g_14_9 : Φ_14[(9 : Nat)]? = some f_law_web := rfl
@[simp] theorem g_14_10 : Φ_14[(10 : Nat)]? = some f_law_bunches := rfl
@[simp] theorem g_14_12 : Φ_14[(12 : Nat)]? = some f_law_drawn := rfl
@[simp] theorem g_14_13 : Φ_14[(13 : Nat)]? = some f_law_right := rfl
theorem ok_law : DefOk (topS 16) n_law p_law Φ_14 t_law := ⟨⟨rfl, rfl, rfl, by decide +kernel, rfl, by decide +kernel, by decide +kernel⟩, by decide +kernel⟩
def Φ_15 : List FnD := [f_sets_of, f_law_feed, f_law_draw, f_law_whole, f_law_wholes, f_law_order, f_law_pairs, f_law_renamed, f_law_joined, f_law_web, f_law_bunches, f_law_lists_same, f_law_drawn, f_law_right, f_law]
end K45

set_option maxHeartbeats 1000000
namespace K45
open PySem Z
/-! the plain meaning -/
def setOf (bs : List (List Int)) (p : Int) : List Int := (up 0 bs.length).filter fun i => decide (p ∈ bs[i.toNat]?.getD [])
def setsOf (n : Int) (bs : List (List Int)) : List (List Int) := (up 0 n.toNat).map (setOf bs)
theorem setOf_len (bs : List (List Int)) (p : Int) : (setOf bs p).length ≤ bs.length := Nat.le_trans (List.length_filter_le _ _) (by rw [up_len]; exact Nat.le_refl _)
theorem in_ints (neg : Bool) (x : Int) (f : Bool) (ks : List Int) (k : Bool) (h : k = true ↔ (if neg then x ∉ ks else x ∈ ks)) : oIn neg (.int x) (.lst f (ks.map .int)) = some (.val (.bl k)) :=
  oIn_enc (a := x) rfl (ints_old f ks) (by decide) h
theorem sets_of_ok (n : Int) (bs : List (List Int)) (h0 : 0 ≤ n) (h1 : n ≤ 1000) (hl : bs.length ≤ 50000) : f_sets_of.sem [.int n, enc bs] = some (.non, .tmp (.lst true ((setsOf n bs).map (dLi true)))) := by
  rw [fs_sets_of]
  have hr : rOk n = true := decide_eq_true (by omega)
  refine run_tmp (ρ' := [.fz (.int n), .fz (enc bs), .dead, .dead, .dead]) ?_ rfl rfl
  have e1 : ∀ p : Int, ev Φ_0 l_sets_of_1 [.fz (.int n), .fz (enc bs), .fz (.int p), .dead, .dead] = some ([.fz (.int n), .fz (enc bs), .fz (.int p), .dead, .dead], .tmp (dLi true (setOf bs p))) := by
    intro p
    refine (lc_pure (e := fun i : Int => D.tup [.int i, enc (bs[i.toNat]?.getD [])]) (up 0 bs.length) (fun i => decide (p ∈ bs[i.toNat]?.getD [])) (fun i => .val (.int i)) (ρ1 := [.fz (.int n), .fz (enc bs), .fz (.int p), .dead, .dead]) ?_ rfl rfl rfl rfl (by rw [up_len]; omega) (fun _ => by rfl) (fun _ => by rfl) (fun i hi => ?_) (fun i hi _ => by rfl) (fun _ => by rfl)).trans ?_
    · simp [-List.map_map, startC, ex, ev, evA, evT, evC, evI, sSeq, sIf, sSkip, Z.tAnd, Z.tOr, Z.tNot, isBl, tru, D.truth, eOp1, eOp2, eVar, eC, R.hold, R.look, oIx, Z.atI_at, cmpD, ofB, unD, eCB, looks, aCons, aNil, BI.dd, R.live, sAsg, sAsgF, storeR, R.fix, P.bind1, P.binds, setC, pin_fz, pin_dead, pin_ow, sAugIx, sSet, Z.ixN_at, augD, binD, ofI, cpowB, cmulB, cmodB, cdivB, sRet, sRetN, retR, outOf, sDrop, sFz, sAug, eLst, eTup, vals, eMth, MM.dd, eIf, eOr, eAnd, eNot, tres, eIsa, D.isa, oldVals, old_int, old_bl, old_non, old_enc, iLst, iTupD, iR1, iR2, iEnu, eSl, oPart, rng_up, oEq_int, oNe_int, T.isNil, T.alen, eCall, kills, noIo, enc_ls]
      rw [enumD_up]
      simp only [List.length_map]
      refine List.map_congr_left fun i hi => ?_
      have := mem_up.mp hi
      have hlt : i.toNat < bs.length := by omega
      simp [hlt]; rfl
    · have := in_ints false p false (bs[i.toNat]?.getD []) (decide (p ∈ bs[i.toNat]?.getD [])) (by simp)
      simp [-List.map_map, startC, ex, ev, evA, evT, evC, evI, sSeq, sIf, sSkip, Z.tAnd, Z.tOr, Z.tNot, isBl, tru, D.truth, eOp1, eOp2, eVar, eC, R.hold, R.look, oIx, Z.atI_at, cmpD, ofB, unD, eCB, looks, aCons, aNil, BI.dd, R.live, sAsg, sAsgF, storeR, R.fix, P.bind1, P.binds, setC, pin_fz, pin_dead, pin_ow, sAugIx, sSet, Z.ixN_at, augD, binD, ofI, cpowB, cmulB, cmodB, cdivB, sRet, sRetN, retR, outOf, sDrop, sFz, sAug, eLst, eTup, vals, eMth, MM.dd, eIf, eOr, eAnd, eNot, tres, eIsa, D.isa, oldVals, old_int, old_bl, old_non, old_enc, iLst, iTupD, iR1, iR2, iEnu, eSl, oPart, rng_up, oEq_int, oNe_int, T.isNil, T.alen, eCall, kills, noIo, enc_is, this]
    · rfl
  have e2 : ev Φ_0 l_sets_of_2 [.fz (.int n), .fz (enc bs), .dead, .dead, .dead] = some ([.fz (.int n), .fz (enc bs), .dead, .dead, .dead], .tmp (.lst true ((setsOf n bs).map (dLi true)))) := by
    refine (lc_pure (e := D.int) (up 0 n.toNat) (fun _ => true) (fun p => .tmp (dLi true (setOf bs p))) (by (simp [-List.map_map, startC, ex, ev, evA, evT, evC, evI, sSeq, sIf, sSkip, Z.tAnd, Z.tOr, Z.tNot, isBl, tru, D.truth, eOp1, eOp2, eVar, eC, R.hold, R.look, oIx, Z.atI_at, cmpD, ofB, unD, eCB, looks, aCons, aNil, BI.dd, R.live, sAsg, sAsgF, storeR, R.fix, P.bind1, P.binds, setC, pin_fz, pin_dead, pin_ow, sAugIx, sSet, Z.ixN_at, augD, binD, ofI, cpowB, cmulB, cmodB, cdivB, sRet, sRetN, retR, outOf, sDrop, sFz, sAug, eLst, eTup, vals, eMth, MM.dd, eIf, eOr, eAnd, eNot, tres, eIsa, D.isa, oldVals, old_int, old_bl, old_non, old_enc, iLst, iTupD, iR1, iR2, iEnu, eSl, oPart, rng_up, oEq_int, oNe_int, T.isNil, T.alen, eCall, kills, noIo, hr] <;> first | rfl | exact ⟨rfl, rfl⟩ | exact ⟨rfl, rfl, rfl⟩)) rfl rfl rfl rfl (by rw [up_len]; omega) (fun _ => by rfl) (fun _ => by rfl) (fun _ _ => by rfl) (fun p hp _ => e1 p) (fun _ => by rfl)).trans ?_
    simp only [filter_yes, setsOf, List.map_map]; rfl
  simp [t_sets_of, startC, ex, sSeq, sRet, e2, sSkip]
theorem lists_same_ok (a : List (List Int)) (h1 : a.length ≤ 50000) (h2 : ∀ x ∈ a, x.length ≤ 50000) (hw : WholesOk f_law_wholes.sem) : f_law_lists_same.sem [enc a, enc a] = some (.non, .val (.bl true)) := by
  rw [fs_law_lists_same]
  have key : FnOk (runFn 3 2 false (ex Φ_11 t_law_lists_same)) [enc a, enc a] fun out r => out = .non ∧ r = .val (.bl true) := by
    have hr : rOk (a.length : Int) = true := decide_eq_true (by omega)
    refine ws_fn rfl ?_
    simp only [t_law_lists_same]
    refine ws_ifF (ρ1 := [.fz (enc a), .fz (enc a), .dead]) (by simp [-List.map_map, startC, ex, ev, evA, evT, evC, evI, sSeq, sIf, sSkip, Z.tAnd, Z.tOr, Z.tNot, isBl, tru, D.truth, eOp1, eOp2, eVar, eC, R.hold, R.look, oIx, Z.atI_at, cmpD, ofB, unD, eCB, looks, aCons, aNil, BI.dd, R.live, sAsg, sAsgF, storeR, R.fix, P.bind1, P.binds, setC, pin_fz, pin_dead, pin_ow, sAugIx, sSet, Z.ixN_at, augD, binD, ofI, cpowB, cmulB, cmodB, cdivB, sRet, sRetN, retR, outOf, sDrop, sFz, sAug, eLst, eTup, vals, eMth, MM.dd, eIf, eOr, eAnd, eNot, tres, eIsa, D.isa, oldVals, old_int, old_bl, old_non, old_enc, iLst, iTupD, iR1, iR2, iEnu, eSl, oPart, rng_up, oEq_int, oNe_int, T.isNil, T.alen, eCall, kills, noIo, enc_ls]) ?_
    refine ws_for (fun k ρ => ∃ (c : C), ρ = [.fz (enc a), .fz (enc a), c] ∧ c.pin = false) (items := (up 0 a.length).map D.int) (ρ1 := [.fz (enc a), .fz (enc a), .dead]) (by simp [-List.map_map, startC, ex, ev, evA, evT, evC, evI, sSeq, sIf, sSkip, Z.tAnd, Z.tOr, Z.tNot, isBl, tru, D.truth, eOp1, eOp2, eVar, eC, R.hold, R.look, oIx, Z.atI_at, cmpD, ofB, unD, eCB, looks, aCons, aNil, BI.dd, R.live, sAsg, sAsgF, storeR, R.fix, P.bind1, P.binds, setC, pin_fz, pin_dead, pin_ow, sAugIx, sSet, Z.ixN_at, augD, binD, ofI, cpowB, cmulB, cmodB, cdivB, sRet, sRetN, retR, outOf, sDrop, sFz, sAug, eLst, eTup, vals, eMth, MM.dd, eIf, eOr, eAnd, eNot, tres, eIsa, D.isa, oldVals, old_int, old_bl, old_non, old_enc, iLst, iTupD, iR1, iR2, iEnu, eSl, oPart, rng_up, oEq_int, oNe_int, T.isNil, T.alen, eCall, kills, noIo, enc_ls, hr]) ⟨_, rfl, rfl⟩ ?_ ?_
    · rintro k dd ρ hk ⟨c, rfl, hc⟩
      obtain ⟨x, hx, rfl⟩ := map_at hk
      have hkn : k < a.length := by have := (List.getElem?_eq_some_iff.mp hx).1; rw [up_len] at this; exact this
      rw [up_get hkn, Int.zero_add] at hx
      cases hx
      refine ⟨_, by (simp [-List.map_map, startC, ex, ev, evA, evT, evC, evI, sSeq, sIf, sSkip, Z.tAnd, Z.tOr, Z.tNot, isBl, tru, D.truth, eOp1, eOp2, eVar, eC, R.hold, R.look, oIx, Z.atI_at, cmpD, ofB, unD, eCB, looks, aCons, aNil, BI.dd, R.live, sAsg, sAsgF, storeR, R.fix, P.bind1, P.binds, setC, pin_fz, pin_dead, pin_ow, sAugIx, sSet, Z.ixN_at, augD, binD, ofI, cpowB, cmulB, cmodB, cdivB, sRet, sRetN, retR, outOf, sDrop, sFz, sAug, eLst, eTup, vals, eMth, MM.dd, eIf, eOr, eAnd, eNot, tres, eIsa, D.isa, oldVals, old_int, old_bl, old_non, old_enc, iLst, iTupD, iR1, iR2, iEnu, eSl, oPart, rng_up, oEq_int, oNe_int, T.isNil, T.alen, eCall, kills, noIo, hc] <;> first | rfl | exact ⟨rfl, rfl⟩ | exact ⟨rfl, rfl, rfl⟩), ?_⟩
      have hm := h2 _ (List.getElem_mem hkn)
      have e1 := hw false a[k] a[k].length (by omega)
      have e2 : oNe (dLi false a[k]) (dLi false a[k]) = some (.val (.bl false)) := oNe_enc (a := a[k]) (b := a[k]) (dLi_old _ _) (dLi_old _ _) (by decide) (by simp)
      have e3 : (dLi false a[k]).old = dLi false a[k] := dLi_old _ _
      refine ws_ifF (ρ1 := [.fz (enc a), .fz (enc a), .fz (.int k)]) ?_ (ws_skip ⟨.inl rfl, _, rfl, rfl⟩)
      have e4 : f_law_wholes.sem [dLi false a[k], .int (a[k].length : Nat)] = some (.non, .val (.bl true)) := by
        rw [dLi, e1]; simp
      have e5 : BI.len.dd [dLi false a[k]] = some (.val (.int (a[k].length : Nat))) := by simp [dLi, BI.dd]
      have e6 : (a.map (dLi false))[k]? = some (dLi false a[k]) := by simp [hkn]
      generalize hx : dLi false a[k] = dx at *
      simp only [enc_ls]
      generalize a.map (dLi false) = ds at *
      have e7 : L2.atI ds (k : Int) = some dx := by rw [atI_at (by omega)]; simpa using e6
      simp [evT, Z.tOr, Z.tNot, tru, isBl, ev, evA, eCall, aCons, aNil, eOp2, eVar, eCB, R.hold, R.live, R.look, looks, oIx, e7, e5, e4, e3, e2, cmpD, oldVals, old_int, D.truth, T.alen]
    · rintro ρ ⟨c, rfl, hc⟩
      exact ws_ret (by (simp [-List.map_map, startC, ex, ev, evA, evT, evC, evI, sSeq, sIf, sSkip, Z.tAnd, Z.tOr, Z.tNot, isBl, tru, D.truth, eOp1, eOp2, eVar, eC, R.hold, R.look, oIx, Z.atI_at, cmpD, ofB, unD, eCB, looks, aCons, aNil, BI.dd, R.live, sAsg, sAsgF, storeR, R.fix, P.bind1, P.binds, setC, pin_fz, pin_dead, pin_ow, sAugIx, sSet, Z.ixN_at, augD, binD, ofI, cpowB, cmulB, cmodB, cdivB, sRet, sRetN, retR, outOf, sDrop, sFz, sAug, eLst, eTup, vals, eMth, MM.dd, eIf, eOr, eAnd, eNot, tres, eIsa, D.isa, oldVals, old_int, old_bl, old_non, old_enc, iLst, iTupD, iR1, iR2, iEnu, eSl, oPart, rng_up, oEq_int, oNe_int, T.isNil, T.alen, eCall, kills, noIo] <;> first | rfl | exact ⟨rfl, rfl⟩ | exact ⟨rfl, rfl, rfl⟩)) ⟨_, _, rfl, rfl, rfl, rfl⟩
  obtain ⟨out, r, e, rfl, rfl⟩ := key
  exact e

/-! a drawn bunch -/
/-- rising, within 0 .. n-1 -/
def Bunch (n : Int) (b : List Int) : Prop := b.Pairwise (· < ·) ∧ ∀ x ∈ b, 0 ≤ x ∧ x < n
theorem nodup_lt {b : List Int} (h : b.Nodup) : (sortI b).Pairwise (· < ·) := by
  have h1 := sortI_sorted b
  have h2 : (sortI b).Nodup := (sortI_perm b).nodup_iff.mpr h
  refine (h1.and h2).imp fun {x y} h => ?_
  have := of_decide_eq_true (p := x ≤ y) h.1
  have := h.2
  omega
theorem nodup_len {b : List Int} {n : Int} (h : b.Nodup) (h1 : ∀ x ∈ b, 0 ≤ x ∧ x < n) : b.length ≤ n.toNat := by
  have := nodup_sub h (m := up 0 n.toNat) fun x hx => mem_up.mpr (by have := h1 x hx; omega)
  rw [up_len] at this
  exact this
def joinB (ties : List (Int × Int)) (j k : Int) : Bool := decide ((j, k) ∈ ties ∨ (k, j) ∈ ties)
def moreOf (ties : List (Int × Int)) (n : Int) (b : List Int) : List Int := (up 0 n.toNat).filter fun k => decide (k ∉ b) && decide ((b.filter fun j => joinB ties j k).length = b.length)
theorem drawn_1 {d : D} {n k : Int} {ties : List (Int × Int)} {b : List Int} {c4 c5 : C} (HJ : JoinedOk f_law_joined.sem) (hc4 : c4.pin = false) (hc5 : c5.pin = false) (hl : b.length ≤ 1000) :
    ev Φ_12 l_law_drawn_1 [.ow true d, .fz (.int n), .fz (enc ties), .ow false (dLi true b), c4, c5, .fz (.int k), .dead] = some ([.ow true d, .fz (.int n), .fz (enc ties), .ow false (dLi true b), c4, c5, .fz (.int k), .dead], .tmp (dLi true (b.filter fun j => joinB ties j k))) := by
  refine (lc_pureO (e := D.int) (s := 3) (io := false) (d := dLi true b) (ρ1 := [.ow true d, .fz (.int n), .fz (enc ties), .ow false (dLi true b), c4, c5, .fz (.int k), .dead]) b (fun j => joinB ties j k) (fun j => .val (.int j)) (by rfl) (by rfl) (by rfl) (by rfl) (by decide) (by rfl) (by rfl) ?_ (by omega) (fun _ => by rfl) (fun _ => by rfl) (fun j hj => ?_) (fun j hj _ => by rfl) (fun _ => by rfl)).trans rfl
  · exact still_ok rfl (ok_enc (dLi_old true b) (by decide))
  · have := HJ ties j k
    simp [-List.map_map, startC, ex, ev, evA, evT, evC, evI, sSeq, sIf, sSkip, Z.tAnd, Z.tOr, Z.tNot, isBl, tru, D.truth, eOp1, eOp2, eVar, eC, R.hold, R.look, oIx, Z.atI_at, cmpD, ofB, unD, eCB, looks, aCons, aNil, BI.dd, R.live, sAsg, sAsgF, storeR, R.fix, P.bind1, P.binds, setC, pin_fz, pin_dead, pin_ow, sAugIx, sSet, Z.ixN_at, augD, binD, ofI, cpowB, cmulB, cmodB, cdivB, sRet, sRetN, retR, outOf, sDrop, sFz, sAug, eLst, eTup, vals, eMth, MM.dd, eIf, eOr, eAnd, eNot, tres, eIsa, D.isa, oldVals, old_int, old_bl, old_non, old_enc, iLst, iTupD, iR1, iR2, iEnu, eSl, oPart, rng_up, oEq_int, oNe_int, T.isNil, T.alen, eCall, kills, noIo, this, joinB]
theorem drawn_2 {d : D} {n : Int} {ties : List (Int × Int)} {b : List Int} {c4 c5 : C} (HJ : JoinedOk f_law_joined.sem) (hc4 : c4.pin = false) (hc5 : c5.pin = false) (hl : b.length ≤ 1000) (h1 : 1 ≤ n) (h2 : n ≤ 100) :
    ev Φ_12 l_law_drawn_2 [.ow true d, .fz (.int n), .fz (enc ties), .ow false (dLi true b), c4, c5, .dead, .dead] = some ([.ow true d, .fz (.int n), .fz (enc ties), .ow false (dLi true b), c4, c5, .dead, .dead], .tmp (dLi true (moreOf ties n b))) := by
  have hr : rOk n = true := decide_eq_true (by omega)
  refine (lc_pure (e := D.int) (ρ1 := [.ow true d, .fz (.int n), .fz (enc ties), .ow false (dLi true b), c4, c5, .dead, .dead]) (up 0 n.toNat) (fun k => decide (k ∉ b) && decide ((b.filter fun j => joinB ties j k).length = b.length)) (fun j => .val (.int j)) (by simp [-List.map_map, startC, ex, ev, evA, evT, evC, evI, sSeq, sIf, sSkip, Z.tAnd, Z.tOr, Z.tNot, isBl, tru, D.truth, eOp1, eOp2, eVar, eC, R.hold, R.look, oIx, Z.atI_at, cmpD, ofB, unD, eCB, looks, aCons, aNil, BI.dd, R.live, sAsg, sAsgF, storeR, R.fix, P.bind1, P.binds, setC, pin_fz, pin_dead, pin_ow, sAugIx, sSet, Z.ixN_at, augD, binD, ofI, cpowB, cmulB, cmodB, cdivB, sRet, sRetN, retR, outOf, sDrop, sFz, sAug, eLst, eTup, vals, eMth, MM.dd, eIf, eOr, eAnd, eNot, tres, eIsa, D.isa, oldVals, old_int, old_bl, old_non, old_enc, iLst, iTupD, iR1, iR2, iEnu, eSl, oPart, rng_up, oEq_int, oNe_int, T.isNil, T.alen, eCall, kills, noIo, hr]) (by rfl) (by rfl) (by rfl) (by rfl) (by rw [up_len]; omega) (fun _ => by rfl) (fun _ => by rfl) (fun k hk => ?_) (fun k hk _ => by rfl) (fun _ => by rfl)).trans rfl
  have e1 := in_ints true k true b (decide (k ∉ b)) (by simp)
  have e2 := drawn_1 (d := d) (n := n) (k := k) (ties := ties) (b := b) HJ hc4 hc5 hl
  by_cases hk : k ∈ b
  · simp [-List.map_map, startC, ex, ev, evA, evT, evC, evI, sSeq, sIf, sSkip, Z.tAnd, Z.tOr, Z.tNot, isBl, tru, D.truth, eOp1, eOp2, eVar, eC, R.hold, R.look, oIx, Z.atI_at, cmpD, ofB, unD, eCB, looks, aCons, aNil, BI.dd, R.live, sAsg, sAsgF, storeR, R.fix, P.bind1, P.binds, setC, pin_fz, pin_dead, pin_ow, sAugIx, sSet, Z.ixN_at, augD, binD, ofI, cpowB, cmulB, cmodB, cdivB, sRet, sRetN, retR, outOf, sDrop, sFz, sAug, eLst, eTup, vals, eMth, MM.dd, eIf, eOr, eAnd, eNot, tres, eIsa, D.isa, oldVals, old_int, old_bl, old_non, old_enc, iLst, iTupD, iR1, iR2, iEnu, eSl, oPart, rng_up, oEq_int, oNe_int, T.isNil, T.alen, eCall, kills, noIo, dLi, e1, hk]
  · have e3 : BI.len.dd [dLi true (b.filter fun j => joinB ties j k)] = some (.val (.int ((b.filter fun j => joinB ties j k).length : Nat))) := by simp [BI.dd, dLi]
    have e4 : BI.len.dd [dLi true b] = some (.val (.int (b.length : Nat))) := by simp [BI.dd, dLi]
    rw [show (D.lst true (b.map D.int)) = dLi true b from rfl] at e1
    simp [evC, evT, Z.tAnd, isBl, eOp2, ev, evA, eVar, eCB, aCons, aNil, R.hold, R.live, R.look, looks, cmpD, e1, e2, e3, e4, hk, oEq_int]
    rw [Int.ofNat_inj]
    simp
theorem drawn_ok {d : D} {n : Int} {ties : List (Int × Int)} (HD : DrawOk f_law_draw.sem) (HJ : JoinedOk f_law_joined.sem) (hf : isFeed d) (h1 : 1 ≤ n) (h2 : n ≤ 100) : FnOk f_law_drawn.sem [d.oldKids, .int n, enc ties] fun out r => isFeed out ∧ ∃ b, r = .tmp (dLi true b) ∧ Bunch n b := by
  rw [fs_law_drawn]
  have hr : rOk n = true := decide_eq_true (by omega)
  replace hf := hf.kids
  generalize d.oldKids = d at hf
  obtain ⟨d1, k1, u1, u2, u3, u4⟩ := HD.at hf (m := n) (by omega) (by omega)
  obtain ⟨d2, k2, v1, v2, v3, v4⟩ := HD.at u2 (m := 5) (by omega) (by omega)
  have hr2 : rOk k2 = true := decide_eq_true (by omega)
  refine ws_fn rfl ?_
  simp only [t_law_drawn]
  refine ws_seq (ρ1 := [.ow true d1, .fz (.int n), .fz (enc ties), .ow false (dLi true [k1]), .dead, .dead, .dead, .dead]) (by simp [-List.map_map, startC, ex, ev, evA, evT, evC, evI, sSeq, sIf, sSkip, Z.tAnd, Z.tOr, Z.tNot, isBl, tru, D.truth, eOp1, eOp2, eVar, eC, R.hold, R.look, oIx, Z.atI_at, cmpD, ofB, unD, eCB, looks, aCons, aNil, BI.dd, R.live, sAsg, sAsgF, storeR, R.fix, P.bind1, P.binds, setC, pin_fz, pin_dead, pin_ow, sAugIx, sSet, Z.ixN_at, augD, binD, ofI, cpowB, cmulB, cmodB, cdivB, sRet, sRetN, retR, outOf, sDrop, sFz, sAug, eLst, eTup, vals, eMth, MM.dd, eIf, eOr, eAnd, eNot, tres, eIsa, D.isa, oldVals, old_int, old_bl, old_non, old_enc, iLst, iTupD, iR1, iR2, iEnu, eSl, oPart, rng_up, oEq_int, oNe_int, T.isNil, T.alen, eCall, kills, noIo, u1, dLi]) ?_
  refine ws_for (fun k ρ => ∃ (d : D) (b : List Int) (c4 c5 : C), ρ = [.ow true d, .fz (.int n), .fz (enc ties), .ow false (dLi true b), c4, c5, .dead, .dead] ∧ c4.pin = false ∧ c5.pin = false ∧ isFeed d ∧ b.Nodup ∧ ∀ x ∈ b, 0 ≤ x ∧ x < n) (items := (up 0 k2.toNat).map D.int) (ρ1 := [.ow true d2, .fz (.int n), .fz (enc ties), .ow false (dLi true [k1]), .dead, .dead, .dead, .dead]) (by simp [-List.map_map, startC, ex, ev, evA, evT, evC, evI, sSeq, sIf, sSkip, Z.tAnd, Z.tOr, Z.tNot, isBl, tru, D.truth, eOp1, eOp2, eVar, eC, R.hold, R.look, oIx, Z.atI_at, cmpD, ofB, unD, eCB, looks, aCons, aNil, BI.dd, R.live, sAsg, sAsgF, storeR, R.fix, P.bind1, P.binds, setC, pin_fz, pin_dead, pin_ow, sAugIx, sSet, Z.ixN_at, augD, binD, ofI, cpowB, cmulB, cmodB, cdivB, sRet, sRetN, retR, outOf, sDrop, sFz, sAug, eLst, eTup, vals, eMth, MM.dd, eIf, eOr, eAnd, eNot, tres, eIsa, D.isa, oldVals, old_int, old_bl, old_non, old_enc, iLst, iTupD, iR1, iR2, iEnu, eSl, oPart, rng_up, oEq_int, oNe_int, T.isNil, T.alen, eCall, kills, noIo, v1, hr2]) ⟨d2, [k1], _, _, rfl, rfl, rfl, v2, by simp, by simp; omega⟩ ?_ ?_
  · rintro k dd ρ hk ⟨d, b, c4, c5, rfl, hc4, hc5, hf, hb1, hb2⟩
    obtain ⟨x, hx, rfl⟩ := map_at hk
    refine ⟨_, by (simp [-List.map_map, startC, ex, ev, evA, evT, evC, evI, sSeq, sIf, sSkip, Z.tAnd, Z.tOr, Z.tNot, isBl, tru, D.truth, eOp1, eOp2, eVar, eC, R.hold, R.look, oIx, Z.atI_at, cmpD, ofB, unD, eCB, looks, aCons, aNil, BI.dd, R.live, sAsg, sAsgF, storeR, R.fix, P.bind1, P.binds, setC, pin_fz, pin_dead, pin_ow, sAugIx, sSet, Z.ixN_at, augD, binD, ofI, cpowB, cmulB, cmodB, cdivB, sRet, sRetN, retR, outOf, sDrop, sFz, sAug, eLst, eTup, vals, eMth, MM.dd, eIf, eOr, eAnd, eNot, tres, eIsa, D.isa, oldVals, old_int, old_bl, old_non, old_enc, iLst, iTupD, iR1, iR2, iEnu, eSl, oPart, rng_up, oEq_int, oNe_int, T.isNil, T.alen, eCall, kills, noIo, hc4] <;> first | rfl | exact ⟨rfl, rfl⟩ | exact ⟨rfl, rfl, rfl⟩), ?_⟩
    have hbl := nodup_len hb1 hb2
    have e2 := drawn_2 (d := d) (n := n) (ties := ties) (b := b) (c4 := .fz (.int x)) (c5 := c5) HJ rfl hc5 (by omega) h1 h2
    have hm : ∀ z ∈ moreOf ties n b, z ∉ b ∧ 0 ≤ z ∧ z < n := by
      intro z hz
      obtain ⟨m1, m2⟩ := List.mem_filter.mp hz
      have := mem_up.mp m1
      simp only [Bool.and_eq_true, decide_eq_true_eq] at m2
      exact ⟨m2.1, by omega, by omega⟩
    have hml : (moreOf ties n b).length ≤ 100 := Nat.le_trans (List.length_filter_le _ _) (by rw [up_len]; omega)
    generalize moreOf ties n b = more at *
    refine ws_seq (ρ1 := [.ow true d, .fz (.int n), .fz (enc ties), .ow false (dLi true b), .fz (.int x), .fz (dLi true more), .dead, .dead]) (by simp [ex, sAsgF, e2, R.fix, P.bind1, setC, hc5]) ?_
    have e4 : BI.len.dd [dLi true more] = some (.val (.int (more.length : Nat))) := by simp [BI.dd, dLi]
    by_cases hmz : 0 < more.length
    · obtain ⟨d3, j, w1, w2, w3, w4⟩ := HD.at hf (m := (more.length : Nat)) (by omega) (by omega)
      have hj : j.toNat < more.length := by omega
      have hb3 : b.length < 100000 := by omega
      have e5 : L2.atI (more.map D.int) j = some (.int more[j.toNat]) := by rw [atI_at w3]; simp [hj]
      have hz := hm _ (List.getElem_mem hj)
      refine ws_seq (ρ1 := [.ow true d3, .fz (.int n), .fz (enc ties), .ow false (dLi true (b ++ [more[j.toNat]])), .fz (.int x), .fz (dLi true more), .dead, .dead]) ?_ (ws_skip ⟨.inl rfl, _, _, _, _, rfl, rfl, rfl, w2, ?_, ?_⟩)
      · have hmz' : more ≠ [] := by intro z; rw [z] at hmz; simp at hmz
        simp [dLi, -List.map_map, startC, ex, ev, evA, evT, evC, evI, sSeq, sIf, sSkip, Z.tAnd, Z.tOr, Z.tNot, isBl, tru, D.truth, eOp1, eOp2, eVar, eC, R.hold, R.look, oIx, Z.atI_at, cmpD, ofB, unD, eCB, looks, aCons, aNil, BI.dd, R.live, sAsg, sAsgF, storeR, R.fix, P.bind1, P.binds, setC, pin_fz, pin_dead, pin_ow, sAugIx, sSet, Z.ixN_at, augD, binD, ofI, cpowB, cmulB, cmodB, cdivB, sRet, sRetN, retR, outOf, sDrop, sFz, sAug, eLst, eTup, vals, eMth, MM.dd, eIf, eOr, eAnd, eNot, tres, eIsa, D.isa, oldVals, old_int, old_bl, old_non, old_enc, iLst, iTupD, iR1, iR2, iEnu, eSl, oPart, rng_up, oEq_int, oNe_int, T.isNil, T.alen, eCall, kills, noIo, e4, w1, e5, hmz', hb3]
      · refine List.nodup_append.mpr ⟨hb1, by simp, fun a ha c hc e => ?_⟩
        rw [List.mem_singleton.mp hc] at e
        exact hz.1 (e ▸ ha)
      · intro y hy
        rcases List.mem_append.mp hy with h | h
        · exact hb2 y h
        · rw [List.mem_singleton.mp h]; exact hz.2
    · have hme : more = [] := List.length_eq_zero_iff.mp (by omega)
      subst hme
      refine ws_seq (ρ1 := [.ow true d, .fz (.int n), .fz (enc ties), .ow false (dLi true b), .fz (.int x), .fz (dLi true []), .dead, .dead]) ?_ (ws_skip ⟨.inl rfl, _, _, _, _, rfl, rfl, rfl, hf, hb1, hb2⟩)
      simp [-List.map_map, startC, ex, ev, evA, evT, evC, evI, sSeq, sIf, sSkip, Z.tAnd, Z.tOr, Z.tNot, isBl, tru, D.truth, eOp1, eOp2, eVar, eC, R.hold, R.look, oIx, Z.atI_at, cmpD, ofB, unD, eCB, looks, aCons, aNil, BI.dd, R.live, sAsg, sAsgF, storeR, R.fix, P.bind1, P.binds, setC, pin_fz, pin_dead, pin_ow, sAugIx, sSet, Z.ixN_at, augD, binD, ofI, cpowB, cmulB, cmodB, cdivB, sRet, sRetN, retR, outOf, sDrop, sFz, sAug, eLst, eTup, vals, eMth, MM.dd, eIf, eOr, eAnd, eNot, tres, eIsa, D.isa, oldVals, old_int, old_bl, old_non, old_enc, iLst, iTupD, iR1, iR2, iEnu, eSl, oPart, rng_up, oEq_int, oNe_int, T.isNil, T.alen, eCall, kills, noIo, dLi]
  · rintro ρ ⟨d, b, c4, c5, rfl, hc4, hc5, hf, hb1, hb2⟩
    refine ws_ret (r := .tmp (dLi true (sortI b))) (ρ1 := [.ow true d, .fz (.int n), .fz (enc ties), .ow false (dLi true b), c4, c5, .dead, .dead]) ?_ ⟨_, _, rfl, rfl, hf, _, rfl, nodup_lt hb1, fun x hx => hb2 x ((sortI_perm b).mem_iff.mp hx)⟩
    simp [ev, evA, eCB, aCons, aNil, eVar, R.hold, R.live, looks, R.look, BI.dd, dLi, ints_map]

/-! the greatest bunches -/
theorem dd_sortL (f : Bool) (G : List (List Int)) : BI.sorted.dd [.lst f (G.map (dLi true))] = some (.tmp (.lst true ((sortL G).map (dLi true)))) := by
  simp only [BI.dd]
  cases G with
  | nil => simp [getInts, sortI, sortL]
  | cons p r =>
    rw [show getInts ((p :: r).map (dLi true)) = none from rfl, show getPairs ((p :: r).map (dLi true)) = none from rfl, show headFl ((p :: r).map (dLi true)) = true from rfl, lists_map]
    rfl
theorem in_ps (neg : Bool) (i j : Int) (ps : List (Int × Int)) (k : Bool) (h : k = true ↔ (if neg then (i, j) ∉ ps else (i, j) ∈ ps)) : oIn neg (.tup [.int i, .int j]) (enc ps) = some (.val (.bl k)) :=
  oIn_enc (a := (i, j)) rfl (Enc.old ps) (by decide) h
def growB (ties : List (Int × Int)) (place : Int) (own : List Int) : Bool := decide ((own.filter fun k => decide ((k, place) ∈ ties)).length = own.length)
theorem bun_1 {n p : Int} {ties : List (Int × Int)} {own : List Int} {c2 c4 c6 : C} (hl : own.length ≤ 100) :
    ev Φ_10 l_law_bunches_1 [.fz (.int n), .fz (enc ties), c2, .fz (.int p), c4, .fz (dLi true own), c6, .dead, .dead] = some ([.fz (.int n), .fz (enc ties), c2, .fz (.int p), c4, .fz (dLi true own), c6, .dead, .dead], .tmp (dLi true (own.filter fun k => decide ((k, p) ∈ ties)))) := by
  refine (lc_pure (e := D.int) (ρ1 := [.fz (.int n), .fz (enc ties), c2, .fz (.int p), c4, .fz (dLi true own), c6, .dead, .dead]) own (fun k => decide ((k, p) ∈ ties)) (fun k => .val (.int k)) (by rfl) (by rfl) (by rfl) (by rfl) (by rfl) (by omega) (fun _ => by rfl) (fun _ => by rfl) (fun k hk => ?_) (fun k hk _ => by rfl) (fun _ => by rfl)).trans rfl
  have := in_ps false k p ties (decide ((k, p) ∈ ties)) (by simp)
  simp [-List.map_map, startC, ex, ev, evA, evT, evC, evI, sSeq, sIf, sSkip, Z.tAnd, Z.tOr, Z.tNot, isBl, tru, D.truth, eOp1, eOp2, eVar, eC, R.hold, R.look, oIx, Z.atI_at, cmpD, ofB, unD, eCB, looks, aCons, aNil, BI.dd, R.live, sAsg, sAsgF, storeR, R.fix, P.bind1, P.binds, setC, pin_fz, pin_dead, pin_ow, sAugIx, sSet, Z.ixN_at, augD, binD, ofI, cpowB, cmulB, cmodB, cdivB, sRet, sRetN, retR, outOf, sDrop, sFz, sAug, eLst, eTup, vals, eMth, MM.dd, eIf, eOr, eAnd, eNot, tres, eIsa, D.isa, oldVals, old_int, old_bl, old_non, old_enc, iLst, iTupD, iR1, iR2, iEnu, eSl, oPart, rng_up, oEq_int, oNe_int, T.isNil, T.alen, eCall, kills, noIo, this]
theorem bun_2 {n p : Int} {ties : List (Int × Int)} {L : List (List Int)} {c4 c6 : C} (hl : ∀ own ∈ L, own.length ≤ 100) (hL : L.length ≤ 5000) :
    ev Φ_10 l_law_bunches_2 [.fz (.int n), .fz (enc ties), .fz (.lst true (L.map (dLi true))), .fz (.int p), c4, .dead, c6, .dead, .dead] = some ([.fz (.int n), .fz (enc ties), .fz (.lst true (L.map (dLi true))), .fz (.int p), c4, .dead, c6, .dead, .dead], .tmp (.lst true (((L.filter (growB ties p)).map fun own => own ++ [p]).map (dLi true)))) := by
  refine (lc_pure (e := dLi true) (ρ1 := [.fz (.int n), .fz (enc ties), .fz (.lst true (L.map (dLi true))), .fz (.int p), c4, .dead, c6, .dead, .dead]) L (growB ties p) (fun own => .tmp (dLi true (own ++ [p]))) (by rfl) (by rfl) (by rfl) (by rfl) (by rfl) (by omega) (fun _ => by rfl) (fun _ => by rfl) (fun own ho => ?_) (fun own ho _ => ?_) (fun _ => by rfl)).trans ?_
  · have e2 := bun_1 (n := n) (p := p) (ties := ties) (own := own) (c2 := .fz (.lst true (L.map (dLi true)))) (c4 := c4) (c6 := c6) (hl own ho)
    have e3 : BI.len.dd [dLi true (own.filter fun k => decide ((k, p) ∈ ties))] = some (.val (.int ((own.filter fun k => decide ((k, p) ∈ ties)).length : Nat))) := by simp [BI.dd, dLi]
    have e4 : BI.len.dd [dLi true own] = some (.val (.int (own.length : Nat))) := by simp [BI.dd, dLi]
    simp only [growB]
    generalize (own.filter fun k => decide ((k, p) ∈ ties)) = fl at *
    simp [evC, isBl, eOp2, ev, evA, eVar, eCB, aCons, aNil, R.hold, R.live, R.look, looks, cmpD, kills, e2, e3, e4, oEq_int, Int.ofNat_inj]
  · have hb : (own.map D.int).length + [D.int p].length ≤ 100000 := by have := hl own ho; simp; omega
    have := oCat_ok (f := true) (g := true) hb
    simp [-List.map_map, startC, ex, ev, evA, evT, evC, evI, sSeq, sIf, sSkip, Z.tAnd, Z.tOr, Z.tNot, isBl, tru, D.truth, eOp1, eOp2, eVar, eC, R.hold, R.look, oIx, Z.atI_at, cmpD, ofB, unD, eCB, looks, aCons, aNil, BI.dd, R.live, sAsg, sAsgF, storeR, R.fix, P.bind1, P.binds, setC, pin_fz, pin_dead, pin_ow, sAugIx, sSet, Z.ixN_at, augD, binD, ofI, cpowB, cmulB, cmodB, cdivB, sRet, sRetN, retR, outOf, sDrop, sFz, sAug, eLst, eTup, vals, eMth, MM.dd, eIf, eOr, eAnd, eNot, tres, eIsa, D.isa, oldVals, old_int, old_bl, old_non, old_enc, iLst, iTupD, iR1, iR2, iEnu, eSl, oPart, rng_up, oEq_int, oNe_int, T.isNil, T.alen, eCall, kills, noIo, dLi, this]
  · simp only [List.map_map]; rfl
theorem bun_3 {n k : Int} {ties : List (Int × Int)} {own : List Int} {c2 c3 c4 c6 : C} (HJ : JoinedOk f_law_joined.sem) (hl : own.length ≤ 100) :
    ev Φ_10 l_law_bunches_3 [.fz (.int n), .fz (enc ties), c2, c3, c4, .fz (dLi true own), c6, .fz (.int k), .dead] = some ([.fz (.int n), .fz (enc ties), c2, c3, c4, .fz (dLi true own), c6, .fz (.int k), .dead], .tmp (dLi true (own.filter fun j => joinB ties j k))) := by
  refine (lc_pure (e := D.int) (ρ1 := [.fz (.int n), .fz (enc ties), c2, c3, c4, .fz (dLi true own), c6, .fz (.int k), .dead]) own (fun j => joinB ties j k) (fun j => .val (.int j)) (by rfl) (by rfl) (by rfl) (by rfl) (by rfl) (by omega) (fun _ => by rfl) (fun _ => by rfl) (fun j hj => ?_) (fun j hj _ => by rfl) (fun _ => by rfl)).trans rfl
  have := HJ ties j k
  simp [-List.map_map, startC, ex, ev, evA, evT, evC, evI, sSeq, sIf, sSkip, Z.tAnd, Z.tOr, Z.tNot, isBl, tru, D.truth, eOp1, eOp2, eVar, eC, R.hold, R.look, oIx, Z.atI_at, cmpD, ofB, unD, eCB, looks, aCons, aNil, BI.dd, R.live, sAsg, sAsgF, storeR, R.fix, P.bind1, P.binds, setC, pin_fz, pin_dead, pin_ow, sAugIx, sSet, Z.ixN_at, augD, binD, ofI, cpowB, cmulB, cmodB, cdivB, sRet, sRetN, retR, outOf, sDrop, sFz, sAug, eLst, eTup, vals, eMth, MM.dd, eIf, eOr, eAnd, eNot, tres, eIsa, D.isa, oldVals, old_int, old_bl, old_non, old_enc, iLst, iTupD, iR1, iR2, iEnu, eSl, oPart, rng_up, oEq_int, oNe_int, T.isNil, T.alen, eCall, kills, noIo, this, joinB]
theorem bun_4 {n : Int} {ties : List (Int × Int)} {own : List Int} {c2 c3 c4 c6 : C} (HJ : JoinedOk f_law_joined.sem) (hl : own.length ≤ 100) (h1 : 1 ≤ n) (h2 : n ≤ 12) :
    ev Φ_10 l_law_bunches_4 [.fz (.int n), .fz (enc ties), c2, c3, c4, .fz (dLi true own), c6, .dead, .dead] = some ([.fz (.int n), .fz (enc ties), c2, c3, c4, .fz (dLi true own), c6, .dead, .dead], .tmp (dLi true (moreOf ties n own))) := by
  have hr : rOk n = true := decide_eq_true (by omega)
  refine (lc_pure (e := D.int) (ρ1 := [.fz (.int n), .fz (enc ties), c2, c3, c4, .fz (dLi true own), c6, .dead, .dead]) (up 0 n.toNat) (fun k => decide (k ∉ own) && decide ((own.filter fun j => joinB ties j k).length = own.length)) (fun j => .val (.int j)) (by simp [-List.map_map, startC, ex, ev, evA, evT, evC, evI, sSeq, sIf, sSkip, Z.tAnd, Z.tOr, Z.tNot, isBl, tru, D.truth, eOp1, eOp2, eVar, eC, R.hold, R.look, oIx, Z.atI_at, cmpD, ofB, unD, eCB, looks, aCons, aNil, BI.dd, R.live, sAsg, sAsgF, storeR, R.fix, P.bind1, P.binds, setC, pin_fz, pin_dead, pin_ow, sAugIx, sSet, Z.ixN_at, augD, binD, ofI, cpowB, cmulB, cmodB, cdivB, sRet, sRetN, retR, outOf, sDrop, sFz, sAug, eLst, eTup, vals, eMth, MM.dd, eIf, eOr, eAnd, eNot, tres, eIsa, D.isa, oldVals, old_int, old_bl, old_non, old_enc, iLst, iTupD, iR1, iR2, iEnu, eSl, oPart, rng_up, oEq_int, oNe_int, T.isNil, T.alen, eCall, kills, noIo, hr]) (by rfl) (by rfl) (by rfl) (by rfl) (by rw [up_len]; omega) (fun _ => by rfl) (fun _ => by rfl) (fun k hk => ?_) (fun k hk _ => by rfl) (fun _ => by rfl)).trans rfl
  have e1 := in_ints true k true own (decide (k ∉ own)) (by simp)
  have e2 := bun_3 (n := n) (k := k) (ties := ties) (own := own) (c2 := c2) (c3 := c3) (c4 := c4) (c6 := c6) HJ hl
  by_cases hk : k ∈ own
  · simp [-List.map_map, startC, ex, ev, evA, evT, evC, evI, sSeq, sIf, sSkip, Z.tAnd, Z.tOr, Z.tNot, isBl, tru, D.truth, eOp1, eOp2, eVar, eC, R.hold, R.look, oIx, Z.atI_at, cmpD, ofB, unD, eCB, looks, aCons, aNil, BI.dd, R.live, sAsg, sAsgF, storeR, R.fix, P.bind1, P.binds, setC, pin_fz, pin_dead, pin_ow, sAugIx, sSet, Z.ixN_at, augD, binD, ofI, cpowB, cmulB, cmodB, cdivB, sRet, sRetN, retR, outOf, sDrop, sFz, sAug, eLst, eTup, vals, eMth, MM.dd, eIf, eOr, eAnd, eNot, tres, eIsa, D.isa, oldVals, old_int, old_bl, old_non, old_enc, iLst, iTupD, iR1, iR2, iEnu, eSl, oPart, rng_up, oEq_int, oNe_int, T.isNil, T.alen, eCall, kills, noIo, dLi, e1, hk]
  · have e3 : BI.len.dd [dLi true (own.filter fun j => joinB ties j k)] = some (.val (.int ((own.filter fun j => joinB ties j k).length : Nat))) := by simp [BI.dd, dLi]
    have e4 : BI.len.dd [dLi true own] = some (.val (.int (own.length : Nat))) := by simp [BI.dd, dLi]
    rw [show (D.lst true (own.map D.int)) = dLi true own from rfl] at e1
    generalize (own.filter fun j => joinB ties j k) = fl at *
    simp [evC, evT, Z.tAnd, isBl, eOp2, ev, evA, eVar, eCB, aCons, aNil, R.hold, R.live, R.look, looks, cmpD, e1, e2, e3, e4, hk, oEq_int, Int.ofNat_inj]
theorem bunch_len {n : Int} {b : List Int} (h : Bunch n b) : b.length ≤ n.toNat :=
  nodup_len (h.1.imp fun {x y} (h : x < y) e => by omega) h.2
theorem bunches_ok {n : Int} {ties : List (Int × Int)} (HJ : JoinedOk f_law_joined.sem) (h1 : 1 ≤ n) (h2 : n ≤ 12) : FnOk f_law_bunches.sem [.int n, enc ties] fun _ r => ∃ L : List (List Int), r = .tmp (.lst true (L.map (dLi true))) ∧ L.length ≤ 4096 ∧ ∀ b ∈ L, Bunch n b := by
  rw [fs_law_bunches]
  have hr : rOk n = true := decide_eq_true (by omega)
  refine ws_fn rfl ?_
  simp only [t_law_bunches]
  refine ws_seq (ρ1 := [.fz (.int n), .fz (enc ties), .fz (.lst true ([[]].map (dLi true))), .dead, .dead, .dead, .dead, .dead, .dead]) (by simp [-List.map_map, startC, ex, ev, evA, evT, evC, evI, sSeq, sIf, sSkip, Z.tAnd, Z.tOr, Z.tNot, isBl, tru, D.truth, eOp1, eOp2, eVar, eC, R.hold, R.look, oIx, Z.atI_at, cmpD, ofB, unD, eCB, looks, aCons, aNil, BI.dd, R.live, sAsg, sAsgF, storeR, R.fix, P.bind1, P.binds, setC, pin_fz, pin_dead, pin_ow, sAugIx, sSet, Z.ixN_at, augD, binD, ofI, cpowB, cmulB, cmodB, cdivB, sRet, sRetN, retR, outOf, sDrop, sFz, sAug, eLst, eTup, vals, eMth, MM.dd, eIf, eOr, eAnd, eNot, tres, eIsa, D.isa, oldVals, old_int, old_bl, old_non, old_enc, iLst, iTupD, iR1, iR2, iEnu, eSl, oPart, rng_up, oEq_int, oNe_int, T.isNil, T.alen, eCall, kills, noIo, dLi]) ?_
  refine ws_for (fun k ρ => ∃ (c3 : C) (L : List (List Int)), ρ = [.fz (.int n), .fz (enc ties), .fz (.lst true (L.map (dLi true))), c3, .dead, .dead, .dead, .dead, .dead] ∧ c3.pin = false ∧ L.length ≤ 2 ^ k ∧ ∀ b ∈ L, Bunch k b) (items := (up 0 n.toNat).map D.int) (ρ1 := [.fz (.int n), .fz (enc ties), .fz (.lst true ([[]].map (dLi true))), .dead, .dead, .dead, .dead, .dead, .dead]) (by simp [-List.map_map, startC, ex, ev, evA, evT, evC, evI, sSeq, sIf, sSkip, Z.tAnd, Z.tOr, Z.tNot, isBl, tru, D.truth, eOp1, eOp2, eVar, eC, R.hold, R.look, oIx, Z.atI_at, cmpD, ofB, unD, eCB, looks, aCons, aNil, BI.dd, R.live, sAsg, sAsgF, storeR, R.fix, P.bind1, P.binds, setC, pin_fz, pin_dead, pin_ow, sAugIx, sSet, Z.ixN_at, augD, binD, ofI, cpowB, cmulB, cmodB, cdivB, sRet, sRetN, retR, outOf, sDrop, sFz, sAug, eLst, eTup, vals, eMth, MM.dd, eIf, eOr, eAnd, eNot, tres, eIsa, D.isa, oldVals, old_int, old_bl, old_non, old_enc, iLst, iTupD, iR1, iR2, iEnu, eSl, oPart, rng_up, oEq_int, oNe_int, T.isNil, T.alen, eCall, kills, noIo, hr]) ⟨_, [[]], rfl, rfl, by simp, by simp [Bunch]⟩ ?_ ?_
  · rintro k dd ρ hk ⟨c3, L, rfl, hc, hL, hB⟩
    obtain ⟨x, hx, rfl⟩ := map_at hk
    have hkn : k < n.toNat := by have := (List.getElem?_eq_some_iff.mp hx).1; rw [up_len] at this; exact this
    rw [up_get hkn, Int.zero_add] at hx
    cases hx
    refine ⟨_, by (simp [-List.map_map, startC, ex, ev, evA, evT, evC, evI, sSeq, sIf, sSkip, Z.tAnd, Z.tOr, Z.tNot, isBl, tru, D.truth, eOp1, eOp2, eVar, eC, R.hold, R.look, oIx, Z.atI_at, cmpD, ofB, unD, eCB, looks, aCons, aNil, BI.dd, R.live, sAsg, sAsgF, storeR, R.fix, P.bind1, P.binds, setC, pin_fz, pin_dead, pin_ow, sAugIx, sSet, Z.ixN_at, augD, binD, ofI, cpowB, cmulB, cmodB, cdivB, sRet, sRetN, retR, outOf, sDrop, sFz, sAug, eLst, eTup, vals, eMth, MM.dd, eIf, eOr, eAnd, eNot, tres, eIsa, D.isa, oldVals, old_int, old_bl, old_non, old_enc, iLst, iTupD, iR1, iR2, iEnu, eSl, oPart, rng_up, oEq_int, oNe_int, T.isNil, T.alen, eCall, kills, noIo, hc] <;> first | rfl | exact ⟨rfl, rfl⟩ | exact ⟨rfl, rfl, rfl⟩), ?_⟩
    have h2k : 2 ^ k ≤ 2 ^ 11 := Nat.pow_le_pow_right (by decide) (by omega)
    have hLL : L.length ≤ 2048 := Nat.le_trans hL h2k
    have e2 := bun_2 (n := n) (p := (k : Int)) (ties := ties) (L := L) (c4 := .dead) (c6 := .dead) (fun own ho => by have := bunch_len (hB own ho); omega) (by omega)
    have hfl : (L.filter (growB ties k)).length ≤ L.length := List.length_filter_le _ _
    have hfm : ∀ own ∈ L.filter (growB ties k), own ∈ L := fun own ho => (List.mem_filter.mp ho).1
    generalize L.filter (growB ties k) = G at *
    have hb : (L.map (dLi true)).length + ((G.map fun own => own ++ [(k : Int)]).map (dLi true)).length ≤ 100000 := by simp only [List.length_map]; omega
    have e3 := oCat_ok (f := true) (g := true) hb
    refine ws_seq (ρ1 := [.fz (.int n), .fz (enc ties), .fz (.lst true ((L ++ G.map fun own => own ++ [(k : Int)]).map (dLi true))), .fz (.int k), .dead, .dead, .dead, .dead, .dead]) ?_ (ws_skip ⟨.inl rfl, _, _, rfl, rfl, ?_, ?_⟩)
    · rw [List.map_append]
      generalize (G.map fun own => own ++ [(k : Int)]).map (dLi true) = GG at *
      generalize L.map (dLi true) = LL at *
      simp [ex, sAsgF, ev, eOp2, eVar, e2, R.hold, R.look, binD, ofI, e3, R.fix, P.bind1, setC, pin_fz]
    · rw [List.length_append, List.length_map, Nat.pow_succ]; omega
    · intro b hb
      rcases List.mem_append.mp hb with h | h
      · have := hB b h
        exact ⟨this.1, fun x hx => by have := this.2 x hx; omega⟩
      · obtain ⟨own, ho, rfl⟩ := List.mem_map.mp h
        have := hB own (hfm own ho)
        refine ⟨List.pairwise_append.mpr ⟨this.1, by simp, fun a ha c hc => ?_⟩, fun x hx => ?_⟩
        · rw [List.mem_singleton.mp hc]; have := this.2 a ha; omega
        · rcases List.mem_append.mp hx with g | g
          · have := this.2 x g; omega
          · rw [List.mem_singleton.mp g]; omega
  · rintro ρ ⟨c3, L, rfl, hc, hL, hB⟩
    have hk : ((up 0 n.toNat).map D.int).length = n.toNat := by rw [List.length_map, up_len]
    rw [hk] at hL hB
    have hLL : L.length ≤ 4096 := Nat.le_trans hL (show 2 ^ n.toNat ≤ 2 ^ 12 from Nat.pow_le_pow_right (by decide) (by omega))
    have hB' : ∀ b ∈ L, Bunch n b := fun b hb => by have := hB b hb; rwa [show ((n.toNat : Nat) : Int) = n by omega] at this
    refine ws_seq (ρ1 := [.fz (.int n), .fz (enc ties), .fz (.lst true (L.map (dLi true))), c3, .ow false (.lst true []), .dead, .dead, .dead, .dead]) (by simp [-List.map_map, startC, ex, ev, evA, evT, evC, evI, sSeq, sIf, sSkip, Z.tAnd, Z.tOr, Z.tNot, isBl, tru, D.truth, eOp1, eOp2, eVar, eC, R.hold, R.look, oIx, Z.atI_at, cmpD, ofB, unD, eCB, looks, aCons, aNil, BI.dd, R.live, sAsg, sAsgF, storeR, R.fix, P.bind1, P.binds, setC, pin_fz, pin_dead, pin_ow, sAugIx, sSet, Z.ixN_at, augD, binD, ofI, cpowB, cmulB, cmodB, cdivB, sRet, sRetN, retR, outOf, sDrop, sFz, sAug, eLst, eTup, vals, eMth, MM.dd, eIf, eOr, eAnd, eNot, tres, eIsa, D.isa, oldVals, old_int, old_bl, old_non, old_enc, iLst, iTupD, iR1, iR2, iEnu, eSl, oPart, rng_up, oEq_int, oNe_int, T.isNil, T.alen, eCall, kills, noIo]) ?_
    refine ws_for (fun k ρ => ∃ (c5 c6 : C) (G : List (List Int)), ρ = [.fz (.int n), .fz (enc ties), .fz (.lst true (L.map (dLi true))), c3, .ow false (.lst true (G.map (dLi true))), c5, c6, .dead, .dead] ∧ c5.pin = false ∧ c6.pin = false ∧ G.length ≤ k ∧ ∀ b ∈ G, b ∈ L) (items := L.map (dLi true)) (ρ1 := [.fz (.int n), .fz (enc ties), .fz (.lst true (L.map (dLi true))), c3, .ow false (.lst true []), .dead, .dead, .dead, .dead]) (by rfl) ⟨_, _, [], rfl, rfl, rfl, by simp, by simp⟩ ?_ ?_
    · rintro k dd ρ hk ⟨c5, c6, G, rfl, hc5, hc6, hG, hG2⟩
      obtain ⟨own, ho, rfl⟩ := map_at hk
      have hoL := List.mem_of_getElem? ho
      have hkl : k < L.length := (List.getElem?_eq_some_iff.mp ho).1
      refine ⟨_, by (simp [-List.map_map, startC, ex, ev, evA, evT, evC, evI, sSeq, sIf, sSkip, Z.tAnd, Z.tOr, Z.tNot, isBl, tru, D.truth, eOp1, eOp2, eVar, eC, R.hold, R.look, oIx, Z.atI_at, cmpD, ofB, unD, eCB, looks, aCons, aNil, BI.dd, R.live, sAsg, sAsgF, storeR, R.fix, P.bind1, P.binds, setC, pin_fz, pin_dead, pin_ow, sAugIx, sSet, Z.ixN_at, augD, binD, ofI, cpowB, cmulB, cmodB, cdivB, sRet, sRetN, retR, outOf, sDrop, sFz, sAug, eLst, eTup, vals, eMth, MM.dd, eIf, eOr, eAnd, eNot, tres, eIsa, D.isa, oldVals, old_int, old_bl, old_non, old_enc, iLst, iTupD, iR1, iR2, iEnu, eSl, oPart, rng_up, oEq_int, oNe_int, T.isNil, T.alen, eCall, kills, noIo, hc5] <;> first | rfl | exact ⟨rfl, rfl⟩ | exact ⟨rfl, rfl, rfl⟩), ?_⟩
      have hol : own.length ≤ 100 := by have := bunch_len (hB' own hoL); omega
      have e4 := bun_4 (n := n) (ties := ties) (own := own) (c2 := .fz (.lst true (L.map (dLi true)))) (c3 := c3) (c4 := .ow false (.lst true (G.map (dLi true)))) (c6 := c6) HJ hol h1 h2
      generalize moreOf ties n own = more at *
      refine ws_seq (ρ1 := [.fz (.int n), .fz (enc ties), .fz (.lst true (L.map (dLi true))), c3, .ow false (.lst true (G.map (dLi true))), .fz (dLi true own), .fz (dLi true more), .dead, .dead]) (by simp [ex, sAsgF, e4, R.fix, P.bind1, setC, hc6]) ?_
      have e5 : BI.len.dd [dLi true own] = some (.val (.int (own.length : Nat))) := by simp [BI.dd, dLi]
      have e6 : BI.len.dd [dLi true more] = some (.val (.int (more.length : Nat))) := by simp [BI.dd, dLi]
      have hGl : (G.map (dLi true)).length < 100000 := by rw [List.length_map]; omega
      by_cases hq : 0 < own.length ∧ more.length = 0
      · refine ws_seq (ρ1 := [.fz (.int n), .fz (enc ties), .fz (.lst true (L.map (dLi true))), c3, .ow false (.lst true ((G ++ [own]).map (dLi true))), .fz (dLi true own), .fz (dLi true more), .dead, .dead]) ?_ (ws_skip ⟨.inl rfl, _, _, _, rfl, rfl, rfl, by rw [List.length_append]; simp; exact hG, fun b hb => ?_⟩)
        · rw [List.map_append]
          generalize G.map (dLi true) = GG at *
          generalize L.map (dLi true) = LL at *
          generalize hdo : dLi true own = dow at *
          generalize hdm : dLi true more = dmo at *
          have q1 : 0 < own.length := hq.1
          simp [ex, sIf, evT, Z.tAnd, isBl, eOp2, ev, evA, eVar, eC, eCB, aCons, aNil, R.hold, R.live, R.look, looks, cmpD, e5, e6, ofB, oEq_int, hq.2, sSeq, sDrop, eMth, MM.dd, hGl, sSkip, hdo, hq.1]
        · rcases List.mem_append.mp hb with h | h
          · exact hG2 b h
          · rw [List.mem_singleton.mp h]; exact hoL
      · refine ws_seq (ρ1 := [.fz (.int n), .fz (enc ties), .fz (.lst true (L.map (dLi true))), c3, .ow false (.lst true (G.map (dLi true))), .fz (dLi true own), .fz (dLi true more), .dead, .dead]) ?_ (ws_skip ⟨.inl rfl, _, _, _, rfl, rfl, rfl, by omega, hG2⟩)
        generalize G.map (dLi true) = GG at *
        generalize L.map (dLi true) = LL at *
        generalize hdo : dLi true own = dow at *
        generalize hdm : dLi true more = dmo at *
        by_cases q1 : 0 < own.length
        · have q2 : ¬ more.length = 0 := fun z => hq ⟨q1, z⟩
          simp [ex, sIf, evT, Z.tAnd, isBl, eOp2, ev, evA, eVar, eC, eCB, aCons, aNil, R.hold, R.live, R.look, looks, cmpD, e5, e6, ofB, oEq_int, sSkip, q1, q2]
        · simp [ex, sIf, evT, Z.tAnd, isBl, eOp2, ev, evA, eVar, eC, eCB, aCons, aNil, R.hold, R.live, R.look, looks, cmpD, e5, e6, ofB, oEq_int, sSkip, q1]
    · rintro ρ ⟨c5, c6, G, rfl, hc5, hc6, hG, hG2⟩
      rw [List.length_map] at hG
      refine ws_ret (r := .tmp (.lst true ((sortL G).map (dLi true)))) (ρ1 := [.fz (.int n), .fz (enc ties), .fz (.lst true (L.map (dLi true))), c3, .ow false (.lst true (G.map (dLi true))), c5, c6, .dead, .dead]) ?_ ⟨_, .non, rfl, rfl, sortL G, rfl, by rw [(sortL_perm G).length_eq]; omega, fun b hb => hB' b (hG2 b ((sortL_perm G).mem_iff.mp hb))⟩
      have e7 := dd_sortL true G
      generalize hGG : D.lst true (G.map (dLi true)) = gg at *
      simp [ev, evA, eCB, aCons, aNil, eVar, R.hold, R.live, looks, R.look, e7]

/-! the answers are right -/
theorem mem_setOf {bs : List (List Int)} {p i : Int} : i ∈ setOf bs p ↔ 0 ≤ i ∧ i < bs.length ∧ p ∈ bs[i.toNat]?.getD [] := by
  unfold setOf
  rw [List.mem_filter, mem_up]
  simp only [decide_eq_true_eq, Int.zero_add, and_assoc]
theorem back_is {n : Int} {bs : List (List Int)} {i : Int} {b : List Int} (h0 : 0 ≤ i) (hb : bs[i.toNat]? = some b) (hB : Bunch n b) (hn : 0 ≤ n) : ((up 0 n.toNat).filter fun p => decide (i ∈ setOf bs p)) = b := by
  have hl := (List.getElem?_eq_some_iff.mp hb).1
  refine lt_ext ((up_lt 0 _).filter _) hB.1 fun x => ?_
  rw [List.mem_filter, mem_up, decide_eq_true_iff, mem_setOf, hb, Option.getD_some]
  constructor
  · rintro ⟨_, _, _, h⟩; exact h
  · intro h
    have := hB.2 x h
    exact ⟨by omega, h0, by omega, h⟩
abbrev rd0 (n : Int) (bs : List (List Int)) (c2 c3 c4 c5 c6 c7 c8 c9 c10 c11 : C) : Ev := [.pn (.int n), .pn (enc bs), c2, c3, c4, c5, c6, c7, c8, c9, c10, c11]
theorem in_at {f : Bool} (p : Int) (ks : List Int) : oIn false (.int p) (dLi f ks) = some (.val (.bl (decide (p ∈ ks)))) := in_ints false p f ks _ (by simp)
theorem oIx_lls {f g : Bool} {bs : List (List Int)} {i : Int} (h0 : 0 ≤ i) (h1 : i < bs.length) : oIx (.lst f (bs.map (dLi g))) (.int i) = some (.val (dLi g (bs[i.toNat]?.getD []))) := by
  have : i.toNat < bs.length := by omega
  simp only [oIx]
  rw [atI_at h0, List.getElem?_map, List.getElem?_eq_getElem this]
  rfl
theorem len_lls {f g : Bool} {bs : List (List Int)} : BI.len.dd [.lst f (bs.map (dLi g))] = some (.val (.int (bs.length : Nat))) := by simp [BI.dd]
theorem len_li {f : Bool} {b : List Int} : BI.len.dd [dLi f b] = some (.val (.int (b.length : Nat))) := by simp [BI.dd, dLi]
theorem right_1 {n : Int} {bs : List (List Int)} {c2 c3 c4 c5 c7 c8 c9 c10 c11 : C} (hl : bs.length ≤ 5000) :
    ev Φ_13 l_law_right_1 [.fz (.int n), .fz (enc bs), c2, c3, c4, c5, .dead, c7, c8, c9, c10, c11] = some ([.fz (.int n), .fz (enc bs), c2, c3, c4, c5, .dead, c7, c8, c9, c10, c11], .tmp (.lst true (bs.map (dLi true)))) := by
  refine (lc_pure (e := dLi false) (ρ1 := [.fz (.int n), .fz (enc bs), c2, c3, c4, c5, .dead, c7, c8, c9, c10, c11]) bs (fun _ => true) (fun b => .tmp (dLi true b)) (by rfl) (by rfl) (by rfl) (by rfl) (by rfl) (by omega) (fun _ => by rfl) (fun _ => by rfl) (fun _ _ => by rfl) (fun b hb _ => ?_) (fun _ => by rfl)).trans ?_
  · simp [-List.map_map, startC, ex, ev, evA, evT, evC, evI, sSeq, sIf, sSkip, Z.tAnd, Z.tOr, Z.tNot, isBl, tru, D.truth, eOp1, eOp2, eVar, eC, R.hold, R.look, oIx, Z.atI_at, cmpD, ofB, unD, eCB, looks, aCons, aNil, BI.dd, R.live, sAsg, sAsgF, storeR, R.fix, P.bind1, P.binds, setC, pin_fz, pin_dead, pin_ow, sAugIx, sSet, Z.ixN_at, augD, binD, ofI, cpowB, cmulB, cmodB, cdivB, sRet, sRetN, retR, outOf, sDrop, sFz, sAug, eLst, eTup, vals, eMth, MM.dd, eIf, eOr, eAnd, eNot, tres, eIsa, D.isa, oldVals, old_int, old_bl, old_non, old_enc, iLst, iTupD, iR1, iR2, iEnu, eSl, oPart, rng_up, oEq_int, oNe_int, T.isNil, T.alen, eCall, kills, noIo, dLi]
  · simp only [filter_yes]; rfl
theorem right_2 {n p : Int} {bs : List (List Int)} {c2 c3 c4 c5 c6 c7 c8 c11 : C} (hl : bs.length ≤ 5000) :
    ev Φ_13 l_law_right_2 [.fz (.int n), .fz (enc bs), c2, c3, c4, c5, c6, c7, c8, .fz (.int p), .dead, c11] = some ([.fz (.int n), .fz (enc bs), c2, c3, c4, c5, c6, c7, c8, .fz (.int p), .dead, c11], .tmp (dLi true (setOf bs p))) := by
  have hr : rOk (bs.length : Int) = true := decide_eq_true (by omega)
  have hlen := len_lls (f := false) (g := false) (bs := bs)
  rw [← enc_ls] at hlen
  refine (lc_pure (e := D.int) (ρ1 := [.fz (.int n), .fz (enc bs), c2, c3, c4, c5, c6, c7, c8, .fz (.int p), .dead, c11]) (up 0 bs.length) (fun i => decide (p ∈ bs[i.toNat]?.getD [])) (fun i => .val (.int i)) ?_ (by rfl) (by rfl) (by rfl) (by rfl) (by rw [up_len]; omega) (fun _ => by rfl) (fun _ => by rfl) (fun i hi => ?_) (fun _ _ _ => by rfl) (fun _ => by rfl)).trans rfl
  · simp [evI, iR1, evA, aCons, aNil, ev, eCB, eVar, R.hold, R.live, looks, R.look, hlen, hr, rng_up]
  · have := mem_up.mp hi
    have e1 := oIx_lls (f := false) (g := false) (bs := bs) (i := i) (by omega) (by omega)
    rw [← enc_ls] at e1
    simp [evC, isBl, eOp2, ev, eVar, R.hold, R.look, kills, e1, cmpD, in_at]
theorem right_3 {n : Int} {bs : List (List Int)} {c2 c3 c4 c5 c6 c7 c8 c11 : C} (hl : bs.length ≤ 5000) (h0 : 0 ≤ n) (h1 : n ≤ 12) :
    ev Φ_13 l_law_right_3 [.fz (.int n), .fz (enc bs), c2, c3, c4, c5, c6, c7, c8, .dead, .dead, c11] = some ([.fz (.int n), .fz (enc bs), c2, c3, c4, c5, c6, c7, c8, .dead, .dead, c11], .tmp (.lst true ((setsOf n bs).map (dLi true)))) := by
  have hr : rOk n = true := decide_eq_true (by omega)
  refine (lc_pure (e := D.int) (ρ1 := [.fz (.int n), .fz (enc bs), c2, c3, c4, c5, c6, c7, c8, .dead, .dead, c11]) (up 0 n.toNat) (fun _ => true) (fun p => .tmp (dLi true (setOf bs p))) (by simp [-List.map_map, startC, ex, ev, evA, evT, evC, evI, sSeq, sIf, sSkip, Z.tAnd, Z.tOr, Z.tNot, isBl, tru, D.truth, eOp1, eOp2, eVar, eC, R.hold, R.look, oIx, Z.atI_at, cmpD, ofB, unD, eCB, looks, aCons, aNil, BI.dd, R.live, sAsg, sAsgF, storeR, R.fix, P.bind1, P.binds, setC, pin_fz, pin_dead, pin_ow, sAugIx, sSet, Z.ixN_at, augD, binD, ofI, cpowB, cmulB, cmodB, cdivB, sRet, sRetN, retR, outOf, sDrop, sFz, sAug, eLst, eTup, vals, eMth, MM.dd, eIf, eOr, eAnd, eNot, tres, eIsa, D.isa, oldVals, old_int, old_bl, old_non, old_enc, iLst, iTupD, iR1, iR2, iEnu, eSl, oPart, rng_up, oEq_int, oNe_int, T.isNil, T.alen, eCall, kills, noIo, hr]) (by rfl) (by rfl) (by rfl) (by rfl) (by rw [up_len]; omega) (fun _ => by rfl) (fun _ => by rfl) (fun _ _ => by rfl) (fun p hp _ => right_2 hl) (fun _ => by rfl)).trans ?_
  simp only [filter_yes, setsOf, List.map_map]; rfl
theorem sets_at {n p : Int} {bs : List (List Int)} (h0 : 0 ≤ p) (h1 : p < n) : (setsOf n bs)[p.toNat]?.getD [] = setOf bs p := by
  have : p.toNat < n.toNat := by omega
  unfold setsOf
  rw [List.getElem?_map, up_get this, Option.map_some, Option.getD_some]
  congr 1; omega
theorem sets_len (n : Int) (bs : List (List Int)) : (setsOf n bs).length = n.toNat := by simp [setsOf, up_len]
theorem right_4 {n i : Int} {bs : List (List Int)} {b : List Int} {c2 c3 c5 c6 c7 c8 c11 : C} (h0 : 0 ≤ i) (hb : bs[i.toNat]? = some b) (hB : Bunch n b) (hn : 0 ≤ n) (hn1 : n ≤ 12) :
    ev Φ_13 l_law_right_4 [.pn (.int n), .pn (enc bs), c2, c3, .ow false (.lst true ((setsOf n bs).map (dLi true))), c5, c6, c7, c8, .dead, .fz (.int i), c11] = some ([.pn (.int n), .pn (enc bs), c2, c3, .ow false (.lst true ((setsOf n bs).map (dLi true))), c5, c6, c7, c8, .dead, .fz (.int i), c11], .tmp (dLi true b)) := by
  have hr : rOk n = true := decide_eq_true (by omega)
  refine (lc_pure (e := D.int) (ρ1 := [.pn (.int n), .pn (enc bs), c2, c3, .ow false (.lst true ((setsOf n bs).map (dLi true))), c5, c6, c7, c8, .dead, .fz (.int i), c11]) (up 0 n.toNat) (fun p => decide (i ∈ setOf bs p)) (fun p => .val (.int p)) (by simp [-List.map_map, startC, ex, ev, evA, evT, evC, evI, sSeq, sIf, sSkip, Z.tAnd, Z.tOr, Z.tNot, isBl, tru, D.truth, eOp1, eOp2, eVar, eC, R.hold, R.look, oIx, Z.atI_at, cmpD, ofB, unD, eCB, looks, aCons, aNil, BI.dd, R.live, sAsg, sAsgF, storeR, R.fix, P.bind1, P.binds, setC, pin_fz, pin_dead, pin_ow, sAugIx, sSet, Z.ixN_at, augD, binD, ofI, cpowB, cmulB, cmodB, cdivB, sRet, sRetN, retR, outOf, sDrop, sFz, sAug, eLst, eTup, vals, eMth, MM.dd, eIf, eOr, eAnd, eNot, tres, eIsa, D.isa, oldVals, old_int, old_bl, old_non, old_enc, iLst, iTupD, iR1, iR2, iEnu, eSl, oPart, rng_up, oEq_int, oNe_int, T.isNil, T.alen, eCall, kills, noIo, hr]) (by rfl) (by rfl) (by rfl) (by rfl) (by rw [up_len]; omega) (fun _ => by rfl) (fun _ => by rfl) (fun p hp => ?_) (fun _ _ _ => by rfl) (fun _ => by rfl)).trans ?_
  · have := mem_up.mp hp
    have e1 := oIx_lls (f := true) (g := true) (bs := setsOf n bs) (i := p) (by omega) (by rw [sets_len]; omega)
    rw [sets_at (by omega) (by omega)] at e1
    generalize D.lst true ((setsOf n bs).map (dLi true)) = S at *
    simp [evC, isBl, eOp2, ev, eVar, R.hold, R.look, kills, e1, cmpD, in_at]
  · rw [back_is h0 hb hB hn]; rfl
theorem right_5 {n : Int} {bs : List (List Int)} {c2 c3 c5 c6 c7 c8 c11 : C} (hl : bs.length ≤ 5000) (hB : ∀ b ∈ bs, Bunch n b) (hn : 0 ≤ n) (hn1 : n ≤ 12) :
    ev Φ_13 l_law_right_5 [.pn (.int n), .pn (enc bs), c2, c3, .ow false (.lst true ((setsOf n bs).map (dLi true))), c5, c6, c7, c8, .dead, .dead, c11] = some ([.pn (.int n), .pn (enc bs), c2, c3, .ow false (.lst true ((setsOf n bs).map (dLi true))), c5, c6, c7, c8, .dead, .dead, c11], .tmp (.lst true (bs.map (dLi true)))) := by
  have hr : rOk (bs.length : Int) = true := decide_eq_true (by omega)
  have hlen := len_lls (f := false) (g := false) (bs := bs)
  rw [← enc_ls] at hlen
  refine (lc_pure (e := D.int) (ρ1 := [.pn (.int n), .pn (enc bs), c2, c3, .ow false (.lst true ((setsOf n bs).map (dLi true))), c5, c6, c7, c8, .dead, .dead, c11]) (up 0 bs.length) (fun _ => true) (fun i => .tmp (dLi true (bs[i.toNat]?.getD []))) ?_ (by rfl) (by rfl) (by rfl) (by rfl) (by rw [up_len]; omega) (fun _ => by rfl) (fun _ => by rfl) (fun _ _ => by rfl) (fun i hi _ => ?_) (fun _ => by rfl)).trans ?_
  · simp [evI, iR1, evA, aCons, aNil, ev, eCB, eVar, R.hold, R.live, looks, R.look, hlen, hr, rng_up]
  · have := mem_up.mp hi
    have hlt : i.toNat < bs.length := by omega
    have e : bs[i.toNat]? = some bs[i.toNat] := List.getElem?_eq_getElem hlt
    rw [e, Option.getD_some]
    exact right_4 (by omega) e (hB _ (List.getElem_mem hlt)) hn hn1
  · simp only [filter_yes]
    have : (up 0 bs.length).map (fun i => dLi true (bs[i.toNat]?.getD [])) = bs.map (dLi true) := by
      refine List.ext_getElem? fun k => ?_
      by_cases hk : k < bs.length
      · simp [up, hk]
      · simp [up, hk]
    rw [this]; rfl
theorem right_6 {n i j : Int} {bs : List (List Int)} {c2 c3 c5 c6 c7 c9 : C} (hi : 0 ≤ i ∧ i < n) (hj : 0 ≤ j ∧ j < n) (hl : bs.length ≤ 5000) :
    ev Φ_13 l_law_right_6 [.pn (.int n), .pn (enc bs), c2, c3, .ow false (.lst true ((setsOf n bs).map (dLi true))), c5, c6, c7, .fz (.int i), c9, .dead, .fz (.int j)] = some ([.pn (.int n), .pn (enc bs), c2, c3, .ow false (.lst true ((setsOf n bs).map (dLi true))), c5, c6, c7, .fz (.int i), c9, .dead, .fz (.int j)], .tmp (dLi true ((setOf bs i).filter fun a => decide (a ∈ setOf bs j)))) := by
  have e1 := oIx_lls (f := true) (g := true) (bs := setsOf n bs) (i := i) (by omega) (by rw [sets_len]; omega)
  rw [sets_at (by omega) (by omega)] at e1
  have e2 := oIx_lls (f := true) (g := true) (bs := setsOf n bs) (i := j) (by omega) (by rw [sets_len]; omega)
  rw [sets_at (by omega) (by omega)] at e2
  generalize D.lst true ((setsOf n bs).map (dLi true)) = S at *
  have hsl := setOf_len bs i
  refine (lc_pure (e := D.int) (ρ1 := [.pn (.int n), .pn (enc bs), c2, c3, .ow false S, c5, c6, c7, .fz (.int i), c9, .dead, .fz (.int j)]) (setOf bs i) (fun a => decide (a ∈ setOf bs j)) (fun a => .val (.int a)) ?_ (by rfl) (by rfl) (by rfl) (by rfl) (by omega) (fun _ => by rfl) (fun _ => by rfl) (fun a ha => ?_) (fun _ _ _ => by rfl) (fun _ => by rfl)).trans rfl
  · simp [evI, iLst, ev, eOp2, eVar, R.hold, R.look, e1]; rfl
  · simp [evC, isBl, eOp2, ev, eVar, R.hold, R.look, kills, e2, cmpD, in_at]

theorem and_pair {f g : Bool} {a b : List (List Int)} : oNe (.lst f (a.map (dLi g))) (enc b) = some (.val (.bl (!decide (a = b)))) :=
  oNe_enc (lls_old f g a) (Enc.old b) (by decide) (by simp)
theorem right_in {n : Int} {bs : List (List Int)} {b : List Int} (hl : bs.length ≤ 5000) (hb : b ∈ bs) (hB : Bunch n b) (hn1 : n ≤ 12) {c2 c3 c5 c7 : C} {ρ : Ev} {rest : S} {Q : Ev → Out → Prop}
    (hρ : ∃ c8 c11 : C, c8.pin = false ∧ c11.pin = false ∧ ρ = [.pn (.int n), .pn (enc bs), c2, c3, .ow false (.lst true ((setsOf n bs).map (dLi true))), c5, .fz (dLi false b), c7, c8, .dead, .dead, c11])
    (q : ∀ c8 c11 : C, c8.pin = false → c11.pin = false → WS Φ_13 rest [.pn (.int n), .pn (enc bs), c2, c3, .ow false (.lst true ((setsOf n bs).map (dLi true))), c5, .fz (dLi false b), c7, c8, .dead, .dead, c11] Q) :
    WS Φ_13 (.seq (.for (.n 8) (.iL (.v 6)) (.seq (.for (.n 11) (.iL (.v 6)) (.seq (.ifs (.tcmp .Eq (.bi .len (.cons l_law_right_6 .nil)) (.cI 0)) (.seq (.ret (.cB false)) .skip) .skip) .skip)) .skip)) rest) ρ Q := by
  obtain ⟨c8, c11, h8, h11, rfl⟩ := hρ
  refine ws_for (fun _ ρ => ∃ c8 c11 : C, c8.pin = false ∧ c11.pin = false ∧ ρ = [.pn (.int n), .pn (enc bs), c2, c3, .ow false (.lst true ((setsOf n bs).map (dLi true))), c5, .fz (dLi false b), c7, c8, .dead, .dead, c11]) (items := b.map D.int) (ρ1 := [.pn (.int n), .pn (enc bs), c2, c3, .ow false (.lst true ((setsOf n bs).map (dLi true))), c5, .fz (dLi false b), c7, c8, .dead, .dead, c11]) (by rfl) ⟨_, _, h8, h11, rfl⟩ ?_ ?_
  · rintro k dd ρ hk ⟨c8, c11, h8, h11, rfl⟩
    obtain ⟨i, hi, rfl⟩ := map_at hk
    have hib := List.mem_of_getElem? hi
    refine ⟨_, by (simp [-List.map_map, startC, ex, ev, evA, evT, evC, evI, sSeq, sIf, sSkip, Z.tAnd, Z.tOr, Z.tNot, isBl, tru, D.truth, eOp1, eOp2, eVar, eC, R.hold, R.look, oIx, Z.atI_at, cmpD, ofB, unD, eCB, looks, aCons, aNil, BI.dd, R.live, sAsg, sAsgF, storeR, R.fix, P.bind1, P.binds, setC, pin_fz, pin_dead, pin_ow, sAugIx, sSet, Z.ixN_at, augD, binD, ofI, cpowB, cmulB, cmodB, cdivB, sRet, sRetN, retR, outOf, sDrop, sFz, sAug, eLst, eTup, vals, eMth, MM.dd, eIf, eOr, eAnd, eNot, tres, eIsa, D.isa, oldVals, old_int, old_bl, old_non, old_enc, iLst, iTupD, iR1, iR2, iEnu, eSl, oPart, rng_up, oEq_int, oNe_int, T.isNil, T.alen, eCall, kills, noIo, h8] <;> first | rfl | exact ⟨rfl, rfl⟩ | exact ⟨rfl, rfl, rfl⟩), ?_⟩
    refine ws_for (fun _ ρ => ∃ c11 : C, c11.pin = false ∧ ρ = [.pn (.int n), .pn (enc bs), c2, c3, .ow false (.lst true ((setsOf n bs).map (dLi true))), c5, .fz (dLi false b), c7, .fz (.int i), .dead, .dead, c11]) (items := b.map D.int) (ρ1 := [.pn (.int n), .pn (enc bs), c2, c3, .ow false (.lst true ((setsOf n bs).map (dLi true))), c5, .fz (dLi false b), c7, .fz (.int i), .dead, .dead, c11]) (by rfl) ⟨_, h11, rfl⟩ ?_ ?_
    · rintro k dd ρ hk ⟨c11, h11, rfl⟩
      obtain ⟨j, hj, rfl⟩ := map_at hk
      have hjb := List.mem_of_getElem? hj
      refine ⟨_, by (simp [-List.map_map, startC, ex, ev, evA, evT, evC, evI, sSeq, sIf, sSkip, Z.tAnd, Z.tOr, Z.tNot, isBl, tru, D.truth, eOp1, eOp2, eVar, eC, R.hold, R.look, oIx, Z.atI_at, cmpD, ofB, unD, eCB, looks, aCons, aNil, BI.dd, R.live, sAsg, sAsgF, storeR, R.fix, P.bind1, P.binds, setC, pin_fz, pin_dead, pin_ow, sAugIx, sSet, Z.ixN_at, augD, binD, ofI, cpowB, cmulB, cmodB, cdivB, sRet, sRetN, retR, outOf, sDrop, sFz, sAug, eLst, eTup, vals, eMth, MM.dd, eIf, eOr, eAnd, eNot, tres, eIsa, D.isa, oldVals, old_int, old_bl, old_non, old_enc, iLst, iTupD, iR1, iR2, iEnu, eSl, oPart, rng_up, oEq_int, oNe_int, T.isNil, T.alen, eCall, kills, noIo, h11] <;> first | rfl | exact ⟨rfl, rfl⟩ | exact ⟨rfl, rfl, rfl⟩), ?_⟩
      have e1 := right_6 (n := n) (i := i) (j := j) (bs := bs) (c2 := c2) (c3 := c3) (c5 := c5) (c6 := .fz (dLi false b)) (c7 := c7) (c9 := .dead) (hB.2 i hib) (hB.2 j hjb) hl
      have hpos : 0 < ((setOf bs i).filter fun a => decide (a ∈ setOf bs j)).length := by
        obtain ⟨m, hm⟩ := List.getElem?_of_mem hb
        have hml := (List.getElem?_eq_some_iff.mp hm).1
        refine List.length_pos_of_mem (a := (m : Int)) (List.mem_filter.mpr ⟨mem_setOf.mpr ⟨by omega, by omega, ?_⟩, decide_eq_true (mem_setOf.mpr ⟨by omega, by omega, ?_⟩)⟩)
        · rw [Int.toNat_natCast, hm]; exact hib
        · rw [Int.toNat_natCast, hm]; exact hjb
      have hlen := len_li (f := true) (b := (setOf bs i).filter fun a => decide (a ∈ setOf bs j))
      generalize hF : ((setOf bs i).filter fun a => decide (a ∈ setOf bs j)) = fl at *
      have hne : ¬ ((fl.length : Nat) : Int) = 0 := by omega
      generalize D.lst true ((setsOf n bs).map (dLi true)) = S at *
      generalize dLi true fl = dfl at *
      refine ws_ifF (ρ1 := [.pn (.int n), .pn (enc bs), c2, c3, .ow false S, c5, .fz (dLi false b), c7, .fz (.int i), .dead, .dead, .fz (.int j)]) ?_ (ws_skip ⟨.inl rfl, .fz (.int j), rfl, rfl⟩)
      have he := oEq_int (fl.length : Nat) 0
      rw [decide_eq_false hne] at he
      simp only [evT, isBl, eOp2, ev, evA, eCB, eC, aCons, aNil, R.hold, R.live, looks, R.look, List.set_cons_succ, List.set_cons_zero, e1, hlen, cmpD, he, if_true]
    · rintro ρ ⟨c11, h11, rfl⟩
      exact ws_skip ⟨.inl rfl, _, _, rfl, h11, rfl⟩
  · rintro ρ ⟨c8, c11, h8, h11, rfl⟩
    exact q c8 c11 h8 h11
theorem right_ok {n : Int} {bs : List (List Int)} (hw : WholesOk f_law_wholes.sem) (h1 : 1 ≤ n) (h2 : n ≤ 12) (hl : bs.length ≤ 5000) (hB : ∀ b ∈ bs, Bunch n b) : f_law_right.sem [.int n, enc bs] = some (.non, .val (.bl true)) := by
  rw [fs_law_right]
  have key : FnOk (runFn 12 2 false (ex Φ_13 t_law_right)) [.int n, enc bs] fun out r => out = .non ∧ r = .val (.bl true) := by
    have es := sets_of_ok n bs (by omega) (by omega) (by omega)
    have el := lists_same_ok (setsOf n bs) (by rw [sets_len]; omega) (fun x hx => by
      obtain ⟨p, _, rfl⟩ := List.mem_map.mp hx
      exact Nat.le_trans (setOf_len bs p) (by omega)) hw
    refine ws_fn rfl ?_
    simp only [t_law_right]
    refine ws_seq (ex_asgF (right_1 (c2 := .dead) (c3 := .dead) (c4 := .dead) (c5 := .dead) (c7 := .dead) (c8 := .dead) (c9 := .dead) (c10 := .dead) (c11 := .dead) hl) rfl rfl) ?_
    refine ws_seq (ex_asgF (right_3 (c4 := .dead) (c5 := .dead) (c6 := .dead) (c7 := .dead) (c8 := .dead) (c11 := .dead) hl (by omega) h2) rfl rfl) ?_
    refine ws_spl (ρa := [.pn (.int n), .pn (enc bs), .pn (enc bs), .pn (enc (setsOf n bs)), .dead, .dead, .dead, .dead, .dead, .dead, .dead, .dead]) rfl rfl ?_ ?_ ?_
    · simp [ageL, kills, ageC, lls_old, old_enc, old_int]
    · have eo := lls_old true true (setsOf n bs)
      have ho : oldVals [R.val (.int n), .val (enc bs)] = some [.int n, enc bs] := by simp [oldVals, old_int, old_enc]
      have eok : (D.lst true ((setsOf n bs).map (dLi true))).ok = true := ok_enc eo (by decide)
      have a1 : ex Φ_13 (.asg (.n 4) (.call i_sets_of (.cons (.v 0) (.cons (.v 2) .nil)))) [.pn (.int n), .pn (enc bs), .pn (enc bs), .pn (enc (setsOf n bs)), .dead, .dead, .dead, .dead, .dead, .dead, .dead, .dead] = some ([.pn (.int n), .pn (enc bs), .pn (enc bs), .pn (enc (setsOf n bs)), .ow false (.lst true ((setsOf n bs).map (dLi true))), .dead, .dead, .dead, .dead, .dead, .dead, .dead], .nx) := by
        simp [-List.map_map, startC, ex, ev, evA, evT, evC, evI, sSeq, sIf, sSkip, Z.tAnd, Z.tOr, Z.tNot, isBl, tru, D.truth, eOp1, eOp2, eVar, eC, R.hold, R.look, oIx, Z.atI_at, cmpD, ofB, unD, eCB, looks, aCons, aNil, BI.dd, R.live, sAsg, sAsgF, storeR, R.fix, P.bind1, P.binds, setC, pin_fz, pin_dead, pin_ow, sAugIx, sSet, Z.ixN_at, augD, binD, ofI, cpowB, cmulB, cmodB, cdivB, sRet, sRetN, retR, outOf, sDrop, sFz, sAug, eLst, eTup, vals, eMth, MM.dd, eIf, eOr, eAnd, eNot, tres, eIsa, D.isa, oldVals, old_int, old_bl, old_non, old_enc, iLst, iTupD, iR1, iR2, iEnu, eSl, oPart, rng_up, oEq_int, oNe_int, T.isNil, T.alen, eCall, kills, noIo, es]
      refine ws_seq a1 ?_
      refine ws_ifF (ρ1 := [.pn (.int n), .pn (enc bs), .pn (enc bs), .pn (enc (setsOf n bs)), .ow false (.lst true ((setsOf n bs).map (dLi true))), .dead, .dead, .dead, .dead, .dead, .dead, .dead]) ?_ ?_
      · have hne : oNe (enc bs) (enc bs) = some (.val (.bl false)) := oNe_enc (a := bs) (b := bs) (Enc.old bs) (Enc.old bs) (by decide) (by simp)
        generalize D.lst true ((setsOf n bs).map (dLi true)) = S at *
        simp [evT, Z.tOr, Z.tNot, tru, isBl, ev, evA, eCall, aCons, aNil, eOp2, eVar, R.hold, R.live, R.look, T.alen, oldVals, lent, eo, old_enc, el, D.flat, D.truth, cmpD, hne]
      have a3 := right_5 (n := n) (bs := bs) (c2 := .pn (enc bs)) (c3 := .pn (enc (setsOf n bs))) (c5 := .dead) (c6 := .dead) (c7 := .dead) (c8 := .dead) (c11 := .dead) hl hB (by omega) h2
      refine ws_seq (ex_asgF a3 rfl rfl) ?_
      refine ws_ifF (ρ1 := [.pn (.int n), .pn (enc bs), .pn (enc bs), .pn (enc (setsOf n bs)), .ow false (.lst true ((setsOf n bs).map (dLi true))), .fz (.lst true (bs.map (dLi true))), .dead, .dead, .dead, .dead, .dead, .dead]) ?_ ?_
      · have hne : oNe (.lst true (bs.map (dLi true))) (enc bs) = some (.val (.bl false)) := oNe_enc (a := bs) (b := bs) (lls_old _ _ _) (Enc.old bs) (by decide) (by simp)
        generalize D.lst true (bs.map (dLi true)) = S2 at *
        generalize D.lst true ((setsOf n bs).map (dLi true)) = S at *
        simp [evT, isBl, ev, eOp2, eVar, R.hold, R.look, cmpD, hne]
      refine ws_for (fun _ ρ => ∃ c6 c8 c11 : C, c6.pin = false ∧ c8.pin = false ∧ c11.pin = false ∧ ρ = [.pn (.int n), .pn (enc bs), .pn (enc bs), .pn (enc (setsOf n bs)), .ow false (.lst true ((setsOf n bs).map (dLi true))), .fz (.lst true (bs.map (dLi true))), c6, .dead, c8, .dead, .dead, c11]) (items := bs.map (dLi false)) (ρ1 := [.pn (.int n), .pn (enc bs), .pn (enc bs), .pn (enc (setsOf n bs)), .ow false (.lst true ((setsOf n bs).map (dLi true))), .fz (.lst true (bs.map (dLi true))), .dead, .dead, .dead, .dead, .dead, .dead]) (by rfl) ⟨_, _, _, rfl, rfl, rfl, rfl⟩ ?_ ?_
      · rintro k dd ρ hk ⟨c6, c8, c11, h6, h8, h11, rfl⟩
        obtain ⟨b, hb, rfl⟩ := map_at hk
        have hbb := List.mem_of_getElem? hb
        refine ⟨_, by (simp [-List.map_map, startC, ex, ev, evA, evT, evC, evI, sSeq, sIf, sSkip, Z.tAnd, Z.tOr, Z.tNot, isBl, tru, D.truth, eOp1, eOp2, eVar, eC, R.hold, R.look, oIx, Z.atI_at, cmpD, ofB, unD, eCB, looks, aCons, aNil, BI.dd, R.live, sAsg, sAsgF, storeR, R.fix, P.bind1, P.binds, setC, pin_fz, pin_dead, pin_ow, sAugIx, sSet, Z.ixN_at, augD, binD, ofI, cpowB, cmulB, cmodB, cdivB, sRet, sRetN, retR, outOf, sDrop, sFz, sAug, eLst, eTup, vals, eMth, MM.dd, eIf, eOr, eAnd, eNot, tres, eIsa, D.isa, oldVals, old_int, old_bl, old_non, old_enc, iLst, iTupD, iR1, iR2, iEnu, eSl, oPart, rng_up, oEq_int, oNe_int, T.isNil, T.alen, eCall, kills, noIo, h6] <;> first | rfl | exact ⟨rfl, rfl⟩ | exact ⟨rfl, rfl, rfl⟩), ?_⟩
        exact right_in hl hbb (hB b hbb) h2 ⟨c8, c11, h8, h11, rfl⟩ fun c8 c11 h8 h11 => ws_skip ⟨.inl rfl, _, _, _, rfl, h8, h11, rfl⟩
      · rintro ρ ⟨c6, c8, c11, h6, h8, h11, rfl⟩
        have hsl : ((setsOf n bs).map (dLi true)).length < 100000 := by rw [List.length_map, sets_len]; omega
        refine ws_seq (ρ1 := [.pn (.int n), .pn (enc bs), .pn (enc bs), .pn (enc (setsOf n bs)), .ow false (.lst true (((setsOf n bs) ++ [[]]).map (dLi true))), .fz (.lst true (bs.map (dLi true))), c6, .dead, c8, .dead, .dead, c11]) ?_ (ws_skip ⟨rfl, rfl, ?_⟩)
        · rw [List.map_append]
          generalize (setsOf n bs).map (dLi true) = S at *
          generalize D.lst true (bs.map (dLi true)) = S2 at *
          simp [ex, sDrop, ev, evA, eMth, eVar, aCons, aNil, eLst, vals, R.hold, R.live, MM.dd, hsl, dLi]
        · have hyy : ((setsOf n bs ++ [[]]).map (dLi true)).all youngL = true := by
            refine List.all_eq_true.mpr fun d hd => ?_
            obtain ⟨x, hx, rfl⟩ := List.mem_map.mp hd
            refine decide_eq_true ?_
            rw [List.length_map]
            rcases List.mem_append.mp hx with h | h
            · obtain ⟨p, _, rfl⟩ := List.mem_map.mp h
              exact Nat.le_trans (setOf_len bs p) (by omega)
            · rw [List.mem_singleton.mp h]; simp
          have hyl : ((setsOf n bs ++ [[]]).map (dLi true)).length ≤ 40000 := by rw [List.length_map, List.length_append, sets_len]; simp; omega
          generalize (setsOf n bs ++ [[]]).map (dLi true) = SS at *
          simp [spOk, T.isV, elOk, hyy, hyl]
    · have e1 : kills [C.fz (.int n), .fz (enc bs), .fz (.lst true (bs.map (dLi true))), .fz (.lst true ((setsOf n bs).map (dLi true))), .dead, .dead, .dead, .dead, .dead, .dead, .dead, .dead] [4, 5, 10, 9, 6, 8, 11, 7] = [C.fz (.int n), .fz (enc bs), .fz (.lst true (bs.map (dLi true))), .fz (.lst true ((setsOf n bs).map (dLi true))), .dead, .dead, .dead, .dead, .dead, .dead, .dead, .dead] := rfl
      show WS Φ_13 _ (kills [C.fz (.int n), .fz (enc bs), .fz (.lst true (bs.map (dLi true))), .fz (.lst true ((setsOf n bs).map (dLi true))), .dead, .dead, .dead, .dead, .dead, .dead, .dead, .dead] [4, 5, 10, 9, 6, 8, 11, 7]) _
      rw [e1]
      have heq : oEq (.lst true (bs.map (dLi true))) (enc bs) = some (.val (.bl true)) := oEq_enc (a := bs) (b := bs) (lls_old _ _ _) (Enc.old bs) (by decide) (by simp)
      have o1 := lls_old true true bs
      have o2 := lls_old true true (setsOf n bs)
      generalize D.lst true (bs.map (dLi true)) = S2 at *
      generalize D.lst true ((setsOf n bs).map (dLi true)) = S at *
      refine ws_ret (r := .val (.bl true)) (ρ1 := [C.fz (.int n), .fz (enc bs), .fz S2, .fz S, .dead, .dead, .dead, .dead, .dead, .dead, .dead, .dead]) ?_ ⟨_, .non, rfl, rfl, rfl, rfl⟩
      simp [ev, evA, eAnd, eCall, aCons, aNil, eVar, R.hold, R.live, T.alen, oldVals, old_int, old_enc, o1, o2, es, el, D.truth, eOp2, R.look, cmpD, heq]
  obtain ⟨out, r, e, rfl, rfl⟩ := key
  exact e

/-! the law -/
theorem fnok_of {sem : FS} {ds : List D} {r : R} (h : sem ds = some (.non, r)) : FnOk sem ds fun out r' => out = .non ∧ r' = r := ⟨_, _, h, rfl, rfl⟩
theorem has {Φ : List FnD} {i : Nat} {F : FnD} {io : Bool} {n : Nat} (h : Φ[i]? = some F) (h1 : F.io = io) (h2 : F.ps.length = n) : HasFn Φ i io n F.sem := ⟨F, h, h1, h2, rfl⟩
theorem p_draw : DrawOk f_law_draw.sem := draw_ok (Φ := Φ_2)
theorem p_whole : WholeOk f_law_whole.sem := whole_ok (Φ := Φ_3)
theorem p_wholes : WholesOk f_law_wholes.sem := wholes_ok (Φ := Φ_4) (i := i_law_whole) (has (F := f_law_whole) rfl rfl rfl) p_whole
theorem p_order : OrderOk f_law_order.sem := order_ok (Φ := Φ_5) (i := i_law_draw) (has (F := f_law_draw) rfl rfl rfl) p_draw
theorem p_pairs : PairsOk f_law_pairs.sem := by
  rw [fs_law_pairs]
  show PairsOk (runFn 4 1 false (ex Φ_6 ct_pairs))
  intro n hn
  exact pairs_ok (Φ := Φ_6) n hn
theorem p_renamed : RenamedOk f_law_renamed.sem := renamed_ok (Φ := Φ_7)
theorem p_joined : JoinedOk f_law_joined.sem := joined_ok (Φ := Φ_8)
theorem p_web : WebOk f_law_web.sem := web_ok (Φ := Φ_9) (i1 := i_law_draw) (i2 := i_law_order) (i3 := i_law_pairs) (i4 := i_law_renamed) (has (F := f_law_draw) rfl rfl rfl) p_draw (has (F := f_law_order) rfl rfl rfl) p_order (has (F := f_law_pairs) rfl rfl rfl) p_pairs (has (F := f_law_renamed) rfl rfl rfl) p_renamed
def AtLaw (ns : List Int) (ρ : Ev) : Prop := ∃ (d : D) (c2 c3 c4 c5 : C), ρ = [.fz (.scr ns), .ow false d, c2, c3, c4, c5, .dead] ∧ isFeed d ∧ c2.pin = false ∧ c3.pin = false ∧ c4.pin = false ∧ c5.pin = false
theorem law_1 {ns : List Int} {d : D} {c2 c5 : C} {n : Int} {ps : List (Int × Int)} (hf : isFeed d) (h1 : 1 ≤ n) (h2 : n ≤ 12) : ∃ (d' : D) (bs : List (List Int)), ev Φ_14 l_law_1 [.fz (.scr ns), .ow false d, c2, .fz (.int n), .fz (.lst true (ps.map dPair)), c5, .dead] = some ([.fz (.scr ns), .ow false d', c2, .fz (.int n), .fz (.lst true (ps.map dPair)), c5, .dead], .tmp (.lst true (bs.map (dLi true)))) ∧ isFeed d' ∧ (∀ b ∈ bs, Bunch n b) ∧ bs.length ≤ 20 := by
  obtain ⟨d1, k, u1, u2, u3, u4⟩ := p_draw.at hf (m := 13) (by omega) (by omega)
  have hr : rOk k = true := decide_eq_true (by omega)
  have hps := ps_old true ps
  generalize D.lst true (ps.map dPair) = dps at *
  obtain ⟨κ, ys, g1, ⟨d', hκ, hf'⟩, g3, g4⟩ := ev_lcI (Φ := Φ_14) (own := [("k", 6)]) (p := .n 6) (it := .iR1 (.cons (.call i_law_draw (.cons (.v 1) (.cons (.cI 13) .nil))) .nil)) (c := .nil) (t := .call i_law_drawn (.cons (.v 1) (.cons (.v 3) (.cons (.v 4) .nil)))) (ρ := [.fz (.scr ns), .ow false d, c2, .fz (.int n), .fz dps, c5, .dead]) (ρ1 := [.fz (.scr ns), .ow false d1, c2, .fz (.int n), .fz dps, c5, .dead]) (items := (up 0 k.toNat).map D.int)
    (fun κ => ∃ d', κ = [.fz (.scr ns), .ow false d', c2, .fz (.int n), .fz dps, c5, .dead] ∧ isFeed d') (fun y => ∃ b, y = dLi true b ∧ Bunch n b) (by simp [-List.map_map, startC, ex, ev, evA, evT, evC, evI, sSeq, sIf, sSkip, Z.tAnd, Z.tOr, Z.tNot, isBl, tru, D.truth, eOp1, eOp2, eVar, eC, R.hold, R.look, oIx, Z.atI_at, cmpD, ofB, unD, eCB, looks, aCons, aNil, BI.dd, R.live, sAsg, sAsgF, storeR, R.fix, P.bind1, P.binds, setC, pin_fz, pin_dead, pin_ow, sAugIx, sSet, Z.ixN_at, augD, binD, ofI, cpowB, cmulB, cmodB, cdivB, sRet, sRetN, retR, outOf, sDrop, sFz, sAug, eLst, eTup, vals, eMth, MM.dd, eIf, eOr, eAnd, eNot, tres, eIsa, D.isa, oldVals, old_int, old_bl, old_non, old_enc, iLst, iTupD, iR1, iR2, iEnu, eSl, oPart, rng_up, oEq_int, oNe_int, T.isNil, T.alen, eCall, kills, noIo, u1, hr]) rfl rfl rfl (by rw [List.length_map, up_len]; omega) ⟨d1, rfl, u2⟩ (fun x hx κ ⟨d', hκ, hf'⟩ => by
      subst hκ
      obtain ⟨i, hi, rfl⟩ := List.mem_map.mp hx
      obtain ⟨d2, r, w1, w2, b, rfl, w3⟩ := drawn_ok (ties := ps) p_draw p_joined hf' h1 (by omega)
      exact ⟨_, _, rfl, .inr ⟨rfl, [.fz (.scr ns), .ow false d2, c2, .fz (.int n), .fz dps, c5, .fz (.int i)], .tmp (dLi true b), _, by simp [-List.map_map, startC, ex, ev, evA, evT, evC, evI, sSeq, sIf, sSkip, Z.tAnd, Z.tOr, Z.tNot, isBl, tru, D.truth, eOp1, eOp2, eVar, eC, R.hold, R.look, oIx, Z.atI_at, cmpD, ofB, unD, eCB, looks, aCons, aNil, BI.dd, R.live, sAsg, sAsgF, storeR, R.fix, P.bind1, P.binds, setC, pin_fz, pin_dead, pin_ow, sAugIx, sSet, Z.ixN_at, augD, binD, ofI, cpowB, cmulB, cmodB, cdivB, sRet, sRetN, retR, outOf, sDrop, sFz, sAug, eLst, eTup, vals, eMth, MM.dd, eIf, eOr, eAnd, eNot, tres, eIsa, D.isa, oldVals, old_int, old_bl, old_non, old_enc, iLst, iTupD, iR1, iR2, iEnu, eSl, oPart, rng_up, oEq_int, oNe_int, T.isNil, T.alen, eCall, kills, noIo, hps, w1], rfl, ⟨b, rfl, w3⟩, d2, rfl, w2⟩⟩)
  subst hκ
  obtain ⟨bs, rfl, hB⟩ := all_map g3
  rw [List.length_map, List.length_map, up_len] at g4
  exact ⟨d', bs, g1, hf', hB, by omega⟩
theorem law_ok (ns : List Int) : f_law.sem [.scr ns] = some (.non, .val (.bl true)) := by
  rw [fs_law]
  have key : FnOk (runFn 7 1 false (ex Φ_14 t_law)) [.scr ns] fun out r => out = .non ∧ r = .val (.bl true) := by
    refine ws_fn rfl ?_
    simp only [t_law]
    obtain ⟨d, e0, f0⟩ := feed_ok (Φ := Φ_1) ns
    have e0' : f_law_feed.sem [.scr ns] = some (.non, .tmp d) := e0
    have os : (D.scr ns).old = .scr ns := rfl
    refine ws_seq (ρ1 := [.fz (.scr ns), .ow false d, .dead, .dead, .dead, .dead, .dead]) (by simp [-List.map_map, startC, ex, ev, evA, evT, evC, evI, sSeq, sIf, sSkip, Z.tAnd, Z.tOr, Z.tNot, isBl, tru, D.truth, eOp1, eOp2, eVar, eC, R.hold, R.look, oIx, Z.atI_at, cmpD, ofB, unD, eCB, looks, aCons, aNil, BI.dd, R.live, sAsg, sAsgF, storeR, R.fix, P.bind1, P.binds, setC, pin_fz, pin_dead, pin_ow, sAugIx, sSet, Z.ixN_at, augD, binD, ofI, cpowB, cmulB, cmodB, cdivB, sRet, sRetN, retR, outOf, sDrop, sFz, sAug, eLst, eTup, vals, eMth, MM.dd, eIf, eOr, eAnd, eNot, tres, eIsa, D.isa, oldVals, old_int, old_bl, old_non, old_enc, iLst, iTupD, iR1, iR2, iEnu, eSl, oPart, rng_up, oEq_int, oNe_int, T.isNil, T.alen, eCall, kills, noIo, os, e0']) ?_
    refine ws_for (fun _ ρ => AtLaw ns ρ) (items := (up 0 3).map D.int) (ρ1 := [.fz (.scr ns), .ow false d, .dead, .dead, .dead, .dead, .dead]) (by simp [-List.map_map, startC, ex, ev, evA, evT, evC, evI, sSeq, sIf, sSkip, Z.tAnd, Z.tOr, Z.tNot, isBl, tru, D.truth, eOp1, eOp2, eVar, eC, R.hold, R.look, oIx, Z.atI_at, cmpD, ofB, unD, eCB, looks, aCons, aNil, BI.dd, R.live, sAsg, sAsgF, storeR, R.fix, P.bind1, P.binds, setC, pin_fz, pin_dead, pin_ow, sAugIx, sSet, Z.ixN_at, augD, binD, ofI, cpowB, cmulB, cmodB, cdivB, sRet, sRetN, retR, outOf, sDrop, sFz, sAug, eLst, eTup, vals, eMth, MM.dd, eIf, eOr, eAnd, eNot, tres, eIsa, D.isa, oldVals, old_int, old_bl, old_non, old_enc, iLst, iTupD, iR1, iR2, iEnu, eSl, oPart, rng_up, oEq_int, oNe_int, T.isNil, T.alen, eCall, kills, noIo, rOk]) ⟨d, _, _, _, _, rfl, f0, rfl, rfl, rfl, rfl⟩ ?_ ?_
    · rintro k dd ρ hk ⟨d, c2, c3, c4, c5, rfl, hf, h2, h3, h4, h5⟩
      obtain ⟨x, hx, rfl⟩ := map_at hk
      refine ⟨_, by (simp [-List.map_map, startC, ex, ev, evA, evT, evC, evI, sSeq, sIf, sSkip, Z.tAnd, Z.tOr, Z.tNot, isBl, tru, D.truth, eOp1, eOp2, eVar, eC, R.hold, R.look, oIx, Z.atI_at, cmpD, ofB, unD, eCB, looks, aCons, aNil, BI.dd, R.live, sAsg, sAsgF, storeR, R.fix, P.bind1, P.binds, setC, pin_fz, pin_dead, pin_ow, sAugIx, sSet, Z.ixN_at, augD, binD, ofI, cpowB, cmulB, cmodB, cdivB, sRet, sRetN, retR, outOf, sDrop, sFz, sAug, eLst, eTup, vals, eMth, MM.dd, eIf, eOr, eAnd, eNot, tres, eIsa, D.isa, oldVals, old_int, old_bl, old_non, old_enc, iLst, iTupD, iR1, iR2, iEnu, eSl, oPart, rng_up, oEq_int, oNe_int, T.isNil, T.alen, eCall, kills, noIo, h2] <;> first | rfl | exact ⟨rfl, rfl⟩ | exact ⟨rfl, rfl, rfl⟩), ?_⟩
      obtain ⟨d1, m, u1, u2, u3, u4⟩ := p_draw.at hf (m := 12) (by omega) (by omega)
      refine ws_seq (ρ1 := [.fz (.scr ns), .ow false d1, .fz (.int x), .fz (.int (1 + m)), c4, c5, .dead]) (by simp [-List.map_map, startC, ex, ev, evA, evT, evC, evI, sSeq, sIf, sSkip, Z.tAnd, Z.tOr, Z.tNot, isBl, tru, D.truth, eOp1, eOp2, eVar, eC, R.hold, R.look, oIx, Z.atI_at, cmpD, ofB, unD, eCB, looks, aCons, aNil, BI.dd, R.live, sAsg, sAsgF, storeR, R.fix, P.bind1, P.binds, setC, pin_fz, pin_dead, pin_ow, sAugIx, sSet, Z.ixN_at, augD, binD, ofI, cpowB, cmulB, cmodB, cdivB, sRet, sRetN, retR, outOf, sDrop, sFz, sAug, eLst, eTup, vals, eMth, MM.dd, eIf, eOr, eAnd, eNot, tres, eIsa, D.isa, oldVals, old_int, old_bl, old_non, old_enc, iLst, iTupD, iR1, iR2, iEnu, eSl, oPart, rng_up, oEq_int, oNe_int, T.isNil, T.alen, eCall, kills, noIo, u1, h3]) ?_
      obtain ⟨n, rfl⟩ : ∃ n, m = n - 1 := ⟨m + 1, by omega⟩
      have hn : 1 + (n - 1) = n := by omega
      rw [hn]
      obtain ⟨d2, r, v1, v2, ps, rfl, v3⟩ := p_web d1 n u2 (by omega) (by omega)
      refine ws_seq (ρ1 := [.fz (.scr ns), .ow false d2, .fz (.int x), .fz (.int n), .fz (.lst true (ps.map dPair)), c5, .dead]) (by simp [-List.map_map, startC, ex, ev, evA, evT, evC, evI, sSeq, sIf, sSkip, Z.tAnd, Z.tOr, Z.tNot, isBl, tru, D.truth, eOp1, eOp2, eVar, eC, R.hold, R.look, oIx, Z.atI_at, cmpD, ofB, unD, eCB, looks, aCons, aNil, BI.dd, R.live, sAsg, sAsgF, storeR, R.fix, P.bind1, P.binds, setC, pin_fz, pin_dead, pin_ow, sAugIx, sSet, Z.ixN_at, augD, binD, ofI, cpowB, cmulB, cmodB, cdivB, sRet, sRetN, retR, outOf, sDrop, sFz, sAug, eLst, eTup, vals, eMth, MM.dd, eIf, eOr, eAnd, eNot, tres, eIsa, D.isa, oldVals, old_int, old_bl, old_non, old_enc, iLst, iTupD, iR1, iR2, iEnu, eSl, oPart, rng_up, oEq_int, oNe_int, T.isNil, T.alen, eCall, kills, noIo, v1, h4]) ?_
      obtain ⟨d3, bs, w1, w2, w3, w4⟩ := law_1 (ns := ns) (c2 := .fz (.int x)) (c5 := c5) (n := n) (ps := ps) v2 (by omega) (by omega)
      refine ws_seq (ex_asgF (ρ2 := [.fz (.scr ns), .ow false d3, .fz (.int x), .fz (.int n), .fz (.lst true (ps.map dPair)), .fz (.lst true (bs.map (dLi true))), .dead]) w1 rfl (by simp [P.bind1, setC, h5])) ?_
      have hps := ps_old true ps
      generalize D.lst true (ps.map dPair) = dps at *
      -- one more, or not
      have s4 : ∃ ρ', ex Φ_14 (.ifs (.tand (.tcmp .Gt (.bi .len (.cons (.v 5) .nil)) (.cI 0)) (.tone (.tcmp .Eq (.call i_law_draw (.cons (.v 1) (.cons (.cI 3) .nil))) (.cI 0)))) (.seq (.asgF (.n 5) (.bin .Add (.v 5) (.lst (.cons (.bi .list (.cons (.ix (.v 5) (.call i_law_draw (.cons (.v 1) (.cons (.bi .len (.cons (.v 5) .nil)) .nil)))) .nil)) .nil)))) .skip) .skip) [.fz (.scr ns), .ow false d3, .fz (.int x), .fz (.int n), .fz dps, .fz (.lst true (bs.map (dLi true))), .dead] = some (ρ', .nx) ∧ ∃ (d4 : D) (bs' : List (List Int)), ρ' = [.fz (.scr ns), .ow false d4, .fz (.int x), .fz (.int n), .fz dps, .fz (.lst true (bs'.map (dLi true))), .dead] ∧ isFeed d4 ∧ (∀ b ∈ bs', Bunch n b) ∧ bs'.length ≤ 30 := by
        have hlen := len_lls (f := true) (g := true) (bs := bs)
        by_cases hz : 0 < bs.length
        · obtain ⟨d4, k4, x1, x2, x3, x4⟩ := p_draw.at w2 (m := 3) (by omega) (by omega)
          by_cases hk4 : k4 = 0
          · subst hk4
            obtain ⟨d5, k5, y1, y2, y3, y4⟩ := p_draw.at x2 (m := (bs.length : Nat)) (by omega) (by omega)
            have hk5 : k5.toNat < bs.length := by omega
            have ei := oIx_lls (f := true) (g := true) (bs := bs) (i := k5) y3 y4
            rw [List.getElem?_eq_getElem hk5, Option.getD_some] at ei
            have hb : (bs.map (dLi true)).length + [dLi true bs[k5.toNat]].length ≤ 100000 := by simp; omega
            have ec := oCat_ok (f := true) (g := true) hb
            have el : BI.list.dd [dLi true bs[k5.toNat]] = some (.tmp (dLi true bs[k5.toNat])) := rfl
            refine ⟨_, ?_, d5, bs ++ [bs[k5.toNat]], rfl, y2, fun b hb => ?_, by rw [List.length_append]; simp; omega⟩
            · have hgt : 0 < ((bs.length : Nat) : Int) := by omega
              rw [List.map_append]
              rw [List.map_singleton]
              generalize hBB : bs.map (dLi true) = BB at *
              generalize dLi true bs[k5.toNat] = db at *
              simp [-List.map_map, startC, ex, ev, evA, evT, evC, evI, sSeq, sIf, sSkip, Z.tAnd, Z.tOr, Z.tNot, isBl, tru, D.truth, eOp1, eOp2, eVar, eC, R.hold, R.look, Z.atI_at, cmpD, ofB, unD, eCB, looks, aCons, aNil, R.live, sAsg, sAsgF, storeR, R.fix, P.bind1, P.binds, setC, pin_fz, pin_dead, pin_ow, sAugIx, sSet, Z.ixN_at, augD, binD, ofI, cpowB, cmulB, cmodB, cdivB, sRet, sRetN, retR, outOf, sDrop, sFz, sAug, eLst, eTup, vals, eMth, MM.dd, eIf, eOr, eAnd, eNot, tres, eIsa, D.isa, oldVals, old_int, old_bl, old_non, old_enc, iLst, iTupD, iR1, iR2, iEnu, eSl, oPart, rng_up, oEq_int, oNe_int, T.isNil, T.alen, eCall, kills, noIo, hlen, hz, x1, y1, ei, el, ec]
            · rcases List.mem_append.mp hb with h | h
              · exact w3 b h
              · rw [List.mem_singleton.mp h]; exact w3 _ (List.getElem_mem hk5)
          · refine ⟨_, ?_, d4, bs, rfl, x2, w3, by omega⟩
            generalize hBB : bs.map (dLi true) = BB at *
            simp [-List.map_map, startC, ex, ev, evA, evT, evC, evI, sSeq, sIf, sSkip, Z.tAnd, Z.tOr, Z.tNot, isBl, tru, D.truth, eOp1, eOp2, eVar, eC, R.hold, R.look, Z.atI_at, cmpD, ofB, unD, eCB, looks, aCons, aNil, R.live, sAsg, sAsgF, storeR, R.fix, P.bind1, P.binds, setC, pin_fz, pin_dead, pin_ow, sAugIx, sSet, Z.ixN_at, augD, binD, ofI, cpowB, cmulB, cmodB, cdivB, sRet, sRetN, retR, outOf, sDrop, sFz, sAug, eLst, eTup, vals, eMth, MM.dd, eIf, eOr, eAnd, eNot, tres, eIsa, D.isa, oldVals, old_int, old_bl, old_non, old_enc, iLst, iTupD, iR1, iR2, iEnu, eSl, oPart, rng_up, oEq_int, oNe_int, T.isNil, T.alen, eCall, kills, noIo, hlen, hz, x1, hk4]
        · refine ⟨_, ?_, d3, bs, rfl, w2, w3, by omega⟩
          generalize hBB : bs.map (dLi true) = BB at *
          simp [-List.map_map, startC, ex, ev, evA, evT, evC, evI, sSeq, sIf, sSkip, Z.tAnd, Z.tOr, Z.tNot, isBl, tru, D.truth, eOp1, eOp2, eVar, eC, R.hold, R.look, Z.atI_at, cmpD, ofB, unD, eCB, looks, aCons, aNil, R.live, sAsg, sAsgF, storeR, R.fix, P.bind1, P.binds, setC, pin_fz, pin_dead, pin_ow, sAugIx, sSet, Z.ixN_at, augD, binD, ofI, cpowB, cmulB, cmodB, cdivB, sRet, sRetN, retR, outOf, sDrop, sFz, sAug, eLst, eTup, vals, eMth, MM.dd, eIf, eOr, eAnd, eNot, tres, eIsa, D.isa, oldVals, old_int, old_bl, old_non, old_enc, iLst, iTupD, iR1, iR2, iEnu, eSl, oPart, rng_up, oEq_int, oNe_int, T.isNil, T.alen, eCall, kills, noIo, hlen, hz]
      obtain ⟨ρ', e4, d4, bs', rfl, f4, hB4, hl4⟩ := s4
      refine ws_seq e4 ?_
      obtain ⟨_, r, b1, L, rfl, b2, b3⟩ := bunches_ok (ties := ps) p_joined (n := n) (by omega) (by omega)
      have r1 := right_ok (bs := bs') p_wholes (n := n) (by omega) (by omega) (by omega) hB4
      have r2 := right_ok (bs := L) p_wholes (n := n) (by omega) (by omega) (by omega) b3
      have o1 := lls_old true true bs'
      have o2 := lls_old true true L
      refine ws_ifF (ρ1 := [.fz (.scr ns), .ow false d4, .fz (.int x), .fz (.int n), .fz dps, .fz (.lst true (bs'.map (dLi true))), .dead]) ?_ (ws_skip ⟨.inl rfl, d4, _, _, _, _, rfl, f4, rfl, rfl, rfl, rfl⟩)
      generalize D.lst true (bs'.map (dLi true)) = S1 at *
      generalize D.lst true (L.map (dLi true)) = S2 at *
      simp [-List.map_map, startC, ex, ev, evA, evT, evC, evI, sSeq, sIf, sSkip, Z.tAnd, Z.tOr, Z.tNot, isBl, tru, D.truth, eOp1, eOp2, eVar, eC, R.hold, R.look, Z.atI_at, cmpD, ofB, unD, eCB, looks, aCons, aNil, R.live, sAsg, sAsgF, storeR, R.fix, P.bind1, P.binds, setC, pin_fz, pin_dead, pin_ow, sAugIx, sSet, Z.ixN_at, augD, binD, ofI, cpowB, cmulB, cmodB, cdivB, sRet, sRetN, retR, outOf, sDrop, sFz, sAug, eLst, eTup, vals, eMth, MM.dd, eIf, eOr, eAnd, eNot, tres, eIsa, D.isa, oldVals, old_int, old_bl, old_non, old_enc, iLst, iTupD, iR1, iR2, iEnu, eSl, oPart, rng_up, oEq_int, oNe_int, T.isNil, T.alen, eCall, kills, noIo, o1, o2, hps, r1, r2, b1]
    · rintro ρ ⟨d, c2, c3, c4, c5, rfl, hf, h2, h3, h4, h5⟩
      have t0 := sets_of_ok 0 [] (by decide) (by decide) (by decide)
      have t2 := sets_of_ok 2 [] (by decide) (by decide) (by decide)
      have t3 := sets_of_ok 3 [[0, 1], [1, 2], [1]] (by decide) (by decide) (by decide)
      have o0 : (D.lst true []).old = enc ([] : List (List Int)) := rfl
      have o3 : (D.lst true [D.lst true [D.int 0, D.int 1], D.lst true [D.int 1, D.int 2], D.lst true [D.int 1]]).old = enc ([[0, 1], [1, 2], [1]] : List (List Int)) := rfl
      have n0 : oNe (.lst true ((setsOf 0 []).map (dLi true))) (.lst true []) = some (.val (.bl false)) := oNe_enc (a := setsOf 0 []) (b := []) (lls_old _ _ _) rfl (by decide) (by decide)
      have n2 : oNe (.lst true ((setsOf 2 []).map (dLi true))) (.lst true [.lst true [], .lst true []]) = some (.val (.bl false)) := oNe_enc (a := setsOf 2 []) (b := [[], []]) (lls_old _ _ _) rfl (by decide) (by decide)
      have n3 : oEq (.lst true ((setsOf 3 [[0, 1], [1, 2], [1]]).map (dLi true))) (.lst true [.lst true [.int 0], .lst true [.int 0, .int 1, .int 2], .lst true [.int 1]]) = some (.val (.bl true)) := oEq_enc (a := setsOf 3 [[0, 1], [1, 2], [1]]) (b := [[0], [0, 1, 2], [1]]) (lls_old _ _ _) rfl (by decide) (by decide)
      generalize D.lst true ((setsOf 0 []).map (dLi true)) = S0 at *
      generalize D.lst true ((setsOf 2 []).map (dLi true)) = S2 at *
      generalize D.lst true ((setsOf 3 [[0, 1], [1, 2], [1]]).map (dLi true)) = S3 at *
      refine ws_ifF (ρ1 := [.fz (.scr ns), .ow false d, c2, c3, c4, c5, .dead]) (by simp [-List.map_map, startC, ex, ev, evA, evT, evC, evI, sSeq, sIf, sSkip, Z.tAnd, Z.tOr, Z.tNot, isBl, tru, D.truth, eOp1, eOp2, eVar, eC, R.hold, R.look, Z.atI_at, cmpD, ofB, unD, eCB, looks, aCons, aNil, R.live, sAsg, sAsgF, storeR, R.fix, P.bind1, P.binds, setC, pin_fz, pin_dead, pin_ow, sAugIx, sSet, Z.ixN_at, augD, binD, ofI, cpowB, cmulB, cmodB, cdivB, sRet, sRetN, retR, outOf, sDrop, sFz, sAug, eLst, eTup, vals, eMth, MM.dd, eIf, eOr, eAnd, eNot, tres, eIsa, D.isa, oldVals, old_int, old_bl, old_non, old_enc, iLst, iTupD, iR1, iR2, iEnu, eSl, oPart, rng_up, oEq_int, oNe_int, T.isNil, T.alen, eCall, kills, noIo, o0, t0, t2, n0, n2]) ?_
      exact ws_ret (r := .val (.bl true)) (ρ1 := [.fz (.scr ns), .ow false d, c2, c3, c4, c5, .dead]) (by simp [-List.map_map, startC, ex, ev, evA, evT, evC, evI, sSeq, sIf, sSkip, Z.tAnd, Z.tOr, Z.tNot, isBl, tru, D.truth, eOp1, eOp2, eVar, eC, R.hold, R.look, Z.atI_at, cmpD, ofB, unD, eCB, looks, aCons, aNil, R.live, sAsg, sAsgF, storeR, R.fix, P.bind1, P.binds, setC, pin_fz, pin_dead, pin_ow, sAugIx, sSet, Z.ixN_at, augD, binD, ofI, cpowB, cmulB, cmodB, cdivB, sRet, sRetN, retR, outOf, sDrop, sFz, sAug, eLst, eTup, vals, eMth, MM.dd, eIf, eOr, eAnd, eNot, tres, eIsa, D.isa, oldVals, old_int, old_bl, old_non, old_enc, iLst, iTupD, iR1, iR2, iEnu, eSl, oPart, rng_up, oEq_int, oNe_int, T.isNil, T.alen, eCall, kills, noIo, o3, t3, n3]) ⟨_, .non, rfl, rfl, rfl, rfl⟩
  obtain ⟨out, r, e, rfl, rfl⟩ := key
  exact e
end K45

namespace K45
open PySem L2 PySem.Spec PyProof.Rows Z
/-! the end -/
section
variable {Pr : Program} {w : World} {K : PySem.W.Frag} {mg : PySem.Str → Option Value} {base : Heap}
theorem allIn (hbt : ∀ x, x ∈ bnames → mg x = none) (A0 : DefAt K mg "sets_of" (topS 1) p_sets_of) (A1 : DefAt K mg "_law_feed" (topS 3) p_law_feed) (A2 : DefAt K mg "_law_draw" (topS 4) p_law_draw) (A3 : DefAt K mg "_law_whole" (topS 5) p_law_whole) (A4 : DefAt K mg "_law_wholes" (topS 6) p_law_wholes) (A5 : DefAt K mg "_law_order" (topS 7) p_law_order) (A6 : DefAt K mg "_law_pairs" (topS 8) p_law_pairs) (A7 : DefAt K mg "_law_renamed" (topS 9) p_law_renamed) (A8 : DefAt K mg "_law_joined" (topS 10) p_law_joined) (A9 : DefAt K mg "_law_web" (topS 11) p_law_web) (A10 : DefAt K mg "_law_bunches" (topS 12) p_law_bunches) (A11 : DefAt K mg "_law_lists_same" (topS 13) p_law_lists_same) (A12 : DefAt K mg "_law_drawn" (topS 14) p_law_drawn) (A13 : DefAt K mg "_law_right" (topS 15) p_law_right) : ∀ (i : Nat) (F : FnD), Φ_14[i]? = some F → FnIn Pr w K mg base 14 F := by
  have F0 : FnIn Pr w K mg base 1 f_sets_of := fn_in (k := 0) A0 ok_sets_of (by decide) (fun i F h => by
    match i, h with
    | _ + 0, h => simp [Φ_0] at h) hbt
  have F1 : FnIn Pr w K mg base 2 f_law_feed := fn_in (k := 1) A1 ok_law_feed (by decide) (fun i F h => by
    match i, h with
    | 0, h => cases h; exact F0.mono (by decide)
    | _ + 1, h => simp [Φ_1] at h) hbt
  have F2 : FnIn Pr w K mg base 3 f_law_draw := fn_in (k := 2) A2 ok_law_draw (by decide) (fun i F h => by
    match i, h with
    | 0, h => cases h; exact F0.mono (by decide)
    | 1, h => cases h; exact F1.mono (by decide)
    | _ + 2, h => simp [Φ_2] at h) hbt
  have F3 : FnIn Pr w K mg base 4 f_law_whole := fn_in (k := 3) A3 ok_law_whole (by decide) (fun i F h => by
    match i, h with
    | 0, h => cases h; exact F0.mono (by decide)
    | 1, h => cases h; exact F1.mono (by decide)
    | 2, h => cases h; exact F2.mono (by decide)
    | _ + 3, h => simp [Φ_3] at h) hbt
  have F4 : FnIn Pr w K mg base 5 f_law_wholes := fn_in (k := 4) A4 ok_law_wholes (by decide) (fun i F h => by
    match i, h with
    | 0, h => cases h; exact F0.mono (by decide)
    | 1, h => cases h; exact F1.mono (by decide)
    | 2, h => cases h; exact F2.mono (by decide)
    | 3, h => cases h; exact F3.mono (by decide)
    | _ + 4, h => simp [Φ_4] at h) hbt
  have F5 : FnIn Pr w K mg base 6 f_law_order := fn_in (k := 5) A5 ok_law_order (by decide) (fun i F h => by
    match i, h with
    | 0, h => cases h; exact F0.mono (by decide)
    | 1, h => cases h; exact F1.mono (by decide)
    | 2, h => cases h; exact F2.mono (by decide)
    | 3, h => cases h; exact F3.mono (by decide)
    | 4, h => cases h; exact F4.mono (by decide)
    | _ + 5, h => simp [Φ_5] at h) hbt
  have F6 : FnIn Pr w K mg base 7 f_law_pairs := fn_in (k := 6) A6 ok_law_pairs (by decide) (fun i F h => by
    match i, h with
    | 0, h => cases h; exact F0.mono (by decide)
    | 1, h => cases h; exact F1.mono (by decide)
    | 2, h => cases h; exact F2.mono (by decide)
    | 3, h => cases h; exact F3.mono (by decide)
    | 4, h => cases h; exact F4.mono (by decide)
    | 5, h => cases h; exact F5.mono (by decide)
    | _ + 6, h => simp [Φ_6] at h) hbt
  have F7 : FnIn Pr w K mg base 8 f_law_renamed := fn_in (k := 7) A7 ok_law_renamed (by decide) (fun i F h => by
    match i, h with
    | 0, h => cases h; exact F0.mono (by decide)
    | 1, h => cases h; exact F1.mono (by decide)
    | 2, h => cases h; exact F2.mono (by decide)
    | 3, h => cases h; exact F3.mono (by decide)
    | 4, h => cases h; exact F4.mono (by decide)
    | 5, h => cases h; exact F5.mono (by decide)
    | 6, h => cases h; exact F6.mono (by decide)
    | _ + 7, h => simp [Φ_7] at h) hbt
  have F8 : FnIn Pr w K mg base 9 f_law_joined := fn_in (k := 8) A8 ok_law_joined (by decide) (fun i F h => by
    match i, h with
    | 0, h => cases h; exact F0.mono (by decide)
    | 1, h => cases h; exact F1.mono (by decide)
    | 2, h => cases h; exact F2.mono (by decide)
    | 3, h => cases h; exact F3.mono (by decide)
    | 4, h => cases h; exact F4.mono (by decide)
    | 5, h => cases h; exact F5.mono (by decide)
    | 6, h => cases h; exact F6.mono (by decide)
    | 7, h => cases h; exact F7.mono (by decide)
    | _ + 8, h => simp [Φ_8] at h) hbt
  have F9 : FnIn Pr w K mg base 10 f_law_web := fn_in (k := 9) A9 ok_law_web (by decide) (fun i F h => by
    match i, h with
    | 0, h => cases h; exact F0.mono (by decide)
    | 1, h => cases h; exact F1.mono (by decide)
    | 2, h => cases h; exact F2.mono (by decide)
    | 3, h => cases h; exact F3.mono (by decide)
    | 4, h => cases h; exact F4.mono (by decide)
    | 5, h => cases h; exact F5.mono (by decide)
    | 6, h => cases h; exact F6.mono (by decide)
    | 7, h => cases h; exact F7.mono (by decide)
    | 8, h => cases h; exact F8.mono (by decide)
    | _ + 9, h => simp [Φ_9] at h) hbt
  have F10 : FnIn Pr w K mg base 11 f_law_bunches := fn_in (k := 10) A10 ok_law_bunches (by decide) (fun i F h => by
    match i, h with
    | 0, h => cases h; exact F0.mono (by decide)
    | 1, h => cases h; exact F1.mono (by decide)
    | 2, h => cases h; exact F2.mono (by decide)
    | 3, h => cases h; exact F3.mono (by decide)
    | 4, h => cases h; exact F4.mono (by decide)
    | 5, h => cases h; exact F5.mono (by decide)
    | 6, h => cases h; exact F6.mono (by decide)
    | 7, h => cases h; exact F7.mono (by decide)
    | 8, h => cases h; exact F8.mono (by decide)
    | 9, h => cases h; exact F9.mono (by decide)
    | _ + 10, h => simp [Φ_10] at h) hbt
  have F11 : FnIn Pr w K mg base 12 f_law_lists_same := fn_in (k := 11) A11 ok_law_lists_same (by decide) (fun i F h => by
    match i, h with
    | 0, h => cases h; exact F0.mono (by decide)
    | 1, h => cases h; exact F1.mono (by decide)
    | 2, h => cases h; exact F2.mono (by decide)
    | 3, h => cases h; exact F3.mono (by decide)
    | 4, h => cases h; exact F4.mono (by decide)
    | 5, h => cases h; exact F5.mono (by decide)
    | 6, h => cases h; exact F6.mono (by decide)
    | 7, h => cases h; exact F7.mono (by decide)
    | 8, h => cases h; exact F8.mono (by decide)
    | 9, h => cases h; exact F9.mono (by decide)
    | 10, h => cases h; exact F10.mono (by decide)
    | _ + 11, h => simp [Φ_11] at h) hbt
  have F12 : FnIn Pr w K mg base 13 f_law_drawn := fn_in (k := 12) A12 ok_law_drawn (by decide) (fun i F h => by
    match i, h with
    | 0, h => cases h; exact F0.mono (by decide)
    | 1, h => cases h; exact F1.mono (by decide)
    | 2, h => cases h; exact F2.mono (by decide)
    | 3, h => cases h; exact F3.mono (by decide)
    | 4, h => cases h; exact F4.mono (by decide)
    | 5, h => cases h; exact F5.mono (by decide)
    | 6, h => cases h; exact F6.mono (by decide)
    | 7, h => cases h; exact F7.mono (by decide)
    | 8, h => cases h; exact F8.mono (by decide)
    | 9, h => cases h; exact F9.mono (by decide)
    | 10, h => cases h; exact F10.mono (by decide)
    | 11, h => cases h; exact F11.mono (by decide)
    | _ + 12, h => simp [Φ_12] at h) hbt
  have F13 : FnIn Pr w K mg base 14 f_law_right := fn_in (k := 13) A13 ok_law_right (by decide) (fun i F h => by
    match i, h with
    | 0, h => cases h; exact F0.mono (by decide)
    | 1, h => cases h; exact F1.mono (by decide)
    | 2, h => cases h; exact F2.mono (by decide)
    | 3, h => cases h; exact F3.mono (by decide)
    | 4, h => cases h; exact F4.mono (by decide)
    | 5, h => cases h; exact F5.mono (by decide)
    | 6, h => cases h; exact F6.mono (by decide)
    | 7, h => cases h; exact F7.mono (by decide)
    | 8, h => cases h; exact F8.mono (by decide)
    | 9, h => cases h; exact F9.mono (by decide)
    | 10, h => cases h; exact F10.mono (by decide)
    | 11, h => cases h; exact F11.mono (by decide)
    | 12, h => cases h; exact F12.mono (by decide)
    | _ + 13, h => simp [Φ_13] at h) hbt
  intro i F h
  match i, h with
  | 0, h => cases h; exact F0.mono (by decide)
  | 1, h => cases h; exact F1.mono (by decide)
  | 2, h => cases h; exact F2.mono (by decide)
  | 3, h => cases h; exact F3.mono (by decide)
  | 4, h => cases h; exact F4.mono (by decide)
  | 5, h => cases h; exact F5.mono (by decide)
  | 6, h => cases h; exact F6.mono (by decide)
  | 7, h => cases h; exact F7.mono (by decide)
  | 8, h => cases h; exact F8.mono (by decide)
  | 9, h => cases h; exact F9.mono (by decide)
  | 10, h => cases h; exact F10.mono (by decide)
  | 11, h => cases h; exact F11.mono (by decide)
  | 12, h => cases h; exact F12.mono (by decide)
  | 13, h => cases h; exact F13.mono (by decide)
  | _ + 14, h => simp [Φ_14] at h
theorem all_mk {l : PySem.W.OpenLaw} {h : Heap} {fa : Addr} (X : K.In h) (G : h.Ns mainGlobals mg) (hfa : mg "law" = some (.ref fa)) (hbt : ∀ x, x ∈ bnames → mg x = none) (A0 : DefAt K mg "sets_of" (topS 1) p_sets_of) (A1 : DefAt K mg "_law_feed" (topS 3) p_law_feed) (A2 : DefAt K mg "_law_draw" (topS 4) p_law_draw) (A3 : DefAt K mg "_law_whole" (topS 5) p_law_whole) (A4 : DefAt K mg "_law_wholes" (topS 6) p_law_wholes) (A5 : DefAt K mg "_law_order" (topS 7) p_law_order) (A6 : DefAt K mg "_law_pairs" (topS 8) p_law_pairs) (A7 : DefAt K mg "_law_renamed" (topS 9) p_law_renamed) (A8 : DefAt K mg "_law_joined" (topS 10) p_law_joined) (A9 : DefAt K mg "_law_web" (topS 11) p_law_web) (A10 : DefAt K mg "_law_bunches" (topS 12) p_law_bunches) (A11 : DefAt K mg "_law_lists_same" (topS 13) p_law_lists_same) (A12 : DefAt K mg "_law_drawn" (topS 14) p_law_drawn) (A13 : DefAt K mg "_law_right" (topS 15) p_law_right) (AL : DefAt K mg "law" (topS 16) p_law) :
    ∃ fd : FuncData, (∀ (s : Shared) (v : Value), BindsTo s fd ⟨[v], []⟩ [("script", v)]) ∧ ∀ base : Heap, K.In base → base.Ns mainGlobals mg → FnOk l.prog w K mg base CX0 15 fa fd ["script"] (spOf K 1 false f_law.sem) := by
  obtain ⟨f, fd, F, hm, hb⟩ := AL.ex
  have e := hfa.symm.trans hm
  cases e
  obtain ⟨oc, od, kV, doc, pm, an, cdv, ct, osl, rfl, lk, hcd⟩ := F.ex
  exact ⟨_, fun s v => .of_eq rfl, fun base _ _ => fn_ok F ok_law (by decide) (allIn hbt A0 A1 A2 A3 A4 A5 A6 A7 A8 A9 A10 A11 A12 A13) hbt⟩
end
end K45
open PySem PySem.W PyProof.Rows
set_option maxHeartbeats 0 in
theorem PySem.Challenge.cw_tiesasplaces_k45_sets_of_bunches_holds : PySem.Challenge.rw_tiesasplaces_k45_sets_of_bunches.Holds := by
  w_on; o_law; k_head; (case hw => w_witness2)
  k_fill
  refine L2.walk_of (l := PySem.Challenge.rw_tiesasplaces_k45_sets_of_bunches) (n := 63) (k := 15) (x := "script") (CX := fun _ => L2.CX0) (sp := fun w => Z.spOf _ 1 false K45.f_law.sem) rfl (by decide) rfl ⟨rfl, by decide, by decide⟩ (fun w h Y => PySem.W.kIn_of Y) ?F (fun _ H a ns hl _ hS => Z.law_end hS (K45.law_ok ns)) (fun _ _ _ _ _ h => h)
  case F =>
    intro w mg fa h KX G hmg
    refine' K45.all_mk KX G hmg ?z (Z.def_at KX G ?a0 ?l0 ?c0 ?k0 fun _ _ _ _ _ _ us hl => match us, hl with | [_, _], _ => rfl) (Z.def_at KX G ?a1 ?l1 ?c1 ?k1 fun _ _ _ _ _ _ us hl => match us, hl with | [_], _ => rfl) (Z.def_at KX G ?a2 ?l2 ?c2 ?k2 fun _ _ _ _ _ _ us hl => match us, hl with | [_, _], _ => rfl) (Z.def_at KX G ?a3 ?l3 ?c3 ?k3 fun _ _ _ _ _ _ us hl => match us, hl with | [_], _ => rfl) (Z.def_at KX G ?a4 ?l4 ?c4 ?k4 fun _ _ _ _ _ _ us hl => match us, hl with | [_, _], _ => rfl) (Z.def_at KX G ?a5 ?l5 ?c5 ?k5 fun _ _ _ _ _ _ us hl => match us, hl with | [_, _], _ => rfl) (Z.def_at KX G ?a6 ?l6 ?c6 ?k6 fun _ _ _ _ _ _ us hl => match us, hl with | [_], _ => rfl) (Z.def_at KX G ?a7 ?l7 ?c7 ?k7 fun _ _ _ _ _ _ us hl => match us, hl with | [_, _], _ => rfl) (Z.def_at KX G ?a8 ?l8 ?c8 ?k8 fun _ _ _ _ _ _ us hl => match us, hl with | [_, _, _], _ => rfl) (Z.def_at KX G ?a9 ?l9 ?c9 ?k9 fun _ _ _ _ _ _ us hl => match us, hl with | [_, _], _ => rfl) (Z.def_at KX G ?a10 ?l10 ?c10 ?k10 fun _ _ _ _ _ _ us hl => match us, hl with | [_, _], _ => rfl) (Z.def_at KX G ?a11 ?l11 ?c11 ?k11 fun _ _ _ _ _ _ us hl => match us, hl with | [_, _], _ => rfl) (Z.def_at KX G ?a12 ?l12 ?c12 ?k12 fun _ _ _ _ _ _ us hl => match us, hl with | [_, _, _], _ => rfl) (Z.def_at KX G ?a13 ?l13 ?c13 ?k13 fun _ _ _ _ _ _ us hl => match us, hl with | [_, _], _ => rfl) (Z.def_at KX G ?a14 ?l14 ?c14 ?k14 fun _ _ _ _ _ _ us hl => match us, hl with | [_], _ => rfl)
    (case a0 => k_is); (case l0 => k_is); (case c0 => k_is); (case k0 => k_is)
    (case a1 => k_is); (case l1 => k_is); (case c1 => k_is); (case k1 => k_is)
    (case a2 => k_is); (case l2 => k_is); (case c2 => k_is); (case k2 => k_is)
    (case a3 => k_is); (case l3 => k_is); (case c3 => k_is); (case k3 => k_is)
    (case a4 => k_is); (case l4 => k_is); (case c4 => k_is); (case k4 => k_is)
    (case a5 => k_is); (case l5 => k_is); (case c5 => k_is); (case k5 => k_is)
    (case a6 => k_is); (case l6 => k_is); (case c6 => k_is); (case k6 => k_is)
    (case a7 => k_is); (case l7 => k_is); (case c7 => k_is); (case k7 => k_is)
    (case a8 => k_is); (case l8 => k_is); (case c8 => k_is); (case k8 => k_is)
    (case a9 => k_is); (case l9 => k_is); (case c9 => k_is); (case k9 => k_is)
    (case a10 => k_is); (case l10 => k_is); (case c10 => k_is); (case k10 => k_is)
    (case a11 => k_is); (case l11 => k_is); (case c11 => k_is); (case k11 => k_is)
    (case a12 => k_is); (case l12 => k_is); (case c12 => k_is); (case k12 => k_is)
    (case a13 => k_is); (case l13 => k_is); (case c13 => k_is); (case k13 => k_is)
    (case a14 => k_is); (case l14 => k_is); (case c14 => k_is); (case k14 => k_is)
    case z =>
      refine Z.none_all ⟨PySem.W.mg_none_of KX G ?_, PySem.W.mg_none_of KX G ?_, PySem.W.mg_none_of KX G ?_, PySem.W.mg_none_of KX G ?_, PySem.W.mg_none_of KX G ?_, PySem.W.mg_none_of KX G ?_, PySem.W.mg_none_of KX G ?_, PySem.W.mg_none_of KX G ?_, PySem.W.mg_none_of KX G ?_, PySem.W.mg_none_of KX G ?_, PySem.W.mg_none_of KX G ?_, PySem.W.mg_none_of KX G ?_, PySem.W.mg_none_of KX G ?_, PySem.W.mg_none_of KX G ?_, PySem.W.mg_none_of KX G ?_, PySem.W.mg_none_of KX G ?_⟩
      all_goals k_is
