import PyProof.Rows.All
import Wide.All
import OpenK.AllK
import Wide.FinOn
import KE.KStateDown
import HandS.ClsMeth
import HandS.Defaults
import HandS.ExcInit
import HandS.FStr
import HandS.ForExc
import HandS.ForMost
import HandS.IsInst
import HandS.Lambda
import HandS.More
import HandS.Rev
import HandS.SetFor
import HandS.SetTxt0
import HandS.Star
import HandS.Walk
import HandS.Wide
import HandS.Zip
import KE.GoesMore
import KE.KExcIs
import KE.KExcSuper
import PyProof.P3Eq
import PyProof.Rows.SortStr
import PySem.Challenge.RW_laidstops_k05_lines_marks_and_sizes
set_option Elab.async false
set_option linter.all false
set_option maxRecDepth 100000
set_option maxHeartbeats 4000000
/-! ### data trees, the frozen part of the heap, a state of slots and cells -/
namespace DL
open PySem PySem.Spec PyProof.Rows L2
abbrev LSt := L2.St

inductive D where
  | non | bl (b : Bool) | int (i : Int) | str (x : Str) | tup (l : List D) | lst (l : List D) | dct (ks : List Key) (vs : List D) | ref (n : Nat) | scr
  | fn (k : Nat) (ps : Arguments) (b : Expr) (sc : Scope) | exc (c : Str) (ks : List Str) (vs : List D) | ins (c : Str) (ks : List Str) (vs : List D)

/-- F: what stands still; th: the cells; cs: the captured names of the frame whose lambdas are told -/
structure Wd where
  F : Hp
  th : List Addr
  cs : List (Str × Addr)
def Wd.le (w w' : Wd) : Prop := Same w.F w'.F ∧ ∃ l, w'.th = w.th ++ l ∧ w'.cs = w.cs
theorem Wd.le.refl (w : Wd) : w.le w := ⟨Same.refl _, [], (List.append_nil _).symm, rfl⟩
theorem Wd.le.trans {a b c : Wd} (h : a.le b) (k : b.le c) : a.le c := by
  obtain ⟨h1, l1, e1, c1⟩ := h
  obtain ⟨h2, l2, e2, c2⟩ := k
  exact ⟨h1.trans h2, l1 ++ l2, by rw [e2, e1, List.append_assoc], c2.trans c1⟩
/-- a lambda of the frame with the captured names cs stands at f; its code object at c' -/
def LamO (q : Str) (ps : Arguments) (b : Expr) (sc : Scope) (cs : List (Str × Addr)) (c' f : Addr) : HO := .ext fun h => ∃ (dV pm ctv : Value), h.get? f = some ({ cls := .type "function", data := .func { (PySem.W.kla_fn "<lambda>" q ps b sc (cloFrom cs sc.names []) pm (.ref c') ctv) with defaults := dV } } : Obj)

theorem same_rd {H H' : Hp} (e : Same H H') {a : Addr} {u : HO} (h : Rd H a u) : Rd H' a u := by
  rcases h with h | ⟨o, h⟩
  · exact .inl (e _ _ h)
  · exact .inr ⟨o, e _ _ h⟩
theorem same_l {K : PySem.W.Frag} {H H' : Hp} (e : Same H H') {a : Addr} {xs : List V} (h : SqL K H a xs) : SqL K H' a xs := h.imp (same_rd e) id
theorem same_t {K : PySem.W.Frag} {H H' : Hp} (e : Same H H') {a : Addr} {xs : List V} (h : SqT K H a xs) : SqT K H' a xs := h.imp (same_rd e) id

section
variable (K : PySem.W.Frag) (w : Wd)
mutual
def Rep : D → V → Prop
  | .non, v => v = .non
  | .bl b, v => v = .bl b
  | .int i, v => v = .int i
  | .str x, v => v = .str x
  | .tup ds, v => ∃ a vs, v = .ref a ∧ SqT K w.F a vs ∧ Reps ds vs
  | .lst ds, v => ∃ a vs, v = .ref a ∧ w.F a = some (.lst vs) ∧ Reps ds vs
  | .dct ks ds, v => ∃ a vs, v = .ref a ∧ w.F a = some (.dK (ks.zip vs)) ∧ ks.length = vs.length ∧ Reps ds vs
  | .ref n, v => ∃ a, v = .ref a ∧ w.th[n]? = some a
  | .scr, v => ∃ (a : Addr) (ns : List Int), v = .ref a ∧ SqL K w.F a (ns.map V.int) ∧ ns.length ≤ 63
  | .fn _ ps b sc, v => ∃ (f c' : Addr) (q : Str), v = .ref f ∧ w.F f = some (LamO q ps b sc w.cs c' f) ∧ w.F c' = some (LamX.CodeO c' q)
  | .exc c ks ds, v => ∃ (a C dx : Addr) (vs : List V), v = .ref a ∧ PySem.W.nsIn K mainGlobals c = some (some (.ref C)) ∧ w.F a = some (exo a C (some dx)) ∧ w.F dx = some (exd dx (ks.zip vs)) ∧ ks.length = vs.length ∧ Reps ds vs
  | .ins c ks ds, v => ∃ (a C dx : Addr) (vs : List V), v = .ref a ∧ PySem.W.nsIn K mainGlobals c = some (some (.ref C)) ∧ w.F a = some (.ins C dx (ks.zip vs)) ∧ w.F dx = some (.own a) ∧ ks.length = vs.length ∧ Reps ds vs
def Reps : List D → List V → Prop
  | [], vs => vs = []
  | d :: ds, vs => ∃ v vs', vs = v :: vs' ∧ Rep d v ∧ Reps ds vs'
end
end
section
variable {K : PySem.W.Frag} {w w' : Wd}
theorem th_mono {n : Nat} {a : Addr} (h : w.le w') (e : w.th[n]? = some a) : w'.th[n]? = some a := by
  obtain ⟨_, l, q, _⟩ := h
  rw [q, List.getElem?_append_left (List.getElem?_eq_some_iff.mp e).1]
  exact e
mutual
theorem Rep.mono (h : w.le w') : ∀ {d : D} {v : V}, Rep K w d v → Rep K w' d v
  | .non, _, r => r
  | .bl _, _, r => r
  | .int _, _, r => r
  | .str _, _, r => r
  | .tup ds, v, r => by
    simp only [Rep] at r ⊢
    obtain ⟨a, vs, e, q, z⟩ := r
    exact ⟨a, vs, e, same_t h.1 q, Reps.mono h z⟩
  | .lst ds, v, r => by
    simp only [Rep] at r ⊢
    obtain ⟨a, vs, e, q, z⟩ := r
    exact ⟨a, vs, e, h.1 _ _ q, Reps.mono h z⟩
  | .dct ks ds, v, r => by
    simp only [Rep] at r ⊢
    obtain ⟨a, vs, e, q, l, z⟩ := r
    exact ⟨a, vs, e, h.1 _ _ q, l, Reps.mono h z⟩
  | .scr, v, r => by
    simp only [Rep] at r ⊢
    obtain ⟨a, ns, e, q, z⟩ := r
    exact ⟨a, ns, e, same_l h.1 q, z⟩
  | .ref n, v, r => by
    simp only [Rep] at r ⊢
    obtain ⟨a, e, q⟩ := r
    exact ⟨a, e, th_mono h q⟩
  | .fn _ ps b sc, v, r => by
    simp only [Rep] at r ⊢
    obtain ⟨f, c', q, e, q1, q2⟩ := r
    obtain ⟨hF, _, _, hc⟩ := h
    exact ⟨f, c', q, e, by rw [hc]; exact hF _ _ q1, hF _ _ q2⟩
  | .exc c ks ds, v, r => by
    simp only [Rep] at r ⊢
    obtain ⟨a, C, dx, vs, e, n, q1, q2, l, z⟩ := r
    exact ⟨a, C, dx, vs, e, n, h.1 _ _ q1, h.1 _ _ q2, l, Reps.mono h z⟩
  | .ins c ks ds, v, r => by
    simp only [Rep] at r ⊢
    obtain ⟨a, C, dx, vs, e, n, q1, q2, l, z⟩ := r
    exact ⟨a, C, dx, vs, e, n, h.1 _ _ q1, h.1 _ _ q2, l, Reps.mono h z⟩
theorem Reps.mono (h : w.le w') : ∀ {ds : List D} {vs : List V}, Reps K w ds vs → Reps K w' ds vs
  | [], _, r => r
  | d :: ds, vs, r => by
    simp only [Reps] at r ⊢
    obtain ⟨v, vs', e, q, z⟩ := r
    exact ⟨v, vs', e, Rep.mono h q, Reps.mono h z⟩
end
theorem Reps.length : ∀ {ds : List D} {vs : List V}, Reps K w ds vs → vs.length = ds.length
  | [], vs, r => by simp only [Reps] at r; rw [r]; rfl
  | d :: ds, vs, r => by
    simp only [Reps] at r
    obtain ⟨v, vs', e, _, z⟩ := r
    rw [e, List.length_cons, List.length_cons, Reps.length z]
theorem Reps.get : ∀ {ds : List D} {vs : List V} {i : Nat} {v : V}, Reps K w ds vs → vs[i]? = some v → ∃ d, ds[i]? = some d ∧ Rep K w d v
  | [], vs, i, v, r, e => by simp only [Reps] at r; rw [r] at e; simp at e
  | d :: ds, vs, i, v, r, e => by
    simp only [Reps] at r
    obtain ⟨v', vs', e', q, z⟩ := r
    subst e'
    cases i with
    | zero => simp at e; subst e; exact ⟨d, rfl, q⟩
    | succ i => simp at e; obtain ⟨d', h1, h2⟩ := Reps.get z e; exact ⟨d', by simpa using h1, h2⟩
theorem Reps.getD : ∀ {ds : List D} {vs : List V} {i : Nat} {d : D}, Reps K w ds vs → ds[i]? = some d → ∃ v, vs[i]? = some v ∧ Rep K w d v
  | [], vs, i, v, r, e => by simp at e
  | d :: ds, vs, i, v, r, e => by
    simp only [Reps] at r
    obtain ⟨v', vs', e', q, z⟩ := r
    subst e'
    cases i with
    | zero => simp at e; subst e; exact ⟨v', rfl, q⟩
    | succ i => simp at e; obtain ⟨d', h1, h2⟩ := Reps.getD z e; exact ⟨d', by simpa using h1, h2⟩
theorem Reps.append : ∀ {ds es : List D} {vs us : List V}, Reps K w ds vs → Reps K w es us → Reps K w (ds ++ es) (vs ++ us)
  | [], _, vs, _, r, q => by simp only [Reps] at r; subst r; exact q
  | d :: ds, es, vs, us, r, q => by
    simp only [Reps] at r
    obtain ⟨v, vs', e, q', z⟩ := r
    subst e
    show Reps K w (d :: (ds ++ es)) (v :: (vs' ++ us))
    simp only [Reps]
    exact ⟨v, _, rfl, q', Reps.append z q⟩
theorem Reps.one {d : D} {v : V} (r : Rep K w d v) : Reps K w [d] [v] := by simp only [Reps]; exact ⟨v, [], rfl, r, rfl⟩
theorem Reps.nil : Reps K w [] [] := by simp only [Reps]
theorem Reps.cons {d : D} {v : V} {ds : List D} {vs : List V} (r : Rep K w d v) (q : Reps K w ds vs) : Reps K w (d :: ds) (v :: vs) := by simp only [Reps]; exact ⟨v, vs, rfl, r, q⟩
theorem Reps.take : ∀ (n : Nat) {ds : List D} {vs : List V}, Reps K w ds vs → Reps K w (ds.take n) (vs.take n)
  | 0, _, _, _ => by simp only [List.take_zero]; exact .nil
  | _ + 1, [], vs, r => by simp only [Reps] at r; subst r; exact .nil
  | n + 1, d :: ds, vs, r => by
    simp only [Reps] at r
    obtain ⟨v, vs', e, q', z⟩ := r
    subst e
    exact .cons q' (Reps.take n z)
theorem Reps.drop : ∀ (n : Nat) {ds : List D} {vs : List V}, Reps K w ds vs → Reps K w (ds.drop n) (vs.drop n)
  | 0, _, _, r => r
  | _ + 1, [], vs, r => by simp only [Reps] at r; subst r; exact .nil
  | n + 1, d :: ds, vs, r => by
    simp only [Reps] at r
    obtain ⟨v, vs', e, q', z⟩ := r
    subst e
    exact Reps.drop n z
end

/-- what stands in a cell: the law's bag; a list that is changed -/
inductive SO where
  | bag
  | cel (l : List D)
  | tab (q : Str)
  | obj (c : Str) (ks : List Str) (vs : List D)
  | dic (ks : List Key) (vs : List D)

/-- an exception: its class's name, its fields -/
structure Ex where
  cls : Str
  fs : List (Str × D)

structure S where
  d : List (Option (D × Bool))
  m : List SO

def bagOk (i j k l : Int) : Prop := 0 ≤ i ∧ 0 ≤ j ∧ 0 ≤ k ∧ k < 2147483549

def ObjRel (K : PySem.W.Frag) (w : Wd) (H : Hp) (a : Addr) : SO → Prop
  | .bag => ∃ (b : Addr) (ns : List Int) (i j k l : Int), H a = some (.lst [.ref b, .int i, .int j, .int k, .int l]) ∧ w.F b = some (.lst (ns.map V.int)) ∧ bagOk i j k l
  | .cel ds => ∃ vs, H a = some (.lst vs) ∧ Reps K w ds vs
  | .tab q => ∃ ps : Array Value, H a = some (.tbl ps) ∧ TriplesOk ps.toList ∧ ∀ (pos : Pos) (cv : Value), codeAmong pos ps.toList = some cv → ∃ c, cv = .ref c ∧ w.F c = some (LamX.CodeO c q)
  | .obj c ks ds => ∃ (C dx : Addr) (vs : List V), PySem.W.nsIn K mainGlobals c = some (some (.ref C)) ∧ w.F dx = some (.own a) ∧ H a = some (.ins C dx (ks.zip vs)) ∧ ks.length = vs.length ∧ Reps K w ds vs
  | .dic ks ds => ∃ vs, H a = some (.dK (ks.zip vs)) ∧ ks.length = vs.length ∧ Reps K w ds vs

structure StRel (K : PySem.W.Frag) (w : Wd) (m : List SO) (H : Hp) : Prop where
  len : w.th.length = m.length
  nd : w.th.Nodup
  out : ∀ a ∈ w.th, w.F a = none
  ob : ∀ (n : Nat) (o : SO) (a : Addr), m[n]? = some o → w.th[n]? = some a → ObjRel K w H a o

/-- the entry of a def: what was frozen, the cells, the heap; what an exception is -/
structure Ent where
  w : Wd
  H : Hp
  X : Wd → Ex → Value → Option Addr → Hp → Prop

def Own (K : PySem.W.Frag) (w : Wd) : D → HO → Prop
  | .lst ds, o => ∃ vs, o = .lst vs ∧ Reps K w ds vs
  | .dct ks ds, o => ∃ vs, o = .dK (ks.zip vs) ∧ ks.length = vs.length ∧ Reps K w ds vs
  | _, _ => False
theorem Own.mono {K : PySem.W.Frag} {w w' : Wd} (h : w.le w') {d : D} {o : HO} (q : Own K w d o) : Own K w' d o := by
  cases d <;> simp only [Own] at q ⊢
  · obtain ⟨vs, e, r⟩ := q; exact ⟨vs, e, r.mono h⟩
  · obtain ⟨vs, e, l, r⟩ := q; exact ⟨vs, e, l, r.mono h⟩

structure BRel (K : PySem.W.Frag) (B : Ent) (w : Wd) (s : S) (σ : LSt) (H : Hp) : Prop where
  sub : Same w.F H
  st : StRel K w s.m H
  len : σ.length = s.d.length
  val : ∀ (i : Nat) (d : D), s.d[i]? = some (some (d, false)) → ∃ v, σ[i]? = some (some v) ∧ Rep K w d v
  own : ∀ (i : Nat) (d : D), s.d[i]? = some (some (d, true)) → ∃ a o, σ[i]? = some (some (.ref a)) ∧ H a = some o ∧ Own K w d o ∧ w.F a = none ∧ a ∉ w.th ∧ B.H a = none
  sep : ∀ (i j : Nat) (a : Addr) (d e : D), i ≠ j → s.d[i]? = some (some (d, true)) → s.d[j]? = some (some (e, true)) → σ[i]? = some (some (.ref a)) → σ[j]? ≠ some (some (.ref a))
  ent : B.w.le w
  keep : ∀ (a : Addr) (o : HO), B.H a = some o → a ∉ B.w.th → H a = some o
  fnew : ∀ a : Addr, w.F a ≠ none → B.w.F a = none → B.H a = none
  tnew : ∀ a : Addr, a ∈ w.th → a ∉ B.w.th → B.H a = none
  lv : ∀ a : Addr, a ∈ B.w.th → ∃ x, B.H a = some x

theorem ObjRel.some {K : PySem.W.Frag} {w : Wd} {H : Hp} {a : Addr} {o : SO} (h : ObjRel K w H a o) : ∃ x, H a = some x := by
  cases o with
  | bag => obtain ⟨b, ns, i, j, k, l, e, _⟩ := h; exact ⟨_, e⟩
  | cel ds => obtain ⟨vs, e, _⟩ := h; exact ⟨_, e⟩
  | tab q => obtain ⟨ps, e, _⟩ := h; exact ⟨_, e⟩
  | obj c ks ds => obtain ⟨C, dx, vs, _, _, e, _⟩ := h; exact ⟨_, e⟩
  | dic ks ds => obtain ⟨vs, e, _⟩ := h; exact ⟨_, e⟩
theorem ObjRel.mono {K : PySem.W.Frag} {w w' : Wd} {H H' : Hp} {a : Addr} {o : SO} (le : w.le w') (e : H' a = H a) (h : ObjRel K w H a o) : ObjRel K w' H' a o := by
  cases o with
  | bag => obtain ⟨b, ns, i, j, k, l, q, r, z⟩ := h; exact ⟨b, ns, i, j, k, l, e.trans q, le.1 _ _ r, z⟩
  | cel ds => obtain ⟨vs, q, r⟩ := h; exact ⟨vs, e.trans q, r.mono le⟩
  | tab q =>
    obtain ⟨ps, r, t, z⟩ := h
    exact ⟨ps, e.trans r, t, fun pos cv hc => let ⟨c, h1, h2⟩ := z pos cv hc; ⟨c, h1, le.1 _ _ h2⟩⟩
  | obj c ks ds => obtain ⟨C, dx, vs, n, o, q, l, r⟩ := h; exact ⟨C, dx, vs, n, le.1 _ _ o, e.trans q, l, r.mono le⟩
  | dic ks ds => obtain ⟨vs, q, l, r⟩ := h; exact ⟨vs, e.trans q, l, r.mono le⟩
theorem StRel.live {K : PySem.W.Frag} {w : Wd} {m : List SO} {H : Hp} (h : StRel K w m H) {a : Addr} (ha : a ∈ w.th) : ∃ x, H a = some x := by
  obtain ⟨n, hn, e⟩ := List.getElem_of_mem ha
  have hm : n < m.length := by rw [← h.len]; exact hn
  exact (h.ob n m[n] a (List.getElem?_eq_getElem hm) (by rw [List.getElem?_eq_getElem hn, e])).some
theorem BRel.live {K : PySem.W.Frag} {B : Ent} {w : Wd} {s : S} {σ : LSt} {H : Hp} (R : BRel K B w s σ H) {a : Addr} (h : H a = none) : B.H a = none := by
  cases e : B.H a with
  | none => rfl
  | some o =>
    by_cases ha : a ∈ B.w.th
    · obtain ⟨_, l, q, _⟩ := R.ent
      obtain ⟨x, hx⟩ := R.st.live (a := a) (by rw [q]; exact List.mem_append_left _ ha)
      rw [h] at hx; cases hx
    · rw [R.keep a o e ha] at h; cases h

section
variable {K : PySem.W.Frag} {B : Ent} {w w' : Wd} {s : S} {σ : LSt} {H : Hp} {a p : Addr} {o : HO} {d : D}
theorem BRel.newF (R : BRel K B w s σ H) (h : H p = none) : w.F p = none := by
  cases e : w.F p with
  | none => rfl
  | some x => rw [R.sub p x e] at h; cases h
theorem BRel.newT (R : BRel K B w s σ H) (h : H p = none) : p ∉ w.th := fun hp => by
  obtain ⟨x, e⟩ := R.st.live hp
  rw [h] at e; cases e
/-- a value that nothing else holds -/
structure Fresh (K : PySem.W.Frag) (B : Ent) (w : Wd) (s : S) (σ : LSt) (H : Hp) (a : Addr) (d : D) : Prop where
  at_ : ∃ o, H a = some o ∧ Own K w d o
  f : w.F a = none
  t : a ∉ w.th
  b : B.H a = none
  sl : ∀ (i : Nat) (e : D), s.d[i]? = some (some (e, true)) → σ[i]? ≠ some (some (.ref a))
/-- the heap changes at a place that is neither frozen nor a cell nor owned -/
theorem BRel.put (R : BRel K B w s σ H) (hF : w.F a = none) (hT : a ∉ w.th) (hB : B.H a = none) (hS : ∀ (i : Nat) (e : D), s.d[i]? = some (some (e, true)) → σ[i]? ≠ some (some (.ref a))) : BRel K B w s σ (upd H a o) := by
  refine ⟨fun b x e => ?_, ⟨R.st.len, R.st.nd, R.st.out, fun n ob b h1 h2 => ?_⟩, R.len, R.val, fun i e h => ?_, R.sep, R.ent, fun b x h1 h2 => ?_, R.fnew, R.tnew, R.lv⟩
  · rw [upd_ne (fun z => by rw [z, hF] at e; cases e)]; exact R.sub b x e
  · refine (R.st.ob n ob b h1 h2).mono (Wd.le.refl w) (upd_ne fun z => ?_)
    rw [z] at h2
    exact hT (List.mem_of_getElem? h2)
  · obtain ⟨b, x, h1, h2, h3, h4⟩ := R.own i e h
    exact ⟨b, x, h1, by rw [upd_ne (fun z => by rw [z] at h1; exact hS i e h h1)]; exact h2, h3, h4⟩
  · rw [upd_ne (fun z => by rw [z, hB] at h1; cases h1)]; exact R.keep b x h1 h2
theorem BRel.new (R : BRel K B w s σ H) (h : H p = none) : BRel K B w s σ (upd H p o) :=
  R.put (R.newF h) (R.newT h) (R.live h) fun i e q z => by
    obtain ⟨b, x, h1, h2, _⟩ := R.own i e q
    rw [h1] at z; cases z
    rw [h] at h2; cases h2
theorem BRel.fresh (R : BRel K B w s σ H) (h : H p = none) (ho : Own K w d o) : Fresh K B w s σ (upd H p o) p d :=
  ⟨⟨o, upd_same, ho⟩, R.newF h, R.newT h, R.live h, fun i e q z => by
    obtain ⟨b, x, h1, h2, _⟩ := R.own i e q
    rw [h1] at z; cases z
    rw [h] at h2; cases h2⟩
theorem frz_le (h : w.F a = none) : w.le ⟨upd w.F a o, w.th, w.cs⟩ := ⟨fun b x e => by show upd w.F a o b = some x; rw [upd_ne (fun z => by rw [z, h] at e; cases e)]; exact e, [], (List.append_nil _).symm, rfl⟩
/-- freezing -/
theorem BRel.freeze (R : BRel K B w s σ H) (ho : H a = some o) (hF : w.F a = none) (hT : a ∉ w.th) (hB : B.H a = none) (hS : ∀ (i : Nat) (e : D), s.d[i]? = some (some (e, true)) → σ[i]? ≠ some (some (.ref a))) : BRel K B ⟨upd w.F a o, w.th, w.cs⟩ s σ H := by
  have le := frz_le (o := o) hF
  refine ⟨fun b x e => ?_, ⟨R.st.len, R.st.nd, fun b hb => ?_, fun n ob b h1 h2 => (R.st.ob n ob b h1 h2).mono le rfl⟩, R.len, fun i e h => ?_, fun i e h => ?_, R.sep, R.ent.trans le, R.keep, fun b h1 h2 => ?_, R.tnew, R.lv⟩
  · have e : upd w.F a o b = some x := e
    by_cases hb : b = a
    · subst hb; rw [upd_same] at e; cases e; exact ho
    · rw [upd_ne hb] at e; exact R.sub b x e
  · show upd w.F a o b = none
    rw [upd_ne (fun z => by rw [z] at hb; exact hT hb)]; exact R.st.out b hb
  · obtain ⟨v, h1, h2⟩ := R.val i e h
    exact ⟨v, h1, h2.mono le⟩
  · obtain ⟨b, x, h1, h2, h3, h4, h5, h6⟩ := R.own i e h
    refine ⟨b, x, h1, h2, h3.mono le, ?_, h5, h6⟩
    show upd w.F a o b = none
    rw [upd_ne (fun z => by rw [z] at h1; exact hS i e h h1)]; exact h4
  · have h1 : upd w.F a o b ≠ none := h1
    by_cases hb : b = a
    · subst hb; exact hB
    · rw [upd_ne hb] at h1; exact R.fnew b h1 h2
theorem Own.rep {F : Hp} (q : Own K w d o) (le : w.le w') (h : w'.F a = some o) : Rep K w' d (.ref a) := by
  cases d <;> simp only [Own] at q
  · obtain ⟨vs, e, r⟩ := q; subst e; simp only [Rep]; exact ⟨a, vs, rfl, h, r.mono le⟩
  · obtain ⟨vs, e, l, r⟩ := q; subst e; simp only [Rep]; exact ⟨a, vs, rfl, h, l, r.mono le⟩
theorem Fresh.freeze (R : BRel K B w s σ H) (q : Fresh K B w s σ H a d) : ∃ w', w.le w' ∧ BRel K B w' s σ H ∧ Rep K w' d (.ref a) := by
  obtain ⟨o, ho, hw⟩ := q.at_
  exact ⟨⟨upd w.F a o, w.th, w.cs⟩, frz_le q.f, R.freeze ho q.f q.t q.b q.sl, hw.rep (F := w.F) (frz_le q.f) upd_same⟩
/-- a slot's list is frozen -/
theorem BRel.thaw {i : Nat} (R : BRel K B w s σ H) (h : s.d[i]? = some (some (d, true))) : ∃ w' v, w.le w' ∧ BRel K B w' { s with d := s.d.set i (some (d, false)) } σ H ∧ σ[i]? = some (some v) ∧ Rep K w' d v := by
  obtain ⟨a, o, h1, h2, h3, h4, h5, h6⟩ := R.own i d h
  have hi : i < s.d.length := (List.getElem?_eq_some_iff.mp h).1
  have le := frz_le (o := o) h4
  have rp : Rep K ⟨upd w.F a o, w.th, w.cs⟩ d (.ref a) := h3.rep (F := w.F) le upd_same
  refine ⟨⟨upd w.F a o, w.th, w.cs⟩, .ref a, le, ?_, h1, rp⟩
  have R1 : BRel K B w { s with d := s.d.set i none } σ H := by
    refine ⟨R.sub, R.st, by rw [List.length_set]; exact R.len, fun j e q => ?_, fun j e q => ?_, fun j k b e f n q1 q2 => ?_, R.ent, R.keep, R.fnew, R.tnew, R.lv⟩
    · by_cases hj : i = j
      · subst hj; rw [List.getElem?_set_self hi] at q; cases q
      · rw [List.getElem?_set_ne hj] at q; exact R.val j e q
    · by_cases hj : i = j
      · subst hj; rw [List.getElem?_set_self hi] at q; cases q
      · rw [List.getElem?_set_ne hj] at q; exact R.own j e q
    · by_cases hj : i = j
      · subst hj; rw [List.getElem?_set_self hi] at q1; cases q1
      · by_cases hk : i = k
        · subst hk; rw [List.getElem?_set_self hi] at q2; cases q2
        · rw [List.getElem?_set_ne hj] at q1; rw [List.getElem?_set_ne hk] at q2; exact R.sep j k b e f n q1 q2
  have R2 := R1.freeze h2 h4 h5 h6 fun j e q z => by
    by_cases hj : i = j
    · subst hj
      have q : (s.d.set i none)[i]? = some (some (e, true)) := q
      rw [List.getElem?_set_self hi] at q; cases q
    · have q : (s.d.set i none)[j]? = some (some (e, true)) := q
      rw [List.getElem?_set_ne hj] at q; exact R.sep i j a d e hj h q h1 z
  refine ⟨R2.sub, R2.st, by rw [List.length_set]; exact R.len, fun j e q => ?_, fun j e q => ?_, fun j k b e f n q1 q2 => ?_, R2.ent, R2.keep, R2.fnew, R2.tnew, R2.lv⟩
  · by_cases hj : i = j
    · subst hj; rw [List.getElem?_set_self hi] at q; cases q; exact ⟨_, h1, rp⟩
    · rw [List.getElem?_set_ne hj] at q
      exact R2.val j e (by show (s.d.set i none)[j]? = _; rw [List.getElem?_set_ne hj]; exact q)
  · by_cases hj : i = j
    · subst hj; rw [List.getElem?_set_self hi] at q; cases q
    · rw [List.getElem?_set_ne hj] at q
      exact R2.own j e (by show (s.d.set i none)[j]? = _; rw [List.getElem?_set_ne hj]; exact q)
  · by_cases hj : i = j
    · subst hj; rw [List.getElem?_set_self hi] at q1; cases q1
    · by_cases hk : i = k
      · subst hk; rw [List.getElem?_set_self hi] at q2; cases q2
      · rw [List.getElem?_set_ne hj] at q1; rw [List.getElem?_set_ne hk] at q2; exact R.sep j k b e f n q1 q2
/-- a slot is stored: a value that stands still -/
theorem BRel.set {i : Nat} {v : V} (R : BRel K B w s σ H) (r : Rep K w d v) : BRel K B w { s with d := s.d.set i (some (d, false)) } (σ.set i (some v)) H := by
  refine ⟨R.sub, R.st, by rw [List.length_set, List.length_set]; exact R.len, fun j e q => ?_, fun j e q => ?_, fun j k b e f n q1 q2 => ?_, R.ent, R.keep, R.fnew, R.tnew, R.lv⟩
  · by_cases hj : i = j
    · subst hj
      have hi : i < s.d.length := by
        have := (List.getElem?_eq_some_iff.mp q).1
        rwa [List.length_set] at this
      rw [List.getElem?_set_self hi] at q; cases q
      exact ⟨v, by rw [List.getElem?_set_self (by rw [R.len]; exact hi)], r⟩
    · rw [List.getElem?_set_ne hj] at q ⊢; exact R.val j e q
  · by_cases hj : i = j
    · subst hj
      have hi : i < s.d.length := by
        have := (List.getElem?_eq_some_iff.mp q).1
        rwa [List.length_set] at this
      rw [List.getElem?_set_self hi] at q; cases q
    · rw [List.getElem?_set_ne hj] at q ⊢; exact R.own j e q
  · have key : ∀ (j : Nat) (e : D), (s.d.set i (some (d, false)))[j]? = some (some (e, true)) → i ≠ j := fun j e q hj => by
      subst hj
      have hi : i < s.d.length := by
        have := (List.getElem?_eq_some_iff.mp q).1
        rwa [List.length_set] at this
      rw [List.getElem?_set_self hi] at q; cases q
    have n1 := key j e q1
    have n2 := key k f q2
    rw [List.getElem?_set_ne n1] at q1 ⊢
    rw [List.getElem?_set_ne n2] at q2 ⊢
    exact R.sep j k b e f n q1 q2
/-- .. a fresh one: it is the slot's own -/
theorem BRel.setO {i : Nat} (R : BRel K B w s σ H) (r : Fresh K B w s σ H a d) : BRel K B w { s with d := s.d.set i (some (d, true)) } (σ.set i (some (.ref a))) H := by
  obtain ⟨o, ho, hw⟩ := r.at_
  have hl : ∀ {j : Nat} {e : D} {b : Bool}, (s.d.set i (some (d, true)))[j]? = some (some (e, b)) → j < s.d.length := fun q => by
    have := (List.getElem?_eq_some_iff.mp q).1
    rwa [List.length_set] at this
  refine ⟨R.sub, R.st, by rw [List.length_set, List.length_set]; exact R.len, fun j e q => ?_, fun j e q => ?_, fun j k b e f n q1 q2 => ?_, R.ent, R.keep, R.fnew, R.tnew, R.lv⟩
  · have hi := hl q
    by_cases hj : i = j
    · subst hj
      rw [List.getElem?_set_self hi] at q; cases q
    · rw [List.getElem?_set_ne hj] at q ⊢; exact R.val j e q
  · have hi := hl q
    by_cases hj : i = j
    · subst hj
      rw [List.getElem?_set_self hi] at q; cases q
      exact ⟨a, o, by rw [List.getElem?_set_self (by rw [R.len]; exact hi)], ho, hw, r.f, r.t, r.b⟩
    · rw [List.getElem?_set_ne hj] at q ⊢; exact R.own j e q
  · have hi1 := hl q1
    have hi2 := hl q2
    by_cases hj : i = j
    · subst hj
      rw [List.getElem?_set_self (by rw [R.len]; exact hi1)]
      rw [List.getElem?_set_ne n] at q2 ⊢
      intro z
      cases z
      exact r.sl k f q2
    · rw [List.getElem?_set_ne hj] at q1 ⊢
      by_cases hk : i = k
      · subst hk
        rw [List.getElem?_set_self (by rw [R.len]; exact hi2)]
        intro z y
        cases y
        exact r.sl j e q1 z
      · rw [List.getElem?_set_ne hk] at q2 ⊢
        exact R.sep j k b e f n q1 q2
/-- a slot's own list is changed -/
theorem BRel.change {i : Nat} {e : D} {o : HO} (R : BRel K B w s σ H) (h : s.d[i]? = some (some (e, true))) (ha : σ[i]? = some (some (.ref a))) (ho : Own K w d o) : BRel K B w { s with d := s.d.set i (some (d, true)) } σ (upd H a o) := by
  obtain ⟨a', o', h1, h2, h3, h4, h5, h6⟩ := R.own i e h
  rw [ha] at h1; cases h1
  have hi : i < s.d.length := (List.getElem?_eq_some_iff.mp h).1
  have R1 : BRel K B w { s with d := s.d.set i none } σ H := by
    refine ⟨R.sub, R.st, by rw [List.length_set]; exact R.len, fun j e q => ?_, fun j e q => ?_, fun j k b e f n q1 q2 => ?_, R.ent, R.keep, R.fnew, R.tnew, R.lv⟩
    · by_cases hj : i = j
      · subst hj; rw [List.getElem?_set_self hi] at q; cases q
      · rw [List.getElem?_set_ne hj] at q; exact R.val j e q
    · by_cases hj : i = j
      · subst hj; rw [List.getElem?_set_self hi] at q; cases q
      · rw [List.getElem?_set_ne hj] at q; exact R.own j e q
    · by_cases hj : i = j
      · subst hj; rw [List.getElem?_set_self hi] at q1; cases q1
      · by_cases hk : i = k
        · subst hk; rw [List.getElem?_set_self hi] at q2; cases q2
        · rw [List.getElem?_set_ne hj] at q1; rw [List.getElem?_set_ne hk] at q2; exact R.sep j k b e f n q1 q2
  have nS : ∀ (j : Nat) (f : D), (s.d.set i none)[j]? = some (some (f, true)) → σ[j]? ≠ some (some (.ref a)) := fun j f q z => by
    by_cases hj : i = j
    · subst hj; rw [List.getElem?_set_self hi] at q; cases q
    · rw [List.getElem?_set_ne hj] at q; exact R.sep i j a e f hj h q ha z
  have R2 := R1.put (o := o) h4 h5 h6 nS
  have R3 := R2.setO (i := i) (a := a) (d := d) ⟨⟨o, upd_same, ho⟩, h4, h5, h6, nS⟩
  have e1 : σ.set i (some (.ref a)) = σ := by
    apply List.ext_getElem?
    intro j
    by_cases hj : i = j
    · subst hj
      rw [List.getElem?_set_self (by rw [R.len]; exact hi), ha]
    · rw [List.getElem?_set_ne hj]
  have e2 : (s.d.set i none).set i (some (d, true)) = s.d.set i (some (d, true)) := List.set_set ..
  rw [e1] at R3
  have R3' : BRel K B w { s with d := (s.d.set i none).set i (some (d, true)) } σ (upd H a o) := R3
  rw [e2] at R3'
  exact R3'
/-- a thing that stands beside what is told: not frozen, no cell, no slot's own -/
structure Out (σ : LSt) (w : Wd) (s : S) (H : Hp) (a : Addr) (o : HO) : Prop where
  at_ : H a = some o
  f : w.F a = none
  t : a ∉ w.th
  sl : ∀ (i : Nat) (e : D), s.d[i]? = some (some (e, true)) → σ[i]? ≠ some (some (.ref a))
structure To (σ : LSt) (w : Wd) (s : S) (H : Hp) (σ' : LSt) (w' : Wd) (s' : S) (H' : Hp) : Prop where
  le : w.le w'
  fr : ∀ a o, Out σ w s H a o → Out σ' w' s' H' a o
theorem To.refl (σ : LSt) (w : Wd) (s : S) (H : Hp) : To σ w s H σ w s H := ⟨.refl w, fun _ _ h => h⟩
theorem To.trans {σ σ1 σ2 : LSt} {w w1 w2 : Wd} {s s1 s2 : S} {H H1 H2 : Hp} (a : To σ w s H σ1 w1 s1 H1) (b : To σ1 w1 s1 H1 σ2 w2 s2 H2) : To σ w s H σ2 w2 s2 H2 := ⟨a.le.trans b.le, fun c o h => b.fr c o (a.fr c o h)⟩
/-- a new thing -/
theorem To.new (h : H p = none) : To σ w s H σ w s (upd H p o) := ⟨.refl w, fun a u q => ⟨by rw [upd_ne (fun z => by rw [z] at q; have := q.at_; rw [h] at this; cases this)]; exact q.at_, q.f, q.t, q.sl⟩⟩
theorem To.frz (hn : ∀ o', ¬ Out σ w s H a o') (h : w.F a = none) : To σ w s H σ ⟨upd w.F a o, w.th, w.cs⟩ s H := ⟨frz_le h, fun b u q => by
  have nb : b ≠ a := fun z => hn u (by rw [← z]; exact q)
  exact ⟨q.at_, by show upd w.F a o b = none; rw [upd_ne nb]; exact q.f, q.t, q.sl⟩⟩
theorem To.put (hn : ∀ o', ¬ Out σ w s H a o') : To σ w s H σ w s (upd H a o) := ⟨.refl w, fun b u q => by
  have nb : b ≠ a := fun z => hn u (by rw [← z]; exact q)
  exact ⟨by rw [upd_ne nb]; exact q.at_, q.f, q.t, q.sl⟩⟩
/-- a slot's list is frozen -/
theorem BRel.thawT {i : Nat} (R : BRel K B w s σ H) (h : s.d[i]? = some (some (d, true))) : ∃ w' v, To σ w s H σ w' { s with d := s.d.set i (some (d, false)) } H ∧ BRel K B w' { s with d := s.d.set i (some (d, false)) } σ H ∧ σ[i]? = some (some v) ∧ Rep K w' d v := by
  obtain ⟨a, o, h1, h2, h3, h4, h5, h6⟩ := R.own i d h
  have hi : i < s.d.length := (List.getElem?_eq_some_iff.mp h).1
  obtain ⟨w', v, le, R', e, r⟩ := R.thaw h
  have le := frz_le (o := o) h4
  refine ⟨⟨upd w.F a o, w.th, w.cs⟩, .ref a, ⟨le, fun b u q => ?_⟩, ?_, h1, h3.rep (F := w.F) le upd_same⟩
  · have nb : b ≠ a := fun z => by rw [z] at q; exact q.sl i d h h1
    refine ⟨q.at_, by show upd w.F a o b = none; rw [upd_ne nb]; exact q.f, q.t, fun j f g => ?_⟩
    by_cases hj : i = j
    · subst hj
      have g : (s.d.set i (some (d, false)))[i]? = some (some (f, true)) := g
      rw [List.getElem?_set_self hi] at g; cases g
    · have g : (s.d.set i (some (d, false)))[j]? = some (some (f, true)) := g
      rw [List.getElem?_set_ne hj] at g
      exact q.sl j f g
  · have R1 : BRel K B w { s with d := s.d.set i none } σ H := by
      refine ⟨R.sub, R.st, by rw [List.length_set]; exact R.len, fun j e q => ?_, fun j e q => ?_, fun j k b e f n q1 q2 => ?_, R.ent, R.keep, R.fnew, R.tnew, R.lv⟩
      · by_cases hj : i = j
        · subst hj; rw [List.getElem?_set_self hi] at q; cases q
        · rw [List.getElem?_set_ne hj] at q; exact R.val j e q
      · by_cases hj : i = j
        · subst hj; rw [List.getElem?_set_self hi] at q; cases q
        · rw [List.getElem?_set_ne hj] at q; exact R.own j e q
      · by_cases hj : i = j
        · subst hj; rw [List.getElem?_set_self hi] at q1; cases q1
        · by_cases hk : i = k
          · subst hk; rw [List.getElem?_set_self hi] at q2; cases q2
          · rw [List.getElem?_set_ne hj] at q1; rw [List.getElem?_set_ne hk] at q2; exact R.sep j k b e f n q1 q2
    have R2 := R1.freeze h2 h4 h5 h6 fun j e q z => by
      by_cases hj : i = j
      · subst hj
        have q : (s.d.set i none)[i]? = some (some (e, true)) := q
        rw [List.getElem?_set_self hi] at q; cases q
      · have q : (s.d.set i none)[j]? = some (some (e, true)) := q
        rw [List.getElem?_set_ne hj] at q; exact R.sep i j a d e hj h q h1 z
    have R3 := R2.set (i := i) (d := d) (v := .ref a) (h3.rep (F := w.F) le upd_same)
    have e1 : σ.set i (some (.ref a)) = σ := by
      apply List.ext_getElem?
      intro j
      by_cases hj : i = j
      · subst hj
        rw [List.getElem?_set_self (by rw [R.len]; exact hi), h1]
      · rw [List.getElem?_set_ne hj]
    have e2 : (s.d.set i none).set i (some (d, false)) = s.d.set i (some (d, false)) := List.set_set ..
    rw [e1] at R3
    have R3' : BRel K B ⟨upd w.F a o, w.th, w.cs⟩ { s with d := (s.d.set i none).set i (some (d, false)) } σ H := R3
    rw [e2] at R3'
    exact R3'
end
end DL

/-! ### readings over data: M, the judgements -/
namespace DL
open PySem PySem.Spec PyProof.Rows L2

/-- what is asked of an optional thing: it is there -/
def onSome {α : Type} (o : Option α) (k : α → Prop) : Prop := match o with
  | some a => k a
  | none => False
theorem onSome_ex {α : Type} {o : Option α} {k : α → Prop} (h : onSome o k) : ∃ a, o = some a ∧ k a := by
  cases o with
  | none => exact h.elim
  | some a => exact ⟨a, rfl, h⟩
abbrev M (α : Type) := S → (α → S → Prop) → (Ex → S → Prop) → Prop
def M.ret {α : Type} (a : α) : M α := fun s Q _ => Q a s
def M.bnd {α β : Type} (m : M α) (f : α → M β) : M β := fun s Q E => m s (fun a s' => f a s' Q E) E
def M.stuck {α : Type} : M α := fun _ _ _ => False

/-- the relation between what the data reading gives and what the code gives, behind; ahead of it -/
abbrev Rl (α β : Type) := LSt → Wd → S → Hp → Wd → S → Hp → α → β → Prop
structure Post (K : PySem.W.Frag) (B : Ent) (W : WX) (σ : LSt) {α β : Type} (R : Rl α β) (w : Wd) (s : S) (H : Hp) (QD : α → S → Prop) (ED : Ex → S → Prop) (Q : β → Hp → Prop) : Prop where
  ok : ∀ d s' v w' H', To σ w s H σ w' s' H' → BRel K B w' s' σ H' → R σ w s H w' s' H' d v → QD d s' → Q v H'
  ex : ∀ e s' w' H' c dd, w.le w' → BRel K B w' s' σ H' → B.X w' e c dd H' → ED e s' → W c dd σ H'
/-- a relation that an earlier start keeps -/
def Back {α β : Type} (R : Rl α β) : Prop := ∀ σ w s H w1 s1 H1 w' s' H' d v, To σ w s H σ w1 s1 H1 → R σ w1 s1 H1 w' s' H' d v → R σ w s H w' s' H' d v
section
variable {K : PySem.W.Frag} {B : Ent} {W : WX} {σ : LSt} {α β : Type} {R : Rl α β} {w w' : Wd} {s s' : S} {H H' : Hp} {QD QD' : α → S → Prop} {ED : Ex → S → Prop} {Q : β → Hp → Prop}
theorem Post.mono (hb : Back R) (h : To σ w s H σ w' s' H') (p : Post K B W σ R w s H QD ED Q) : Post K B W σ R w' s' H' QD ED Q :=
  ⟨fun d s2 v w2 H2 le r rv => p.ok d s2 v w2 H2 (h.trans le) r (hb _ _ _ _ _ _ _ _ _ _ _ _ h rv), fun e s2 w2 H2 c dd le => p.ex e s2 w2 H2 c dd (h.le.trans le)⟩
end
section
variable (K : PySem.W.Frag) (B : Ent) (W : WX)
def tG {α β : Type} (R : Rl α β) (f : M α) : LSt → Hp → (β → Hp → Prop) → Prop := fun σ H Q =>
  ∃ w s QD ED, BRel K B w s σ H ∧ f s QD ED ∧ Post K B W σ R w s H QD ED Q
def rE : Rl D V := fun _ _ _ _ w _ _ d v => Rep K w d v
def rA : Rl (List D) (List V) := fun _ _ _ _ w _ _ d v => Reps K w d v
def rB : Rl Bool Bool := fun _ _ _ _ _ _ _ d v => v = d
/-- a fresh list, a fresh dict -/
def rO : Rl D V := fun σ w0 s0 H0 w s H d v => ∃ a, v = .ref a ∧ Fresh K B w s σ H a d ∧ ∀ o, ¬ Out σ w0 s0 H0 a o
theorem back_E : Back (rE K) := fun _ _ _ _ _ _ _ _ _ _ _ _ _ h => h
theorem back_A : Back (rA K) := fun _ _ _ _ _ _ _ _ _ _ _ _ _ h => h
theorem back_B : Back rB := fun _ _ _ _ _ _ _ _ _ _ _ _ _ h => h
theorem back_O : Back (rO K B) := fun _ _ _ _ _ _ _ _ _ _ _ _ t ⟨a, e, f, n⟩ => ⟨a, e, f, fun o q => n o (t.fr a o q)⟩
def tE (f : M D) : TE := tG K B W (rE K) f
def tA (f : M (List D)) : TA := tG K B W (rA K) f
def tT (f : M Bool) : TT := tG K B W rB f
def tO (f : M D) : TE := tG K B W (rO K B) f
end
abbrev DE (X : Cx) (B : Ent) (W : WX) (e : Expr) (f : M D) : Prop := PE X e (tE X.K B W f)
abbrev DO (X : Cx) (B : Ent) (W : WX) (e : Expr) (f : M D) : Prop := PE X e (tO X.K B W f)
abbrev DT (X : Cx) (B : Ent) (W : WX) (e : Expr) (f : M Bool) : Prop := PT X e (tT X.K B W f)
abbrev DW (X : Cx) (B : Ent) (W : WX) (e : Expr) (f : M Bool) : Prop := PW X e (tT X.K B W f)
abbrev DA (X : Cx) (B : Ent) (W : WX) (es : List Expr) (f : M (List D)) : Prop := PA X es (tA X.K B W f)

theorem PE.weak {X : Cx} {e : Expr} {t t' : TE} (h : PE X e t) (k : ∀ σ H Q, t' σ H Q → t σ H Q) : PE X e t' := ⟨fun pins s σ H Q I q => h.run pins s σ H Q I (k σ H Q q)⟩
theorem PT.weak {X : Cx} {e : Expr} {t t' : TT} (h : PT X e t) (k : ∀ σ H Q, t' σ H Q → t σ H Q) : PT X e t' := ⟨fun pins s σ H Q I q => h.run pins s σ H Q I (k σ H Q q)⟩
theorem PW.weak {X : Cx} {e : Expr} {t t' : TT} (h : PW X e t) (k : ∀ σ H Q, t' σ H Q → t σ H Q) : PW X e t' := ⟨fun wh pins s σ H Q I q => h.run wh pins s σ H Q I (k σ H Q q)⟩
theorem PA.weak {X : Cx} {e : List Expr} {t t' : TA} (h : PA X e t) (k : ∀ σ H Q, t' σ H Q → t σ H Q) : PA X e t' := ⟨fun pos pins s σ H Q I q => h.run pos pins s σ H Q I (k σ H Q q)⟩
theorem PS.weak {X : Cx} {e : Stmt} {t t' : TS} (h : PS X e t) (k : ∀ D σ H, t' D σ H → t D σ H) : PS X e t' := ⟨fun pins s σ H D I q => h.run pins s σ H D I (k D σ H q)⟩
theorem PSs.weak {X : Cx} {e : List Stmt} {t t' : TS} (h : PSs X e t) (k : ∀ D σ H, t' D σ H → t D σ H) : PSs X e t' := ⟨fun pins s σ H D I q => h.run pins s σ H D I (k D σ H q)⟩

section
variable {K : PySem.W.Frag} {B : Ent} {W : WX} {σ : LSt} {H : Hp}
/-- the first part of a sequence -/
theorem tG.seq {α β γ δ : Type} {R : Rl α β} {R' : Rl γ δ} {f : M α} {g : α → M γ} {Q : δ → Hp → Prop} {Z : β → Hp → Prop} (hb : Back R')
    (h : tG K B W R' (f.bnd g) σ H Q)
    (k : ∀ d s v w H' QD ED w0 s0, BRel K B w s σ H' → R σ w0 s0 H w s H' d v → g d s QD ED → Post K B W σ R' w s H' QD ED Q → Z v H') : tG K B W R f σ H Z := by
  obtain ⟨w, s, QD, ED, r, q, p⟩ := h
  exact ⟨w, s, fun d s' => g d s' QD ED, ED, r, q, ⟨fun d s' v w' H' le r' rv z => k d s' v w' H' QD ED w s r' rv z (p.mono hb le), p.ex⟩⟩
theorem tG.ret {α β : Type} {R : Rl α β} {w : Wd} {s : S} {QD : α → S → Prop} {ED : Ex → S → Prop} {Q : β → Hp → Prop} {d : α} {v : β} (r : BRel K B w s σ H) (rv : R σ w s H w s H d v) (h : QD d s) (p : Post K B W σ R w s H QD ED Q) : Q v H :=
  p.ok d s v w H (To.refl ..) r rv h
theorem tO.tE {f : M D} {Q : VK} (h : tE K B W f σ H Q) : tO K B W f σ H Q := by
  obtain ⟨w, s, QD, ED, r, q, p⟩ := h
  refine ⟨w, s, QD, ED, r, q, ⟨fun d s' v w' H' le r' ⟨a, e, fr, no⟩ z => ?_, p.ex⟩⟩
  subst e
  obtain ⟨o, ho, hw⟩ := fr.at_
  have le2 := frz_le (o := o) fr.f
  refine p.ok d s' _ ⟨upd w'.F a o, w'.th, w'.cs⟩ H' ⟨le.le.trans le2, fun b u q => ?_⟩ (r'.freeze ho fr.f fr.t fr.b fr.sl) (hw.rep (F := w'.F) le2 upd_same) z
  have nb : b ≠ a := fun z => no u (by rw [← z]; exact q)
  have q' := le.fr b u q
  exact ⟨q'.at_, by show upd w'.F a o b = none; rw [upd_ne nb]; exact q'.f, q'.t, q'.sl⟩
end
section
variable {X : Cx} {B : Ent} {W : WX}
theorem de_of {e : Expr} {f : M D} (h : DO X B W e f) : DE X B W e f := PE.weak h fun _ _ _ q => tO.tE q

/-! ### names, constants -/
def dVar (i : Nat) : M D := fun s Q _ => match s.d[i]? with
  | some (some (d, false)) => Q d s
  | some (some (d, true)) => Q d { s with d := s.d.set i (some (d, false)) }
  | _ => False
theorem tVar_of {K : PySem.W.Frag} {i : Nat} {σ : LSt} {H : Hp} {Q : VK} (h : tE K B W (dVar i) σ H Q) : tVar i σ H Q := by
  obtain ⟨w, s, QD, ED, r, q, p⟩ := h
  unfold dVar at q
  split at q
  · rename_i d e
    obtain ⟨v, h1, h2⟩ := r.val i d e
    exact ⟨v, h1, tG.ret (R := rE K) r h2 q p⟩
  · rename_i d e
    obtain ⟨w', v, le, r', h1, h2⟩ := r.thawT e
    exact ⟨v, h1, p.ok d _ v w' H le r' h2 q⟩
  · exact q.elim
theorem de_var (i : Nat) {x : Str} {pos : Pos} (hN : X.N[i]? = some x := by rfl) (hv : Vis X.env.scope x := by first | exact Or.inl rfl | exact Or.inr (Or.inl rfl) | exact Or.inr (Or.inr rfl)) (hd : (x == ("__debug__" : Str)) = false := by decide)
    (hcd : (x == ("__classdict__" : Str)) = false := by decide) : DE X B W (.Name x pos) (dVar i) := PE.weak (pe_var hN hv hd hcd) fun _ _ _ q => tVar_of q
/-- a slot's own list moves on: it is nobody's from here -/
def dMove (i : Nat) : M D := fun s Q _ => match s.d[i]? with
  | some (some (d, true)) => Q d { s with d := s.d.set i none }
  | _ => False
def dC (d : D) : M D := M.ret d
theorem tC_of {K : PySem.W.Frag} {d : D} {v : V} {σ : LSt} {H : Hp} {Q : VK} (hr : ∀ w, Rep K w d v) (h : tE K B W (dC d) σ H Q) : tC v σ H Q := by
  obtain ⟨w, s, QD, ED, r, q, p⟩ := h
  exact tG.ret (R := rE K) r (hr w) q p
theorem de_int {i : Int} {j pos} : DE X B W (.Constant (.int i) j pos) (dC (.int i)) := PE.weak pe_int fun _ _ _ q => tC_of (d := (D.int i)) (v := (V.int i)) (fun _ => by simp only [Rep]) q
theorem de_bl {b : Bool} {j pos} : DE X B W (.Constant (.bool b) j pos) (dC (.bl b)) := PE.weak pe_bl fun _ _ _ q => tC_of (d := (D.bl b)) (v := (V.bl b)) (fun _ => by simp only [Rep]) q
theorem de_non {j pos} : DE X B W (.Constant .none j pos) (dC .non) := PE.weak pe_non fun _ _ _ q => tC_of (d := D.non) (v := V.non) (fun _ => by simp only [Rep]) q
theorem de_str {x : Str} {j pos} : DE X B W (.Constant (.str x) j pos) (dC (.str x)) := PE.weak pe_str fun _ _ _ q => tC_of (d := (D.str x)) (v := (V.str x)) (fun _ => by simp only [Rep]) q
/-- a constant of the module -/
structure Glb (K : PySem.W.Frag) (mg : Str → Option Value) (x : Str) (d : D) : Prop where
  ex : ∃ u v, mg x = some u ∧ RelV v u ∧ ∀ w, Rep K w d v
theorem de_glob {x : Str} {pos : Pos} {d : D} (h : Glb X.K X.mg x d) (hg : Gl X x := by rfl) (hd : (x == ("__debug__" : Str)) = false := by decide) : DE X B W (.Name x pos) (dC d) := by
  obtain ⟨u, v, hm, r, hr⟩ := h.ex
  exact PE.weak (pe_glob hg hm r hd) fun _ _ _ q => tC_of hr q

/-! ### operations on two values -/
abbrev Op2 := D → D → M D
def dOp2 (o : Op2) (f g : M D) : M D := f.bnd fun x => g.bnd fun y => o x y
/-- an operation's reading r serves the data operation o; its result stands still -/
def OpS (K : PySem.W.Frag) (B : Ent) (W : WX) (r : R2) (o : Op2) : Prop := ∀ σ w s H x y dx dy QD ED Q, BRel K B w s σ H → Rep K w dx x → Rep K w dy y → o dx dy s QD ED → Post K B W σ (rE K) w s H QD ED Q → r x y H Q
/-- .. its result is fresh -/
def OpF (K : PySem.W.Frag) (B : Ent) (W : WX) (r : R2) (o : Op2) : Prop := ∀ σ w s H x y dx dy QD ED Q, BRel K B w s σ H → Rep K w dx x → Rep K w dy y → o dx dy s QD ED → Post K B W σ (rO K B) w s H QD ED Q → r x y H Q
theorem op2_of {K : PySem.W.Frag} {r : R2} {o : Op2} (hs : OpS K B W r o) {f g : M D} {σ : LSt} {H : Hp} {Q : VK} (h : tE K B W (dOp2 o f g) σ H Q) : tOp r (tE K B W f) (tE K B W g) σ H Q := by
  refine tG.seq (back_E K) h fun dx s vx w H' QD ED _ _ r1 rx h1 p => ?_
  refine ⟨w, s, fun dy s' => o dx dy s' QD ED, ED, r1, h1, ⟨fun dy s' vy w' H2 le r2 ry z => ?_, p.ex⟩⟩
  exact hs σ w' s' H2 vx vy dx dy QD ED Q r2 (rx.mono le.le) ry z (p.mono (back_E K) le)
theorem op2_ofF {K : PySem.W.Frag} {r : R2} {o : Op2} (hs : OpF K B W r o) {f g : M D} {σ : LSt} {H : Hp} {Q : VK} (h : tO K B W (dOp2 o f g) σ H Q) : tOp r (tE K B W f) (tE K B W g) σ H Q := by
  refine tG.seq (back_O K B) h fun dx s vx w H' QD ED _ _ r1 rx h1 p => ?_
  refine ⟨w, s, fun dy s' => o dx dy s' QD ED, ED, r1, h1, ⟨fun dy s' vy w' H2 le r2 ry z => ?_, p.ex⟩⟩
  exact hs σ w' s' H2 vx vy dx dy QD ED Q r2 (rx.mono le.le) ry z (p.mono (back_O K B) le)
theorem OpS.or1 {K : PySem.W.Frag} {r r' : R2} {o : Op2} (h : OpS K B W r o) : OpS K B W (fun x y H Q => r x y H Q ∨ r' x y H Q) o := fun σ w s H x y dx dy QD ED Q a b c d e => .inl (h σ w s H x y dx dy QD ED Q a b c d e)
theorem de_bin {op : Operator} {r : R2} {o : Op2} {a b : Expr} {f g : M D} {pos : Pos} (ho : OpR X (binaryOp op) r) (hs : OpS X.K B W r o) (ha : DE X B W a f) (hb : DE X B W b g) : DE X B W (.BinOp a op b pos) (dOp2 o f g) := PE.weak (pe_op ho ha hb) fun _ _ _ q => op2_of hs q
theorem do_bin {op : Operator} {r : R2} {o : Op2} {a b : Expr} {f g : M D} {pos : Pos} (ho : OpR X (binaryOp op) r) (hs : OpF X.K B W r o) (ha : DE X B W a f) (hb : DE X B W b g) : DO X B W (.BinOp a op b pos) (dOp2 o f g) := PE.weak (pe_op ho ha hb) fun _ _ _ q => op2_ofF hs q
theorem de_cmp {op : CmpOp} {r : R2} {o : Op2} {a b : Expr} {f g : M D} {pos : Pos} (ho : OpR X (compareOp op) r) (hs : OpS X.K B W r o) (ha : DE X B W a f) (hb : DE X B W b g) (hm : behindInMarks op b = false := by first | exact nomark _ | rfl) : DE X B W (.Compare a [op] [b] pos) (dOp2 o f g) := PE.weak (pe_cmpR ho ha hb hm) fun _ _ _ q => op2_of hs q

/-! the parts of a value that is read -/
section
variable {K : PySem.W.Frag} {w : Wd} {v : V}
theorem rep_non (r : Rep K w .non v) : v = .non := by simpa only [Rep] using r
theorem rep_bl {b : Bool} (r : Rep K w (.bl b) v) : v = .bl b := by simpa only [Rep] using r
theorem rep_int {i : Int} (r : Rep K w (.int i) v) : v = .int i := by simpa only [Rep] using r
theorem rep_str {x : Str} (r : Rep K w (.str x) v) : v = .str x := by simpa only [Rep] using r
theorem rep_tup {l : List D} (r : Rep K w (.tup l) v) : ∃ a vs, v = .ref a ∧ SqT K w.F a vs ∧ Reps K w l vs := by simpa only [Rep] using r
theorem rep_lst {l : List D} (r : Rep K w (.lst l) v) : ∃ a vs, v = .ref a ∧ w.F a = some (.lst vs) ∧ Reps K w l vs := by simpa only [Rep] using r
theorem rep_dct {ks : List Key} {l : List D} (r : Rep K w (.dct ks l) v) : ∃ a vs, v = .ref a ∧ w.F a = some (.dK (ks.zip vs)) ∧ ks.length = vs.length ∧ Reps K w l vs := by simpa only [Rep] using r
theorem rep_scr (r : Rep K w .scr v) : ∃ (a : Addr) (ns : List Int), v = .ref a ∧ SqL K w.F a (ns.map V.int) ∧ ns.length ≤ 63 := by simpa only [Rep] using r
theorem rep_ref {n : Nat} (r : Rep K w (.ref n) v) : ∃ a, v = .ref a ∧ w.th[n]? = some a := by simpa only [Rep] using r
theorem rep_fn {k : Nat} {ps : Arguments} {b : Expr} {sc : Scope} (r : Rep K w (.fn k ps b sc) v) : ∃ (f c' : Addr) (q : Str), v = .ref f ∧ w.F f = some (LamO q ps b sc w.cs c' f) ∧ w.F c' = some (LamX.CodeO c' q) := by simpa only [Rep] using r
theorem rep_exc {c : Str} {ks : List Str} {ds : List D} (r : Rep K w (.exc c ks ds) v) : ∃ (a C dx : Addr) (vs : List V), v = .ref a ∧ PySem.W.nsIn K mainGlobals c = some (some (.ref C)) ∧ w.F a = some (exo a C (some dx)) ∧ w.F dx = some (exd dx (ks.zip vs)) ∧ ks.length = vs.length ∧ Reps K w ds vs := by simpa only [Rep] using r
theorem rep_ins {c : Str} {ks : List Str} {ds : List D} (r : Rep K w (.ins c ks ds) v) : ∃ (a C dx : Addr) (vs : List V), v = .ref a ∧ PySem.W.nsIn K mainGlobals c = some (some (.ref C)) ∧ w.F a = some (.ins C dx (ks.zip vs)) ∧ w.F dx = some (.own a) ∧ ks.length = vs.length ∧ Reps K w ds vs := by simpa only [Rep] using r
theorem of_non : Rep K w .non .non := by simp only [Rep]
theorem of_bl {b : Bool} : Rep K w (.bl b) (.bl b) := by simp only [Rep]
theorem of_int {i : Int} : Rep K w (.int i) (.int i) := by simp only [Rep]
theorem of_str {x : Str} : Rep K w (.str x) (.str x) := by simp only [Rep]
theorem of_tup {l : List D} {a : Addr} {vs : List V} (h : SqT K w.F a vs) (r : Reps K w l vs) : Rep K w (.tup l) (.ref a) := by simp only [Rep]; exact ⟨a, vs, rfl, h, r⟩
theorem of_lst {l : List D} {a : Addr} {vs : List V} (h : w.F a = some (.lst vs)) (r : Reps K w l vs) : Rep K w (.lst l) (.ref a) := by simp only [Rep]; exact ⟨a, vs, rfl, h, r⟩
end
/-- a new tuple -/
theorem BRel.newTup {K : PySem.W.Frag} {w : Wd} {s : S} {σ : LSt} {H : Hp} {p : Addr} {ds : List D} {vs : List V} (R : BRel K B w s σ H) (h : H p = none) (r : Reps K w ds vs) :
    ∃ w', To σ w s H σ w' s (upd H p (.tup vs)) ∧ BRel K B w' s σ (upd H p (.tup vs)) ∧ Rep K w' (.tup ds) (.ref p) := by
  have R1 := R.new (o := .tup vs) h
  have hF := R.newF h
  refine ⟨⟨upd w.F p (.tup vs), w.th, w.cs⟩, ⟨frz_le hF, fun b u q => ?_⟩, R1.freeze upd_same hF (R.newT h) (R.live h) (fun i e q z => ?_), of_tup (.inl (.inl upd_same)) (r.mono (frz_le hF))⟩
  · have nb : b ≠ p := fun z => by rw [z] at q; have := q.at_; rw [h] at this; cases this
    exact ⟨by rw [upd_ne nb]; exact q.at_, by show upd w.F p _ b = none; rw [upd_ne nb]; exact q.f, q.t, q.sl⟩
  · obtain ⟨b, x, h1, h2, _⟩ := R.own i e q
    rw [h1] at z; cases z
    rw [h] at h2; cases h2
/-- a new list is nobody's -/
theorem BRel.newO {K : PySem.W.Frag} {w : Wd} {s : S} {σ : LSt} {H : Hp} {p : Addr} {d : D} {o : HO} {QD : D → S → Prop} {ED : Ex → S → Prop} {Q : VK} (R : BRel K B w s σ H) (h : H p = none) (ho : Own K w d o) (q : QD d s) (P : Post K B W σ (rO K B) w s H QD ED Q) : Q (.ref p) (upd H p o) :=
  P.ok d s _ w _ (To.new h) (R.new h) ⟨p, rfl, R.fresh h ho, fun u z => by have := z.at_; rw [h] at this; cases this⟩ q
/-! + - * // % -/
def dAdd : Op2 := fun x y s Q _ => match x, y with
  | .int i, .int j => Q (.int (i + j)) s
  | .str a, .str b => a.length + b.length ≤ sizeLine ∧ Q (.str (a ++ b)) s
  | .tup a, .tup b => a ≠ [] ∧ a.length + b.length ≤ sizeLine ∧ Q (.tup (a ++ b)) s
  | _, _ => False
def rAddI : R2 := rI0 fun i j => .int (i + j)
def rAddS : R2 := fun x y H Q => ∃ i j, x = .str i ∧ y = .str j ∧ i.length + j.length ≤ sizeLine ∧ Q (.str (i ++ j)) H
theorem opAdd {X : Cx} : OpR X (binaryOp .Add) (fun x y H Q => rAddI x y H Q ∨ (rAddS x y H Q ∨ rCatT X.K x y H Q)) := op_add.or (op_add_str.or op_catT)
theorem opsAdd {K : PySem.W.Frag} : OpS K B W (fun x y H Q => rAddI x y H Q ∨ (rAddS x y H Q ∨ rCatT K x y H Q)) dAdd := by
  intro σ w s H x y dx dy QD ED Q r rx ry h p
  unfold dAdd at h
  split at h
  · cases rep_int rx; cases rep_int ry
    exact .inl ⟨_, _, rfl, rfl, tG.ret (R := rE K) r of_int h p⟩
  · cases rep_str rx; cases rep_str ry
    exact .inr (.inl ⟨_, _, rfl, rfl, h.1, tG.ret (R := rE K) r of_str h.2 p⟩)
  · rename_i a b
    obtain ⟨a1, v1, rfl, q1, z1⟩ := rep_tup rx
    obtain ⟨a2, v2, rfl, q2, z2⟩ := rep_tup ry
    obtain ⟨ha, hl, h⟩ := h
    have l1 := z1.length
    have l2 := z2.length
    refine .inr (.inr ⟨a1, a2, v1, v2, rfl, rfl, same_t r.sub q1, same_t r.sub q2, ?_, by omega, fun e => ?_, fun e pp hp => ?_⟩)
    · intro e; subst e; simp at l1; exact ha (List.eq_nil_of_length_eq_zero l1.symm)
    · subst e
      have : b = [] := List.eq_nil_of_length_eq_zero l2.symm
      subst this
      rw [List.append_nil] at h
      exact tG.ret (R := rE K) r rx h p
    · obtain ⟨w', le, r', rp⟩ := r.newTup hp (z1.append z2)
      exact p.ok _ s _ w' _ le r' rp h
  · exact h.elim
def dSub : Op2 := fun x y s Q _ => match x, y with
  | .int i, .int j => Q (.int (i - j)) s
  | _, _ => False
theorem opsI {K : PySem.W.Frag} {C : Int → Int → Prop} {g : Int → Int → Int} : OpS K B W (rI C fun i j => .int (g i j)) (fun x y s Q _ => match x, y with | .int i, .int j => C i j ∧ Q (.int (g i j)) s | _, _ => False) := by
  intro σ w s H x y dx dy QD ED Q r rx ry h p
  split at h
  · cases rep_int rx; cases rep_int ry
    exact ⟨_, _, rfl, rfl, h.1, tG.ret (R := rE K) r of_int h.2 p⟩
  · exact h.elim
theorem opsI0 {K : PySem.W.Frag} {g : Int → Int → Int} : OpS K B W (rI0 fun i j => .int (g i j)) (fun x y s Q _ => match x, y with | .int i, .int j => Q (.int (g i j)) s | _, _ => False) := by
  intro σ w s H x y dx dy QD ED Q r rx ry h p
  split at h
  · cases rep_int rx; cases rep_int ry
    exact ⟨_, _, rfl, rfl, tG.ret (R := rE K) r of_int h p⟩
  · exact h.elim
theorem opsB0 {K : PySem.W.Frag} {g : Int → Int → Bool} : OpS K B W (rI0 fun i j => .bl (g i j)) (fun x y s Q _ => match x, y with | .int i, .int j => Q (.bl (g i j)) s | _, _ => False) := by
  intro σ w s H x y dx dy QD ED Q r rx ry h p
  split at h
  · cases rep_int rx; cases rep_int ry
    exact ⟨_, _, rfl, rfl, tG.ret (R := rE K) r of_bl h p⟩
  · exact h.elim
theorem opsSub {K : PySem.W.Frag} : OpS K B W (rI0 fun i j => .int (i - j)) dSub := opsI0
def dMul : Op2 := fun x y s Q _ => match x, y with
  | .int i, .int j => CMul i j ∧ Q (.int (i * j)) s
  | _, _ => False
theorem opsMul {K : PySem.W.Frag} : OpS K B W (rI CMul fun i j => .int (i * j)) dMul := opsI
def dMod : Op2 := fun x y s Q _ => match x, y with
  | .int i, .int j => 0 < j ∧ Q (.int (i % j)) s
  | _, _ => False
theorem opsMod {K : PySem.W.Frag} : OpS K B W (rI (fun _ j => 0 < j) fun i j => .int (i % j)) dMod := opsI
def dDiv : Op2 := fun x y s Q _ => match x, y with
  | .int i, .int j => CDiv i j ∧ Q (.int (i / j)) s
  | _, _ => False
theorem opsDiv {K : PySem.W.Frag} : OpS K B W (rI CDiv fun i j => .int (i / j)) dDiv := opsI
def dLt : Op2 := fun x y s Q _ => match x, y with
  | .int i, .int j => Q (.bl (decide (i < j))) s
  | _, _ => False
def dLe : Op2 := fun x y s Q _ => match x, y with
  | .int i, .int j => Q (.bl (decide (i ≤ j))) s
  | _, _ => False
def dGt : Op2 := fun x y s Q _ => match x, y with
  | .int i, .int j => Q (.bl (decide (j < i))) s
  | _, _ => False
def dGe : Op2 := fun x y s Q _ => match x, y with
  | .int i, .int j => Q (.bl (decide (j ≤ i))) s
  | _, _ => False
theorem opsLt {K : PySem.W.Frag} : OpS K B W (rI0 fun i j => .bl (decide (i < j))) dLt := opsB0
theorem opsLe {K : PySem.W.Frag} : OpS K B W (rI0 fun i j => .bl (decide (i ≤ j))) dLe := opsB0
theorem opsGt {K : PySem.W.Frag} : OpS K B W (rI0 fun i j => .bl (decide (j < i))) dGt := opsB0
theorem opsGe {K : PySem.W.Frag} : OpS K B W (rI0 fun i j => .bl (decide (j ≤ i))) dGe := opsB0

/-! lists: xs + ys, xs * n: fresh -/
theorem own_lst {K : PySem.W.Frag} {w : Wd} {l : List D} {vs : List V} (r : Reps K w l vs) : Own K w (.lst l) (.lst vs) := ⟨vs, rfl, r⟩
def dCat : Op2 := fun x y s Q _ => match x, y with
  | .lst a, .lst b => a.length + b.length ≤ sizeLine ∧ Q (.lst (a ++ b)) s
  | _, _ => False
theorem opsCat {K : PySem.W.Frag} : OpF K B W rCat dCat := by
  intro σ w s H x y dx dy QD ED Q r rx ry h p
  unfold dCat at h
  split at h
  · obtain ⟨a1, v1, rfl, q1, z1⟩ := rep_lst rx
    obtain ⟨a2, v2, rfl, q2, z2⟩ := rep_lst ry
    have l1 := z1.length
    have l2 := z2.length
    exact ⟨a1, a2, v1, v2, rfl, rfl, r.sub _ _ q1, r.sub _ _ q2, by omega, fun pp hp => r.newO hp (own_lst (z1.append z2)) h.2 p⟩
  · exact h.elim
theorem Reps.rep {K : PySem.W.Frag} {w : Wd} {ds : List D} {vs : List V} (r : Reps K w ds vs) : ∀ n : Nat, Reps K w (List.replicate n ds).flatten (List.replicate n vs).flatten
  | 0 => .nil
  | n + 1 => by
    rw [List.replicate_succ, List.replicate_succ, List.flatten_cons, List.flatten_cons]
    exact r.append (Reps.rep r n)
def dRep : Op2 := fun x y s Q _ => match x, y with
  | .lst a, .int k => -(2 ^ 63) ≤ k ∧ k < 2 ^ 63 ∧ a.length * k.toNat ≤ sizeLine ∧ Q (.lst (List.replicate k.toNat a).flatten) s
  | _, _ => False
theorem opsRep {K : PySem.W.Frag} : OpF K B W rRep dRep := by
  intro σ w s H x y dx dy QD ED Q r rx ry h p
  unfold dRep at h
  split at h
  · obtain ⟨a1, v1, rfl, q1, z1⟩ := rep_lst rx
    cases rep_int ry
    have l1 := z1.length
    exact ⟨a1, _, v1, rfl, rfl, r.sub _ _ q1, h.1, h.2.1, by rw [l1]; exact h.2.2.1, fun pp hp => r.newO hp (own_lst (z1.rep _)) h.2.2.2 p⟩
  · exact h.elim

/-! is None -/
def D.isNon : D → Bool
  | .non => true
  | _ => false
def dIsN : Op2 := fun x y s Q _ => match x, y with
  | x, .non => Q (.bl x.isNon) s
  | _, _ => False
def dNotN : Op2 := fun x y s Q _ => match x, y with
  | x, .non => Q (.bl !x.isNon) s
  | _, _ => False
theorem rep_nonQ {K : PySem.W.Frag} {w : Wd} {d : D} {v : V} (r : Rep K w d v) : decide (v = .non) = d.isNon := by
  cases d with
  | non => rw [rep_non r]; rfl
  | bl _ => rw [rep_bl r]; rfl
  | int _ => rw [rep_int r]; rfl
  | str _ => rw [rep_str r]; rfl
  | tup _ => obtain ⟨_, _, e, _⟩ := rep_tup r; rw [e]; rfl
  | lst _ => obtain ⟨_, _, e, _⟩ := rep_lst r; rw [e]; rfl
  | dct _ _ => obtain ⟨_, _, e, _⟩ := rep_dct r; rw [e]; rfl
  | ref _ => obtain ⟨_, e, _⟩ := rep_ref r; rw [e]; rfl
  | scr => obtain ⟨_, _, e, _⟩ := rep_scr r; rw [e]; rfl
  | fn _ _ _ _ => obtain ⟨_, _, _, e, _⟩ := rep_fn r; rw [e]; rfl
  | exc _ _ _ => obtain ⟨_, _, _, _, e, _⟩ := rep_exc r; rw [e]; rfl
  | ins _ _ _ => obtain ⟨_, _, _, _, e, _⟩ := rep_ins r; rw [e]; rfl
theorem opsIsN {K : PySem.W.Frag} : OpS K B W (fun x y H Q => y = .non ∧ Q (.bl (decide (x = .non))) H) dIsN := by
  intro σ w s H x y dx dy QD ED Q r rx ry h p
  unfold dIsN at h
  split at h
  · refine ⟨rep_non ry, ?_⟩
    rw [rep_nonQ rx]
    exact tG.ret (R := rE K) r of_bl h p
  · exact h.elim
theorem opsNotN {K : PySem.W.Frag} : OpS K B W (fun x y H Q => y = .non ∧ Q (.bl (!decide (x = .non))) H) dNotN := by
  intro σ w s H x y dx dy QD ED Q r rx ry h p
  unfold dNotN at h
  split at h
  · rename_i x
    refine ⟨rep_non ry, ?_⟩
    rw [rep_nonQ rx]
    exact tG.ret (R := rE K) r of_bl h p
  · exact h.elim

/-! == and != -/
mutual
def D.data : D → Option PyData
  | .non => some .none
  | .bl b => some (.bool b)
  | .int i => some (.int i)
  | .str x => some (.str x)
  | .tup l => (D.datas l).map .tuple
  | .lst l => (D.datas l).map .list
  | .dct _ _ => none
  | .ref _ => none
  | .scr => none
  | .fn _ _ _ _ => none
  | .exc _ _ _ => none
  | .ins _ _ _ => none
def D.datas : List D → Option (List PyData)
  | [] => some []
  | d :: ds => (D.data d).bind fun x => (D.datas ds).map fun xs => x :: xs
end
mutual
theorem data_dp {K : PySem.W.Frag} {w : Wd} {H : Hp} (hs : Same w.F H) : ∀ {d : D} {v : V} {p : PyData}, Rep K w d v → d.data = some p → Dp K H v p
  | .non, _, _, r, e => by rw [rep_non r]; simp only [D.data, Option.some.injEq] at e; subst e; exact .non
  | .bl b, _, _, r, e => by rw [rep_bl r]; simp only [D.data, Option.some.injEq] at e; subst e; exact .bl b
  | .int i, _, _, r, e => by rw [rep_int r]; simp only [D.data, Option.some.injEq] at e; subst e; exact .int i
  | .str x, _, _, r, e => by rw [rep_str r]; simp only [D.data, Option.some.injEq] at e; subst e; exact .str x
  | .tup l, _, _, r, e => by
    obtain ⟨a, vs, rfl, q, z⟩ := rep_tup r
    simp only [D.data, Option.map_eq_some_iff] at e
    obtain ⟨ps, e1, rfl⟩ := e
    exact .tup (same_t hs q) (datas_dp hs z e1)
  | .lst l, _, _, r, e => by
    obtain ⟨a, vs, rfl, q, z⟩ := rep_lst r
    simp only [D.data, Option.map_eq_some_iff] at e
    obtain ⟨ps, e1, rfl⟩ := e
    exact .lst (.inl (.inl (hs _ _ q))) (datas_dp hs z e1)
  | .dct _ _, _, _, _, e => by simp [D.data] at e
  | .ref _, _, _, _, e => by simp [D.data] at e
  | .scr, _, _, _, e => by simp [D.data] at e
  | .fn _ _ _ _, _, _, _, e => by simp [D.data] at e
  | .exc _ _ _, _, _, _, e => by simp [D.data] at e
  | .ins _ _ _, _, _, _, e => by simp [D.data] at e
theorem datas_dp {K : PySem.W.Frag} {w : Wd} {H : Hp} (hs : Same w.F H) : ∀ {d : List D} {v : List V} {p : List PyData}, Reps K w d v → D.datas d = some p → DpAll K H v p
  | [], _, _, r, e => by simp only [Reps] at r; subst r; simp only [D.datas, Option.some.injEq] at e; subst e; exact .nil
  | d :: ds, _, _, r, e => by
    simp only [Reps] at r
    obtain ⟨v, vs, rfl, r1, r2⟩ := r
    simp only [D.datas, Option.bind_eq_some_iff, Option.map_eq_some_iff] at e
    obtain ⟨x, e1, xs, e2, rfl⟩ := e
    exact .cons (data_dp hs r1 e1) (datas_dp hs r2 e2)
end
/-- == of texts, of truth values, of numbers, of None; of data -/
def eqQ (x y : D) : Option Bool := match x, y with
  | .str a, .str b => some (decide (a = b))
  | .int a, .int b => some (decide (a = b))
  | .bl a, .bl b => some (decide (a = b))
  | x, y => match x.data, y.data with
    | some a, some b => if SeqAt.shaped a = true ∧ SeqAt.shaped b = true then some (PyData.eqv a b) else none
    | _, _ => none
def dEq : Op2 := fun x y s Q _ => match eqQ x y with
  | some b => Q (.bl b) s
  | none => False
def dNe : Op2 := fun x y s Q _ => match eqQ x y with
  | some b => Q (.bl !b) s
  | none => False
theorem eqQ_of {K : PySem.W.Frag} {w : Wd} {H : Hp} {x y : D} {u v : V} {b : Bool} (hs : Same w.F H) (rx : Rep K w x u) (ry : Rep K w y v) (e : eqQ x y = some b) :
    (scal u v = true ∧ decide (u = v) = b) ∨ ∃ d e, Dp K H u d ∧ Dp K H v e ∧ SeqAt.shaped d = true ∧ SeqAt.shaped e = true ∧ PyData.eqv d e = b := by
  unfold eqQ at e
  split at e
  · cases rep_str rx; cases rep_str ry; cases e
    refine .inl ⟨rfl, ?_⟩
    simp
  · cases rep_int rx; cases rep_int ry; cases e
    refine .inl ⟨rfl, ?_⟩
    simp
  · cases rep_bl rx; cases rep_bl ry; cases e
    refine .inl ⟨rfl, ?_⟩
    simp
  · split at e
    · rename_i e1 e2
      split at e
      · rename_i sh
        cases e
        exact .inr ⟨_, _, data_dp hs rx e1, data_dp hs ry e2, sh.1, sh.2, rfl⟩
      · cases e
    · cases e
theorem opsEq {K : PySem.W.Frag} : OpS K B W (fun x y H Q => rEq x y H Q ∨ rEqD K x y H Q) dEq := by
  intro σ w s H x y dx dy QD ED Q r rx ry h p
  unfold dEq at h
  split at h
  · rename_i b e
    rcases eqQ_of r.sub rx ry e with ⟨h1, h2⟩ | ⟨d, e, h1, h2, h3, h4, h5⟩
    · exact .inl ⟨h1, by rw [h2]; exact tG.ret (R := rE K) r of_bl h p⟩
    · exact .inr ⟨d, e, h1, h2, h3, h4, by rw [h5]; exact tG.ret (R := rE K) r of_bl h p⟩
  · exact h.elim
theorem opsNe {K : PySem.W.Frag} : OpS K B W (fun x y H Q => rNe x y H Q ∨ rNeD K x y H Q) dNe := by
  intro σ w s H x y dx dy QD ED Q r rx ry h p
  unfold dNe at h
  split at h
  · rename_i b e
    rcases eqQ_of r.sub rx ry e with ⟨h1, h2⟩ | ⟨d, e, h1, h2, h3, h4, h5⟩
    · exact .inl ⟨h1, by rw [h2]; exact tG.ret (R := rE K) r of_bl h p⟩
    · exact .inr ⟨d, e, h1, h2, h3, h4, by rw [h5]; exact tG.ret (R := rE K) r of_bl h p⟩
  · exact h.elim
/-! in, not in: a flat value in a list or tuple of flat values; a sign in a text -/
def D.flat : D → Bool
  | .non => true | .bl _ => true | .int _ => true | .str _ => true
  | _ => false
def eqF : D → D → Bool
  | .non, .non => true
  | .bl a, .bl b => a == b
  | .bl a, .int b => (if a then 1 else 0) == b
  | .int a, .bl b => a == (if b then 1 else 0)
  | .int a, .int b => a == b
  | .str a, .str b => a == b
  | _, _ => false
theorem flat_of {K : PySem.W.Frag} {w : Wd} {d : D} {v : V} (r : Rep K w d v) (h : d.flat = true) : flatV v = true := by
  cases d with
  | non => rw [rep_non r]; rfl
  | bl _ => rw [rep_bl r]; rfl
  | int _ => rw [rep_int r]; rfl
  | str _ => rw [rep_str r]; rfl
  | _ => simp [D.flat] at h
theorem eqF_of {K : PySem.W.Frag} {w : Wd} {d e : D} {v u : V} (r : Rep K w d v) (r' : Rep K w e u) (h : d.flat = true) (h' : e.flat = true) : eqV v u = eqF d e := by
  cases d <;> first | (simp [D.flat] at h; done) | skip
  all_goals (cases e <;> first | (simp [D.flat] at h'; done) | skip)
  all_goals simp only [Rep] at r r'; subst r r'; rfl
theorem flats_of {K : PySem.W.Frag} {w : Wd} : ∀ {ds : List D} {vs : List V}, Reps K w ds vs → ds.all D.flat = true → vs.all flatV = true
  | [], _, r, _ => by simp only [Reps] at r; subst r; rfl
  | d :: ds, _, r, h => by
    simp only [Reps] at r
    obtain ⟨v, vs, rfl, r1, r2⟩ := r
    rw [List.all_cons, Bool.and_eq_true] at h ⊢
    exact ⟨flat_of r1 h.1, flats_of r2 h.2⟩
theorem inF_of {K : PySem.W.Frag} {w : Wd} {x : D} {u : V} (rx : Rep K w x u) (hx : x.flat = true) : ∀ {ds : List D} {vs : List V}, Reps K w ds vs → ds.all D.flat = true → inV u vs = ds.any fun d => eqF d x
  | [], _, r, _ => by simp only [Reps] at r; subst r; rfl
  | d :: ds, _, r, h => by
    simp only [Reps] at r
    obtain ⟨v, vs, rfl, r1, r2⟩ := r
    rw [List.all_cons, Bool.and_eq_true] at h
    have ih := inF_of rx hx r2 h.2
    unfold inV at ih ⊢
    rw [List.any_cons, List.any_cons, ih, eqF_of r1 rx h.1 hx]
def inQ (x y : D) : Option Bool := match y with
  | .lst l => if x.flat = true ∧ l.all D.flat = true then some (l.any fun d => eqF d x) else none
  | .tup l => if x.flat = true ∧ l.all D.flat = true then some (l.any fun d => eqF d x) else none
  | .str z => match x with
    | .str ⟨⟨[c]⟩⟩ => some (decide (c ∈ z.cps.toList))
    | _ => none
  | _ => none
def dIn : Op2 := fun x y s Q _ => match inQ x y with
  | some b => Q (.bl b) s
  | none => False
def dNotIn : Op2 := fun x y s Q _ => match inQ x y with
  | some b => Q (.bl !b) s
  | none => False
def rInS : R2 := fun x y H Q => ∃ (c : Nat) (z : Str), x = .str ⟨#[c]⟩ ∧ y = .str z ∧ Q (.bl (decide (c ∈ z.cps.toList))) H
def rNotInS : R2 := fun x y H Q => ∃ (c : Nat) (z : Str), x = .str ⟨#[c]⟩ ∧ y = .str z ∧ Q (.bl (!decide (c ∈ z.cps.toList))) H
theorem inQ_of {K : PySem.W.Frag} {w : Wd} {H : Hp} {x y : D} {u v : V} {b : Bool} (hs : Same w.F H) (rx : Rep K w x u) (ry : Rep K w y v) (e : inQ x y = some b) :
    (∃ p xs, v = .ref p ∧ (SqL K H p xs ∨ SqT K H p xs) ∧ flatV u = true ∧ xs.all flatV = true ∧ inV u xs = b) ∨ ∃ (c : Nat) (z : Str), u = .str ⟨#[c]⟩ ∧ v = .str z ∧ decide (c ∈ z.cps.toList) = b := by
  unfold inQ at e
  split at e
  · split at e
    · rename_i h
      cases e
      obtain ⟨a, vs, rfl, q, z⟩ := rep_lst ry
      exact .inl ⟨a, vs, rfl, .inl (.inl (.inl (hs _ _ q))), flat_of rx h.1, flats_of z h.2, inF_of rx h.1 z h.2⟩
    · cases e
  · split at e
    · rename_i h
      cases e
      obtain ⟨a, vs, rfl, q, z⟩ := rep_tup ry
      exact .inl ⟨a, vs, rfl, .inr (same_t hs q), flat_of rx h.1, flats_of z h.2, inF_of rx h.1 z h.2⟩
    · cases e
  · split at e
    · cases e
      cases rep_str rx; cases rep_str ry
      exact .inr ⟨_, _, rfl, rfl, rfl⟩
    · cases e
  · cases e
theorem opsIn {K : PySem.W.Frag} : OpS K B W (fun x y H Q => rIn K false x y H Q ∨ rInS x y H Q) dIn := by
  intro σ w s H x y dx dy QD ED Q r rx ry h p
  unfold dIn at h
  split at h
  · rename_i b e
    rcases inQ_of r.sub rx ry e with ⟨a, xs, h1, h2, h3, h4, h5⟩ | ⟨c, z, h1, h2, h3⟩
    · refine .inl ⟨a, xs, h1, h2, h3, h4, ?_⟩
      rw [if_neg Bool.false_ne_true, h5]
      exact tG.ret (R := rE K) r of_bl h p
    · exact .inr ⟨c, z, h1, h2, by rw [h3]; exact tG.ret (R := rE K) r of_bl h p⟩
  · exact h.elim
theorem opsNotIn {K : PySem.W.Frag} : OpS K B W (fun x y H Q => rIn K true x y H Q ∨ rNotInS x y H Q) dNotIn := by
  intro σ w s H x y dx dy QD ED Q r rx ry h p
  unfold dNotIn at h
  split at h
  · rename_i b e
    rcases inQ_of r.sub rx ry e with ⟨a, xs, h1, h2, h3, h4, h5⟩ | ⟨c, z, h1, h2, h3⟩
    · refine .inl ⟨a, xs, h1, h2, h3, h4, ?_⟩
      rw [if_pos rfl, h5]
      exact tG.ret (R := rE K) r of_bl h p
    · exact .inr ⟨c, z, h1, h2, by rw [h3]; exact tG.ret (R := rE K) r of_bl h p⟩
  · exact h.elim
end
end DL

/-! ### tests, displays, subscripts, built-in calls -/
namespace DL
open PySem PySem.Spec PyProof.Rows L2
section
variable {X : Cx} {B : Ent} {W : WX} {a b c e : Expr} {es rest : List Expr} {f g h : M D} {fl gl : M (List D)} {t u : M Bool} {pos : Pos}

def truth (d : D) : M Bool := match d with
  | .bl b => M.ret b
  | _ => M.stuck
def dVal (f : M D) : M Bool := f.bnd truth
theorem tB_of {K : PySem.W.Frag} {σ : LSt} {H : Hp} {Q : Bool → Hp → Prop} (q : tT K B W (dVal f) σ H Q) : tB (tE K B W f) σ H Q := by
  refine tG.seq back_B q fun d s v w H' QD ED _ _ r rv z p => ?_
  cases d <;> first | exact z.elim | skip
  rename_i b
  exact ⟨b, rep_bl rv, tG.ret (R := rB) r rfl z p⟩
theorem dt_val (he : DE X B W e f) (hw : ∀ whole, isTrue e X.env whole = (do let v ← whole; standAt e.pos; holding [v] (truthy v)) := by intro _; rfl) : DT X B W e (dVal f) := PT.weak (pt_val he hw) fun _ _ _ q => tB_of q
def dTest (o : Op2) (f g : M D) : M Bool := dVal (dOp2 o f g)
theorem dt_cmp {op : CmpOp} {r : R2} {o : Op2} (ho : OpR X (compareOp op) r) (hs : OpS X.K B W r o) (ha : DE X B W a f) (hb : DE X B W b g) (hm : behindInMarks op b = false := by first | exact nomark _ | rfl) : DT X B W (.Compare a [op] [b] pos) (dTest o f g) :=
  PT.weak (pt_cmpR ho ha hb hm) fun σ H Q q => by
    have q := tB_of q
    obtain ⟨w, s, QD, ED, r, q, p⟩ := q
    exact op2_of hs ⟨w, s, QD, ED, r, q, p⟩
def dAndT (t u : M Bool) : M Bool := t.bnd fun c => if c = true then u else M.ret false
def dOrT (t u : M Bool) : M Bool := t.bnd fun c => if c = true then M.ret true else u
def dNotT (t : M Bool) : M Bool := t.bnd fun c => M.ret (!c)
theorem dw_and1 (ha : DT X B W a t) : DW X B W (.BoolOp .And [a] pos) t := pw_and1 ha
theorem dw_or1 (ha : DT X B W a t) : DW X B W (.BoolOp .Or [a] pos) t := pw_or1 ha
theorem dw_and (ha : DT X B W a t) (hb : DW X B W (.BoolOp .And (b :: rest) pos) u) : DW X B W (.BoolOp .And (a :: b :: rest) pos) (dAndT t u) := PW.weak (pw_and ha hb) fun σ H Q q => by
  refine tG.seq back_B q fun d s v w H' QD ED _ _ r rv z p => ?_
  subst rv
  cases v with
  | true => rw [if_pos rfl] at z ⊢; exact ⟨w, s, QD, ED, r, z, p⟩
  | false => rw [if_neg Bool.false_ne_true] at z ⊢; exact tG.ret (R := rB) r rfl z p
theorem dw_or (ha : DT X B W a t) (hb : DW X B W (.BoolOp .Or (b :: rest) pos) u) : DW X B W (.BoolOp .Or (a :: b :: rest) pos) (dOrT t u) := PW.weak (pw_or ha hb) fun σ H Q q => by
  refine tG.seq back_B q fun d s v w H' QD ED _ _ r rv z p => ?_
  subst rv
  cases v with
  | true => rw [if_pos rfl] at z ⊢; exact tG.ret (R := rB) r rfl z p
  | false => rw [if_neg Bool.false_ne_true] at z ⊢; exact ⟨w, s, QD, ED, r, z, p⟩
theorem dt_w (h : DW X B W e t) : DT X B W e t := PW.pt h
theorem dt_not (ha : DT X B W a t) : DT X B W (.UnaryOp .Not a pos) (dNotT t) := PT.weak (pt_not ha) fun σ H Q q => by
  refine tG.seq back_B q fun d s v w H' QD ED _ _ r rv z p => ?_
  subst rv
  exact tG.ret (R := rB) r rfl z p
/-! as values -/
def dAndV (f g : M D) : M D := f.bnd fun d => match d with
  | .bl true => g
  | .bl false => M.ret (.bl false)
  | _ => M.stuck
def dOrV (f g : M D) : M D := f.bnd fun d => match d with
  | .bl true => M.ret (.bl true)
  | .bl false => g
  | _ => M.stuck
def dNotV (f : M D) : M D := f.bnd fun d => match d with
  | .bl b => M.ret (.bl (!b))
  | _ => M.stuck
theorem de_one {op} (h : DE X B W a f) : DE X B W (.BoolOp op [a] pos) f := pe_one h
theorem de_and (ha : DE X B W a f) (hb : DE X B W (.BoolOp .And (b :: rest) pos) g) : DE X B W (.BoolOp .And (a :: b :: rest) pos) (dAndV f g) := PE.weak (pe_and ha hb) fun σ H Q q => by
  refine tG.seq (back_E _) q fun d s v w H' QD ED _ _ r rv z p => ?_
  cases d <;> first | exact z.elim | skip
  rename_i k
  cases rep_bl rv
  refine ⟨k, rfl, ?_⟩
  cases k with
  | true => rw [if_pos rfl]; exact ⟨w, s, QD, ED, r, z, p⟩
  | false => rw [if_neg Bool.false_ne_true]; exact tG.ret (R := rE _) r of_bl z p
theorem de_or (ha : DE X B W a f) (hb : DE X B W (.BoolOp .Or (b :: rest) pos) g) : DE X B W (.BoolOp .Or (a :: b :: rest) pos) (dOrV f g) := PE.weak (pe_or ha hb) fun σ H Q q => by
  refine tG.seq (back_E _) q fun d s v w H' QD ED _ _ r rv z p => ?_
  cases d <;> first | exact z.elim | skip
  rename_i k
  cases rep_bl rv
  refine ⟨k, rfl, ?_⟩
  cases k with
  | true => rw [if_pos rfl]; exact tG.ret (R := rE _) r of_bl z p
  | false => rw [if_neg Bool.false_ne_true]; exact ⟨w, s, QD, ED, r, z, p⟩
theorem de_not (ha : DE X B W a f) : DE X B W (.UnaryOp .Not a pos) (dNotV f) := PE.weak (pe_not ha) fun σ H Q q => by
  refine tG.seq (back_E _) q fun d s v w H' QD ED _ _ r rv z p => ?_
  cases d <;> first | exact z.elim | skip
  rename_i k
  cases rep_bl rv
  exact ⟨k, rfl, tG.ret (R := rE _) r of_bl z p⟩
def dIf {α : Type} (t : M Bool) (f g : M α) : M α := t.bnd fun c => if c = true then f else g
theorem de_if (hc : DT X B W c t) (ha : DE X B W a f) (hb : DE X B W b g) : DE X B W (.IfExp c a b pos) (dIf t f g) := PE.weak (pe_ifExp hc ha hb) fun σ H Q q => by
  refine tG.seq (back_E _) q fun d s v w H' QD ED _ _ r rv z p => ?_
  subst rv
  cases v with
  | true => rw [if_pos rfl] at z ⊢; exact ⟨w, s, QD, ED, r, z, p⟩
  | false => rw [if_neg Bool.false_ne_true] at z ⊢; exact ⟨w, s, QD, ED, r, z, p⟩
theorem do_if (hc : DT X B W c t) (ha : DO X B W a f) (hb : DO X B W b g) : DO X B W (.IfExp c a b pos) (dIf t f g) := PE.weak (pe_ifExp hc ha hb) fun σ H Q q => by
  refine tG.seq (back_O _ _) q fun d s v w H' QD ED _ _ r rv z p => ?_
  subst rv
  cases v with
  | true => rw [if_pos rfl] at z ⊢; exact ⟨w, s, QD, ED, r, z, p⟩
  | false => rw [if_neg Bool.false_ne_true] at z ⊢; exact ⟨w, s, QD, ED, r, z, p⟩
/-- a < b < c -/
def dChain (o o' : Op2) (f g h : M D) : M D := f.bnd fun x => g.bnd fun y => (o x y).bnd fun z => match z with
  | .bl true => h.bnd fun u => o' y u
  | .bl false => M.ret (.bl false)
  | _ => M.stuck
theorem de_chain {op op' : CmpOp} {r r' : R2} {o o' : Op2} (ho : OpR X (compareOp op) r) (ho' : OpR X (compareOp op') r') (hs : OpS X.K B W r o) (hs' : OpS X.K B W r' o') (ha : DE X B W a f) (hb : DE X B W b g) (hc : DE X B W c h)
    (hm : lastMarks [op, op'] [b, c] = false := by with_unfolding_all rfl) : DE X B W (.Compare a [op, op'] [b, c] pos) (dChain o o' f g h) := PE.weak (pe_chain ho ho' ha hb hc hm) fun σ H Q q => by
  refine tG.seq (back_E _) q fun dx s vx w H1 QD ED _ _ r1 rx h1 p => ?_
  refine ⟨w, s, fun dy s' => _, ED, r1, h1, ⟨fun dy s2 vy w2 H2 le r2 ry h2 => ?_, p.ex⟩⟩
  refine hs σ w2 s2 H2 vx vy dx dy _ ED _ r2 (rx.mono le.le) ry h2 ⟨fun dz s3 vz w3 H3 le3 r3 rz h3 => ?_, fun e' s' w' H' c' dd le' => p.ex e' s' w' H' c' dd (le.le.trans le')⟩
  cases dz <;> first | exact h3.elim | skip
  rename_i k
  cases rep_bl rz
  refine ⟨k, rfl, ?_⟩
  have p3 := p.mono (back_E _) (le.trans le3)
  cases k with
  | false => rw [if_neg Bool.false_ne_true]; exact tG.ret (R := rE _) r3 of_bl h3 p3
  | true =>
    rw [if_pos rfl]
    refine ⟨w3, s3, fun du s' => _, ED, r3, h3, ⟨fun du s4 vu w4 H4 le4 r4 ru h4 => ?_, p3.ex⟩⟩
    exact hs' σ w4 s4 H4 vy vu dy du QD ED Q r4 (ry.mono (le3.le.trans le4.le)) ru h4 (p3.mono (back_E _) le4)

/-! ### lists of arguments, displays -/
def daNil : M (List D) := M.ret []
def daCons (f : M D) (g : M (List D)) : M (List D) := f.bnd fun x => g.bnd fun xs => M.ret (x :: xs)
def items (d : D) : M (List D) := match d with
  | .lst l => M.ret l
  | .tup l => M.ret l
  | _ => M.stuck
def daStar (f : M D) (g : M (List D)) : M (List D) := f.bnd fun x => (items x).bnd fun xs => g.bnd fun ys => M.ret (xs ++ ys)
theorem da_nil : DA X B W [] daNil := PA.weak pa_nil fun σ H Q q => by
  obtain ⟨w, s, QD, ED, r, q, p⟩ := q
  exact tG.ret (R := rA _) r .nil q p
theorem da_cons (ha : DE X B W e f) (hr : DA X B W es fl) (hs : starEach (e :: es) X.env = (false, eval e X.env) :: starEach es X.env := by rfl) : DA X B W (e :: es) (daCons f fl) := PA.weak (pa_cons ha hr hs) fun σ H Q q => by
  refine tG.seq (back_A _) q fun dx s vx w H1 QD ED _ _ r1 rx h1 p => ?_
  refine ⟨w, s, fun dy s' => _, ED, r1, h1, ⟨fun dy s2 vy w2 H2 le r2 ry h2 => ?_, p.ex⟩⟩
  exact tG.ret (R := rA _) r2 (.cons (rx.mono le.le) ry) h2 (p.mono (back_A _) le)
theorem items_of {K : PySem.W.Frag} {w : Wd} {s : S} {d : D} {v : V} {H : Hp} {QD : List D → S → Prop} {ED : Ex → S → Prop} (hs : Same w.F H) (r : Rep K w d v) (h : items d s QD ED) : ∃ a xs l, v = .ref a ∧ (SqT K w.F a xs ∨ SqL K w.F a xs) ∧ Reps K w l xs ∧ QD l s ∧ ((SqT K H a xs ∧ d = .tup l) ∨ (SqL K H a xs ∧ d = .lst l)) := by
  cases d <;> first | exact h.elim | skip
  · obtain ⟨a, vs, e, q, z⟩ := rep_tup r
    exact ⟨a, vs, _, e, .inl q, z, h, .inl ⟨same_t hs q, rfl⟩⟩
  · obtain ⟨a, vs, e, q, z⟩ := rep_lst r
    exact ⟨a, vs, _, e, .inr (.inl (.inl q)), z, h, .inr ⟨.inl (.inl (hs _ _ q)), rfl⟩⟩
theorem da_star {p : Pos} (ha : DE X B W e f) (hr : DA X B W es fl) (hs : starEach (.Starred e p :: es) X.env = (true, eval e X.env) :: starEach es X.env := by rfl) : DA X B W (.Starred e p :: es) (daStar f fl) := PA.weak (StX.pa_star ha hr hs) fun σ H Q q => by
  refine tG.seq (back_A _) q fun dx s vx w H1 QD ED _ _ r1 rx h1 p => ?_
  obtain ⟨a, xs, l, ev, h2, h3, h4, h5⟩ := items_of r1.sub rx h1
  refine ⟨a, xs, ev, h2.imp (same_t r1.sub) (same_l r1.sub), ?_⟩
  refine ⟨w, s, fun dy s' => _, ED, r1, h4, ⟨fun dy s2 vy w2 H2 le r2 ry h2 => ?_, p.ex⟩⟩
  exact tG.ret (R := rA _) r2 ((h3.mono le.le).append ry) h2 (p.mono (back_A _) le)
def dTup (f : M (List D)) : M D := f.bnd fun l s Q _ => l.length ≤ sizeLine ∧ Q (.tup l) s
def dLst (f : M (List D)) : M D := f.bnd fun l s Q _ => l.length ≤ sizeLine ∧ Q (.lst l) s
theorem de_tup {x1} (h : DA X B W es fl) : DE X B W (.Tuple es x1 pos) (dTup fl) := PE.weak (pe_tup h) fun σ H Q q => by
  refine tG.seq (back_E _) q fun dx s vx w H1 QD ED _ _ r1 rx h1 p => ?_
  refine ⟨by rw [rx.length]; exact h1.1, fun pp hp => ?_⟩
  obtain ⟨w', le, r', rp⟩ := r1.newTup hp rx
  exact p.ok _ s _ w' _ le r' rp h1.2
theorem do_lst (h : DA X B W es fl) : DO X B W (.List es pos) (dLst fl) := PE.weak (pe_lst h) fun σ H Q q => by
  refine tG.seq (back_O _ _) q fun dx s vx w H1 QD ED _ _ r1 rx h1 p => ?_
  exact ⟨by rw [rx.length]; exact h1.1, fun pp hp => r1.newO hp (own_lst rx) h1.2 p⟩

/-! ### subscripts -/
theorem Reps.atI {K : PySem.W.Frag} {w : Wd} {ds : List D} {vs : List V} {i : Int} {d : D} (r : Reps K w ds vs) (h : atI ds i = some d) : ∃ v, L2.atI vs i = some v ∧ Rep K w d v := by
  unfold L2.atI at h ⊢
  rw [r.length]
  cases e : ixN ds.length i with
  | none => rw [e] at h; cases h
  | some j => rw [e] at h; exact r.getD (i := j) h
def dIx : Op2 := fun x y s Q _ => match x, y with
  | .lst l, .int i => onSome (atI l i) fun d => Q d s
  | .tup l, .int i => onSome (atI l i) fun d => Q d s
  | .str z, .int i => z.length ≤ sizeLine ∧ onSome (atI z.cps.toList i) fun c => Q (.str ⟨#[c]⟩) s
  | _, _ => False
theorem opsIx {K : PySem.W.Frag} : OpS K B W (rIx K) dIx := by
  intro σ w s H x y dx dy QD ED Q r rx ry h p
  unfold dIx at h
  split at h
  · obtain ⟨d, e, q⟩ := onSome_ex h
    obtain ⟨a, vs, rfl, q1, z⟩ := rep_lst rx
    cases rep_int ry
    obtain ⟨v, e1, rv⟩ := z.atI e
    exact .inl ⟨a, vs, _, v, rfl, rfl, .inl (.inl (r.sub _ _ q1)), e1, tG.ret (R := rE _) r rv q p⟩
  · obtain ⟨d, e, q⟩ := onSome_ex h
    obtain ⟨a, vs, rfl, q1, z⟩ := rep_tup rx
    cases rep_int ry
    obtain ⟨v, e1, rv⟩ := z.atI e
    exact .inr (.inl ⟨a, vs, _, v, rfl, rfl, same_t r.sub q1, e1, tG.ret (R := rE _) r rv q p⟩)
  · obtain ⟨hz, h⟩ := h
    obtain ⟨c, e, q⟩ := onSome_ex h
    cases rep_str rx
    cases rep_int ry
    exact .inr (.inr ⟨_, _, c, rfl, rfl, hz, e, tG.ret (R := rE _) r of_str q p⟩)
  · exact h.elim
theorem de_ix (ha : DE X B W a f) (hb : DE X B W b g) (hs : PlainIx b := by exact fun _ _ => rfl) : DE X B W (.Subscript a b pos) (dOp2 dIx f g) := PE.weak (pe_ix ix_seq ha hb hs) fun _ _ _ q => op2_of opsIx q
/-! slices -/
def dPart (d : D) : M (Option Int) := match d with
  | .int i => M.ret (some i)
  | _ => M.stuck
def cutD (l : List D) (lo hi : Option Int) : List D := (l.drop (HT.sIx l.length 0 lo)).take (HT.sIx l.length l.length hi - HT.sIx l.length 0 lo)
theorem Reps.cut {K : PySem.W.Frag} {w : Wd} {ds : List D} {vs : List V} (r : Reps K w ds vs) (lo hi : Option Int) : Reps K w (cutD ds lo hi) (cutV vs lo hi) := by
  unfold cutD cutV
  rw [r.length]
  exact (r.drop _).take _
def rI : Rl (Option Int) (Option Int) := fun _ _ _ _ _ _ _ d v => v = d
abbrev DP (X : Cx) (B : Ent) (W : WX) (e : Option Expr) (f : M (Option Int)) : Prop := PO X e (tG X.K B W rI f)
theorem PO.weak {X : Cx} {e : Option Expr} {t t' : TO} (h : PO X e t) (k : ∀ σ H Q, t' σ H Q → t σ H Q) : PO X e t' := ⟨fun pins s σ H Q I q => h.run pins s σ H Q I (k σ H Q q)⟩
theorem dp_none : DP X B W none (M.ret none) := PO.weak po_none fun σ H Q q => by
  obtain ⟨w, s, QD, ED, r, q, p⟩ := q
  exact tG.ret (R := rI) r rfl q p
theorem dp_some (h : DE X B W e f) : DP X B W (some e) (f.bnd dPart) := PO.weak (po_some h) fun σ H Q q => by
  refine tG.seq (fun _ _ _ _ _ _ _ _ _ _ _ _ _ h => h) q fun dx s vx w H1 QD ED _ _ r1 rx h1 p => ?_
  cases dx <;> first | exact h1.elim | skip
  exact ⟨_, rep_int rx, tG.ret (R := rI) r1 rfl h1 p⟩
def dSlT (f : M D) (lo hi : M (Option Int)) : M D := f.bnd fun x => lo.bnd fun l => hi.bnd fun u => fun s Q _ => match x with
  | .str z => z.length ≤ sizeLine ∧ Q (.str (cutS z l u)) s
  | _ => False
def dSlL (f : M D) (lo hi : M (Option Int)) : M D := f.bnd fun x => lo.bnd fun l => hi.bnd fun u => fun s Q _ => match x with
  | .lst z => Q (.lst (cutD z l u)) s
  | _ => False
theorem de_slice {p2 : Pos} {lo hi : Option Expr} {fl fh : M (Option Int)} (ha : DE X B W a f) (hl : DP X B W lo fl) (hh : DP X B W hi fh) : DE X B W (.Subscript a (.Slice lo hi none p2) pos) (dSlT f fl fh) := PE.weak (pe_slice sl_str ha hl hh) fun σ H Q q => by
  refine tG.seq (back_E _) q fun dx s vx w H1 QD ED _ _ r1 rx h1 p => ?_
  refine ⟨w, s, fun dy s' => _, ED, r1, h1, ⟨fun dy s2 vy w2 H2 le r2 ry h2 => ?_, p.ex⟩⟩
  refine ⟨w2, s2, fun dz s' => _, ED, r2, h2, ⟨fun dz s3 vz w3 H3 le3 r3 rz h3 => ?_, (p.mono (back_E _) le).ex⟩⟩
  subst ry rz
  cases dx <;> first | exact h3.elim | skip
  exact ⟨_, rep_str rx, h3.1, tG.ret (R := rE _) r3 of_str h3.2 (p.mono (back_E _) (le.trans le3))⟩
theorem do_slice {p2 : Pos} {lo hi : Option Expr} {fl fh : M (Option Int)} (ha : DE X B W a f) (hl : DP X B W lo fl) (hh : DP X B W hi fh) : DO X B W (.Subscript a (.Slice lo hi none p2) pos) (dSlL f fl fh) := PE.weak (pe_slice sl_list ha hl hh) fun σ H Q q => by
  refine tG.seq (back_O _ _) q fun dx s vx w H1 QD ED _ _ r1 rx h1 p => ?_
  refine ⟨w, s, fun dy s' => _, ED, r1, h1, ⟨fun dy s2 vy w2 H2 le r2 ry h2 => ?_, p.ex⟩⟩
  refine ⟨w2, s2, fun dz s' => _, ED, r2, h2, ⟨fun dz s3 vz w3 H3 le3 r3 rz h3 => ?_, (p.mono (back_O _ _) le).ex⟩⟩
  subst ry rz
  cases dx <;> first | exact h3.elim | skip
  obtain ⟨a, vs, rfl, q1, z⟩ := rep_lst rx
  exact ⟨a, vs, rfl, .inl (.inl (r3.sub _ _ ((le.le.trans le3.le).1 _ _ q1))), fun pp hp => r3.newO hp (own_lst ((z.mono (le.le.trans le3.le)).cut _ _)) h3 (p.mono (back_O _ _) (le.trans le3))⟩

/-! ### built-in functions by values -/
abbrev OpN := List D → M D
def dN (o : OpN) (f : M (List D)) : M D := f.bnd o
def CS (K : PySem.W.Frag) (B : Ent) (W : WX) (r : List V → Hp → VK → Prop) (o : OpN) : Prop := ∀ σ w s H vs ds QD ED Q, BRel K B w s σ H → Reps K w ds vs → o ds s QD ED → Post K B W σ (rE K) w s H QD ED Q → r vs H Q
def CF (K : PySem.W.Frag) (B : Ent) (W : WX) (r : List V → Hp → VK → Prop) (o : OpN) : Prop := ∀ σ w s H vs ds QD ED Q, BRel K B w s σ H → Reps K w ds vs → o ds s QD ED → Post K B W σ (rO K B) w s H QD ED Q → r vs H Q
theorem cs_of {K : PySem.W.Frag} {r : List V → Hp → VK → Prop} {o : OpN} (hs : CS K B W r o) {σ : LSt} {H : Hp} {Q : VK} (q : tE K B W (dN o fl) σ H Q) : tCB r (tA K B W fl) σ H Q := tG.seq (back_E _) q fun dx s vx w H1 QD ED _ _ r1 rx h1 p => hs σ w s H1 vx dx QD ED Q r1 rx h1 p
theorem cf_of {K : PySem.W.Frag} {r : List V → Hp → VK → Prop} {o : OpN} (hs : CF K B W r o) {σ : LSt} {H : Hp} {Q : VK} (q : tO K B W (dN o fl) σ H Q) : tCB r (tA K B W fl) σ H Q := tG.seq (back_O _ _) q fun dx s vx w H1 QD ED _ _ r1 rx h1 p => hs σ w s H1 vx dx QD ED Q r1 rx h1 p
section
variable {x : Str} {id T : String} {r : List V → Hp → VK → Prop} {o : OpN} {p : Pos}
theorem de_callB (hc : CallR X (.builtin id) r) (hs : CS X.K B W r o) (hm : X.mg x = none) (ha : DA X B W (e :: es) fl) (hv : bootBuiltins x = some (.builtin id) := by decide +kernel) (hg : Gl X x := by rfl) (hn : x ≠ "__name__" := by decide) (hdb : (x == ("__debug__" : Str)) = false := by decide)
    (he : starEach (e :: es) X.env = (false, eval e X.env) :: starEach es X.env := by rfl) (hpl : (backTo pos (starEach es X.env)).any (·.1) = false := by rfl) : DE X B W (.Call (.Name x p) (e :: es) [] pos) (dN o fl) := PE.weak (pe_callB hc hg hm hv ha hn hdb he hpl) fun _ _ _ q => cs_of hs q
theorem do_callB (hc : CallR X (.builtin id) r) (hs : CF X.K B W r o) (hm : X.mg x = none) (ha : DA X B W (e :: es) fl) (hv : bootBuiltins x = some (.builtin id) := by decide +kernel) (hg : Gl X x := by rfl) (hn : x ≠ "__name__" := by decide) (hdb : (x == ("__debug__" : Str)) = false := by decide)
    (he : starEach (e :: es) X.env = (false, eval e X.env) :: starEach es X.env := by rfl) (hpl : (backTo pos (starEach es X.env)).any (·.1) = false := by rfl) : DO X B W (.Call (.Name x p) (e :: es) [] pos) (dN o fl) := PE.weak (pe_callB hc hg hm hv ha hn hdb he hpl) fun _ _ _ q => cf_of hs q
theorem de_callTy (hc : CallR X (.type T) r) (hs : CS X.K B W r o) (hm : X.mg x = none) (ha : DA X B W (e :: es) fl) (hv : bootBuiltins x = some (.type T) := by decide +kernel) (hg : Gl X x := by rfl) (hn : x ≠ "__name__" := by decide) (hdb : (x == ("__debug__" : Str)) = false := by decide)
    (he : starEach (e :: es) X.env = (false, eval e X.env) :: starEach es X.env := by rfl) (hpl : (backTo pos (starEach es X.env)).any (·.1) = false := by rfl) : DE X B W (.Call (.Name x p) (e :: es) [] pos) (dN o fl) := PE.weak (pe_callTy hc hg hm hv ha hn hdb he hpl) fun _ _ _ q => cs_of hs q
theorem do_callTy (hc : CallR X (.type T) r) (hs : CF X.K B W r o) (hm : X.mg x = none) (ha : DA X B W (e :: es) fl) (hv : bootBuiltins x = some (.type T) := by decide +kernel) (hg : Gl X x := by rfl) (hn : x ≠ "__name__" := by decide) (hdb : (x == ("__debug__" : Str)) = false := by decide)
    (he : starEach (e :: es) X.env = (false, eval e X.env) :: starEach es X.env := by rfl) (hpl : (backTo pos (starEach es X.env)).any (·.1) = false := by rfl) : DO X B W (.Call (.Name x p) (e :: es) [] pos) (dN o fl) := PE.weak (pe_callTy hc hg hm hv ha hn hdb he hpl) fun _ _ _ q => cf_of hs q
end
theorem reps1 {K : PySem.W.Frag} {w : Wd} {d : D} {vs : List V} (r : Reps K w [d] vs) : ∃ v, vs = [v] ∧ Rep K w d v := by
  simp only [Reps] at r
  obtain ⟨v, vs', e, r1, e2⟩ := r
  subst e2
  exact ⟨v, e, r1⟩
theorem reps2 {K : PySem.W.Frag} {w : Wd} {d d' : D} {vs : List V} (r : Reps K w [d, d'] vs) : ∃ v v', vs = [v, v'] ∧ Rep K w d v ∧ Rep K w d' v' := by
  simp only [Reps] at r
  obtain ⟨v, vs', e, r1, v', vs2, e2, r2, e3⟩ := r
  subst e3 e2
  exact ⟨v, v', e, r1, r2⟩
def lenQ (d : D) : Option Nat := match d with
  | .lst l => some l.length
  | .tup l => some l.length
  | .str z => if z.length ≤ sizeLine then some z.length else none
  | _ => none
def dLen : OpN := fun ds s Q _ => match ds with
  | [d] => match lenQ d with
    | some n => Q (.int n) s
    | none => False
  | _ => False
theorem lenV_of {K : PySem.W.Frag} {w : Wd} {H : Hp} {d : D} {v : V} {n : Nat} (hs : Same w.F H) (r : Rep K w d v) (e : lenQ d = some n) : LenV K v H n := by
  cases d <;> simp only [lenQ] at e <;> try (cases e; done)
  · split at e
    · cases e; cases rep_str r; rename_i h; exact ⟨h, rfl⟩
    · cases e
  · cases e
    obtain ⟨a, vs, rfl, q, z⟩ := rep_tup r
    exact .inr ⟨vs, same_t hs q, z.length.symm⟩
  · cases e
    obtain ⟨a, vs, rfl, q, z⟩ := rep_lst r
    exact .inl ⟨vs, .inl (.inl (hs _ _ q)), z.length.symm⟩
theorem csLen {K : PySem.W.Frag} : CS K B W (fun xs H Q => ∃ x n, xs = [x] ∧ LenV K x H n ∧ Q (.int n) H) dLen := by
  intro σ w s H vs ds QD ED Q r rv h p
  unfold dLen at h
  split at h
  · split at h
    · obtain ⟨v, rfl, r1⟩ := reps1 rv
      rename_i n e
      exact ⟨v, n, rfl, lenV_of r.sub r1 e, tG.ret (R := rE _) r of_int h p⟩
    · exact h.elim
  · exact h.elim
/-- tuple(x), list(x) of a list or a tuple -/
def dTupOf : OpN := fun ds s Q _ => match ds with
  | [.tup l] => Q (.tup l) s
  | [.lst l] => Q (.tup l) s
  | _ => False
def dLstOf : OpN := fun ds s Q _ => match ds with
  | [.tup l] => Q (.lst l) s
  | [.lst l] => Q (.lst l) s
  | _ => False
theorem csTupOf {K : PySem.W.Frag} : CS K B W (fun xs H Q => ∃ p ys, xs = [.ref p] ∧ ((SqL K H p ys ∧ ∀ l, H l = none → Q (.ref l) (upd H l (.tup ys))) ∨ (SqT K H p ys ∧ Q (.ref p) H))) dTupOf := by
  intro σ w s H vs ds QD ED Q r rv h p
  unfold dTupOf at h
  split at h
  · obtain ⟨v, rfl, r1⟩ := reps1 rv
    obtain ⟨a, ys, rfl, q, z⟩ := rep_tup r1
    exact ⟨a, ys, rfl, .inr ⟨same_t r.sub q, tG.ret (R := rE _) r r1 h p⟩⟩
  · obtain ⟨v, rfl, r1⟩ := reps1 rv
    obtain ⟨a, ys, rfl, q, z⟩ := rep_lst r1
    refine ⟨a, ys, rfl, .inl ⟨.inl (.inl (r.sub _ _ q)), fun pp hp => ?_⟩⟩
    obtain ⟨w', le, r', rp⟩ := r.newTup hp z
    exact p.ok _ s _ w' _ le r' rp h
  · exact h.elim
theorem cfLstOf {K : PySem.W.Frag} : CF K B W (fun xs H Q => ∃ p ys, xs = [.ref p] ∧ (SqL K H p ys ∨ SqT K H p ys) ∧ ∀ l, H l = none → Q (.ref l) (upd H l (.lst ys))) dLstOf := by
  intro σ w s H vs ds QD ED Q r rv h p
  unfold dLstOf at h
  split at h
  · obtain ⟨v, rfl, r1⟩ := reps1 rv
    obtain ⟨a, ys, rfl, q, z⟩ := rep_tup r1
    exact ⟨a, ys, rfl, .inr (same_t r.sub q), fun pp hp => r.newO hp (own_lst z) h p⟩
  · obtain ⟨v, rfl, r1⟩ := reps1 rv
    obtain ⟨a, ys, rfl, q, z⟩ := rep_lst r1
    exact ⟨a, ys, rfl, .inl (.inl (.inl (r.sub _ _ q))), fun pp hp => r.newO hp (own_lst z) h p⟩
  · exact h.elim
end
end DL

/-! ### isinstance; what is walked; targets; comprehensions -/
namespace DL
open PySem PySem.Spec PyProof.Rows L2
def tyD : D → Option String
  | .non => some "NoneType"
  | .bl _ => some "bool"
  | .int _ => some "int"
  | .str _ => some "str"
  | .tup _ => some "tuple"
  | .lst _ => some "list"
  | .dct _ _ => some "dict"
  | .ref _ => none
  | .scr => none
  | .fn _ _ _ _ => none
  | .exc _ _ _ => none
  | .ins _ _ _ => none
def tyNames : List String := ["NoneType", "bool", "int", "str", "tuple", "list", "dict"]
def isT (t T : String) : Bool := t == T || (t == "bool" && T == "int")
theorem kitB_is : ∀ t ∈ tyNames, ∀ T ∈ ["bool", "int", "str", "tuple", "list", "dict"], kitB t T = some (isT t T) := by decide +kernel
theorem tyD_mem {d : D} {t : String} (h : tyD d = some t) : t ∈ tyNames := by
  cases d <;> simp only [tyD, Option.some.injEq] at h <;> first | (cases h; done) | (subst h; decide)
theorem tyX_of {K : PySem.W.Frag} {w : Wd} {H : Hp} {d : D} {v : V} {T : String} (hs : Same w.F H) (r : Rep K w d v) (e : tyD d = some T) : TyX K H v (.type T) := by
  cases d <;> simp only [tyD, Option.some.injEq] at e <;> first | (cases e; done) | subst e
  · rw [rep_non r]; exact .base .non
  · rw [rep_bl r]; exact .base (.bl _)
  · rw [rep_int r]; exact .base (.int _)
  · rw [rep_str r]; exact .base (.str _)
  · obtain ⟨a, vs, rfl, q, z⟩ := rep_tup r
    rcases same_t hs q with (q | ⟨o, q⟩) | ⟨o, its, n, q, c, _⟩
    · exact .base (.tup q)
    · exact .fTuple q
    · exact .kTuple q c
  · obtain ⟨a, vs, rfl, q, z⟩ := rep_lst r
    exact .base (.lst (hs _ _ q))
  · obtain ⟨a, vs, rfl, q, l, z⟩ := rep_dct r
    exact .base (.dK (hs _ _ q))
def isQ (d : D) (Ts : List String) : Option Bool := (tyD d).map fun t => Ts.any (isT t)
def dIsi (Ts : List String) (f : M D) : M D := f.bnd fun d => match isQ d Ts with
  | some b => M.ret (.bl b)
  | none => M.stuck
section
variable {X : Cx} {B : Ent} {W : WX} {e : Expr} {f : M D} {pos p p2 p3 p4 : Pos} {x y : Str}
theorem de_isi (T : String) (hT : T ∈ ["bool", "int", "str", "tuple", "list", "dict"] := by decide) (hm : X.mg "isinstance" = none) (hmT : X.mg x = none) (ha : DE X B W e f) (hv : bootBuiltins x = some (.type T) := by decide +kernel) (hn : x ≠ "__name__" := by decide) (hd : (x == ("__debug__" : Str)) = false := by decide) (hg : Gl X "isinstance" := by rfl) (hgT : Gl X x := by rfl)
    (h1 : starEach [e, .Name x p2] X.env = (false, eval e X.env) :: starEach [.Name x p2] X.env := by rfl) (h2 : starEach [.Name x p2] X.env = (false, eval (.Name x p2) X.env) :: starEach [] X.env := by rfl) (h3 : (backTo pos (starEach [.Name x p2] X.env)).any (·.1) = false := by rfl) :
    DE X B W (.Call (.Name "isinstance" p) [e, .Name x p2] [] pos) (dIsi [T] f) :=
  PE.weak (pe_callB call_isi hg hm (by decide +kernel) (pa_cons ha (pa_cons (pe_bltn (v := .ty T) hgT hmT hv rfl hn hd) pa_nil h2) h1) (by decide) (by decide) h1 h3) fun σ H Q q => by
    refine tG.seq (back_E _) q fun d s v w H' QD ED _ _ r rv z pp => ?_
    cases hi : isQ d [T] with
    | none => rw [hi] at z; exact z.elim
    | some b =>
      rw [hi] at z
      unfold isQ at hi
      cases ht : tyD d with
      | none => rw [ht] at hi; cases hi
      | some t =>
        rw [ht] at hi
        simp only [Option.map_some, Option.some.injEq, List.any_cons, List.any_nil, Bool.or_false] at hi
        refine ⟨v, .ty T, .type t, .type T, isT t T, rfl, .ty T, tyX_of r.sub rv ht, kit_ty (kitB_is t (tyD_mem ht) T hT), ?_⟩
        rw [hi]
        exact tG.ret (R := rE _) r of_bl z pp
theorem de_isi2 (T T' : String) (hT : T ∈ ["bool", "int", "str", "tuple", "list", "dict"] := by decide) (hT' : T' ∈ ["bool", "int", "str", "tuple", "list", "dict"] := by decide) {k : Nat} (hm : X.mg "isinstance" = none) (hmT : X.mg x = none) (hmT' : X.mg y = none) (ha : DE X B W e f)
    (hv : bootBuiltins x = some (.type T) := by decide +kernel) (hn : x ≠ "__name__" := by decide) (hd : (x == ("__debug__" : Str)) = false := by decide) (hv' : bootBuiltins y = some (.type T') := by decide +kernel) (hn' : y ≠ "__name__" := by decide) (hd' : (y == ("__debug__" : Str)) = false := by decide)
    (hg : Gl X "isinstance" := by rfl) (hgT : Gl X x := by rfl) (hgT' : Gl X y := by rfl)
    (h1 : starEach [e, .Tuple [.Name x p2, .Name y p3] k p4] X.env = (false, eval e X.env) :: starEach [.Tuple [.Name x p2, .Name y p3] k p4] X.env := by rfl)
    (h2 : starEach [.Tuple [.Name x p2, .Name y p3] k p4] X.env = (false, eval (.Tuple [.Name x p2, .Name y p3] k p4) X.env) :: starEach [] X.env := by rfl) (h3 : (backTo pos (starEach [.Tuple [.Name x p2, .Name y p3] k p4] X.env)).any (·.1) = false := by rfl)
    (h4 : starEach [.Name x p2, .Name y p3] X.env = (false, eval (.Name x p2) X.env) :: starEach [.Name y p3] X.env := by rfl) (h5 : starEach [.Name y p3] X.env = (false, eval (.Name y p3) X.env) :: starEach [] X.env := by rfl) :
    DE X B W (.Call (.Name "isinstance" p) [e, .Tuple [.Name x p2, .Name y p3] k p4] [] pos) (dIsi [T, T'] f) :=
  PE.weak (pe_callB call_isiT hg hm (by decide +kernel) (pa_cons ha (pa_cons (pe_tup (pa_cons (pe_bltn (v := .ty T) hgT hmT hv rfl hn hd) (pa_cons (pe_bltn (v := .ty T') hgT' hmT' hv' rfl hn' hd') pa_nil h5) h4)) pa_nil h2) h1) (by decide) (by decide) h1 h3) fun σ H Q q => by
    refine tG.seq (back_E _) q fun d s v w H' QD ED _ _ r rv z pp => ?_
    cases hi : isQ d [T, T'] with
    | none => rw [hi] at z; exact z.elim
    | some b =>
      rw [hi] at z
      unfold isQ at hi
      cases ht : tyD d with
      | none => rw [ht] at hi; cases hi
      | some t =>
        rw [ht] at hi
        simp only [Option.map_some, Option.some.injEq, List.any_cons, List.any_nil, Bool.or_false] at hi
        refine ⟨by show 2 ≤ sizeLine; decide, fun c hc => ?_⟩
        have k1 := kit_ty (K := X.K) (kitB_is t (tyD_mem ht) T hT)
        have k2 := kit_ty (K := X.K) (kitB_is t (tyD_mem ht) T' hT')
        refine ⟨v, c, [.ty T, .ty T'], .type t, [.type T, .type T'], b, rfl, upd_same, .cons (.ty T) (.cons (.ty T') .nil), tyX_of (H := upd H' c (.tup [.ty T, .ty T'])) (fun b o e => ?_) rv ht, kitAny_cons k1 (fun h1 => kitAny_cons (r := b) k2 (fun h2 => ?_) fun h2 => ?_) fun h1 => ?_, ?_⟩
        · rw [upd_ne (ne_of_none (r.sub b o e) hc)]; exact r.sub b o e
        · rw [← hi, h1, h2]; rfl
        · rw [← hi, h1, h2]; rfl
        · rw [← hi, h1]; rfl
        · exact pp.ok _ s _ w _ (To.new hc) (r.new hc) of_bl z
end

/-! ### what is walked -/
/-- the i-th item that the iterator gives: a value that stands, or a new tuple -/
def ItemAt (K : PySem.W.Frag) (w : Wd) (d : D) (H : Hp) (x : V) (H' : Hp) : Prop :=
  (H' = H ∧ Rep K w d x) ∨ ∃ T vs ds, d = .tup ds ∧ x = .ref T ∧ H T = none ∧ H' = upd H T (.tup vs) ∧ Reps K w ds vs
structure Wk (K : PySem.W.Frag) (w : Wd) (J : It) (l : List D) : Prop where
  ex : ∃ G Y, Walk J l.length G Y ∧ (∀ H, Same w.F H → G H) ∧ ∀ i H x H' d, l[i]? = some d → Y i H x H' → ItemAt K w d H x H'
def rW (K : PySem.W.Frag) : Rl (List D) It := fun _ _ _ _ w _ _ l J => Wk K w J l
theorem back_W (K : PySem.W.Frag) : Back (rW K) := fun _ _ _ _ _ _ _ _ _ _ _ _ _ h => h
def tI (K : PySem.W.Frag) (B : Ent) (W : WX) (f : M (List D)) : TI := tG K B W (rW K) f
abbrev DI (X : Cx) (B : Ent) (W : WX) (tg e : Expr) (f : M (List D)) : Prop := PI X tg e (tI X.K B W f)
theorem PI.weak {X : Cx} {tg e : Expr} {t t' : TI} (h : PI X tg e t) (k : ∀ σ H R, t' σ H R → t σ H R) : PI X tg e t' := ⟨fun pins s σ H R I q => h.run pins s σ H R I (k σ H R q)⟩
section
variable {K : PySem.W.Frag} {w w' : Wd} {J : It} {l : List D} {a : Addr} {vs : List V}
theorem ItemAt.mono {d : D} {H H' : Hp} {x : V} (h : w.le w') (q : ItemAt K w d H x H') : ItemAt K w' d H x H' := by
  rcases q with ⟨e, r⟩ | ⟨T, vs, ds, e1, e2, e3, e4, r⟩
  · exact .inl ⟨e, r.mono h⟩
  · exact .inr ⟨T, vs, ds, e1, e2, e3, e4, r.mono h⟩
theorem Wk.mono (h : w.le w') (q : Wk K w J l) : Wk K w' J l := by
  obtain ⟨G, Y, h1, h2, h3⟩ := q.ex
  exact ⟨G, Y, h1, fun H e => h2 H (h.1.trans e), fun i H x H' d e y => (h3 i H x H' d e y).mono h⟩
theorem Wk.list (q : w.F a = some (.lst vs)) (r : Reps K w l vs) : Wk K w (Itl K a) l := by
  refine ⟨fun H => SqL K H a vs, YAt vs, ?_, fun H e => .inl (.inl (e _ _ q)), fun i H x H' d e y => .inl ⟨y.1, ?_⟩⟩
  · rw [← r.length]; exact walk_list
  · obtain ⟨d', e', rd⟩ := r.get y.2
    rw [e] at e'; cases e'; exact rd
theorem Wk.tup (q : SqT K w.F a vs) (r : Reps K w l vs) : Wk K w (Itt K a) l := by
  refine ⟨fun H => SqT K H a vs, YAt vs, ?_, fun H e => same_t e q, fun i H x H' d e y => .inl ⟨y.1, ?_⟩⟩
  · rw [← r.length]; exact walk_tup
  · obtain ⟨d', e', rd⟩ := r.get y.2
    rw [e] at e'; cases e'; exact rd
def signs (z : Str) : List D := z.cps.toList.map fun c => .str ⟨#[c]⟩
theorem Wk.str {z : Str} : Wk K w (Its z) (signs z) := by
  refine ⟨fun _ => True, fun i H v H' => H' = H ∧ ∃ c, z.cps[i]? = some c ∧ v = .str ⟨#[c]⟩, ?_, fun _ _ => trivial, fun i H x H' d e y => .inl ⟨y.1, ?_⟩⟩
  · have := walk_str (z := z)
    unfold signs
    rw [List.length_map, Array.length_toList]
    exact this
  · obtain ⟨_, c, h1, h2⟩ := y
    subst h2
    unfold signs at e
    rw [List.getElem?_map, Array.getElem?_toList, h1] at e
    cases e
    exact of_str
def rangeD (lo : Int) (n : Nat) : List D := (List.range n).map fun i => .int (lo + (i : Nat))
theorem Wk.range {lo : Int} {n : Nat} : Wk K w (Itr lo n) (rangeD lo n) := by
  refine ⟨fun _ => True, YFn fun i => .int (lo + (i : Nat)), ?_, fun _ _ => trivial, fun i H x H' d e y => .inl ⟨y.1, ?_⟩⟩
  · have := walk_range (lo := lo) (n := n)
    unfold rangeD
    rw [List.length_map, List.length_range]
    exact this
  · have h2 := y.2
    subst h2
    unfold rangeD at e
    rw [List.getElem?_map] at e
    cases h : (List.range n)[i]? with
    | none => rw [h] at e; cases e
    | some j =>
      rw [h] at e
      have : j = i := by
        obtain ⟨h1, h2⟩ := List.getElem?_eq_some_iff.mp h
        rw [List.getElem_range] at h2
        exact h2.symm
      subst this
      cases e
      exact of_int
theorem zip_get {ls rs : List D} {i : Nat} {d : D} (e : (List.zipWith (fun x y => D.tup [x, y]) ls rs)[i]? = some d) : ∃ x y, ls[i]? = some x ∧ rs[i]? = some y ∧ d = .tup [x, y] := by
  rw [List.getElem?_zipWith] at e
  cases h1 : ls[i]? with
  | none => rw [h1] at e; cases e
  | some x =>
    cases h2 : rs[i]? with
    | none => rw [h1, h2] at e; cases e
    | some y => rw [h1, h2] at e; cases e; exact ⟨x, y, rfl, rfl, rfl⟩
def pairs (l r : List D) : List D := List.zipWith (fun x y => D.tup [x, y]) l r
theorem pair_item {fx fy : Nat → Option V} {ls rs : List D} (hx : ∀ i x d, fx i = some x → ls[i]? = some d → Rep K w d x) (hy : ∀ i x d, fy i = some x → rs[i]? = some d → Rep K w d x) :
    ∀ i H x H' d, (pairs ls rs)[i]? = some d → YPair fx fy i H x H' → ItemAt K w d H x H' := fun i H x H' d e y => by
  obtain ⟨d1, d2, e1, e2, rfl⟩ := zip_get e
  obtain ⟨T, x1, x2, rfl, hT, rfl, h1, h2⟩ := y
  exact .inr ⟨T, [x1, x2], [d1, d2], rfl, rfl, hT, rfl, .cons (hx i x1 d1 h1 e1) (.cons (hy i x2 d2 h2 e2) .nil)⟩
theorem Wk.zipL {b : Addr} {us : List V} {l2 : List D} (q : w.F a = some (.lst vs)) (r : Reps K w l vs) (q2 : w.F b = some (.lst us)) (r2 : Reps K w l2 us) : Wk K w (Itz K a b) (pairs l l2) := by
  refine ⟨_, _, walk_zip (xs := vs) (ys := us) (by unfold pairs; rw [List.length_zipWith, r.length, r2.length]), fun H e => ⟨.inl (.inl (e _ _ q)), .inl (.inl (e _ _ q2))⟩, ?_⟩
  refine pair_item (fun i x d h1 h2 => ?_) fun i x d h1 h2 => ?_
  · obtain ⟨d', e', rd⟩ := r.get h1
    rw [h2] at e'; cases e'; exact rd
  · obtain ⟨d', e', rd⟩ := r2.get h1
    rw [h2] at e'; cases e'; exact rd
theorem walk_zipT {b : Addr} {xs ys : List V} {n : Nat} (hn : n = min xs.length ys.length) : Walk (RZ.ItzT K a b) n (fun H => SqT K H a xs ∧ SqT K H b ys) (YPair (fun i => xs[i]?) (fun i => ys[i]?)) := by
  subst hn
  refine ⟨fun i H hi q => ?_, fun H q => ⟨xs, ys, q.1, q.2, by omega⟩, fun i H v H' _ q y => ?_⟩
  · have h1 : i < xs.length := by omega
    have h2 : i < ys.length := by omega
    exact ⟨xs, ys, xs[i], ys[i], q.1, q.2, List.getElem?_eq_getElem h1, List.getElem?_eq_getElem h2⟩
  · obtain ⟨T, x, y', h1, h2, h3, h4, h5⟩ := y
    exact ⟨T, x, y', h1, h2, h3, h4 xs q.1, h5 ys q.2⟩
theorem Wk.zipT {b : Addr} {us : List V} {l2 : List D} (q : SqT K w.F a vs) (r : Reps K w l vs) (q2 : SqT K w.F b us) (r2 : Reps K w l2 us) : Wk K w (RZ.ItzT K a b) (pairs l l2) := by
  refine ⟨_, _, walk_zipT (xs := vs) (ys := us) (by unfold pairs; rw [List.length_zipWith, r.length, r2.length]), fun H e => ⟨same_t e q, same_t e q2⟩, ?_⟩
  refine pair_item (fun i x d h1 h2 => ?_) fun i x d h1 h2 => ?_
  · obtain ⟨d', e', rd⟩ := r.get h1
    rw [h2] at e'; cases e'; exact rd
  · obtain ⟨d', e', rd⟩ := r2.get h1
    rw [h2] at e'; cases e'; exact rd
theorem Wk.enumL (q : w.F a = some (.lst vs)) (r : Reps K w l vs) : Wk K w (Ite K a) (pairs (rangeD 0 l.length) l) := by
  have hl : (pairs (rangeD 0 l.length) l).length = vs.length := by unfold pairs rangeD; rw [List.length_zipWith, List.length_map, List.length_range, r.length]; omega
  refine ⟨fun H => SqL K H a vs, _, by rw [hl]; exact walk_enum (xs := vs), fun H e => .inl (.inl (e _ _ q)), ?_⟩
  refine pair_item (fun i x d h1 h2 => ?_) fun i x d h1 h2 => ?_
  · cases h1
    unfold rangeD at h2
    rw [List.getElem?_map] at h2
    cases h : (List.range l.length)[i]? with
    | none => rw [h] at h2; cases h2
    | some j =>
      rw [h] at h2
      have : j = i := by
        obtain ⟨h1, h3⟩ := List.getElem?_eq_some_iff.mp h
        rw [List.getElem_range] at h3
        exact h3.symm
      subst this
      cases h2
      show Rep K w (.int (0 + (j : Int))) _
      rw [Int.zero_add]
      exact of_int
  · obtain ⟨d', e', rd⟩ := r.get h1
    rw [h2] at e'; cases e'; exact rd
end
def walkable (d : D) : M (List D) := match d with
  | .lst l => M.ret l
  | .tup l => M.ret l
  | .str z => M.ret (signs z)
  | _ => M.stuck
section
variable {X : Cx} {B : Ent} {W : WX} {e : Expr} {es : List Expr} {f : M D} {fl : M (List D)} {pos p tpos : Pos} {tg : Expr} {elts : List Expr} {kk : Nat}
/-- a list, a tuple or a text that is walked -/
def iSeq (K : PySem.W.Frag) (tl : TE) : TI := fun σ H R => tl σ H fun x H1 => (∃ a xs, x = .ref a ∧ SqL K H1 a xs ∧ R (Itl K a) H1) ∨ (∃ a xs, x = .ref a ∧ SqT K H1 a xs ∧ R (Itt K a) H1) ∨ ∃ z, x = .str z ∧ R (Its z) H1
theorem pi_seq {tl : TE} (hl : PE X e tl) : PI X tg e (iSeq X.K tl) := by
  constructor
  intro pins s σ H R I h
  refine thn (hl.run pins s σ H _ I h) fun v s1 hq => ?_
  obtain ⟨x, H1, I1, r1, hq⟩ := hq
  rcases hq with ⟨a, xs, rfl, hx, q⟩ | ⟨a, xs, rfl, hx, q⟩ | ⟨z, rfl, q⟩
  · cases r1
    obtain ⟨its, _, pl, _⟩ := I1.list hx
    exact wpAny_pyIter_list pl.isList (pi_one (tk := s1.toks) I1 _ (turn_list a _) ⟨_, Heap.get?_push_size _ rfl, rfl, rfl⟩ q)
  · cases r1
    obtain ⟨its, _, pt, _⟩ := I1.tuple hx
    exact wpAny_pyIter_tuple (show s1.heap.IsTuple a its.toArray from pt) (pi_one (tk := s1.toks) I1 _ (turn_tuple a _) ⟨_, Heap.get?_push_size _ rfl, rfl, rfl⟩ q)
  · obtain ⟨t, rfl⟩ := r1
    cases ha : z.cps.all (· < 128) with
    | true => exact wpAny_pyIter_ascii ha (pi_one (tk := s1.toks) I1 _ (turn_str _ z t _ (.inl rfl)) ⟨_, Heap.get?_push_size _ rfl, rfl, rfl⟩ q)
    | false => exact wpAny_pyIter_wide ha (pi_one (tk := s1.toks) I1 _ (turn_str _ z t _ (.inr rfl)) ⟨_, Heap.get?_push_size _ rfl, rfl, rfl⟩ q)
theorem di_seq (he : DE X B W e f) : DI X B W tg e (f.bnd walkable) := PI.weak (pi_seq he) fun σ H R q => by
  refine tG.seq (back_W _) q fun d s v w H' QD ED _ _ r rv z pp => ?_
  cases d <;> first | exact z.elim | skip
  · cases rep_str rv
    exact .inr (.inr ⟨_, rfl, tG.ret (R := rW _) r .str z pp⟩)
  · obtain ⟨a, vs, rfl, q, rs⟩ := rep_tup rv
    exact .inr (.inl ⟨a, vs, rfl, same_t r.sub q, tG.ret (R := rW _) r (.tup q rs) z pp⟩)
  · obtain ⟨a, vs, rfl, q, rs⟩ := rep_lst rv
    exact .inl ⟨a, vs, rfl, .inl (.inl (r.sub _ _ q)), tG.ret (R := rW _) r (.list q rs) z pp⟩
def dRange1 : List D → M (List D) := fun ds s Q _ => match ds with
  | [.int j] => (-(2 ^ 62) ≤ j ∧ j < 2 ^ 62) ∧ Q (rangeD 0 j.toNat) s
  | _ => False
def dRange2 : List D → M (List D) := fun ds s Q _ => match ds with
  | [.int i, .int j] => (-(2 ^ 62) ≤ i ∧ i < 2 ^ 62 ∧ -(2 ^ 62) ≤ j ∧ j < 2 ^ 62) ∧ Q (rangeD i (j - i).toNat) s
  | _ => False
theorem di_range1 (hm : X.mg "range" = none) (ha : DA X B W [e] fl) (hg : Gl X "range" := by rfl) (hs : starEach [e] X.env = [(false, eval e X.env)] := by rfl) : DI X B W tg (.Call (.Name "range" p) [e] [] pos) (fl.bnd dRange1) := PI.weak (pi_range1 hg hm ha hs) fun σ H R q => by
  refine tG.seq (back_W _) q fun ds s vs w H' QD ED _ _ r rv z pp => ?_
  have rv : Reps X.K w ds vs := rv
  unfold dRange1 at z
  split at z
  · obtain ⟨v, rfl, rv1⟩ := reps1 rv
    cases rep_int rv1
    exact ⟨_, rfl, z.1.1, z.1.2, tG.ret (R := rW _) r .range z.2 pp⟩
  · exact z.elim
theorem di_range2 {e2 : Expr} (hm : X.mg "range" = none) (ha : DA X B W [e, e2] fl) (hg : Gl X "range" := by rfl) (hs : starEach [e, e2] X.env = [(false, eval e X.env), (false, eval e2 X.env)] := by rfl) (hs2 : starEach [e2] X.env = [(false, eval e2 X.env)] := by rfl) : DI X B W tg (.Call (.Name "range" p) [e, e2] [] pos) (fl.bnd dRange2) := PI.weak (pi_range2 hg hm ha hs hs2) fun σ H R q => by
  refine tG.seq (back_W _) q fun ds s vs w H' QD ED _ _ r rv z pp => ?_
  have rv : Reps X.K w ds vs := rv
  unfold dRange2 at z
  split at z
  · obtain ⟨v, v', rfl, rv, rv'⟩ := reps2 rv
    cases rep_int rv
    cases rep_int rv'
    exact ⟨_, _, rfl, z.1, tG.ret (R := rW _) r .range z.2 pp⟩
  · exact z.elim
def dZip : List D → M (List D) := fun ds s Q _ => match ds with
  | [.lst a, .lst b] => Q (pairs a b) s
  | [.tup a, .tup b] => Q (pairs a b) s
  | _ => False
theorem di_zip {e2 : Expr} (hm : X.mg "zip" = none) (ha : DA X B W [e, e2] fl) (hg : Gl X "zip" := by rfl)
    (hs : starEach [e, e2] X.env = (false, eval e X.env) :: starEach [e2] X.env := by rfl) (hpl : (backTo pos (starEach [e2] X.env)).any (·.1) = false := by rfl) : DI X B W (.Tuple elts kk tpos) (.Call (.Name "zip" p) [e, e2] [] pos) (fl.bnd dZip) := PI.weak (RZ.pi_zipA hg hm ha hs hpl) fun σ H R q => by
  refine tG.seq (back_W _) q fun ds s vs w H' QD ED _ _ r rv z pp => ?_
  have rv : Reps X.K w ds vs := rv
  unfold dZip at z
  split at z
  · obtain ⟨v, v', rfl, rv, rv'⟩ := reps2 rv
    obtain ⟨a, xs, rfl, q1, r1⟩ := rep_lst rv
    obtain ⟨b, ys, rfl, q2, r2⟩ := rep_lst rv'
    exact ⟨a, b, xs, ys, rfl, .inl ⟨.inl (.inl (r.sub _ _ q1)), .inl (.inl (r.sub _ _ q2)), tG.ret (R := rW _) r (.zipL q1 r1 q2 r2) z pp⟩⟩
  · obtain ⟨v, v', rfl, rv, rv'⟩ := reps2 rv
    obtain ⟨a, xs, rfl, q1, r1⟩ := rep_tup rv
    obtain ⟨b, ys, rfl, q2, r2⟩ := rep_tup rv'
    exact ⟨a, b, xs, ys, rfl, .inr ⟨same_t r.sub q1, same_t r.sub q2, tG.ret (R := rW _) r (.zipT q1 r1 q2 r2) z pp⟩⟩
  · exact z.elim
def dEnum : List D → M (List D) := fun ds s Q _ => match ds with
  | [.lst a] => Q (pairs (rangeD 0 a.length) a) s
  | _ => False
theorem di_enum (hm : X.mg "enumerate" = none) (ha : DA X B W [e] fl) (hg : Gl X "enumerate" := by rfl) (hs : starEach [e] X.env = [(false, eval e X.env)] := by rfl) : DI X B W (.Tuple elts kk tpos) (.Call (.Name "enumerate" p) [e] [] pos) (fl.bnd dEnum) := PI.weak (pi_enum hg hm ha hs) fun σ H R q => by
  refine tG.seq (back_W _) q fun ds s vs w H' QD ED _ _ r rv z pp => ?_
  have rv : Reps X.K w ds vs := rv
  unfold dEnum at z
  split at z
  · obtain ⟨v, rfl, rv1⟩ := reps1 rv
    obtain ⟨a, xs, rfl, q1, r1⟩ := rep_lst rv1
    exact ⟨a, xs, rfl, .inl (.inl (r.sub _ _ q1)), tG.ret (R := rW _) r (.enumL q1 r1) z pp⟩
  · exact z.elim
end
end DL

/-! ### targets, comprehensions -/
namespace DL
open PySem PySem.Spec PyProof.Rows L2
abbrev Sl := List (Option (D × Bool))
/-- a target: a name's slot; a tuple of names -/
inductive Tg where
  | nm (i : Nat)
  | tp (is : List Nat)
def Tg.sl : Tg → List Nat
  | .nm i => [i]
  | .tp is => is
def setsD : List Nat → List D → Sl → Option Sl
  | [], [], d => some d
  | i :: is, x :: xs, d => setsD is xs (d.set i (some (x, false)))
  | _, _, _ => none
def Tg.put (t : Tg) (x : D) (s : S) : Option S := match t with
  | .nm i => some { s with d := s.d.set i (some (x, false)) }
  | .tp is => match x with
    | .tup l => (setsD is l s.d).map fun d => { s with d := d }
    | _ => none
def gNs : List Nat → TGs
  | [] => gNil
  | i :: is => gCons (gName i) (gNs is)
def tgG (K : PySem.W.Frag) : Tg → TG
  | .nm i => gName i
  | .tp is => gTup K is.length (gNs is)
structure DG (X : Cx) (tg : Expr) (t : Tg) : Prop where
  h : PG X tg (tgG X.K t)
structure DGs (X : Cx) (tgs : List Expr) (is : List Nat) : Prop where
  h : PGs X tgs (gNs is)
  n : (assignEach tgs X.env).length = is.length
  st : (assignEach tgs X.env).findIdx? (·.1) = none
theorem dg_name {X : Cx} {pos : Pos} (i : Nat) {x : Str} (hN : X.N.Nodup) (hi : X.N[i]? = some x := by rfl) (hx : Loc X.env.scope x := by first | exact .inl rfl | exact .inr rfl) (hf : X.fn x = true ∨ X.env.scope.names.lookup x = some .local := by first | exact .inl rfl | exact .inr rfl | assumption) : DG X (.Name x pos) (.nm i) := ⟨pg_name hN hi hx hf⟩
theorem dgs_nil {X : Cx} : DGs X [] [] := ⟨pgs_nil, rfl, rfl⟩
theorem dgs_cons {X : Cx} {pos : Pos} {es : List Expr} {is : List Nat} (i : Nat) {x : Str} (hN : X.N.Nodup) (h : DGs X es is) (hi : X.N[i]? = some x := by rfl) (hx : Loc X.env.scope x := by first | exact .inl rfl | exact .inr rfl) (hf : X.fn x = true ∨ X.env.scope.names.lookup x = some .local := by first | exact .inl rfl | exact .inr rfl | assumption) : DGs X (.Name x pos :: es) (i :: is) :=
  ⟨pgs_cons (pg_name hN hi hx hf) h.h rfl, by show _ + 1 = _ + 1; rw [← h.n], by
    have := h.st
    show List.findIdx? (·.1) ((false, _) :: assignEach es X.env) = none
    rw [List.findIdx?_cons]
    simp only [this, Option.map_none]
    rw [if_neg Bool.false_ne_true]⟩
theorem dg_tup {X : Cx} {k : Nat} {pos : Pos} {es : List Expr} {is : List Nat} (h : DGs X es is) (hc : X.calm = true := by rfl) : DG X (.Tuple es k pos) (.tp is) := ⟨pg_tup hc h.h h.n h.st⟩
section
variable {K : PySem.W.Frag} {B : Ent} {w : Wd} {s s' : S} {σ : LSt} {H : Hp} {d : D} {x : V}
theorem To.set {i : Nat} {v : V} (R : BRel K B w s σ H) : To σ w s H (σ.set i (some v)) w { s with d := s.d.set i (some (d, false)) } H := ⟨.refl w, fun a o q => ⟨q.at_, q.f, q.t, fun j e g z => by
  have g : (s.d.set i (some (d, false)))[j]? = some (some (e, true)) := g
  by_cases hj : i = j
  · subst hj
    have hi : i < s.d.length := by
      have := (List.getElem?_eq_some_iff.mp g).1
      rwa [List.length_set] at this
    rw [List.getElem?_set_self hi] at g; cases g
  · rw [List.getElem?_set_ne hj] at g z
    exact q.sl j e g z⟩⟩
/-- what a target's store does to the slots -/
inductive Sets : List Nat → LSt → LSt → Prop where
  | nil {σ : LSt} : Sets [] σ σ
  | cons {i : Nat} {is : List Nat} {v : V} {σ σ' : LSt} (h : Sets is (σ.set i (some v)) σ') : Sets (i :: is) σ σ'
theorem sets_of {xs : List V} : ∀ {is : List Nat} {ds : List D} {σ : LSt} {s s' : S} {d' : Sl}, BRel K B w s σ H → Reps K w ds xs → setsD is ds s.d = some d' →
    ∃ σ', BRel K B w { s with d := d' } σ' H ∧ To σ w s H σ' w { s with d := d' } H ∧ Sets is σ σ' ∧ ∀ Q : LSt → Hp → Prop, Q σ' H → gNs is xs σ H Q := by
  induction xs with
  | nil =>
    intro is ds σ s s' d' R r e
    cases ds with
    | cons _ _ => simp [Reps] at r
    | nil =>
      cases is with
      | cons _ _ => simp [setsD] at e
      | nil =>
        simp only [setsD, Option.some.injEq] at e
        subst e
        exact ⟨σ, R, .refl .., .nil, fun Q q => ⟨rfl, q⟩⟩
  | cons x xs ih =>
    intro is ds σ s s' d' R r e
    cases ds with
    | nil => simp [Reps] at r
    | cons d ds =>
      simp only [Reps, List.cons.injEq] at r
      obtain ⟨v, vs, ⟨rfl, rfl⟩, r1, r2⟩ := r
      cases is with
      | nil => simp [setsD] at e
      | cons i is =>
        simp only [setsD] at e
        have R1 := R.set (i := i) r1
        obtain ⟨σ', R', t', S', g'⟩ := ih (s := { s with d := s.d.set i (some (d, false)) }) (s' := s') R1 r2 e
        exact ⟨σ', R', (To.set (d := d) (v := x) R).trans t', .cons S', fun Q q => ⟨x, xs, rfl, g' Q q⟩⟩
theorem tg_of {t : Tg} (R : BRel K B w s σ H) (r : Rep K w d x) (e : t.put d s = some s') :
    ∃ σ', BRel K B w s' σ' H ∧ To σ w s H σ' w s' H ∧ Sets t.sl σ σ' ∧ ∀ Q : LSt → Hp → Prop, Q σ' H → tgG K t x σ H Q := by
  cases t with
  | nm i =>
    simp only [Tg.put, Option.some.injEq] at e
    subst e
    exact ⟨_, R.set r, To.set R, .cons .nil, fun Q q => q⟩
  | tp is =>
    cases d <;> simp only [Tg.put] at e <;> first | (cases e; done) | skip
    obtain ⟨a, vs, rfl, q, z⟩ := rep_tup r
    simp only [Option.map_eq_some_iff] at e
    obtain ⟨d', e1, rfl⟩ := e
    obtain ⟨σ', R', t', S', g'⟩ := sets_of (s' := s) R z e1
    have hl : vs.length = is.length := by
      rw [z.length]
      clear R' t' S' g' q z r R
      have aux : ∀ (is : List Nat) (l : List D) (d d' : Sl), setsD is l d = some d' → l.length = is.length := by
        intro is
        induction is with
        | nil => intro l d d' e; cases l with | nil => rfl | cons _ _ => simp [setsD] at e
        | cons i is ih => intro l d d' e; cases l with | nil => simp [setsD] at e | cons x l => simp only [setsD] at e; rw [List.length_cons, List.length_cons, ih _ _ _ e]
      exact aux _ _ _ _ e1
    exact ⟨σ', R', t', S', fun Q q' => ⟨a, vs, rfl, same_t R.sub q, hl, g' Q q'⟩⟩

/-! #### a comprehension's own names -/
def wipeD (d : Sl) : List Nat → Sl
  | [] => d
  | v :: vs => (wipeD d vs).set v none
def restD (d0 d1 : Sl) : List Nat → Sl
  | [] => d1
  | v :: vs => (restD d0 d1 vs).set v ((d0[v]?).getD none)
def noOwn (vs : List Nat) (d : Sl) : Prop := ∀ i ∈ vs, ∀ x, d[i]? ≠ some (some (x, true))
theorem wipeD_len (d : Sl) : ∀ vs, (wipeD d vs).length = d.length
  | [] => rfl
  | v :: vs => by unfold wipeD; rw [List.length_set, wipeD_len d vs]
theorem wipeD_some {d : Sl} {i : Nat} {x : D × Bool} : ∀ {vs : List Nat}, (wipeD d vs)[i]? = some (some x) → d[i]? = some (some x) ∧ i ∉ vs
  | [], h => ⟨h, by simp⟩
  | v :: vs, h => by
    unfold wipeD at h
    by_cases hi : v = i
    · subst hi
      by_cases hv : v < (wipeD d vs).length
      · rw [List.getElem?_set_self hv] at h; cases h
      · rw [List.getElem?_eq_none (by simpa using hv)] at h; cases h
    · rw [List.getElem?_set_ne hi] at h
      obtain ⟨h1, h2⟩ := wipeD_some h
      exact ⟨h1, by simp only [List.mem_cons, not_or]; exact ⟨fun e => hi e.symm, h2⟩⟩
theorem wipe_out {σ : LSt} {i : Nat} : ∀ {vs : List Nat}, i ∉ vs → (wipe σ vs)[i]? = σ[i]?
  | [], _ => rfl
  | v :: vs, h => by
    unfold wipe
    rw [List.getElem?_set_ne (fun e => h (by simp [e]))]
    exact wipe_out fun z => h (List.mem_cons_of_mem _ z)
theorem wipe_in {σ : LSt} {i : Nat} : ∀ {vs : List Nat}, i ∈ vs → i < σ.length → (wipe σ vs)[i]? = some none
  | v :: vs, h, hl => by
    unfold wipe
    by_cases hi : v = i
    · subst hi
      rw [List.getElem?_set_self (by rw [wipe_length]; exact hl)]
    · rw [List.getElem?_set_ne hi]
      rcases List.mem_cons.mp h with e | h
      · exact absurd e.symm hi
      · exact wipe_in h hl
theorem wipe_ext {σ σ' : LSt} {vs : List Nat} (hl : σ'.length = σ.length) (h : ∀ i, i ∉ vs → σ'[i]? = σ[i]?) : wipe σ' vs = wipe σ vs := by
  apply List.ext_getElem?
  intro i
  by_cases hi : i ∈ vs
  · by_cases hs : i < σ.length
    · rw [wipe_in hi hs, wipe_in hi (by omega)]
    · rw [List.getElem?_eq_none (by rw [wipe_length]; omega), List.getElem?_eq_none (by rw [wipe_length]; omega)]
  · rw [wipe_out hi, wipe_out hi, h i hi]
theorem Sets.wipe {is vs : List Nat} {σ σ' : LSt} (h : Sets is σ σ') (hs : ∀ i ∈ is, i ∈ vs) : wipe σ' vs = wipe σ vs := by
  induction h with
  | nil => rfl
  | cons _ ih =>
    rw [ih fun j hj => hs j (List.mem_cons_of_mem _ hj)]
    refine wipe_ext (List.length_set ..) fun j hj => ?_
    rw [List.getElem?_set_ne fun e => hj (by rw [← e]; exact hs _ List.mem_cons_self)]
theorem wipe_wipe {σ : LSt} {vs : List Nat} : L2.wipe (L2.wipe σ vs) vs = L2.wipe σ vs := wipe_ext (wipe_length _ _) fun i hi => wipe_out hi
/-- the own names' slots forgotten -/
theorem BRel.wipe {vs : List Nat} (R : BRel K B w s σ H) {σ' : LSt} (e : L2.wipe σ' vs = L2.wipe σ vs) : BRel K B w { s with d := wipeD s.d vs } (L2.wipe σ' vs) H := by
  rw [e]
  refine ⟨R.sub, R.st, by rw [wipe_length, wipeD_len]; exact R.len, fun i d h => ?_, fun i d h => ?_, fun i j a d e n h1 h2 => ?_, R.ent, R.keep, R.fnew, R.tnew, R.lv⟩
  · obtain ⟨h1, h2⟩ := wipeD_some h
    rw [wipe_out h2]; exact R.val i d h1
  · obtain ⟨h1, h2⟩ := wipeD_some h
    rw [wipe_out h2]; exact R.own i d h1
  · obtain ⟨h1, n1⟩ := wipeD_some h1
    obtain ⟨h2, n2⟩ := wipeD_some h2
    rw [wipe_out n1, wipe_out n2]
    exact R.sep i j a d e n h1 h2
theorem To.wipe {vs : List Nat} {σ' : LSt} (e : L2.wipe σ' vs = L2.wipe σ vs) : To σ w s H (L2.wipe σ' vs) w { s with d := wipeD s.d vs } H := ⟨.refl w, fun a o q => ⟨q.at_, q.f, q.t, fun i f g => by
  obtain ⟨h1, h2⟩ := wipeD_some g
  rw [e, wipe_out h2]
  exact q.sl i f h1⟩⟩
theorem restD_len (d0 d1 : Sl) : ∀ vs, (restD d0 d1 vs).length = d1.length
  | [] => rfl
  | v :: vs => by unfold restD; rw [List.length_set, restD_len d0 d1 vs]
theorem restD_out {d0 d1 : Sl} {i : Nat} : ∀ {vs : List Nat}, i ∉ vs → (restD d0 d1 vs)[i]? = d1[i]?
  | [], _ => rfl
  | v :: vs, h => by
    unfold restD
    rw [List.getElem?_set_ne (fun e => h (by simp [e]))]
    exact restD_out fun z => h (List.mem_cons_of_mem _ z)
theorem restD_in {d0 d1 : Sl} {i : Nat} {x : D × Bool} : ∀ {vs : List Nat}, i ∈ vs → (restD d0 d1 vs)[i]? = some (some x) → d0[i]? = some (some x)
  | v :: vs, h, e => by
    unfold restD at e
    by_cases hi : v = i
    · subst hi
      by_cases hv : v < (restD d0 d1 vs).length
      · rw [List.getElem?_set_self hv] at e
        cases q : d0[v]? with
        | none => rw [q] at e; cases e
        | some y => rw [q] at e; exact e
      · rw [List.getElem?_eq_none (by simpa using hv)] at e; cases e
    · rw [List.getElem?_set_ne hi] at e
      rcases List.mem_cons.mp h with z | h
      · exact absurd z.symm hi
      · exact restD_in h e
theorem BRel.rest {w' : Wd} {s' : S} {H' : Hp} {vs : List Nat} (R : BRel K B w s σ H) (R' : BRel K B w' s' (L2.wipe σ vs) H') (le : w.le w') (no : noOwn vs s.d) : BRel K B w' { s' with d := restD s.d s'.d vs } σ H' := by
  have hl : s.d.length = s'.d.length := by rw [← R.len, ← R'.len, wipe_length]
  have key : ∀ i x, (restD s.d s'.d vs)[i]? = some (some x) → (i ∈ vs ∧ s.d[i]? = some (some x)) ∨ (i ∉ vs ∧ s'.d[i]? = some (some x)) := fun i x h => by
    by_cases hi : i ∈ vs
    · exact .inl ⟨hi, restD_in hi h⟩
    · rw [restD_out hi] at h; exact .inr ⟨hi, h⟩
  refine ⟨R'.sub, R'.st, by rw [restD_len, ← hl]; exact R.len, fun i d h => ?_, fun i d h => ?_, fun i j a d e n h1 h2 => ?_, R'.ent, R'.keep, R'.fnew, R'.tnew, R'.lv⟩
  · rcases key i _ h with ⟨hi, h⟩ | ⟨hi, h⟩
    · obtain ⟨v, h1, h2⟩ := R.val i d h
      exact ⟨v, h1, h2.mono le⟩
    · have := R'.val i d h
      rw [wipe_out hi] at this
      exact this
  · rcases key i _ h with ⟨hi, h⟩ | ⟨hi, h⟩
    · exact absurd h (no i hi d)
    · have := R'.own i d h
      rw [wipe_out hi] at this
      exact this
  · rcases key i _ h1 with ⟨hi, h1⟩ | ⟨hi, h1⟩
    · exact absurd h1 (no i hi d)
    · rcases key j _ h2 with ⟨hj, h2⟩ | ⟨hj, h2⟩
      · exact absurd h2 (no j hj e)
      · have := R'.sep i j a d e n h1 h2
        rw [wipe_out hi, wipe_out hj] at this
        exact this
theorem To.rest {w' : Wd} {s' : S} {H' : Hp} {vs : List Nat} (t : To σ w s H (L2.wipe σ vs) w' s' H') (no : noOwn vs s.d) : To σ w s H σ w' { s' with d := restD s.d s'.d vs } H' := ⟨t.le, fun a o q => by
  have q' := t.fr a o q
  refine ⟨q'.at_, q'.f, q'.t, fun i e g => ?_⟩
  have g : (restD s.d s'.d vs)[i]? = some (some (e, true)) := g
  by_cases hi : i ∈ vs
  · exact absurd (restD_in hi g) (no i hi e)
  · rw [restD_out hi] at g
    have := q'.sl i e g
    rw [wipe_out hi] at this
    exact this⟩
/-- an item comes -/
theorem item_of {H' : Hp} (R : BRel K B w s σ H) (h : ItemAt K w d H x H') : ∃ w', To σ w s H σ w' s H' ∧ BRel K B w' s σ H' ∧ Rep K w' d x := by
  rcases h with ⟨rfl, r⟩ | ⟨T, vs, ds, rfl, rfl, hT, rfl, r⟩
  · exact ⟨w, .refl .., R, r⟩
  · exact R.newTup hT r
end

/-! #### the list comprehension -/
def S.wipe (s : S) (vs : List Nat) : S := { s with d := wipeD s.d vs }
def dFold (vs : List Nat) (t : Tg) (tt : M Bool) (elt : M D) : List D → List D → M (List D)
  | [], acc => fun s Q _ => Q acc s
  | d :: r, acc => fun s Q E => onSome (t.put d s) fun s1 => tt s1 (fun b s2 => if b = true then elt s2 (fun y s3 => acc.length < sizeLine ∧ dFold vs t tt elt r (acc ++ [y]) (s3.wipe vs) Q E) E else dFold vs t tt elt r acc (s2.wipe vs) Q E) E
def dComp (vs : List Nat) (t : Tg) (src : M (List D)) (tt : M Bool) (elt : M D) : M D := src.bnd fun l s Q _ =>
  noOwn vs s.d ∧ dFold vs t tt elt l [] (s.wipe vs) (fun acc s' => Q (.lst acc) { s' with d := restD s.d s'.d vs }) (fun _ _ => False)
def W0 : WX := fun _ _ _ _ => False
theorem Fresh.of_out {K : PySem.W.Frag} {B : Ent} {σ : LSt} {w : Wd} {s : S} {H : Hp} {a : Addr} {o : HO} {d : D} (q : Out σ w s H a o) (hb : B.H a = none) (ho : Own K w d o) : Fresh K B w s σ H a d := ⟨⟨o, q.at_, ho⟩, q.f, q.t, hb, q.sl⟩
section
variable {K : PySem.W.Frag} {B : Ent} {W : WX} {vs : List Nat} {t : Tg} {src : M (List D)} {tt : M Bool} {elt : M D} {σ : LSt} {H : Hp} {Q : VK}
theorem lc_of (ht : ∀ i ∈ t.sl, i ∈ vs) (q : tO K B W (dComp vs t src tt elt) σ H Q) : tLc (tI K B W src) (tgG K t) (tT K B W0 tt) (tE K B W0 elt) vs σ H Q := by
  refine tG.seq (back_O _ _) q fun l s J w H1 QD ED _ _ R rv z pp => ?_
  obtain ⟨G, Y, hw, hG, hY⟩ := rv.ex
  obtain ⟨no, z⟩ := z
  intro A hA
  have oA : Out σ w s (upd H1 A (.lst [])) A (.lst []) := ⟨upd_same, R.newF hA, R.newT hA, fun i e g y => by
    obtain ⟨b, u, h1, h2, _⟩ := R.own i e g
    rw [h1] at y; cases y
    rw [hA] at h2; cases h2⟩
  have bA : B.H A = none := R.live hA
  have R0 : BRel K B w (s.wipe vs) (L2.wipe σ vs) (upd H1 A (.lst [])) := (R.new hA).wipe rfl
  have oA' : Out (L2.wipe σ vs) w (s.wipe vs) (upd H1 A (.lst [])) A (.lst []) := (To.wipe (s := s) (vs := vs) (σ' := σ) rfl).fr A _ oA
  refine lc_it hw (fun i H => ∃ w1 s1 acc us, To σ w s H1 (L2.wipe σ vs) w1 s1 H ∧ BRel K B w1 s1 (L2.wipe σ vs) H ∧ Out (L2.wipe σ vs) w1 s1 H A (.lst us) ∧ Reps K w1 acc us ∧ dFold vs t tt elt (l.drop i) acc s1 (fun acc s' => QD (.lst acc) { s' with d := restD s.d s'.d vs }) (fun _ _ => False)) ?_ ?_ ?_ ?_
  · exact ⟨w, s.wipe vs, [], [], (To.new hA).trans (To.wipe rfl), R0, oA', .nil, by rw [List.drop_zero]; exact z⟩
  · rintro i H hi ⟨w1, s1, acc, us, t1, R1, _⟩
    exact hG H (t1.le.1.trans R1.sub)
  · rintro i x H H' hi ⟨w1, s1, acc, us, t1, R1, o1, r1, z1⟩ hy
    have hd : l.drop i = l[i] :: l.drop (i + 1) := List.drop_eq_getElem_cons hi
    rw [hd] at z1
    obtain ⟨s2, e2, z2⟩ := onSome_ex z1
    have it := (hY i H x H' l[i] (List.getElem?_eq_getElem hi) hy).mono t1.le
    obtain ⟨w2, t2, R2, rx⟩ := item_of R1 it
    obtain ⟨σ3, R3, t3, S3, g3⟩ := tg_of R2 rx e2
    refine g3 _ ⟨(S3.wipe ht).trans wipe_wipe, ?_⟩
    have T3 := t2.trans t3
    have ew : L2.wipe σ3 vs = L2.wipe σ vs := (S3.wipe ht).trans wipe_wipe
    refine ⟨w2, s2, _, _, R3, z2, ⟨fun b s4 b' w4 H4 t4 R4 eb z4 => ?_, fun e s' w' H' c dd le R' hx hf => hf.elim⟩⟩
    subst eb
    have again : ∀ (w5 : Wd) (s5 : S) (H5 : Hp) (us5 : List V) (acc5 : List D), To σ w s H1 σ3 w5 s5 H5 → BRel K B w5 s5 σ3 H5 → Out σ3 w5 s5 H5 A (.lst us5) → Reps K w5 acc5 us5 → dFold vs t tt elt (l.drop (i + 1)) acc5 (s5.wipe vs) (fun acc s' => QD (.lst acc) { s' with d := restD s.d s'.d vs }) (fun _ _ => False) →
        ∃ w1 s1 acc us, To σ w s H1 (L2.wipe σ vs) w1 s1 H5 ∧ BRel K B w1 s1 (L2.wipe σ vs) H5 ∧ Out (L2.wipe σ vs) w1 s1 H5 A (.lst us) ∧ Reps K w1 acc us ∧ dFold vs t tt elt (l.drop (i + 1)) acc s1 (fun acc s' => QD (.lst acc) { s' with d := restD s.d s'.d vs }) (fun _ _ => False) :=
      fun w5 s5 H5 us5 acc5 t5 R5 o5 r5 z5 => by
        have Tw := To.wipe (σ := σ3) (w := w5) (s := s5) (H := H5) (vs := vs) (σ' := σ3) rfl
        have Rw := R5.wipe (vs := vs) (σ' := σ3) rfl
        rw [ew] at Tw Rw
        exact ⟨w5, s5.wipe vs, acc5, us5, t5.trans Tw, Rw, Tw.fr A _ o5, r5, z5⟩
    cases b' with
    | true =>
      rw [if_pos rfl] at z4 ⊢
      refine ⟨w4, s4, _, _, R4, z4, ⟨fun y s5 v5 w5 H5 t5 R5 ry z5 => ?_, fun e s' w' H' c dd le R' hx hf => hf.elim⟩⟩
      have T5 := (T3.trans t4).trans t5
      have o5 := T5.fr A _ o1
      have ry : Rep K w5 y v5 := ry
      have r5 := r1.mono T5.le
      refine ⟨us, o5.at_, by rw [r1.length]; exact z5.1, ?_⟩
      refine again w5 s5 _ (us ++ [v5]) (acc ++ [y]) ⟨(t1.trans T5).le, fun a o q => ?_⟩ (R5.put o5.f o5.t bA o5.sl) ⟨upd_same, o5.f, o5.t, o5.sl⟩ (r5.append (.one ry)) z5.2
      have na : a ≠ A := fun z => by have := q.at_; rw [z, hA] at this; cases this
      have q' := (t1.trans T5).fr a o q
      exact ⟨by rw [upd_ne na]; exact q'.at_, q'.f, q'.t, q'.sl⟩
    | false =>
      rw [if_neg Bool.false_ne_true] at z4 ⊢
      have T4 := T3.trans t4
      exact again w4 s4 H4 us acc (t1.trans T4) R4 (T4.fr A _ o1) (r1.mono T4.le) z4
  · rintro H ⟨w1, s1, acc, us, t1, R1, o1, r1, z1⟩
    rw [List.drop_length] at z1
    refine pp.ok _ _ _ w1 H (t1.rest no) (R.rest R1 t1.le no) ⟨A, rfl, ?_, fun o z => ?_⟩ z1
    · have o1' : Out σ w1 { s1 with d := restD s.d s1.d vs } H A (.lst us) := ⟨o1.at_, o1.f, o1.t, fun i e g => by
        have g : (restD s.d s1.d vs)[i]? = some (some (e, true)) := g
        by_cases hi : i ∈ vs
        · exact absurd (restD_in hi g) (no i hi e)
        · rw [restD_out hi] at g
          have := o1.sl i e g
          rw [wipe_out hi] at this
          exact this⟩
      exact .of_out o1' bA (own_lst r1)
    · have := z.at_
      rw [hA] at this; cases this
end
end DL

/-! ### comprehensions, defs, calls, statements -/
namespace DL
open PySem PySem.Spec PyProof.Rows L2
abbrev DTs (X : Cx) (B : Ent) (W : WX) (ifs : List Expr) (t : M Bool) : Prop := PTs X ifs (tT X.K B W t)
theorem PTs.weak {X : Cx} {e : List Expr} {t t' : TT} (h : PTs X e t) (k : ∀ σ H Q, t' σ H Q → t σ H Q) : PTs X e t' := ⟨fun pins s σ H Q I q => h.run pins s σ H Q I (k σ H Q q)⟩
def mTrue : M Bool := M.ret true
theorem dts_nil {X : Cx} {B : Ent} {W : WX} : DTs X B W [] mTrue := PTs.weak pts_nil fun σ H Q q => by
  obtain ⟨w, s, QD, ED, r, q, p⟩ := q
  exact tG.ret (R := rB) r rfl q p
theorem dts_one {X : Cx} {B : Ent} {W : WX} {c : Expr} {t : M Bool} (h : DT X B W c t) : DTs X B W [c] t := pts_one h
section
variable {X : Cx} {B : Ent} {W : WX} {elt tg iter : Expr} {ifs : List Expr} {scope : Scope} {pos : Pos} {t : Tg} {src : M (List D)} {tt : M Bool} {f : M D}
theorem do_lc (own : List (Str × Nat)) (hi : DI X B W tg iter src)
    (hg : ∀ (s : Shared) (H : Hp) (C : Addr) (cl : List (Str × Addr)) (fp : List Addr), DG (X.blk s H scope (compEnvC scope cl C X.env) fp) tg t)
    (ht : ∀ (s : Shared) (H : Hp) (C : Addr) (cl : List (Str × Addr)) (fp : List Addr), DTs (X.blk s H scope (compEnvC scope cl C X.env) fp) B W0 ifs tt)
    (he : ∀ (s : Shared) (H : Hp) (C : Addr) (cl : List (Str × Addr)) (fp : List Addr), DE (X.blk s H scope (compEnvC scope cl C X.env) fp) B W0 elt f)
    (hN : X.N.Nodup) (ok : BlkOk X.N X.env.scope scope own := by exact blkOk_by (by rfl)) (hc : X.calm = true := by rfl) (hv : ∀ i ∈ t.sl, i ∈ own.map (·.2) := by decide) (hs : ∀ x, foldedSetIterable iter X.env x = pure x := by intro _; rfl) :
    DO X B W (.ListComp elt [⟨tg, iter, ifs, 0⟩] scope pos) (dComp (own.map (·.2)) t src tt f) :=
  PE.weak (pe_lc (own := own) hc hN hi ok (fun s H C cl fp => (hg s H C cl fp).h) ht he hs) fun _ _ _ q => lc_of hv q
end

/-! #### statements -/
structure DEnd where
  nx : S → Prop
  rt : D → Bool → S → Prop
  bk : S → Prop := fun _ => False
  ct : S → Prop := fun _ => False
  ex : Ex → S → Prop
abbrev MS := DEnd → S → Prop
/-- a result: a value that stands still, or a fresh list of nobody -/
def RetV (K : PySem.W.Frag) (B : Ent) (σ : LSt) (w : Wd) (s : S) (H : Hp) (fr : Bool) (d : D) (v : V) : Prop :=
  if fr = true then ∃ a, v = .ref a ∧ Fresh K B w s σ H a d else Rep K w d v
structure PostS (K : PySem.W.Frag) (B : Ent) (W : WX) (σ : LSt) (w : Wd) (s : S) (H : Hp) (DD : DEnd) (D : Ends) : Prop where
  nx : ∀ s' w' σ' H', To σ w s H σ' w' s' H' → BRel K B w' s' σ' H' → DD.nx s' → D.nx σ' H'
  bk : ∀ s' w' σ' H', To σ w s H σ' w' s' H' → BRel K B w' s' σ' H' → DD.bk s' → D.bk σ' H'
  ct : ∀ s' w' σ' H', To σ w s H σ' w' s' H' → BRel K B w' s' σ' H' → DD.ct s' → D.ct σ' H'
  rt : ∀ d fr s' v w' σ' H', w.le w' → BRel K B w' s' σ' H' → RetV K B σ' w' s' H' fr d v → DD.rt d fr s' → D.rt v H'
  ex : ∀ e s' w' σ' H' c dd, w.le w' → BRel K B w' s' σ' H' → B.X w' e c dd H' → DD.ex e s' → W c dd σ' H'
def tS (K : PySem.W.Frag) (B : Ent) (W : WX) (f : MS) : TS := fun D σ H => ∃ w s DD, BRel K B w s σ H ∧ f DD s ∧ PostS K B W σ w s H DD D
abbrev DS (X : Cx) (B : Ent) (W : WX) (st : Stmt) (f : MS) : Prop := PS X st (tS X.K B W f)
abbrev DSs (X : Cx) (B : Ent) (W : WX) (st : List Stmt) (f : MS) : Prop := PSs X st (tS X.K B W f)
section
variable {K : PySem.W.Frag} {B : Ent} {W : WX} {σ σ' : LSt} {w w' : Wd} {s s' : S} {H H' : Hp} {DD : DEnd} {D : Ends}
theorem PostS.mono (t : To σ w s H σ' w' s' H') (p : PostS K B W σ w s H DD D) : PostS K B W σ' w' s' H' DD D :=
  ⟨fun s2 w2 σ2 H2 t2 => p.nx s2 w2 σ2 H2 (t.trans t2), fun s2 w2 σ2 H2 t2 => p.bk s2 w2 σ2 H2 (t.trans t2), fun s2 w2 σ2 H2 t2 => p.ct s2 w2 σ2 H2 (t.trans t2),
    fun d fr s2 v w2 σ2 H2 le => p.rt d fr s2 v w2 σ2 H2 (t.le.trans le), fun e s2 w2 σ2 H2 c dd le => p.ex e s2 w2 σ2 H2 c dd (t.le.trans le)⟩
/-- the first expression of a statement -/
theorem tS.seq {α β : Type} {R : Rl α β} {f : M α} {g : α → MS} {Z : β → Hp → Prop} (h : tS K B W (fun DD s => f s (fun a s' => g a DD s') DD.ex) D σ H)
    (k : ∀ d s v w H' DD w0 s0, BRel K B w s σ H' → R σ w0 s0 H w s H' d v → g d DD s → PostS K B W σ w s H' DD D → Z v H') : tG K B W R f σ H Z := by
  obtain ⟨w, s, DD, r, q, p⟩ := h
  exact ⟨w, s, fun a s' => g a DD s', DD.ex, r, q, ⟨fun d s' v w' H' t r' rv z => k d s' v w' H' DD w s r' rv z (p.mono t), fun e s' w' H' c dd le r' hx z => p.ex e s' w' σ H' c dd le r' hx z⟩⟩
end
section
variable {X : Cx} {B : Ent} {W : WX} {e c : Expr} {st : Stmt} {sts sts2 : List Stmt} {f : M D} {t : M Bool} {g g2 : MS} {pos : Pos}
def dNext : MS := fun DD s => DD.nx s
def dSeq (f g : MS) : MS := fun DD s => f { DD with nx := g DD } s
theorem dss_nil : DSs X B W [] dNext := PSs.weak pss_nil fun D σ H q => by
  obtain ⟨w, s, DD, r, q, p⟩ := q
  exact p.nx s w σ H (.refl ..) r q
theorem dss_cons (h1 : DS X B W st g) (h2 : DSs X B W sts g2) : DSs X B W (st :: sts) (dSeq g g2) := PSs.weak (pss_cons h1 h2) fun D σ H q => by
  obtain ⟨w, s, DD, r, q, p⟩ := q
  exact ⟨w, s, { DD with nx := g2 DD }, r, q, ⟨fun s' w' σ' H' t r' z => ⟨w', s', DD, r', z, p.mono t⟩, p.bk, p.ct, p.rt, p.ex⟩⟩
theorem dss_one (h1 : DS X B W st g) : DSs X B W [st] g := pss_one h1
theorem ds_pass : DS X B W (.Pass pos) dNext := PS.weak ps_pass fun D σ H q => by
  obtain ⟨w, s, DD, r, q, p⟩ := q
  exact p.nx s w σ H (.refl ..) r q
def dBrk : MS := fun DD s => DD.bk s
def dCnt : MS := fun DD s => DD.ct s
theorem ds_break : DS X B W (.Break pos) dBrk := PS.weak ps_break fun D σ H q => by
  obtain ⟨w, s, DD, r, q, p⟩ := q
  exact p.bk s w σ H (.refl ..) r q
theorem ds_continue : DS X B W (.Continue pos) dCnt := PS.weak ps_continue fun D σ H q => by
  obtain ⟨w, s, DD, r, q, p⟩ := q
  exact p.ct s w σ H (.refl ..) r q
def dDrop (f : M D) : MS := fun DD s => f s (fun _ s' => DD.nx s') DD.ex
theorem ds_expr (he : DE X B W e f) (hs : swapsWith e none pos.line X.env = pure false := by rfl) : DS X B W (.Expr e pos) (dDrop f) := PS.weak (ps_expr he hs) fun D σ H q => tS.seq (g := fun _ DD s => DD.nx s) q fun d s v w H' DD _ _ r _ z p => p.nx s w σ H' (.refl ..) r z
def dRet (f : M D) : MS := fun DD s => f s (fun d s' => DD.rt d false s') DD.ex
theorem ds_ret (he : DE X B W e f) : DS X B W (.Return (some e) pos) (dRet f) := PS.weak (ps_ret he) fun D σ H q => tS.seq (g := fun d DD s => DD.rt d false s) q fun d s v w H' DD _ _ r rv z p => p.rt d false s v w σ H' (.refl w) r rv z
def dRetO (f : M D) : MS := fun DD s => f s (fun d s' => DD.rt d true s') DD.ex
theorem ds_retO (he : DO X B W e f) : DS X B W (.Return (some e) pos) (dRetO f) := PS.weak (ps_ret he) fun D σ H q => tS.seq (g := fun d DD s => DD.rt d true s) q fun d s v w H' DD _ _ r rv z p => by
  obtain ⟨a, e, fr, _⟩ := rv
  exact p.rt d true s v w σ H' (.refl w) r ⟨a, e, fr⟩ z
def dRetN : MS := fun DD s => DD.rt .non false s
theorem ds_retN : DS X B W (.Return none pos) dRetN := PS.weak ps_retN fun D σ H q => by
  obtain ⟨w, s, DD, r, q, p⟩ := q
  exact p.rt .non false s .non w σ H (.refl w) r (of_non (K := X.K) (w := w)) q
/-- return x, x a name: its own list goes out -/
def dRetV (i : Nat) : MS := fun DD s => match s.d[i]? with
  | some (some (d, false)) => DD.rt d false s
  | some (some (d, true)) => DD.rt d true { s with d := s.d.set i none }
  | _ => False
theorem BRel.drop {K : PySem.W.Frag} {w : Wd} {s : S} {σ : LSt} {H : Hp} {i : Nat} (R : BRel K B w s σ H) : BRel K B w { s with d := s.d.set i none } σ H := by
  have key : ∀ (j : Nat) (x : D × Bool), (s.d.set i none)[j]? = some (some x) → s.d[j]? = some (some x) ∧ i ≠ j := fun j x h => by
    by_cases hj : i = j
    · subst hj
      by_cases hi : i < s.d.length
      · rw [List.getElem?_set_self hi] at h; cases h
      · rw [List.getElem?_eq_none (by simpa using hi)] at h; cases h
    · rw [List.getElem?_set_ne hj] at h; exact ⟨h, hj⟩
  exact ⟨R.sub, R.st, by rw [List.length_set]; exact R.len, fun j d h => R.val j d (key j _ h).1, fun j d h => R.own j d (key j _ h).1, fun j k a d e n h1 h2 => R.sep j k a d e n (key j _ h1).1 (key k _ h2).1, R.ent, R.keep, R.fnew, R.tnew, R.lv⟩
theorem BRel.release {K : PySem.W.Frag} {w : Wd} {s : S} {σ : LSt} {H : Hp} {i : Nat} {d : D} (R : BRel K B w s σ H) (h : s.d[i]? = some (some (d, true))) : ∃ a, σ[i]? = some (some (.ref a)) ∧ Fresh K B w { s with d := s.d.set i none } σ H a d := by
  obtain ⟨a, o, h1, h2, h3, h4, h5, h6⟩ := R.own i d h
  have hi : i < s.d.length := (List.getElem?_eq_some_iff.mp h).1
  refine ⟨a, h1, ⟨o, h2, h3⟩, h4, h5, h6, fun j e g => ?_⟩
  have g : (s.d.set i none)[j]? = some (some (e, true)) := g
  by_cases hj : i = j
  · subst hj; rw [List.getElem?_set_self hi] at g; cases g
  · rw [List.getElem?_set_ne hj] at g
    exact R.sep i j a d e hj h g h1
theorem ds_retV (i : Nat) {x : Str} {p : Pos} (hN : X.N[i]? = some x := by rfl) (hv : Vis X.env.scope x := by first | exact Or.inl rfl | exact Or.inr (Or.inl rfl) | exact Or.inr (Or.inr rfl)) (hd : (x == ("__debug__" : Str)) = false := by decide)
    (hcd : (x == ("__classdict__" : Str)) = false := by decide) : DS X B W (.Return (some (.Name x p)) pos) (dRetV i) := PS.weak (ps_ret (pe_var hN hv hd hcd)) fun D σ H q => by
  obtain ⟨w, s, DD, r, q, p⟩ := q
  unfold dRetV at q
  split at q
  · rename_i d e
    obtain ⟨v, h1, h2⟩ := r.val i d e
    exact ⟨v, h1, p.rt d false s v w σ H (.refl w) r h2 q⟩
  · rename_i d e
    obtain ⟨a, h1, fr⟩ := r.release e
    exact ⟨_, h1, p.rt d true _ _ w σ H (.refl w) r.drop ⟨a, rfl, fr⟩ q⟩
  · exact q.elim
def dIfS (t : M Bool) (f g : MS) : MS := fun DD s => t s (fun b s' => if b = true then f DD s' else g DD s') DD.ex
theorem ds_if (hc : DT X B W c t) (ha : DSs X B W sts g) (hb : DSs X B W sts2 g2) : DS X B W (.If c sts sts2 pos) (dIfS t g g2) := PS.weak (ps_if hc ha hb) fun D σ H q => tS.seq (g := fun b DD s => if b = true then g DD s else g2 DD s) q fun d s v w H' DD _ _ r rv z p => by
  have rv : v = d := rv
  subst rv
  cases v with
  | true => rw [if_pos rfl] at z ⊢; exact ⟨w, s, DD, r, z, p⟩
  | false => rw [if_neg Bool.false_ne_true] at z ⊢; exact ⟨w, s, DD, r, z, p⟩
/-- target = e -/
def dSet (t : Tg) (f : M D) : MS := fun DD s => f s (fun d s' => onSome (t.put d s') DD.nx) DD.ex
theorem dset_of {K : PySem.W.Frag} {t : Tg} {D : Ends} {σ : LSt} {H : Hp} (q : tS K B W (dSet t f) D σ H) : tAsg (tE K B W f) (tgG K t) D σ H := tS.seq (g := fun d DD s => onSome (t.put d s) DD.nx) q fun d s v w H' DD _ _ r rv z p => by
  obtain ⟨s1, e1, z⟩ := onSome_ex z
  obtain ⟨σ', R', t', _, g'⟩ := tg_of r rv e1
  exact g' _ (p.nx s1 w σ' H' t' R' z)
theorem ds_asg {tg : Expr} {t : Tg} (he : DE X B W e f) (hg : DG X tg t) (hs : swapsWithSole [tg] e pos.line X.env = pure false := by rfl) (hw : swappedStores [tg] e X.env = pure none := by rfl)
    (h1 : (assignEach [tg] X.env).map (·.2) = [assign tg X.env] := by rfl) : DS X B W (.Assign [tg] e pos) (dSet t f) := PS.weak (ps_asg he hg.h hs hw h1) fun _ _ _ q => dset_of q
theorem ds_set (i : Nat) {x : Str} {p : Pos} (hN : X.N.Nodup) (he : DE X B W e f) (hi : X.N[i]? = some x := by rfl) (hx : Loc X.env.scope x := by first | exact .inl rfl | exact .inr rfl) (hs : swapsWith e (some (.Name x p)) pos.line X.env = pure false := by rfl) (hf : X.fn x = true ∨ X.env.scope.names.lookup x = some .local := by first | exact .inl rfl | exact .inr rfl | assumption) :
    DS X B W (.Assign [.Name x p] e pos) (dSet (.nm i) f) := PS.weak (ps_set hN hi hx he hs hf) fun _ _ _ q => dset_of q
/-- x = a fresh list -/
def dSetO (i : Nat) (f : M D) : MS := fun DD s => f s (fun d s' => DD.nx { s' with d := s'.d.set i (some (d, true)) }) DD.ex
theorem To.setO {K : PySem.W.Frag} {w0 w : Wd} {s0 s : S} {σ : LSt} {H0 H : Hp} {a : Addr} {i : Nat} {d : D} (R : BRel K B w s σ H) (no : ∀ o, ¬ Out σ w0 s0 H0 a o) (t : To σ w0 s0 H0 σ w s H) : To σ w0 s0 H0 (σ.set i (some (.ref a))) w { s with d := s.d.set i (some (d, true)) } H := ⟨t.le, fun b o q => by
  have q' := t.fr b o q
  refine ⟨q'.at_, q'.f, q'.t, fun j e g z => ?_⟩
  have g : (s.d.set i (some (d, true)))[j]? = some (some (e, true)) := g
  by_cases hj : i = j
  · subst hj
    have hi : i < s.d.length := by
      have := (List.getElem?_eq_some_iff.mp g).1
      rwa [List.length_set] at this
    rw [List.getElem?_set_self (by rw [R.len]; exact hi)] at z
    cases z
    exact no o q
  · rw [List.getElem?_set_ne hj] at g z
    exact q'.sl j e g z⟩
theorem dsetO_of {K : PySem.W.Frag} {i : Nat} {D : Ends} {σ : LSt} {H : Hp} (q : tS K B W (dSetO i f) D σ H) : tAsg (tO K B W f) (gName i) D σ H := by
  obtain ⟨w, s, DD, r, q, p⟩ := q
  refine ⟨w, s, fun d s' => DD.nx { s' with d := s'.d.set i (some (d, true)) }, DD.ex, r, q, ⟨fun d s' v w' H' t r' rv z => ?_, fun e s' w' H' c dd le r' hx z => p.ex e s' w' σ H' c dd le r' hx z⟩⟩
  obtain ⟨a, rfl, fr, no⟩ := rv
  exact p.nx _ w' _ H' (To.setO r' no t) (r'.setO fr) z
theorem ds_setO (i : Nat) {x : Str} {p : Pos} (hN : X.N.Nodup) (he : DO X B W e f) (hi : X.N[i]? = some x := by rfl) (hx : Loc X.env.scope x := by first | exact .inl rfl | exact .inr rfl) (hs : swapsWith e (some (.Name x p)) pos.line X.env = pure false := by rfl) (hf : X.fn x = true ∨ X.env.scope.names.lookup x = some .local := by first | exact .inl rfl | exact .inr rfl | assumption) :
    DS X B W (.Assign [.Name x p] e pos) (dSetO i f) := PS.weak (ps_set hN hi hx he hs hf) fun _ _ _ q => dsetO_of q
theorem ds_setLc {elt tg iter : Expr} {ifs : List Expr} {scope : Scope} {spos : Pos} {t : Tg} {src : M (List D)} {tt : M Bool} {f : M D} (i : Nat) {y : Str} {py : Pos} (own : List (Str × Nat)) (hi : DI X B W tg iter src)
    (hg : ∀ (s : Shared) (H : Hp) (C : Addr) (cl : List (Str × Addr)) (fp : List Addr), DG (X.blk s H scope (compEnvC scope cl C X.env) fp) tg t)
    (ht : ∀ (s : Shared) (H : Hp) (C : Addr) (cl : List (Str × Addr)) (fp : List Addr), DTs (X.blk s H scope (compEnvC scope cl C X.env) fp) B W0 ifs tt)
    (he : ∀ (s : Shared) (H : Hp) (C : Addr) (cl : List (Str × Addr)) (fp : List Addr), DE (X.blk s H scope (compEnvC scope cl C X.env) fp) B W0 elt f)
    (hN : X.N.Nodup) (hy : X.N[i]? = some y := by rfl) (hyl : X.env.scope.names.lookup y = some .local := by rfl)
    (hsw : swapsWith (.ListComp elt [⟨tg, iter, ifs, 0⟩] scope pos) (some (.Name y py)) spos.line X.env = pure true := by exact sw_true rfl rfl rfl (by decide +kernel))
    (ok : BlkOk X.N X.env.scope scope own := by exact blkOk_by (by rfl)) (hc : X.calm = true := by rfl) (hv : ∀ i ∈ t.sl, i ∈ own.map (·.2) := by decide) (hs : ∀ x, foldedSetIterable iter X.env x = pure x := by intro _; rfl) :
    DS X B W (.Assign [.Name y py] (.ListComp elt [⟨tg, iter, ifs, 0⟩] scope pos) spos) (dSetO i (dComp (own.map (·.2)) t src tt f)) :=
  PS.weak (ps_setLc (own := own) hc hN hy hyl hsw hi ok (fun s H C cl fp => (hg s H C cl fp).h) ht he hs) fun D σ H q => by
    have q := dsetO_of q
    exact lc_of hv q
/-! #### for -/
def dLoop (t : Tg) (body : MS) : List D → MS
  | [] => fun DD s => DD.nx s
  | d :: r => fun DD s => onSome (t.put d s) fun s1 => body { DD with nx := dLoop t body r DD, ct := dLoop t body r DD, bk := DD.nx } s1
def dFor (src : M (List D)) (t : Tg) (body : MS) : MS := fun DD s => src s (fun l s' => dLoop t body l DD s') DD.ex
theorem ds_for {tg iter : Expr} {src : M (List D)} {t : Tg} (hp : PassesOwn (model X.prog X.w) X.A X.env X.xe) (hi : DI X B W tg iter src) (hg : DG X tg t) (hb : DSs X B W sts g) (hc : X.calm = true := by rfl)
    (hs : ∀ x, foldedSetIterable iter X.env x = pure x := by intro _; rfl) : DS X B W (.For tg iter sts [] pos) (dFor src t g) := PS.weak (ps_for hp hc hi hg.h hb hs) fun D σ H q => tS.seq (g := fun l DD s => dLoop t g l DD s) q fun l s J w H1 DD _ _ R rv z pp => by
  obtain ⟨G, Y, hw, hG, hY⟩ := rv.ex
  refine for_it hw (fun i σ' H' => ∃ w1 s1, To σ w s H1 σ' w1 s1 H' ∧ BRel X.K B w1 s1 σ' H' ∧ dLoop t g (l.drop i) DD s1) ?_ ?_ ?_ ?_
  · exact ⟨w, s, .refl .., R, by rw [List.drop_zero]; exact z⟩
  · rintro i σ' H' hi ⟨w1, s1, t1, R1, _⟩
    exact hG H' (t1.le.1.trans R1.sub)
  · rintro i x σ' H' H2 hi ⟨w1, s1, t1, R1, z1⟩ hy
    have hd : l.drop i = l[i] :: l.drop (i + 1) := List.drop_eq_getElem_cons hi
    rw [hd] at z1
    obtain ⟨s2, e2, z2⟩ := onSome_ex z1
    have it := (hY i H' x H2 l[i] (List.getElem?_eq_getElem hi) hy).mono t1.le
    obtain ⟨w2, t2, R2, rx⟩ := item_of R1 it
    obtain ⟨σ3, R3, t3, S3, g3⟩ := tg_of R2 rx e2
    have T3 := (t1.trans t2).trans t3
    refine g3 _ ⟨w2, s2, _, R3, z2, ⟨fun s' w' σ' H' t4 r4 z4 => ⟨w', s', T3.trans t4, r4, z4⟩, fun s' w' σ' H' t4 r4 z4 => pp.nx s' w' σ' H' (T3.trans t4) r4 z4, fun s' w' σ' H' t4 r4 z4 => ⟨w', s', T3.trans t4, r4, z4⟩,
      fun d fr s' v w' σ' H' le => pp.rt d fr s' v w' σ' H' (T3.le.trans le), fun e s' w' σ' H' c dd le => pp.ex e s' w' σ' H' c dd (T3.le.trans le)⟩⟩
  · rintro σ' H' ⟨w1, s1, t1, R1, z1⟩
    rw [List.drop_length] at z1
    exact pp.nx s1 w1 σ' H' t1 R1 z1
end
end DL

/-! ### defs and their calls; append, extend; while -/
namespace DL
open PySem PySem.Spec PyProof.Rows L2
abbrev Fn := List D → List SO → (D → Bool → List SO → Prop) → (Ex → List SO → Prop) → Prop
/-- the state behind a call -/
structure CallOk (K : PySem.W.Frag) (w : Wd) (H : Hp) (w' : Wd) (m' : List SO) (H' : Hp) : Prop where
  le : w.le w'
  sub : Same w'.F H'
  st : StRel K w' m' H'
  keep : ∀ (a : Addr) (o : HO), H a = some o → a ∉ w.th → H' a = some o
  fnew : ∀ a : Addr, w'.F a ≠ none → w.F a = none → H a = none
  tnew : ∀ a : Addr, a ∈ w'.th → a ∉ w.th → H a = none
def CallV (K : PySem.W.Frag) (H : Hp) (w' : Wd) (H' : Hp) (fr : Bool) (d : D) (v : V) : Prop :=
  if fr = true then ∃ a o, v = .ref a ∧ H a = none ∧ H' a = some o ∧ Own K w' d o ∧ w'.F a = none ∧ a ∉ w'.th else Rep K w' d v
abbrev XR := Wd → Ex → Value → Option Addr → Hp → Prop
def spD (K : PySem.W.Frag) (xr : XR) (n : Nat) (F : Fn) : Sp := fun vs H Q E => ∃ w ds m QD ED, Same w.F H ∧ StRel K w m H ∧ Reps K w ds vs ∧ vs.length = n ∧ F ds m QD ED ∧
  (∀ d fr m' v w' H', CallOk K w H w' m' H' → CallV K H w' H' fr d v → QD d fr m' → Q v H') ∧ ∀ e m' w' H' c dd, CallOk K w H w' m' H' → xr w' e c dd H' → ED e m' → E c dd H'
section
variable {K : PySem.W.Frag} {B : Ent} {w w' : Wd} {s s' : S} {σ : LSt} {H H' : Hp} {m' : List SO} {d : D} {v : V}
theorem CallOk.rel (R : BRel K B w s σ H) (c : CallOk K w H w' m' H') : BRel K B w' { s with m := m' } σ H' := by
  refine ⟨c.sub, c.st, R.len, fun i d h => ?_, fun i d h => ?_, R.sep, R.ent.trans c.le, fun a o h1 h2 => ?_, fun a h1 h2 => ?_, fun a h1 h2 => ?_, R.lv⟩
  · obtain ⟨v, h1, h2⟩ := R.val i d h
    exact ⟨v, h1, h2.mono c.le⟩
  · obtain ⟨a, o, h1, h2, h3, h4, h5, h6⟩ := R.own i d h
    refine ⟨a, o, h1, c.keep a o h2 h5, h3.mono c.le, ?_, fun z => ?_, h6⟩
    · cases e : w'.F a with
      | none => rfl
      | some u =>
        have := c.fnew a (by rw [e]; simp) h4
        rw [this] at h2; cases h2
    · have := c.tnew a z h5
      rw [this] at h2; cases h2
  · have h3 := R.keep a o h1 h2
    refine c.keep a o h3 fun z => ?_
    have := R.tnew a z h2
    rw [this] at h1; cases h1
  · cases e : w.F a with
    | some u => exact R.fnew a (by rw [e]; simp) h2
    | none => exact R.live (c.fnew a h1 e)
  · by_cases z : a ∈ w.th
    · exact R.tnew a z h2
    · exact R.live (c.tnew a h1 z)
theorem CallOk.to (c : CallOk K w H w' m' H') : To σ w s H σ w' { s with m := m' } H' := by
  refine ⟨c.le, fun a o q => ⟨c.keep a o q.at_ q.t, ?_, fun z => ?_, q.sl⟩⟩
  · cases e : w'.F a with
    | none => rfl
    | some u =>
      have h1 := c.fnew a (by rw [e]; simp) q.f
      have h := q.at_
      rw [h1] at h
      cases h
  · have h1 := c.tnew a z q.t
    have h := q.at_
    rw [h1] at h
    cases h
/-- a body's end is its call's end -/
theorem BRel.callOk (R : BRel K ⟨w, H, B.X⟩ w' s' σ H') : CallOk K w H w' s'.m H' := ⟨R.ent, R.sub, R.st, R.keep, R.fnew, R.tnew⟩
end
def startD (n : Nat) (ds : List D) : Sl := ds.map (fun d => some (d, false)) ++ List.replicate (n - ds.length) none
/-- a def by its body's reading: n slots -/
def dFn (n : Nat) (body : MS) : Fn := fun ds m Q E => body { nx := fun s => Q .non false s.m, rt := fun d fr s => Q d fr s.m, ex := fun e s => E e s.m } ⟨startD n ds, m⟩
theorem start_rel {K : PySem.W.Frag} {xr : XR} {w : Wd} {H : Hp} {m : List SO} {N : List Str} {ds : List D} {vs : List V} (hs : Same w.F H) (st : StRel K w m H) (r : Reps K w ds vs) (hl : vs.length ≤ N.length) : BRel K ⟨w, H, xr⟩ w ⟨startD N.length ds, m⟩ (L2.start N vs) H := by
  have l := r.length
  have key : ∀ (i : Nat) (x : D × Bool), (startD N.length ds)[i]? = some (some x) → x.2 = false ∧ ds[i]? = some x.1 := fun i x h => by
    unfold startD at h
    by_cases hi : i < ds.length
    · rw [List.getElem?_append_left (by rw [List.length_map]; exact hi), List.getElem?_map] at h
      cases e : ds[i]? with
      | none => rw [e] at h; cases h
      | some y => rw [e] at h; cases h; exact ⟨rfl, rfl⟩
    · rw [List.getElem?_append_right (by rw [List.length_map]; omega), List.getElem?_replicate] at h
      split at h <;> cases h
  refine ⟨hs, st, ?_, fun i d h => ?_, fun i d h => ?_, fun i j a d e n h1 h2 => ?_, .refl w, fun a o h1 _ => h1, fun a h1 h2 => absurd h2 h1, fun a h1 h2 => absurd h1 h2, fun a h => st.live h⟩
  · unfold L2.start startD
    simp only [List.length_append, List.length_map, List.length_replicate]
    omega
  · obtain ⟨_, e⟩ := key i _ h
    obtain ⟨v, h1, h2⟩ := r.getD e
    refine ⟨v, ?_, h2⟩
    unfold L2.start
    have hi : i < vs.length := (List.getElem?_eq_some_iff.mp h1).1
    rw [List.getElem?_append_left (by rw [List.length_map]; exact hi), List.getElem?_map, h1]
    rfl
  · have := (key i _ h).1
    cases this
  · have := (key i _ h1).1
    cases this
section
variable {P : Program} {wd : World} {K : PySem.W.Frag} {mg : Str → Option Value} {base : Heap} {xr : XR}
theorem fn_ok {x qual : Str} {st : Stmt} {f : Addr} {fd : FuncData} {N ps : List Str} {k : Nat} {body : MS} (F : Fun K x qual st f fd) (S : FnScope N ps (defScope st)) (hl : ps.length ≤ N.length)
    (hb : ∀ (cdv : Value) (A : Around) (outer : List Env) (s : Shared) (H : Hp) (E : XK) (w : Wd), Room k (A.deeper (envOfC qual (defScope st) s.heap.objs.size f cdv)) →
      DSs (cxOf (L2.CX P wd) P wd K mg base N qual (defScope st) f cdv A outer s H E) ⟨w, H, xr⟩ (fun c d _ H => E c d H) (defBody st) body) :
    FnOk P wd K mg base (L2.CX P wd) (k + 1) f fd ps (spD K xr ps.length (dFn N.length body)) := by
  refine F.okX S (fun vs H Q E h => ?_) (fun cdv A outer s H vs Q E hr h => ?_)
  · obtain ⟨w, ds, m, QD, ED, _, _, _, hn, _⟩ := h
    exact hn
  · obtain ⟨w, ds, m, QD, ED, hs, hst, r, hn, q, k1, k2⟩ := h
    refine ⟨_, hb cdv A outer s H E w hr, ?_⟩
    refine ⟨w, ⟨startD N.length ds, m⟩, _, start_rel hs hst r (by omega), q, ⟨fun s' w' σ' H' t R z => ?_, fun s' w' σ' H' t R z => z.elim, fun s' w' σ' H' t R z => z.elim, fun d fr s' v w' σ' H' le R rv z => ?_, fun e s' w' σ' H' c dd le R hx z => ?_⟩⟩
    · exact k1 .non false s'.m .non w' H' (R.callOk (B := ⟨w, H, xr⟩)) (of_non (K := K) (w := w')) z
    · refine k1 d fr s'.m v w' H' (R.callOk (B := ⟨w, H, xr⟩)) ?_ z
      cases fr with
      | false => exact rv
      | true =>
        obtain ⟨a, e, fr⟩ := rv
        obtain ⟨o, h1, h2⟩ := fr.at_
        exact ⟨a, o, e, fr.b, h1, h2, fr.f, fr.t⟩
    · exact k2 e s'.m w' H' c dd (R.callOk (B := ⟨w, H, xr⟩)) hx z
end
/-! #### calls -/
def dCall (F : Fn) (f : M (List D)) : M D := f.bnd fun ds s Q E => F ds s.m (fun d _ m' => Q d { s with m := m' }) fun e m' => E e { s with m := m' }
def dCallO (F : Fn) (f : M (List D)) : M D := f.bnd fun ds s Q E => F ds s.m (fun d fr m' => fr = true ∧ Q d { s with m := m' }) fun e m' => E e { s with m := m' }
theorem CallV.fresh {K : PySem.W.Frag} {B : Ent} {w w' : Wd} {s : S} {σ : LSt} {H H' : Hp} {m' : List SO} {d : D} {v : V} (R : BRel K B w s σ H) (c : CallOk K w H w' m' H') (h : CallV K H w' H' true d v) : rO K B σ w s H w' { s with m := m' } H' d v := by
  obtain ⟨a, o, e, h1, h2, h3, h4, h5⟩ := h
  refine ⟨a, e, ⟨⟨o, h2, h3⟩, h4, h5, R.live h1, fun i f g z => ?_⟩, fun o z => by have := z.at_; rw [h1] at this; cases this⟩
  obtain ⟨b, u, q1, q2, _⟩ := R.own i f g
  rw [q1] at z; cases z
  rw [h1] at q2; cases q2
theorem spD_of {K : PySem.W.Frag} {B : Ent} {W : WX} {n : Nat} {F : Fn} {w : Wd} {s : S} {σ : LSt} {H : Hp} {ds : List D} {vs : List V} {QD : D → S → Prop} {ED : Ex → S → Prop} {Q : VK} (R : BRel K B w s σ H) (r : Reps K w ds vs) (hn : vs.length = n)
    (h : F ds s.m (fun d _ m' => QD d { s with m := m' }) fun e m' => ED e { s with m := m' }) (p : Post K B W σ (rE K) w s H QD ED Q) : spD K B.X n F vs H Q (fun c d H' => W c d σ H') := by
  refine ⟨w, ds, s.m, _, _, R.sub, R.st, r, hn, h, fun d fr m' v w' H' c rv z => ?_, fun e m' w' H' c dd ok hx z => p.ex e _ w' H' c dd ok.le (ok.rel R) hx z⟩
  cases fr with
  | false => exact p.ok d _ v w' H' c.to (c.rel R) rv z
  | true =>
    have fo := CallV.fresh R c rv
    obtain ⟨a, rfl, fr, no⟩ := fo
    obtain ⟨o, ho, hw⟩ := fr.at_
    have le2 := frz_le (o := o) fr.f
    refine p.ok d _ _ ⟨upd w'.F a o, w'.th, w'.cs⟩ H' ⟨c.le.trans le2, fun b u q => ?_⟩ ((c.rel R).freeze ho fr.f fr.t fr.b fr.sl) (hw.rep (F := w'.F) le2 upd_same) z
    have nb : b ≠ a := fun z => no u (by rw [← z]; exact q)
    have q' := c.to.fr b u q
    exact ⟨q'.at_, by show upd w'.F a o b = none; rw [upd_ne nb]; exact q'.f, q'.t, q'.sl⟩
theorem spD_ofO {K : PySem.W.Frag} {B : Ent} {W : WX} {n : Nat} {F : Fn} {w : Wd} {s : S} {σ : LSt} {H : Hp} {ds : List D} {vs : List V} {QD : D → S → Prop} {ED : Ex → S → Prop} {Q : VK} (R : BRel K B w s σ H) (r : Reps K w ds vs) (hn : vs.length = n)
    (h : F ds s.m (fun d fr m' => fr = true ∧ QD d { s with m := m' }) fun e m' => ED e { s with m := m' }) (p : Post K B W σ (rO K B) w s H QD ED Q) : spD K B.X n F vs H Q (fun c d H' => W c d σ H') := by
  refine ⟨w, ds, s.m, _, _, R.sub, R.st, r, hn, h, fun d fr m' v w' H' c rv z => ?_, fun e m' w' H' c dd ok hx z => p.ex e _ w' H' c dd ok.le (ok.rel R) hx z⟩
  obtain ⟨rfl, z⟩ := z
  exact p.ok d _ v w' H' c.to (c.rel R) (CallV.fresh R c rv) z
section
variable {X : Cx} {B : Ent} {W : WX} {e : Expr} {es : List Expr} {fl : M (List D)} {x : Str} {p pos : Pos} {k : Nat} {f : Addr} {fd : FuncData} {ps : List Str} {F : Fn}
/-- a def of the module as its callers know it -/
structure DefOk (P : Program) (wd : World) (K : PySem.W.Frag) (mg : Str → Option Value) (base : Heap) (xr : XR) (k : Nat) (x : Str) (n : Nat) (F : Fn) : Prop where
  ex : ∃ f fd ps, FnOk P wd K mg base (L2.CX P wd) k f fd ps (spD K xr n F) ∧ mg x = some (.ref f) ∧ PySem.W.keepIn K (.ref f) = true ∧ Binds K fd ps [] ∧ ps.length = n
theorem lenOf {K : PySem.W.Frag} {w : Wd} {ds : List D} {vs : List V} (r : Reps K w ds vs) {n : Nat} (h : ds.length = n) : vs.length = n := by rw [r.length]; exact h
def dCallN (n : Nat) (F : Fn) (f : M (List D)) : M D := dCall (fun ds m Q E => ds.length = n ∧ F ds m Q E) f
def dCallNO (n : Nat) (F : Fn) (f : M (List D)) : M D := dCallO (fun ds m Q E => ds.length = n ∧ F ds m Q E) f
theorem de_call {n : Nat} (G : DefOk X.prog X.w X.K X.mg X.base B.X k x n F) (hr : Room k X.A) (tk : Takes X W) (ha : DA X B W (e :: es) fl) (hg : Gl X x := by rfl) (hdb : (x == ("__debug__" : Str)) = false := by decide) (he : starEach (e :: es) X.env = (false, eval e X.env) :: starEach es X.env := by rfl) (hpl : (backTo pos (starEach es X.env)).any (·.1) = false := by rfl) :
    DE X B W (.Call (.Name x p) (e :: es) [] pos) (dCallN n F fl) := by
  obtain ⟨f, fd, ps, G, hm, hk, hb, hn⟩ := G.ex
  exact PE.weak (pe_callS (E := WE W) G hr hg hm hk hb (fun σ => passAt tk σ) ha hdb he hpl) fun σ H Q q => by
    refine tG.seq (back_E _) q fun ds s vs w H' QD ED _ _ r rv z pp => ?_
    have rv : Reps X.K w ds vs := rv
    exact spD_of r rv (lenOf rv z.1) z.2 pp
theorem do_call {n : Nat} (G : DefOk X.prog X.w X.K X.mg X.base B.X k x n F) (hr : Room k X.A) (tk : Takes X W) (ha : DA X B W (e :: es) fl) (hg : Gl X x := by rfl) (hdb : (x == ("__debug__" : Str)) = false := by decide) (he : starEach (e :: es) X.env = (false, eval e X.env) :: starEach es X.env := by rfl) (hpl : (backTo pos (starEach es X.env)).any (·.1) = false := by rfl) :
    DO X B W (.Call (.Name x p) (e :: es) [] pos) (dCallNO n F fl) := by
  obtain ⟨f, fd, ps, G, hm, hk, hb, hn⟩ := G.ex
  exact PE.weak (pe_callS (E := WE W) G hr hg hm hk hb (fun σ => passAt tk σ) ha hdb he hpl) fun σ H Q q => by
    refine tG.seq (back_O _ _) q fun ds s vs w H' QD ED _ _ r rv z pp => ?_
    have rv : Reps X.K w ds vs := rv
    exact spD_ofO r rv (lenOf rv z.1) z.2 pp
/-- f() -/
theorem run_fn0 {σ : LSt} {H : Hp} {Q : VK} {s : Shared} {pins : List (Addr × Obj)} {sp : Sp} {E : XK} (F : FnOk X.prog X.w X.K X.mg X.base (L2.CX X.prog X.w) k f fd ps sp) (hr : Room k X.A) (hb : Binds X.K fd ps []) (hx : PassesAt (L2.CX X.prog X.w) X σ E) (I : Inv X pins σ H s) (h : sp [] H Q E) :
    wpAny (model X.prog X.w) X.A (call (.ref f) []) (EP X pins σ Q) X.xe s :=
  run_fnS (E := fun _ => E) (σ := σ) F hr hb hx I .nil h
theorem pe_callS0 {sp : Sp} {E : LSt → XK} (F : FnOk X.prog X.w X.K X.mg X.base (L2.CX X.prog X.w) k f fd ps sp) (hr : Room k X.A) (hg : Gl X x) (hm : X.mg x = some (.ref f)) (hk : PySem.W.keepIn X.K (.ref f) = true) (hb : Binds X.K fd ps []) (hx : ∀ σ, PassesAt (L2.CX X.prog X.w) X σ (E σ)) (hdb : (x == ("__debug__" : Str)) = false := by decide) :
    PE X (.Call (.Name x p) [] [] pos) (fun σ H Q => sp [] H Q (E σ)) := ⟨fun pins s σ H Q I h => wpAny_Call_Name_kw (ld_glob I hg hm (PySem.W.callWith_K0 I.kIn hk (run_fn0 F hr hb (hx σ) I h)) hdb)⟩
def dArgs0 : M (List D) := M.ret []
theorem de_call0 (G : DefOk X.prog X.w X.K X.mg X.base B.X k x 0 F) (hr : Room k X.A) (tk : Takes X W) (hg : Gl X x := by rfl) (hdb : (x == ("__debug__" : Str)) = false := by decide) : DE X B W (.Call (.Name x p) [] [] pos) (dCallN 0 F dArgs0) := by
  obtain ⟨f, fd, ps, G, hm, hk, hb, hn⟩ := G.ex
  exact PE.weak (pe_callS0 (E := WE W) G hr hg hm hk hb (fun σ => passAt tk σ) hdb) fun σ H Q q => by
    obtain ⟨w, s, QD, ED, r, q, pp⟩ := q
    exact spD_of r .nil rfl q.2 pp
theorem do_call0 (G : DefOk X.prog X.w X.K X.mg X.base B.X k x 0 F) (hr : Room k X.A) (tk : Takes X W) (hg : Gl X x := by rfl) (hdb : (x == ("__debug__" : Str)) = false := by decide) : DO X B W (.Call (.Name x p) [] [] pos) (dCallNO 0 F dArgs0) := by
  obtain ⟨f, fd, ps, G, hm, hk, hb, hn⟩ := G.ex
  exact PE.weak (pe_callS0 (E := WE W) G hr hg hm hk hb (fun σ => passAt tk σ) hdb) fun σ H Q q => by
    obtain ⟨w, s, QD, ED, r, q, pp⟩ := q
    exact spD_ofO r .nil rfl q.2 pp
end
/-! #### x.append(e), x.extend(e): x a slot's own list -/
def lstAt (s : S) (i : Nat) : Option (List D) := match s.d[i]? with
  | some (some (.lst l, true)) => some l
  | _ => none
theorem lstAt_some {s : S} {i : Nat} {l : List D} (h : lstAt s i = some l) : s.d[i]? = some (some (.lst l, true)) := by
  unfold lstAt at h
  split at h
  · rename_i l' e; cases h; exact e
  · cases h
def dApp (i : Nat) (f : M D) : MS := fun DD s => (lstAt s i).isSome = true ∧ f s (fun y s' => onSome (lstAt s' i) fun l => l.length < sizeLine ∧ DD.nx { s' with d := s'.d.set i (some (.lst (l ++ [y]), true)) }) DD.ex
def dExt (i : Nat) (f : M D) : MS := fun DD s => (lstAt s i).isSome = true ∧ f s (fun y s' => onSome (lstAt s' i) fun l => match y with
  | .lst l2 => l.length + l2.length ≤ sizeLine ∧ DD.nx { s' with d := s'.d.set i (some (.lst (l ++ l2), true)) }
  | _ => False) DD.ex
section
variable {K : PySem.W.Frag} {B : Ent} {w : Wd} {s : S} {σ : LSt} {H : Hp} {i : Nat} {l : List D}
theorem lst_at (R : BRel K B w s σ H) (h : lstAt s i = some l) : ∃ a vs, σ[i]? = some (some (.ref a)) ∧ H a = some (.lst vs) ∧ Reps K w l vs := by
  obtain ⟨a, o, h1, h2, h3, _⟩ := R.own i _ (lstAt_some h)
  obtain ⟨vs, e, r⟩ := h3
  subst e
  exact ⟨a, vs, h1, h2, r⟩
theorem To.change {e d : D} {a : Addr} {o : HO} (R : BRel K B w s σ H) (h : s.d[i]? = some (some (e, true))) (ha : σ[i]? = some (some (.ref a))) : To σ w s H σ w { s with d := s.d.set i (some (d, true)) } (upd H a o) := ⟨.refl w, fun b u q => by
  have nb : b ≠ a := fun z => by rw [z] at q; exact q.sl i e h ha
  refine ⟨by rw [upd_ne nb]; exact q.at_, q.f, q.t, fun j f g z => ?_⟩
  have g : (s.d.set i (some (d, true)))[j]? = some (some (f, true)) := g
  by_cases hj : i = j
  · subst hj
    rw [ha] at z; cases z
    exact nb rfl
  · rw [List.getElem?_set_ne hj] at g
    exact q.sl j f g z⟩
end
section
variable {X : Cx} {B : Ent} {W : WX} {e c : Expr} {f : M D} {x : Str} {p pos apos cpos : Pos}
theorem ds_append (i : Nat) (he : DE X B W e f) (hN : X.N[i]? = some x := by rfl) (hv : Vis X.env.scope x := by first | exact Or.inl rfl | exact Or.inr (Or.inl rfl) | exact Or.inr (Or.inr rfl)) (hd : (x == ("__debug__" : Str)) = false := by decide)
    (hcd : (x == ("__classdict__" : Str)) = false := by decide)
    (hbase : attributeBase (.Name x p) "append" X.env (eval (.Name x p) X.env) = eval (.Name x p) X.env := by rfl)
    (hfew : ((backTo cpos (starEach [e] X.env)).all (fun x => !x.1) && (backToKw cpos (keywordEach [] X.env)).all (fun x => x.1.isSome) && decide ([e].length + ([] : List Keyword).length + (if ([] : List Keyword).isEmpty then 0 else 1) < 30)) = true := by rfl)
    (hline : (apos.endLine == cpos.line) = true := by rfl) (hs : starEach [e] X.env = (false, eval e X.env) :: starEach [] X.env := by rfl) (hplain : (backTo cpos (starEach [] X.env)).any (·.1) = false := by rfl)
    (hsw : swapsWith (.Call (.Attribute (.Name x p) "append" apos) [e] [] cpos) none pos.line X.env = pure false := by rfl) :
    DS X B W (.Expr (.Call (.Attribute (.Name x p) "append" apos) [e] [] cpos) pos) (dApp i f) :=
  PS.weak (ps_expr (pe_bm PySem.F.plainAttrs_list PySem.F.slot_list_append PySem.F.type_list_append mt_append (pe_var hN hv hd hcd) (pa_cons he pa_nil hs) hbase hfew hline hs hplain) hsw) fun D σ H q => by
    obtain ⟨w, s, DD, r, ⟨h0, q⟩, pp⟩ := q
    obtain ⟨l0, h0⟩ := Option.isSome_iff_exists.mp h0
    obtain ⟨a0, vs0, h1, h2, _⟩ := lst_at r h0
    refine ⟨.ref a0, h1, .inl ⟨rfl, vs0, .inl (.inl h2)⟩, ?_⟩
    refine ⟨w, s, _, _, r, q, ⟨fun y s' v w' H' t r' ry z => ?_, fun e s' w' H' c dd le => pp.ex e s' w' σ H' c dd le⟩⟩
    replace z := onSome_ex z
    obtain ⟨l, e1, hz, z⟩ := z
    obtain ⟨a, vs, h3, h4, rl⟩ := lst_at r' e1
    rw [h1] at h3; cases h3
    have ry : Rep X.K w' y v := ry
    refine ⟨a0, vs, v, rfl, rfl, h4, by rw [rl.length]; exact hz, ?_⟩
    exact pp.nx _ w' σ _ (t.trans (To.change r' (lstAt_some e1) h1)) (r'.change (lstAt_some e1) h1 (own_lst (rl.append (.one ry)))) z
theorem ds_extend (i : Nat) (he : DE X B W e f) (hN : X.N[i]? = some x := by rfl) (hv : Vis X.env.scope x := by first | exact Or.inl rfl | exact Or.inr (Or.inl rfl) | exact Or.inr (Or.inr rfl)) (hd : (x == ("__debug__" : Str)) = false := by decide)
    (hcd : (x == ("__classdict__" : Str)) = false := by decide)
    (hbase : attributeBase (.Name x p) "extend" X.env (eval (.Name x p) X.env) = eval (.Name x p) X.env := by rfl)
    (hfew : ((backTo cpos (starEach [e] X.env)).all (fun x => !x.1) && (backToKw cpos (keywordEach [] X.env)).all (fun x => x.1.isSome) && decide ([e].length + ([] : List Keyword).length + (if ([] : List Keyword).isEmpty then 0 else 1) < 30)) = true := by rfl)
    (hline : (apos.endLine == cpos.line) = true := by rfl) (hs : starEach [e] X.env = (false, eval e X.env) :: starEach [] X.env := by rfl) (hplain : (backTo cpos (starEach [] X.env)).any (·.1) = false := by rfl)
    (hsw : swapsWith (.Call (.Attribute (.Name x p) "extend" apos) [e] [] cpos) none pos.line X.env = pure false := by rfl) :
    DS X B W (.Expr (.Call (.Attribute (.Name x p) "extend" apos) [e] [] cpos) pos) (dExt i f) :=
  PS.weak (ps_expr (pe_bm PySem.F.plainAttrs_list PySem.F.slot_list_extend PySem.F.type_list_extend mt_extend (pe_var hN hv hd hcd) (pa_cons he pa_nil hs) hbase hfew hline hs hplain) hsw) fun D σ H q => by
    obtain ⟨w, s, DD, r, ⟨h0, q⟩, pp⟩ := q
    obtain ⟨l0, h0⟩ := Option.isSome_iff_exists.mp h0
    obtain ⟨a0, vs0, h1, h2, _⟩ := lst_at r h0
    refine ⟨.ref a0, h1, .inl ⟨rfl, vs0, .inl (.inl h2)⟩, ?_⟩
    refine ⟨w, s, _, _, r, q, ⟨fun y s' v w' H' t r' ry z => ?_, fun e s' w' H' c dd le => pp.ex e s' w' σ H' c dd le⟩⟩
    replace z := onSome_ex z
    obtain ⟨l, e1, z⟩ := z
    cases y <;> first | exact z.elim | skip
    rename_i l2
    obtain ⟨hz, z⟩ := z
    obtain ⟨a, vs, h3, h4, rl⟩ := lst_at r' e1
    rw [h1] at h3; cases h3
    have ry : Rep X.K w' (.lst l2) v := ry
    obtain ⟨b, us, rfl, qb, rb⟩ := rep_lst ry
    refine ⟨a0, b, vs, us, rfl, rfl, h4, r'.sub _ _ qb, by rw [rl.length, rb.length]; exact hz, ?_⟩
    exact pp.nx _ w' σ _ (t.trans (To.change r' (lstAt_some e1) h1)) (r'.change (lstAt_some e1) h1 (own_lst (rl.append rb))) z
/-! #### while: some number of turns is enough -/
def dWhileN (t : M Bool) (body : MS) : Nat → MS
  | 0 => fun _ _ => False
  | n + 1 => fun DD s => t s (fun b s' => if b = true then body { DD with nx := dWhileN t body n DD, ct := dWhileN t body n DD, bk := DD.nx } s' else DD.nx s') DD.ex
def dWhile (t : M Bool) (body : MS) : MS := fun DD s => ∃ n, dWhileN t body n DD s
theorem ds_while {sts : List Stmt} {t : M Bool} {g : MS} (hp : PassesOwn (model X.prog X.w) X.A X.env X.xe) (hc : DT X B W c t) (hb : DSs X B W sts g) : DS X B W (.While c sts [] pos) (dWhile t g) := PS.weak (ps_while hp hc hb) fun D σ H q => by
  obtain ⟨w, s, DD, r, ⟨n, q⟩, pp⟩ := q
  refine ⟨fun m σ' H' => ∃ w1 s1, To σ w s H σ' w1 s1 H' ∧ BRel X.K B w1 s1 σ' H' ∧ dWhileN t g m DD s1, ⟨n, w, s, .refl .., r, q⟩, ?_⟩
  rintro m σ1 H1 ⟨w1, s1, t1, r1, q1⟩
  cases m with
  | zero => exact q1.elim
  | succ m =>
    refine ⟨w1, s1, _, _, r1, q1, ⟨fun b s' v w' H' t' r' rv z => ?_, fun e s' w' H' c dd le => pp.ex e s' w' σ1 H' c dd (t1.le.trans le)⟩⟩
    have rv : v = b := rv
    subst rv
    have T := t1.trans t'
    cases v with
    | true =>
      rw [if_pos rfl] at z ⊢
      refine ⟨fun σ' H' => ∃ w1 s1, To σ w s H σ' w1 s1 H' ∧ BRel X.K B w1 s1 σ' H' ∧ dWhileN t g m DD s1, fun σ' H' h => ⟨m, Nat.lt_succ_self m, h⟩, ?_⟩
      exact ⟨w', s', _, r', z, ⟨fun s2 w2 σ2 H2 t2 r2 z2 => ⟨w2, s2, T.trans t2, r2, z2⟩, fun s2 w2 σ2 H2 t2 r2 z2 => pp.nx s2 w2 σ2 H2 (T.trans t2) r2 z2, fun s2 w2 σ2 H2 t2 r2 z2 => ⟨w2, s2, T.trans t2, r2, z2⟩,
        fun d fr s2 v w2 σ2 H2 le => pp.rt d fr s2 v w2 σ2 H2 (T.le.trans le), fun e s2 w2 σ2 H2 c dd le => pp.ex e s2 w2 σ2 H2 c dd (T.le.trans le)⟩⟩
    | false =>
      rw [if_neg Bool.false_ne_true] at z ⊢
      exact pp.nx s' w' σ1 H' T r' z
end
end DL

/-! ### a name's slot that is looked at, cells, texts, some built-ins -/
namespace DL
open PySem PySem.Spec PyProof.Rows L2
/-- what a slot holds, frozen or its own, told over the whole heap -/
def look (s : S) (i : Nat) : Option D := match s.d[i]? with
  | some (some (d, _)) => some d
  | _ => none
section
variable {K : PySem.W.Frag} {B : Ent} {w : Wd} {s : S} {σ : LSt} {H : Hp} {i : Nat} {d : D}
theorem look_of (R : BRel K B w s σ H) (h : look s i = some d) : ∃ v, σ[i]? = some (some v) ∧ Rep K ⟨H, w.th, w.cs⟩ d v := by
  unfold look at h
  split at h
  · rename_i d' b e
    cases h
    cases b with
    | false =>
      obtain ⟨v, h1, h2⟩ := R.val i d e
      exact ⟨v, h1, h2.mono (w' := ⟨H, w.th, w.cs⟩) ⟨R.sub, [], (List.append_nil _).symm, rfl⟩⟩
    | true =>
      obtain ⟨a, o, h1, h2, h3, _⟩ := R.own i d e
      exact ⟨_, h1, (h3.mono (w' := ⟨H, w.th, w.cs⟩) ⟨R.sub, [], (List.append_nil _).symm, rfl⟩).rep (F := H) (.refl _) h2⟩
  · cases h
/-- its items stand still -/
theorem look_items (R : BRel K B w s σ H) (h : look s i = some d) {l : List D} (hd : d = .lst l ∨ d = .tup l) : ∃ v, σ[i]? = some (some v) ∧ ∃ a vs, v = .ref a ∧ ((SqL K H a vs ∧ d = .lst l) ∨ (SqT K H a vs ∧ d = .tup l)) ∧ Reps K w l vs := by
  unfold look at h
  split at h
  · rename_i d' b e
    cases h
    cases b with
    | false =>
      obtain ⟨v, h1, h2⟩ := R.val i d e
      rcases hd with rfl | rfl
      · obtain ⟨a, vs, e, q, z⟩ := rep_lst h2
        exact ⟨v, h1, a, vs, e, .inl ⟨.inl (.inl (R.sub _ _ q)), rfl⟩, z⟩
      · obtain ⟨a, vs, e, q, z⟩ := rep_tup h2
        exact ⟨v, h1, a, vs, e, .inr ⟨same_t R.sub q, rfl⟩, z⟩
    | true =>
      obtain ⟨a, o, h1, h2, h3, _⟩ := R.own i d e
      rcases hd with rfl | rfl
      · obtain ⟨vs, e, z⟩ := h3
        subst e
        exact ⟨_, h1, a, vs, rfl, .inl ⟨.inl (.inl h2), rfl⟩, z⟩
      · exact h3.elim
  · cases h
end
section
variable {X : Cx} {B : Ent} {W : WX} {e b : Expr} {f g : M D} {fl : M (List D)} {x : Str} {p p2 pos apos : Pos}
/-- len(x), x a name -/
def dLenV (i : Nat) : M D := fun s Q _ => onSome (look s i) fun d => onSome (lenQ d) fun n => Q (.int n) s
theorem de_lenV (i : Nat) (hm : X.mg "len" = none) (hN : X.N[i]? = some x := by rfl) (hv : Vis X.env.scope x := by first | exact Or.inl rfl | exact Or.inr (Or.inl rfl) | exact Or.inr (Or.inr rfl)) (hd : (x == ("__debug__" : Str)) = false := by decide) (hcd : (x == ("__classdict__" : Str)) = false := by decide)
    (hg : Gl X "len" := by rfl) (he : starEach [.Name x p2] X.env = (false, eval (.Name x p2) X.env) :: starEach [] X.env := by rfl) (hpl : (backTo pos (starEach [] X.env)).any (·.1) = false := by rfl) : DE X B W (.Call (.Name "len" p) [.Name x p2] [] pos) (dLenV i) :=
  PE.weak (pe_callB call_len hg hm PySem.boot_len (pa_cons (pe_var hN hv hd hcd) pa_nil he) (by decide) (by decide) he hpl) fun σ H Q q => by
    obtain ⟨w, s, QD, ED, r, q, pp⟩ := q
    replace q := onSome_ex q
    obtain ⟨d, e, q⟩ := q
    replace q := onSome_ex q
    obtain ⟨n, e2, q⟩ := q
    obtain ⟨v, h1, h2⟩ := look_of r e
    exact ⟨v, h1, v, n, rfl, lenV_of (.refl _) h2 e2, tG.ret (R := rE _) r of_int q pp⟩
/-- x[e], x a name: a list, a tuple, a text, a cell -/
def ixQ (m : List SO) (d y : D) : Option D := match d, y with
  | .lst l, .int i => atI l i
  | .tup l, .int i => atI l i
  | .str z, .int i => if z.length ≤ sizeLine then (atI z.cps.toList i).map fun c => .str ⟨#[c]⟩ else none
  | .ref n, .int i => match m[n]? with
    | some (.cel l) => atI l i
    | _ => none
  | _, _ => none
def dIxV (i : Nat) (g : M D) : M D := fun s Q E => (look s i).isSome = true ∧ g s (fun y s' => onSome (look s' i) fun d => onSome (ixQ s'.m d y) fun r => Q r s') E
theorem de_ixV (i : Nat) (hb : DE X B W b g) (hN : X.N[i]? = some x := by rfl) (hv : Vis X.env.scope x := by first | exact Or.inl rfl | exact Or.inr (Or.inl rfl) | exact Or.inr (Or.inr rfl)) (hd : (x == ("__debug__" : Str)) = false := by decide) (hcd : (x == ("__classdict__" : Str)) = false := by decide)
    (hs : PlainIx b := by exact fun _ _ => rfl) : DE X B W (.Subscript (.Name x p) b pos) (dIxV i g) := PE.weak (pe_ix ix_seq (pe_var hN hv hd hcd) hb hs) fun σ H Q q => by
  obtain ⟨w, s, QD, ED, r, ⟨h0, q⟩, pp⟩ := q
  obtain ⟨d0, h0⟩ := Option.isSome_iff_exists.mp h0
  obtain ⟨v0, h1, _⟩ := look_of r h0
  refine ⟨v0, h1, ?_⟩
  refine ⟨w, s, _, _, r, q, ⟨fun y s' v w' H' t r' ry z => ?_, pp.ex⟩⟩
  have ry : Rep X.K w' y v := ry
  have pp := pp.mono (back_E _) t
  replace z := onSome_ex z
  obtain ⟨d, e, z⟩ := z
  replace z := onSome_ex z
  obtain ⟨u, e2, z⟩ := z
  unfold ixQ at e2
  split at e2
  · obtain ⟨v1, h3, a, vs, rfl, h4, z4⟩ := look_items r' e (.inl rfl)
    rw [h1] at h3; cases h3
    cases rep_int ry
    obtain ⟨v2, e3, rv⟩ := z4.atI e2
    rcases h4 with ⟨h4, _⟩ | ⟨_, h4⟩
    · exact .inl ⟨a, vs, _, v2, rfl, rfl, h4, e3, tG.ret (R := rE _) r' rv z pp⟩
    · cases h4
  · obtain ⟨v1, h3, a, vs, rfl, h4, z4⟩ := look_items r' e (.inr rfl)
    rw [h1] at h3; cases h3
    cases rep_int ry
    obtain ⟨v2, e3, rv⟩ := z4.atI e2
    rcases h4 with ⟨_, h4⟩ | ⟨h4, _⟩
    · cases h4
    · exact .inr (.inl ⟨a, vs, _, v2, rfl, rfl, h4, e3, tG.ret (R := rE _) r' rv z pp⟩)
  · obtain ⟨v1, h3, h4⟩ := look_of r' e
    rw [h1] at h3; cases h3
    cases rep_int ry
    cases rep_str h4
    split at e2
    · rename_i hz
      simp only [Option.map_eq_some_iff] at e2
      obtain ⟨c, e3, rfl⟩ := e2
      exact .inr (.inr ⟨_, _, c, rfl, rfl, hz, e3, tG.ret (R := rE _) r' of_str z pp⟩)
    · cases e2
  · obtain ⟨v1, h3, h4⟩ := look_of r' e
    rw [h1] at h3; cases h3
    cases rep_int ry
    obtain ⟨a, rfl, ha⟩ := rep_ref h4
    split at e2
    · rename_i l hm
      obtain ⟨vs, q1, z4⟩ := r'.st.ob _ _ a hm ha
      obtain ⟨v2, e3, rv⟩ := z4.atI e2
      exact .inl ⟨a, vs, _, v2, rfl, rfl, .inl (.inl q1), e3, tG.ret (R := rE _) r' rv z pp⟩
    · cases e2
  · cases e2
/-- e in x, e not in x, x a name -/
def dInV (neg : Bool) (f : M D) (i : Nat) : M D := f.bnd fun y s Q _ => onSome (look s i) fun d => onSome (inQ y d) fun b => Q (.bl (if neg then !b else b)) s
theorem inV_of {neg : Bool} {r : R2} {σ : LSt} {H : Hp} {Q : VK} {i : Nat} (hr : r = (fun x y H Q => rIn X.K neg x y H Q ∨ (if neg then rNotInS x y H Q else rInS x y H Q))) (q : tE X.K B W (dInV neg f i) σ H Q) : tOp r (tE X.K B W f) (tVar i) σ H Q := by
  subst hr
  refine tG.seq (back_E _) q fun y s v w H' QD ED _ _ R rv z pp => ?_
  replace z := onSome_ex z
  obtain ⟨d, e, z⟩ := z
  replace z := onSome_ex z
  obtain ⟨b, e2, z⟩ := z
  obtain ⟨u, h1, h2⟩ := look_of R e
  have rv : Rep X.K w y v := rv
  have rv' : Rep X.K ⟨H', w.th, w.cs⟩ y v := rv.mono (w' := ⟨H', w.th, w.cs⟩) ⟨R.sub, [], (List.append_nil _).symm, rfl⟩
  refine ⟨u, h1, ?_⟩
  have fin : Q (.bl (if neg then !b else b)) H' := tG.ret (R := rE _) R of_bl z pp
  rcases inQ_of (.refl _) rv' h2 e2 with ⟨a, xs, h3, h4, h5, h6, h7⟩ | ⟨c, z', h3, h4, h5⟩
  · exact .inl ⟨a, xs, h3, h4, h5, h6, by rw [h7]; exact fin⟩
  · refine .inr ?_
    cases neg with
    | true => rw [if_pos rfl] at fin ⊢; exact ⟨c, z', h3, h4, by rw [h5]; exact fin⟩
    | false => rw [if_neg Bool.false_ne_true] at fin ⊢; exact ⟨c, z', h3, h4, by rw [h5]; exact fin⟩
theorem de_inV (i : Nat) (ha : DE X B W e f) (hN : X.N[i]? = some x := by rfl) (hv : Vis X.env.scope x := by first | exact Or.inl rfl | exact Or.inr (Or.inl rfl) | exact Or.inr (Or.inr rfl)) (hd : (x == ("__debug__" : Str)) = false := by decide) (hcd : (x == ("__classdict__" : Str)) = false := by decide) :
    DE X B W (.Compare e [.In] [.Name x p] pos) (dInV false f i) := PE.weak (pe_cmpR (op_in_seq.or op_in_sign) ha (pe_var hN hv hd hcd) rfl) fun _ _ _ q => inV_of (neg := false) rfl q
theorem de_notInV (i : Nat) (ha : DE X B W e f) (hN : X.N[i]? = some x := by rfl) (hv : Vis X.env.scope x := by first | exact Or.inl rfl | exact Or.inr (Or.inl rfl) | exact Or.inr (Or.inr rfl)) (hd : (x == ("__debug__" : Str)) = false := by decide) (hcd : (x == ("__classdict__" : Str)) = false := by decide) :
    DE X B W (.Compare e [.NotIn] [.Name x p] pos) (dInV true f i) := PE.weak (pe_cmpR (op_notIn_seq.or op_notIn_sign) ha (pe_var hN hv hd hcd) rfl) fun _ _ _ q => inV_of (neg := true) rfl q
theorem tTest_of {r : R2} {t1 t2 : TE} {h : M D} {σ : LSt} {H : Hp} {Q : Bool → Hp → Prop} (k : ∀ Q, tE X.K B W h σ H Q → tOp r t1 t2 σ H Q) (q : tT X.K B W (dVal h) σ H Q) : tTest (tOp r t1 t2) σ H Q := by
  have q := tB_of q
  exact k _ q
theorem dt_inV (i : Nat) (ha : DE X B W e f) (hN : X.N[i]? = some x := by rfl) (hv : Vis X.env.scope x := by first | exact Or.inl rfl | exact Or.inr (Or.inl rfl) | exact Or.inr (Or.inr rfl)) (hd : (x == ("__debug__" : Str)) = false := by decide) (hcd : (x == ("__classdict__" : Str)) = false := by decide) :
    DT X B W (.Compare e [.In] [.Name x p] pos) (dVal (dInV false f i)) := PT.weak (pt_cmpR (op_in_seq.or op_in_sign) ha (pe_var hN hv hd hcd) rfl) fun _ _ _ q => tTest_of (fun _ q => inV_of (neg := false) rfl q) q
theorem dt_notInV (i : Nat) (ha : DE X B W e f) (hN : X.N[i]? = some x := by rfl) (hv : Vis X.env.scope x := by first | exact Or.inl rfl | exact Or.inr (Or.inl rfl) | exact Or.inr (Or.inr rfl)) (hd : (x == ("__debug__" : Str)) = false := by decide) (hcd : (x == ("__classdict__" : Str)) = false := by decide) :
    DT X B W (.Compare e [.NotIn] [.Name x p] pos) (dVal (dInV true f i)) := PT.weak (pt_cmpR (op_notIn_seq.or op_notIn_sign) ha (pe_var hN hv hd hcd) rfl) fun _ _ _ q => tTest_of (fun _ q => inV_of (neg := true) rfl q) q

/-! texts -/
def strsOf : List D → Option (List Str)
  | [] => some []
  | .str x :: r => (strsOf r).map (x :: ·)
  | _ :: _ => none
theorem strs_of {K : PySem.W.Frag} {w : Wd} : ∀ {ds : List D} {vs : List V} {xs : List Str}, Reps K w ds vs → strsOf ds = some xs → vs = xs.map V.str
  | [], _, _, r, e => by simp only [Reps] at r; subst r; simp only [strsOf, Option.some.injEq] at e; subst e; rfl
  | d :: ds, _, _, r, e => by
    simp only [Reps] at r
    obtain ⟨v, vs, rfl, r1, r2⟩ := r
    cases d <;> simp only [strsOf] at e <;> first | (cases e; done) | skip
    simp only [Option.map_eq_some_iff] at e
    obtain ⟨xs, e1, rfl⟩ := e
    rw [rep_str r1, strs_of r2 e1]
    rfl
def strsIn (d : D) : Option (List Str) := match d with
  | .lst l => strsOf l
  | .tup l => strsOf l
  | _ => none
def dJoin (f g : M D) : M D := f.bnd fun a => match a with
  | .str sep => g.bnd fun d s Q _ => onSome (strsIn d) fun xs => (xs.map (·.length)).sum + xs.length * sep.length ≤ 16777216 ∧ Q (.str (Txt.join sep xs)) s
  | _ => M.stuck
theorem de_join (ha : DE X B W b f) (hb : DE X B W e g) (hs : starEach [e] X.env = [(false, eval e X.env)] := by rfl) (hbase : attributeBase b "join" X.env (eval b X.env) = eval b X.env := by rfl) (hline : (apos.endLine == pos.line) = true := by rfl) : DE X B W (.Call (.Attribute b "join" apos) [e] [] pos) (dJoin f g) :=
  PE.weak (pe_join ha hb hs hbase hline) fun σ H Q q => by
    refine tG.seq (back_E _) q fun a s1 va w1 H1 QD ED _ _ r1 ra z pp => ?_
    have ra : Rep X.K w1 a va := ra
    cases a <;> first | exact z.elim | skip
    rename_i sep
    cases rep_str ra
    refine ⟨⟨_, rfl⟩, ?_⟩
    refine ⟨w1, s1, _, _, r1, z, ⟨fun d s2 v w2 H2 t2 r2 rd z => ?_, pp.ex⟩⟩
    have rd : Rep X.K w2 d v := rd
    replace z := onSome_ex z
    obtain ⟨xs, e2, hz, z⟩ := z
    have fin := tG.ret (R := rE _) r2 of_str z (pp.mono (back_E _) t2)
    cases d <;> simp only [strsIn] at e2 <;> first | (cases e2; done) | skip
    · obtain ⟨p', vs, rfl, q1, z1⟩ := rep_tup rd
      have e3 := strs_of z1 e2
      subst e3
      exact ⟨_, p', xs, rfl, rfl, .inr (same_t r2.sub q1), hz, fin⟩
    · obtain ⟨p', vs, rfl, q1, z1⟩ := rep_lst rd
      have e3 := strs_of z1 e2
      subst e3
      exact ⟨_, p', xs, rfl, rfl, .inl (.inl (.inl (r2.sub _ _ q1))), hz, fin⟩
/-! all, any, sum, int -/
def blsOf : List D → Option (List Bool)
  | [] => some []
  | .bl x :: r => (blsOf r).map (x :: ·)
  | _ :: _ => none
def intsOf : List D → Option (List Int)
  | [] => some []
  | .int x :: r => (intsOf r).map (x :: ·)
  | _ :: _ => none
theorem bls_of {K : PySem.W.Frag} {w : Wd} : ∀ {ds : List D} {vs : List V} {xs : List Bool}, Reps K w ds vs → blsOf ds = some xs → vs = xs.map V.bl
  | [], _, _, r, e => by simp only [Reps] at r; subst r; simp only [blsOf, Option.some.injEq] at e; subst e; rfl
  | d :: ds, _, _, r, e => by
    simp only [Reps] at r
    obtain ⟨v, vs, rfl, r1, r2⟩ := r
    cases d <;> simp only [blsOf] at e <;> first | (cases e; done) | skip
    simp only [Option.map_eq_some_iff] at e
    obtain ⟨xs, e1, rfl⟩ := e
    rw [rep_bl r1, bls_of r2 e1]
    rfl
theorem ints_of {K : PySem.W.Frag} {w : Wd} : ∀ {ds : List D} {vs : List V} {xs : List Int}, Reps K w ds vs → intsOf ds = some xs → vs = xs.map V.int
  | [], _, _, r, e => by simp only [Reps] at r; subst r; simp only [intsOf, Option.some.injEq] at e; subst e; rfl
  | d :: ds, _, _, r, e => by
    simp only [Reps] at r
    obtain ⟨v, vs, rfl, r1, r2⟩ := r
    cases d <;> simp only [intsOf] at e <;> first | (cases e; done) | skip
    simp only [Option.map_eq_some_iff] at e
    obtain ⟨xs, e1, rfl⟩ := e
    rw [rep_int r1, ints_of r2 e1]
    rfl
def blsIn (ds : List D) : Option (List Bool) := match ds with
  | [.lst l] => blsOf l
  | _ => none
def intsIn (ds : List D) : Option (List Int) := match ds with
  | [.lst l] => intsOf l
  | _ => none
theorem blsIn_ex {ds : List D} {bs : List Bool} (h : blsIn ds = some bs) : ∃ l, ds = [.lst l] ∧ blsOf l = some bs := by
  unfold blsIn at h
  split at h
  · exact ⟨_, rfl, h⟩
  · cases h
theorem intsIn_ex {ds : List D} {bs : List Int} (h : intsIn ds = some bs) : ∃ l, ds = [.lst l] ∧ intsOf l = some bs := by
  unfold intsIn at h
  split at h
  · exact ⟨_, rfl, h⟩
  · cases h
def dAll : OpN := fun ds s Q _ => onSome (blsIn ds) fun bs => Q (.bl (bs.all id)) s
def dAny : OpN := fun ds s Q _ => onSome (blsIn ds) fun bs => Q (.bl (bs.any id)) s
def dSum : OpN := fun ds s Q _ => onSome (intsIn ds) fun ns => Q (.int ns.sum) s
theorem csAll {K : PySem.W.Frag} : CS K B W (rAll K) dAll := by
  intro σ w s H vs ds QD ED Q r rv h p
  replace h := onSome_ex h
  obtain ⟨bs, e0, h⟩ := h
  obtain ⟨l, rfl, e⟩ := blsIn_ex e0
  obtain ⟨v, rfl, r1⟩ := reps1 rv
  obtain ⟨a, us, rfl, q, z⟩ := rep_lst r1
  have := bls_of z e
  subst this
  exact ⟨a, bs, rfl, .inl (.inl (r.sub _ _ q)), tG.ret (R := rE _) r of_bl h p⟩
theorem csAny {K : PySem.W.Frag} : CS K B W (rAny K) dAny := by
  intro σ w s H vs ds QD ED Q r rv h p
  replace h := onSome_ex h
  obtain ⟨bs, e0, h⟩ := h
  obtain ⟨l, rfl, e⟩ := blsIn_ex e0
  obtain ⟨v, rfl, r1⟩ := reps1 rv
  obtain ⟨a, us, rfl, q, z⟩ := rep_lst r1
  have := bls_of z e
  subst this
  exact ⟨a, bs, rfl, .inl (.inl (r.sub _ _ q)), tG.ret (R := rE _) r of_bl h p⟩
theorem csSum {K : PySem.W.Frag} : CS K B W (rSum K) dSum := by
  intro σ w s H vs ds QD ED Q r rv h p
  replace h := onSome_ex h
  obtain ⟨ns, e0, h⟩ := h
  obtain ⟨l, rfl, e⟩ := intsIn_ex e0
  obtain ⟨v, rfl, r1⟩ := reps1 rv
  obtain ⟨a, us, rfl, q, z⟩ := rep_lst r1
  have := ints_of z e
  subst this
  exact ⟨a, ns, rfl, .inl (.inl (r.sub _ _ q)), tG.ret (R := rE _) r of_int h p⟩
def dIntOf : OpN := fun ds s Q _ => match ds with
  | [.int i] => Q (.int i) s
  | [.bl b] => Q (.int (if b then 1 else 0)) s
  | _ => False
theorem csIntOf {K : PySem.W.Frag} : CS K B W (fun xs H Q => (∃ i, xs = [.int i] ∧ Q (.int i) H) ∨ ∃ k, xs = [.bl k] ∧ Q (.int (if k then 1 else 0)) H) dIntOf := by
  intro σ w s H vs ds QD ED Q r rv h p
  unfold dIntOf at h
  split at h
  · obtain ⟨v, rfl, r1⟩ := reps1 rv
    cases rep_int r1
    exact .inl ⟨_, rfl, tG.ret (R := rE _) r of_int h p⟩
  · obtain ⟨v, rfl, r1⟩ := reps1 rv
    cases rep_bl r1
    exact .inr ⟨_, rfl, tG.ret (R := rE _) r of_int h p⟩
  · exact h.elim
end
end DL

/-! ### cells, pairs of names; a def that is never entered -/
namespace DL
open PySem PySem.Spec PyProof.Rows L2
section
variable {K : PySem.W.Frag} {B : Ent} {w : Wd} {s : S} {σ : LSt} {H : Hp} {n : Nat} {a : Addr} {l : List D} {vs : List V}
theorem th_ne (R : BRel K B w s σ H) {j : Nat} {b : Addr} (h1 : w.th[n]? = some a) (h2 : w.th[j]? = some b) (h : n ≠ j) : b ≠ a := fun z => by
  subst z
  obtain ⟨l1, e1⟩ := List.getElem?_eq_some_iff.mp h1
  obtain ⟨l2, e2⟩ := List.getElem?_eq_some_iff.mp h2
  exact h ((List.getElem_inj R.st.nd).mp (e1.trans e2.symm))
/-- a cell is written -/
theorem BRel.cell (R : BRel K B w s σ H) {o : SO} (hm : s.m[n]? = some o) (ha : w.th[n]? = some a) (r : Reps K w l vs) : BRel K B w { s with m := s.m.set n (.cel l) } σ (upd H a (.lst vs)) := by
  have hn : n < s.m.length := (List.getElem?_eq_some_iff.mp hm).1
  have hi : a ∈ w.th := List.mem_of_getElem? ha
  have hF := R.st.out a hi
  refine ⟨fun b x e => ?_, ⟨by rw [List.length_set]; exact R.st.len, R.st.nd, R.st.out, fun j ob b h1 h2 => ?_⟩, R.len, R.val, fun i e h => ?_, R.sep, R.ent, fun b x h1 h2 => ?_, R.fnew, R.tnew, R.lv⟩
  · rw [upd_ne (fun z => by rw [z, hF] at e; cases e)]; exact R.sub b x e
  · by_cases hj : n = j
    · subst hj
      rw [List.getElem?_set_self hn] at h1; cases h1
      rw [ha] at h2; cases h2
      exact ⟨vs, upd_same, r⟩
    · rw [List.getElem?_set_ne hj] at h1
      exact (R.st.ob j ob b h1 h2).mono (.refl w) (upd_ne (th_ne R ha h2 hj))
  · obtain ⟨b, x, h1, h2, h3, h4, h5, h6⟩ := R.own i e h
    exact ⟨b, x, h1, by rw [upd_ne (fun z => h5 (by rw [z]; exact hi))]; exact h2, h3, h4, h5, h6⟩
  · have nb : b ≠ a := fun z => by
      subst z
      by_cases hb : b ∈ B.w.th
      · exact h2 hb
      · have := R.tnew b hi hb
        rw [this] at h1; cases h1
    rw [upd_ne nb]; exact R.keep b x h1 h2
theorem To.cell {o : HO} {m' : List SO} (ha : w.th[n]? = some a) : To σ w s H σ w { s with m := m' } (upd H a o) := ⟨.refl w, fun b u q => ⟨by rw [upd_ne (fun z => by rw [z] at q; exact q.t (List.mem_of_getElem? ha))]; exact q.at_, q.f, q.t, q.sl⟩⟩
theorem Reps.set {i : Nat} {d : D} {v : V} : ∀ {ds : List D} {vs : List V} (i : Nat), Reps K w ds vs → Rep K w d v → Reps K w (ds.set i d) (vs.set i v)
  | [], _, _, r, _ => by simp only [Reps] at r; subst r; exact .nil
  | e :: ds, _, i, r, q => by
    simp only [Reps] at r
    obtain ⟨u, us, rfl, r1, r2⟩ := r
    cases i with
    | zero => exact .cons q r2
    | succ i => exact .cons r1 (Reps.set (i := i) i r2 q)
end
section
variable {X : Cx} {B : Ent} {W : WX} {e e2 b : Expr} {f g : M D} {fl : M (List D)} {x y : Str} {p p2 pos : Pos}
/-- the cell that a slot holds; a place in a list -/
def celAt (s : S) (i : Nat) : Option (Nat × List D) := match look s i with
  | some (.ref n) => match s.m[n]? with
    | some (.cel l) => some (n, l)
    | _ => none
  | _ => none
theorem celAt_ex {s : S} {i : Nat} {c : Nat × List D} (h : celAt s i = some c) : look s i = some (.ref c.1) ∧ s.m[c.1]? = some (.cel c.2) := by
  unfold celAt at h
  split at h
  · rename_i n e
    split at h
    · rename_i l e2
      cases h
      exact ⟨e, e2⟩
    · cases h
  · cases h
def place (l : List D) (ix : D) : Option Nat := match ix with
  | .int k => ixN l.length k
  | _ => none
/-- x[e2] = e, x a name of a cell -/
def dSetIx (i : Nat) (f g : M D) : MS := fun DD s => f s (fun y s1 => (look s1 i).isSome = true ∧ g s1 (fun ix s2 => onSome (celAt s2 i) fun c => onSome (place c.2 ix) fun j => DD.nx { s2 with m := s2.m.set c.1 (.cel (c.2.set j y)) }) DD.ex) DD.ex
theorem ds_setIx (i : Nat) (he : DE X B W e f) (hb : DE X B W e2 g) (hN : X.N[i]? = some x := by rfl) (hv : Vis X.env.scope x := by first | exact Or.inl rfl | exact Or.inr (Or.inl rfl) | exact Or.inr (Or.inr rfl)) (hd : (x == ("__debug__" : Str)) = false := by decide) (hcd : (x == ("__classdict__" : Str)) = false := by decide)
    (ha : ∀ v, assign (.Subscript (.Name x p) e2 p2) X.env v = (do
      let ov ← holding [v] (eval (.Name x p) X.env)
      let iv ← holding [v, ov] (eval e2 X.env)
      standAt p2
      holding [v, ov, iv] (setItem ov iv v)
      release [v, ov, iv] []) := by intro _; rfl)
    (hs : swapsWithSole [.Subscript (.Name x p) e2 p2] e pos.line X.env = pure false := by rfl) (hw : swappedStores [.Subscript (.Name x p) e2 p2] e X.env = pure none := by rfl)
    (h1 : (assignEach [.Subscript (.Name x p) e2 p2] X.env).map (·.2) = [assign (.Subscript (.Name x p) e2 p2) X.env] := by rfl) :
    DS X B W (.Assign [.Subscript (.Name x p) e2 p2] e pos) (dSetIx i f g) := PS.weak (ps_asg he (pg_sub (pe_var hN hv hd hcd) hb set_list ha) hs hw h1) fun D σ H q => by
  obtain ⟨w, s, DD, r, q, pp⟩ := q
  refine ⟨w, s, _, _, r, q, ⟨fun y s1 v w1 H1 t1 r1 ry z => ?_, fun e s' w' H' c dd le => pp.ex e s' w' σ H' c dd le⟩⟩
  obtain ⟨h0, z⟩ := z
  obtain ⟨d0, h0⟩ := Option.isSome_iff_exists.mp h0
  obtain ⟨v0, h2, _⟩ := look_of r1 h0
  refine ⟨v0, h2, ?_⟩
  refine ⟨w1, s1, _, _, r1, z, ⟨fun ix s2 v2 w2 H2 t2 r2 rx z => ?_, fun e s' w' H' c dd le => pp.ex e s' w' σ H' c dd (t1.le.trans le)⟩⟩
  replace z := onSome_ex z
  obtain ⟨⟨n, l⟩, hc, z⟩ := z
  replace z := onSome_ex z
  obtain ⟨j, h5, z⟩ := z
  obtain ⟨h3, h4⟩ := celAt_ex hc
  cases ix <;> simp only [place] at h5 <;> first | (cases h5; done) | skip
  rename_i k
  have ry : Rep X.K w1 y v := ry
  have rx : Rep X.K w2 (.int k) v2 := rx
  cases rep_int rx
  obtain ⟨v1, h6, h7⟩ := look_of r2 h3
  rw [h2] at h6; cases h6
  obtain ⟨a, rfl, ha⟩ := rep_ref h7
  have ha : w2.th[n]? = some a := ha
  obtain ⟨vs, q1, z4⟩ := r2.st.ob _ _ a h4 ha
  refine ⟨a, vs, k, j, rfl, rfl, q1, by rw [z4.length]; exact h5, ?_⟩
  exact pp.nx _ w2 σ _ ((t1.trans t2).trans (To.cell ha)) (r2.cell h4 ha (z4.set (i := j) j (ry.mono t2.le))) z
/-- x, y = e, e2: two plain names -/
def parNx (i j : Nat) (l : List D) (DD : DEnd) (s : S) : Prop := match l with
  | [a, b] => DD.nx { s with d := (s.d.set i (some (a, false))).set j (some (b, false)) }
  | _ => False
def dPar (i j : Nat) (fl : M (List D)) : MS := fun DD s => fl s (fun l s' => parNx i j l DD s') DD.ex
theorem ds_par {px py pt : Pos} {kt k2 : Nat} {pt2 : Pos} (i j : Nat) (hN : X.N.Nodup) (ha : DA X B W [e, e2] fl) (hi : X.N[i]? = some x := by rfl) (hj : X.N[j]? = some y := by rfl) (hij : i ≠ j := by decide) (hx : X.env.scope.names.lookup x = some .local := by rfl) (hy : X.env.scope.names.lookup y = some .local := by rfl)
    (hw : swappedStores [.Tuple [.Name x px, .Name y py] kt pt] (.Tuple [e, e2] k2 pt2) X.env = pure (some [x, y]) := by rfl)
    (hs : swapsWithSole [.Tuple [.Name x px, .Name y py] kt pt] (.Tuple [e, e2] k2 pt2) pos.line X.env = pure false := by rfl) (hc : X.calm = true := by rfl) :
    DS X B W (.Assign [.Tuple [.Name x px, .Name y py] kt pt] (.Tuple [e, e2] k2 pt2) pos) (dPar i j fl) := PS.weak (ps_par hc hN hi hj hij hx hy ha hw hs) fun D σ H q => tS.seq (g := fun l DD s => parNx i j l DD s) q fun l s vs w H' DD _ _ r rv z pp => by
  unfold parNx at z
  split at z
  case h_2 => exact z.elim
  rename_i a b
  have rv : Reps X.K w [a, b] vs := rv
  obtain ⟨v1, v2, rfl, r1, r2⟩ := reps2 rv
  have R1 := r.set (i := i) r1
  exact ⟨v1, v2, rfl, pp.nx _ w _ H' ((To.set (d := a) (v := v1) r).trans (To.set (d := b) (v := v2) R1)) (R1.set r2) z⟩
/-! powers, wide quotients -/
def dPow : Op2 := fun x y s Q _ => match x, y with
  | .int i, .int j => CPow i j ∧ Q (.int (i ^ j.toNat)) s
  | _, _ => False
theorem opsPow {K : PySem.W.Frag} : OpS K B W (L2.rI CPow fun i j => .int (i ^ j.toNat)) dPow := opsI
def dDivW : Op2 := fun x y s Q _ => match x, y with
  | .int i, .int j => CDivW i j ∧ Q (.int (i / j)) s
  | _, _ => False
theorem opsDivW {K : PySem.W.Frag} : OpS K B W (L2.rI CDivW fun i j => .int (i / j)) dDivW := opsI
def dNeg (f : M D) : M D := f.bnd fun d s Q _ => match d with
  | .int i => Q (.int (-i)) s
  | _ => False
theorem de_neg (ha : DE X B W e f) : DE X B W (.UnaryOp .USub e pos) (dNeg f) := PE.weak (pe_un un_neg ha) fun σ H Q q => by
  refine tG.seq (back_E _) q fun d s v w H' QD ED _ _ r rv z pp => ?_
  cases d <;> first | exact z.elim | skip
  cases rep_int rv
  exact ⟨_, rfl, tG.ret (R := rE _) r of_int z pp⟩
end
section
variable {P : Program} {wd : World} {K : PySem.W.Frag} {mg : Str → Option Value} {base : Heap} {xr : XR}
theorem fn_never {x qual : Str} {st : Stmt} {f : Addr} {fd : FuncData} {ps : List Str} {k n : Nat} (F : Fun K x qual st f fd) (h : ps.length = n) : FnOk P wd K mg base (L2.CX P wd) k f fd ps (spD K xr n fun _ _ _ _ => False) :=
  ⟨fun vs H Q E q => by obtain ⟨w, ds, m, QD, ED, _, _, _, hn, _⟩ := q; rw [hn, h], fun A outer s H args us vs Q E _ _ _ _ q => by obtain ⟨w, ds, m, QD, ED, _, _, _, _, z, _⟩ := q; exact z.elim⟩
theorem DefOk.mono {j k n : Nat} {x : Str} {F : Fn} (h : DefOk P wd K mg base xr j x n F) (hk : j ≤ k) : DefOk P wd K mg base xr k x n F := by
  obtain ⟨f, fd, ps, G, hm, kp, hb, hn⟩ := h.ex
  exact ⟨f, fd, ps, G.mono hk, hm, kp, hb, hn⟩
end
end DL

/-! ### reading the data programs: rows for simp, outermost first -/
namespace DL
universe u
open PySem PySem.Spec PyProof.Rows L2
/-- a sign that what stands behind it is read anew -/
def mk {α : Sort u} (a : α) : α := a
theorem ev_mk {α : Sort u} (a : α) : mk a = a := (@id (mk a = a) rfl : mk a = a)
/-- a sign that bears a: what stands ahead of it is left as it is -/
inductive Tag {α : Sort u} (a : α) : Type where
  | it
def onSomeT {α : Type} (k : α → Prop) (_ : Tag k) (o : Option α) : Prop := onSome o k
theorem onSome_T {α : Type} (o : Option α) (k : α → Prop) : onSome o k = onSomeT k .it o := id rfl
theorem onSomeT_some {α : Type} (k : α → Prop) (t : Tag k) (a : α) : onSomeT k t (some a) = k a := id rfl
theorem onSomeT_none {α : Type} (k : α → Prop) (t : Tag k) : onSomeT k t none = False := id rfl
theorem onSomeT_b {α : Type} (k : α → Prop) (t : Tag k) (o : Option α) : onSomeT k t o = onSome o k := id rfl
def ifT (A B : Prop) (_ : Tag A) (_ : Tag B) (c : Prop) : Prop := (c → A) ∧ (¬c → B)
theorem ite_T {c : Prop} [Decidable c] (A B : Prop) : (if c then A else B) = ifT A B .it .it c := by
  unfold ifT
  by_cases h : c
  · rw [if_pos h]; exact propext ⟨fun a => ⟨fun _ => a, fun n => absurd h n⟩, fun a => a.1 h⟩
  · rw [if_neg h]; exact propext ⟨fun a => ⟨fun n => absurd n h, fun _ => a⟩, fun a => a.2 h⟩
theorem ifT_true (A B : Prop) (t : Tag A) (u : Tag B) : ifT A B t u True = A := by unfold ifT; exact propext ⟨fun a => a.1 trivial, fun a => ⟨fun _ => a, fun n => absurd trivial n⟩⟩
theorem ifT_false (A B : Prop) (t : Tag A) (u : Tag B) : ifT A B t u False = B := by unfold ifT; exact propext ⟨fun a => a.2 id, fun a => ⟨fun n => n.elim, fun _ => a⟩⟩
theorem ifT_b (A B : Prop) (t : Tag A) (u : Tag B) (c : Prop) : ifT A B t u c = @ite Prop c (Classical.propDecidable c) A B := by
  cases t; cases u; exact (@ite_T c (Classical.propDecidable c) A B).symm
def andT (B : Prop) (_ : Tag B) (A : Prop) : Prop := A ∧ B
theorem and_T (A B : Prop) : (A ∧ B) = andT B .it A := id rfl
theorem andT_true (B : Prop) (t : Tag B) : andT B t True = B := by unfold andT; exact true_and B
theorem andT_false (B : Prop) (t : Tag B) : andT B t False = False := by unfold andT; exact false_and B
theorem andT_b (B : Prop) (t : Tag B) (A : Prop) : andT B t A = (A ∧ B) := id rfl
def loopT (x : Tg × MS × DEnd) (_ : Tag x) (l : List D) (s : S) : Prop := dLoop x.1 x.2.1 l x.2.2 s
theorem loop_T (t : Tg) (body : MS) (l : List D) (DD : DEnd) (s : S) : dLoop t body l DD s = loopT (t, body, DD) .it l s := id rfl
theorem loopT_nil (t : Tg) (body : MS) (nx bk ct : S → Prop) (rt : D → Bool → S → Prop) (ex : Ex → S → Prop) (u : Tag (t, body, (⟨nx, rt, bk, ct, ex⟩ : DEnd))) (s : S) : loopT (t, body, ⟨nx, rt, bk, ct, ex⟩) u [] s = nx s := id rfl
theorem loopT_b (t : Tg) (body : MS) (DD : DEnd) (u : Tag (t, body, DD)) (l : List D) (s : S) : loopT (t, body, DD) u l s = dLoop t body l DD s := id rfl
structure FoldX where
  vs : List Nat
  t : Tg
  tt : M Bool
  elt : M D
  Q : List D → S → Prop
  E : Ex → S → Prop
def foldT (x : FoldX) (_ : Tag x) (l acc : List D) (s : S) : Prop := dFold x.vs x.t x.tt x.elt l acc s x.Q x.E
theorem fold_T (vs : List Nat) (t : Tg) (tt : M Bool) (elt : M D) (l acc : List D) (s : S) (Q : List D → S → Prop) (E : Ex → S → Prop) : dFold vs t tt elt l acc s Q E = foldT ⟨vs, t, tt, elt, Q, E⟩ .it l acc s := id rfl
theorem foldT_b (vs : List Nat) (t : Tg) (tt : M Bool) (elt : M D) (l acc : List D) (s : S) (Q : List D → S → Prop) (E : Ex → S → Prop) (u : Tag (⟨vs, t, tt, elt, Q, E⟩ : FoldX)) : foldT ⟨vs, t, tt, elt, Q, E⟩ u l acc s = dFold vs t tt elt l acc s Q E := id rfl
def whileT (x : M Bool × MS × DEnd) (_ : Tag x) (s : S) : Prop := dWhile x.1 x.2.1 x.2.2 s
theorem while_T (t : M Bool) (body : MS) (DD : DEnd) (s : S) : dWhile t body DD s = whileT (t, body, DD) .it s := id rfl
theorem whileT_b (t : M Bool) (body : MS) (DD : DEnd) (u : Tag (t, body, DD)) (s : S) : whileT (t, body, DD) u s = dWhile t body DD s := id rfl
theorem onSome_some {α : Type} (a : α) (k : α → Prop) : onSome (some a) k = k a := id rfl
theorem onSome_none {α : Type} (k : α → Prop) : onSome none k = False := id rfl
section
variable {α β : Type} {s : S} {Q : D → S → Prop} {QA : List D → S → Prop} {QT : Bool → S → Prop} {QP : Option Int → S → Prop} {Qa : α → S → Prop} {Qb : β → S → Prop} {E : Ex → S → Prop} {DD : DEnd}
theorem ev_ret (a : α) : M.ret a s Qa E = Qa a s := id rfl
theorem ev_stuck : M.stuck s Qa E = False := id rfl
theorem ev_bnd (m : M α) (f : α → M β) : M.bnd m f s Qb E = m s (fun a s' => f a s' Qb E) E := id rfl
/-- a slot's value read -/
def varK (o : Option (Option (D × Bool))) (i : Nat) (s : S) (Q : D → S → Prop) : Prop := match o with
  | some (some (d, false)) => Q d s
  | some (some (d, true)) => Q d ⟨s.d.set i (some (d, false)), s.m⟩
  | _ => False
def varKT (x : Nat × S) (Q : D → S → Prop) (_ : Tag x) (_ : Tag Q) (o : Option (Option (D × Bool))) : Prop := varK o x.1 x.2 Q
theorem varK_T (o : Option (Option (D × Bool))) (i : Nat) (s : S) (Q : D → S → Prop) : varK o i s Q = varKT (i, s) Q .it .it o := id rfl
theorem varKT_b (o : Option (Option (D × Bool))) (i : Nat) (s : S) (Q : D → S → Prop) (t : Tag (i, s)) (u : Tag Q) : varKT (i, s) Q t u o = varK o i s Q := id rfl
theorem ev_var (i : Nat) : dVar i s Q E = varK s.d[i]? i s Q := id rfl
theorem ev_varF (i : Nat) (d : D) (t : Tag (i, s)) (u : Tag Q) : varKT (i, s) Q t u (some (some (d, false))) = Q d s := id rfl
theorem ev_varT (i : Nat) (d : D) (t : Tag (i, s)) (u : Tag Q) : varKT (i, s) Q t u (some (some (d, true))) = Q d ⟨s.d.set i (some (d, false)), s.m⟩ := id rfl
def movK (o : Option (Option (D × Bool))) (i : Nat) (s : S) (Q : D → S → Prop) : Prop := match o with
  | some (some (d, true)) => Q d ⟨s.d.set i none, s.m⟩
  | _ => False
def movKT (x : Nat × S) (Q : D → S → Prop) (_ : Tag x) (_ : Tag Q) (o : Option (Option (D × Bool))) : Prop := movK o x.1 x.2 Q
theorem movK_T (o : Option (Option (D × Bool))) (i : Nat) (s : S) (Q : D → S → Prop) : movK o i s Q = movKT (i, s) Q .it .it o := id rfl
theorem movKT_b (o : Option (Option (D × Bool))) (i : Nat) (s : S) (Q : D → S → Prop) (t : Tag (i, s)) (u : Tag Q) : movKT (i, s) Q t u o = movK o i s Q := id rfl
theorem ev_move (i : Nat) : dMove i s Q E = movK s.d[i]? i s Q := id rfl
theorem ev_moveT (i : Nat) (d : D) (t : Tag (i, s)) (u : Tag Q) : movKT (i, s) Q t u (some (some (d, true))) = Q d ⟨s.d.set i none, s.m⟩ := id rfl
theorem ev_C (d : D) : dC d s Q E = Q d s := id rfl
theorem ev_op2 (o : Op2) (f g : M D) : dOp2 o f g s Q E = f s (fun x s1 => g s1 (fun y s2 => o x y s2 Q E) E) E := id rfl
theorem ev_addI (i j : Int) : dAdd (.int i) (.int j) s Q E = Q (.int (i + j)) s := id rfl
theorem ev_addS (i j : Str) : dAdd (.str i) (.str j) s Q E = (i.length + j.length ≤ sizeLine ∧ Q (.str (i ++ j)) s) := id rfl
theorem ev_addT (i j : List D) : dAdd (.tup i) (.tup j) s Q E = (i ≠ [] ∧ i.length + j.length ≤ sizeLine ∧ Q (.tup (i ++ j)) s) := id rfl
theorem ev_sub (i j : Int) : dSub (.int i) (.int j) s Q E = Q (.int (i - j)) s := id rfl
theorem ev_mul (i j : Int) : dMul (.int i) (.int j) s Q E = (CMul i j ∧ Q (.int (i * j)) s) := id rfl
theorem ev_mod (i j : Int) : dMod (.int i) (.int j) s Q E = (0 < j ∧ Q (.int (i % j)) s) := id rfl
theorem ev_div (i j : Int) : dDiv (.int i) (.int j) s Q E = (CDiv i j ∧ Q (.int (i / j)) s) := id rfl
theorem ev_divW (i j : Int) : dDivW (.int i) (.int j) s Q E = (CDivW i j ∧ Q (.int (i / j)) s) := id rfl
theorem ev_pow (i j : Int) : dPow (.int i) (.int j) s Q E = (CPow i j ∧ Q (.int (i ^ j.toNat)) s) := id rfl
theorem ev_lt (i j : Int) : dLt (.int i) (.int j) s Q E = Q (.bl (decide (i < j))) s := id rfl
theorem ev_le (i j : Int) : dLe (.int i) (.int j) s Q E = Q (.bl (decide (i ≤ j))) s := id rfl
theorem ev_gt (i j : Int) : dGt (.int i) (.int j) s Q E = Q (.bl (decide (j < i))) s := id rfl
theorem ev_ge (i j : Int) : dGe (.int i) (.int j) s Q E = Q (.bl (decide (j ≤ i))) s := id rfl
theorem ev_cat (a b : List D) : dCat (.lst a) (.lst b) s Q E = (a.length + b.length ≤ sizeLine ∧ Q (.lst (a ++ b)) s) := id rfl
theorem ev_rep (a : List D) (k : Int) : dRep (.lst a) (.int k) s Q E = (-(2 ^ 63) ≤ k ∧ k < 2 ^ 63 ∧ a.length * k.toNat ≤ sizeLine ∧ Q (.lst (List.replicate k.toNat a).flatten) s) := id rfl
theorem ev_isN (d : D) : dIsN d .non s Q E = Q (.bl d.isNon) s := by cases d <;> rfl
theorem ev_notN (d : D) : dNotN d .non s Q E = Q (.bl !d.isNon) s := by cases d <;> rfl
theorem ev_eqI (i j : Int) : dEq (.int i) (.int j) s Q E = Q (.bl (decide (i = j))) s := id rfl
theorem ev_eqS (i j : Str) : dEq (.str i) (.str j) s Q E = Q (.bl (decide (i = j))) s := id rfl
theorem ev_eqB (i j : Bool) : dEq (.bl i) (.bl j) s Q E = Q (.bl (decide (i = j))) s := id rfl
theorem ev_neI (i j : Int) : dNe (.int i) (.int j) s Q E = Q (.bl (!decide (i = j))) s := id rfl
theorem ev_neS (i j : Str) : dNe (.str i) (.str j) s Q E = Q (.bl (!decide (i = j))) s := id rfl
theorem ev_neB (i j : Bool) : dNe (.bl i) (.bl j) s Q E = Q (.bl (!decide (i = j))) s := id rfl
theorem ev_eq (x y : D) : dEq x y s Q E = onSome (eqQ x y) fun b => Q (.bl b) s := by unfold dEq onSome; split <;> rename_i h <;> simp only [h]
theorem ev_ne (x y : D) : dNe x y s Q E = onSome (eqQ x y) fun b => Q (.bl !b) s := by unfold dNe onSome; split <;> rename_i h <;> simp only [h]
theorem ev_in (x y : D) : dIn x y s Q E = onSome (inQ x y) fun b => Q (.bl b) s := by unfold dIn onSome; split <;> rename_i h <;> simp only [h]
theorem ev_notin (x y : D) : dNotIn x y s Q E = onSome (inQ x y) fun b => Q (.bl !b) s := by unfold dNotIn onSome; split <;> rename_i h <;> simp only [h]
theorem ev_truth (b : Bool) : truth (.bl b) s QT E = QT b s := id rfl
theorem ev_val (f : M D) : dVal f s QT E = f s (fun d s1 => truth d s1 QT E) E := id rfl
theorem ev_test (o : Op2) (f g : M D) : dTest o f g s QT E = f s (fun x s1 => g s1 (fun y s2 => o x y s2 (fun d s1 => truth d s1 QT E) E) E) E := id rfl
theorem ev_iteM {c : Prop} [Decidable c] (f g : M α) : (if c then f else g) s Qa E = if c then f s Qa E else g s Qa E := by split <;> rfl
theorem ev_andT (t u : M Bool) : dAndT t u s QT E = t s (fun c s1 => if c = true then u s1 QT E else QT false s1) E := by
  unfold dAndT M.bnd; congr 1; funext c s1; cases c <;> rfl
theorem ev_orT (t u : M Bool) : dOrT t u s QT E = t s (fun c s1 => if c = true then QT true s1 else u s1 QT E) E := by
  unfold dOrT M.bnd; congr 1; funext c s1; cases c <;> rfl
theorem ev_notT (t : M Bool) : dNotT t s QT E = t s (fun c s1 => QT (!c) s1) E := id rfl
theorem ev_andV (f g : M D) : dAndV f g s Q E = f s (fun d s1 => truth d s1 (fun c s2 => if c = true then g s2 Q E else Q (.bl false) s2) E) E := by
  unfold dAndV M.bnd; congr 1; funext d s1; cases d <;> first | rfl | skip
  rename_i b; cases b <;> rfl
theorem ev_orV (f g : M D) : dOrV f g s Q E = f s (fun d s1 => truth d s1 (fun c s2 => if c = true then Q (.bl true) s2 else g s2 Q E) E) E := by
  unfold dOrV M.bnd; congr 1; funext d s1; cases d <;> first | rfl | skip
  rename_i b; cases b <;> rfl
theorem ev_notV (f : M D) : dNotV f s Q E = f s (fun d s1 => truth d s1 (fun c s2 => Q (.bl !c) s2) E) E := by
  unfold dNotV M.bnd; congr 1; funext d s1; cases d <;> rfl
theorem ev_if (t : M Bool) (f g : M α) : dIf t f g s Qa E = t s (fun c s1 => if c = true then f s1 Qa E else g s1 Qa E) E := by
  unfold dIf M.bnd; congr 1; funext c s1; cases c <;> rfl
theorem ev_chain (o o' : Op2) (f g h : M D) : dChain o o' f g h s Q E = f s (fun x s1 => g s1 (fun y s2 => o x y s2 (fun z s3 => truth z s3 (fun c s4 => if c = true then h s4 (fun u s5 => o' y u s5 Q E) E else Q (.bl false) s4) E) E) E) E := by
  unfold dChain M.bnd; congr 1; funext x s1; refine congrArg (fun k => g s1 k E) ?_; funext y s2; refine congrArg (fun k => o x y s2 k E) ?_; funext z s3; cases z <;> first | rfl | skip
  rename_i b; cases b <;> rfl
theorem ev_nil : daNil s QA E = QA [] s := id rfl
theorem ev_cons (f : M D) (g : M (List D)) : daCons f g s QA E = f s (fun x s1 => g s1 (fun xs s2 => QA (x :: xs) s2) E) E := id rfl
theorem ev_args0 : dArgs0 s QA E = QA [] s := id rfl
theorem ev_itemsL (l : List D) : items (.lst l) s QA E = QA l s := id rfl
theorem ev_itemsT (l : List D) : items (.tup l) s QA E = QA l s := id rfl
theorem ev_star (f : M D) (g : M (List D)) : daStar f g s QA E = f s (fun x s1 => items x s1 (fun xs s2 => g s2 (fun ys s3 => QA (xs ++ ys) s3) E) E) E := id rfl
theorem ev_tup (f : M (List D)) : dTup f s Q E = f s (fun l s1 => l.length ≤ sizeLine ∧ Q (.tup l) s1) E := id rfl
theorem ev_lst (f : M (List D)) : dLst f s Q E = f s (fun l s1 => l.length ≤ sizeLine ∧ Q (.lst l) s1) E := id rfl
theorem ev_ixL (l : List D) (i : Int) : dIx (.lst l) (.int i) s Q E = onSome (atI l i) fun d => Q d s := id rfl
theorem ev_ixT (l : List D) (i : Int) : dIx (.tup l) (.int i) s Q E = onSome (atI l i) fun d => Q d s := id rfl
theorem ev_ixS (z : Str) (i : Int) : dIx (.str z) (.int i) s Q E = (z.length ≤ sizeLine ∧ onSome (atI z.cps.toList i) fun c => Q (.str ⟨#[c]⟩) s) := id rfl
theorem ev_part (i : Int) : dPart (.int i) s QP E = QP (some i) s := id rfl

def slT (x : D) (l u : Option Int) (s : S) (Q : D → S → Prop) : Prop := match x with
  | .str z => z.length ≤ sizeLine ∧ Q (.str (cutS z l u)) s
  | _ => False
def slL (x : D) (l u : Option Int) (s : S) (Q : D → S → Prop) : Prop := match x with
  | .lst z => Q (.lst (cutD z l u)) s
  | _ => False
theorem ev_slT (f : M D) (lo hi : M (Option Int)) : dSlT f lo hi s Q E = f s (fun x s1 => lo s1 (fun l s2 => hi s2 (fun u s3 => slT x l u s3 Q) E) E) E := id rfl
theorem ev_slL (f : M D) (lo hi : M (Option Int)) : dSlL f lo hi s Q E = f s (fun x s1 => lo s1 (fun l s2 => hi s2 (fun u s3 => slL x l u s3 Q) E) E) E := id rfl
theorem ev_slT1 (z : Str) (l u : Option Int) : slT (.str z) l u s Q = (z.length ≤ sizeLine ∧ Q (.str (cutS z l u)) s) := id rfl
theorem ev_slL1 (z : List D) (l u : Option Int) : slL (.lst z) l u s Q = Q (.lst (cutD z l u)) s := id rfl
theorem ev_N (o : OpN) (f : M (List D)) : dN o f s Q E = f s (fun ds s1 => o ds s1 Q E) E := id rfl
theorem ev_len (d : D) : dLen [d] s Q E = onSome (lenQ d) fun n => Q (.int n) s := by unfold dLen onSome; simp only; split <;> rename_i h <;> simp only [h]
theorem ev_tupT (l : List D) : dTupOf [.tup l] s Q E = Q (.tup l) s := id rfl
theorem ev_tupL (l : List D) : dTupOf [.lst l] s Q E = Q (.tup l) s := id rfl
theorem ev_lstT (l : List D) : dLstOf [.tup l] s Q E = Q (.lst l) s := id rfl
theorem ev_lstL (l : List D) : dLstOf [.lst l] s Q E = Q (.lst l) s := id rfl
theorem ev_isi (Ts : List String) (f : M D) : dIsi Ts f s Q E = f s (fun d s1 => onSome (isQ d Ts) fun b => Q (.bl b) s1) E := by
  unfold dIsi M.bnd; congr 1; funext d s1; unfold onSome; split <;> rename_i h <;> simp only [h] <;> rfl
theorem ev_walkL (l : List D) : walkable (.lst l) s QA E = QA l s := id rfl
theorem ev_walkT (l : List D) : walkable (.tup l) s QA E = QA l s := id rfl
theorem ev_walkS (z : Str) : walkable (.str z) s QA E = QA (signs z) s := id rfl
theorem ev_range1 (j : Int) : dRange1 [.int j] s QA E = ((-(2 ^ 62) ≤ j ∧ j < 2 ^ 62) ∧ QA (rangeD 0 j.toNat) s) := id rfl
theorem ev_range2 (i j : Int) : dRange2 [.int i, .int j] s QA E = ((-(2 ^ 62) ≤ i ∧ i < 2 ^ 62 ∧ -(2 ^ 62) ≤ j ∧ j < 2 ^ 62) ∧ QA (rangeD i (j - i).toNat) s) := id rfl
theorem ev_zipL (a b : List D) : dZip [.lst a, .lst b] s QA E = QA (pairs a b) s := id rfl
theorem ev_zipT (a b : List D) : dZip [.tup a, .tup b] s QA E = QA (pairs a b) s := id rfl
theorem ev_enum (a : List D) : dEnum [.lst a] s QA E = QA (pairs (rangeD 0 a.length) a) s := id rfl
theorem ev_putN (i : Nat) (x : D) (l : List (Option (D × Bool))) (m : List SO) : (Tg.nm i).put x ⟨l, m⟩ = some ⟨l.set i (some (x, false)), m⟩ := id rfl
theorem ev_putT (is : List Nat) (xs : List D) (l : List (Option (D × Bool))) (m : List SO) : (Tg.tp is).put (.tup xs) ⟨l, m⟩ = (setsD is xs l).map fun d => ⟨d, m⟩ := id rfl
theorem ev_sets0 (d : Sl) : setsD [] [] d = some d := id rfl
theorem ev_sets1 (i : Nat) (is : List Nat) (x : D) (xs : List D) (d : Sl) : setsD (i :: is) (x :: xs) d = setsD is xs (d.set i (some (x, false))) := id rfl
theorem ev_comp (vs : List Nat) (t : Tg) (src : M (List D)) (tt : M Bool) (elt : M D) : dComp vs t src tt elt s Q E = src s (fun l s1 => noOwn vs s1.d ∧ dFold vs t tt elt l [] (s1.wipe vs) (fun acc s' => Q (.lst acc) { s' with d := restD s1.d s'.d vs }) (fun _ _ => False)) E := id rfl
theorem ev_true : mTrue s QT E = QT true s := id rfl
theorem ev_next : dNext ⟨nx, rt, bk, ct, ex⟩ s = nx s := id rfl
theorem ev_seq (f g : MS) : dSeq f g ⟨nx, rt, bk, ct, ex⟩ s = f ⟨g ⟨nx, rt, bk, ct, ex⟩, rt, bk, ct, ex⟩ s := id rfl
theorem ev_brk : dBrk ⟨nx, rt, bk, ct, ex⟩ s = bk s := id rfl
theorem ev_cnt : dCnt ⟨nx, rt, bk, ct, ex⟩ s = ct s := id rfl
theorem ev_drop (f : M D) : dDrop f ⟨nx, rt, bk, ct, ex⟩ s = f s (fun _ s' => nx s') ex := id rfl
theorem ev_retS (f : M D) : dRet f ⟨nx, rt, bk, ct, ex⟩ s = f s (fun d s' => rt d false s') ex := id rfl
theorem ev_retO (f : M D) : dRetO f ⟨nx, rt, bk, ct, ex⟩ s = f s (fun d s' => rt d true s') ex := id rfl
theorem ev_retN : dRetN ⟨nx, rt, bk, ct, ex⟩ s = rt .non false s := id rfl
def retK (o : Option (Option (D × Bool))) (i : Nat) (s : S) (Q : D → Bool → S → Prop) : Prop := match o with
  | some (some (d, false)) => Q d false s
  | some (some (d, true)) => Q d true ⟨s.d.set i none, s.m⟩
  | _ => False
def retKT (x : Nat × S) (Q : D → Bool → S → Prop) (_ : Tag x) (_ : Tag Q) (o : Option (Option (D × Bool))) : Prop := retK o x.1 x.2 Q
theorem retK_T (o : Option (Option (D × Bool))) (i : Nat) (s : S) (Q : D → Bool → S → Prop) : retK o i s Q = retKT (i, s) Q .it .it o := id rfl
theorem retKT_b (o : Option (Option (D × Bool))) (i : Nat) (s : S) (Q : D → Bool → S → Prop) (t : Tag (i, s)) (u : Tag Q) : retKT (i, s) Q t u o = retK o i s Q := id rfl
theorem ev_retV (i : Nat) : dRetV i ⟨nx, rt, bk, ct, ex⟩ s = retK s.d[i]? i s rt := id rfl
theorem ev_retVF (i : Nat) (d : D) {Q : D → Bool → S → Prop} (t : Tag (i, s)) (u : Tag Q) : retKT (i, s) Q t u (some (some (d, false))) = Q d false s := id rfl
theorem ev_retVT (i : Nat) (d : D) {Q : D → Bool → S → Prop} (t : Tag (i, s)) (u : Tag Q) : retKT (i, s) Q t u (some (some (d, true))) = Q d true ⟨s.d.set i none, s.m⟩ := id rfl
theorem ev_ifS (t : M Bool) (f g : MS) : dIfS t f g ⟨nx, rt, bk, ct, ex⟩ s = t s (fun b s' => if b = true then f ⟨nx, rt, bk, ct, ex⟩ s' else g ⟨nx, rt, bk, ct, ex⟩ s') ex := id rfl
theorem ev_set (t : Tg) (f : M D) : dSet t f ⟨nx, rt, bk, ct, ex⟩ s = f s (fun d s' => onSome (t.put d s') nx) ex := id rfl
theorem ev_setO (i : Nat) (f : M D) : dSetO i f ⟨nx, rt, bk, ct, ex⟩ s = f s (fun d s' => nx ⟨s'.d.set i (some (d, true)), s'.m⟩) ex := id rfl
theorem ev_for (src : M (List D)) (t : Tg) (body : MS) : dFor src t body ⟨nx, rt, bk, ct, ex⟩ s = src s (fun l s' => dLoop t body l ⟨nx, rt, bk, ct, ex⟩ s') ex := id rfl
theorem ev_loop0 (t : Tg) (body : MS) : dLoop t body [] ⟨nx, rt, bk, ct, ex⟩ s = nx s := id rfl
theorem ev_call (F : Fn) (f : M (List D)) : dCall F f s Q E = f s (fun ds s1 => F ds s1.m (fun d _ m' => Q d ⟨s1.d, m'⟩) fun e m' => E e ⟨s1.d, m'⟩) E := id rfl
theorem ev_callO (F : Fn) (f : M (List D)) : dCallO F f s Q E = f s (fun ds s1 => F ds s1.m (fun d fr m' => fr = true ∧ Q d ⟨s1.d, m'⟩) fun e m' => E e ⟨s1.d, m'⟩) E := id rfl
theorem ev_callN (n : Nat) (F : Fn) (f : M (List D)) : dCallN n F f s Q E = f s (fun ds s1 => ds.length = n ∧ F ds s1.m (fun d _ m' => Q d ⟨s1.d, m'⟩) fun e m' => E e ⟨s1.d, m'⟩) E := id rfl
theorem ev_callNO (n : Nat) (F : Fn) (f : M (List D)) : dCallNO n F f s Q E = f s (fun ds s1 => ds.length = n ∧ F ds s1.m (fun d fr m' => fr = true ∧ Q d ⟨s1.d, m'⟩) fun e m' => E e ⟨s1.d, m'⟩) E := id rfl
theorem ev_app (i : Nat) (f : M D) : dApp i f ⟨nx, rt, bk, ct, ex⟩ s = ((lstAt s i).isSome = true ∧ f s (fun y s' => onSome (lstAt s' i) fun l => l.length < sizeLine ∧ nx ⟨s'.d.set i (some (.lst (l ++ [y]), true)), s'.m⟩) ex) := id rfl
def extD (y : D) (l : List D) (i : Nat) (DD : DEnd) (s' : S) : Prop := match y with
  | .lst l2 => l.length + l2.length ≤ sizeLine ∧ DD.nx { s' with d := s'.d.set i (some (.lst (l ++ l2), true)) }
  | _ => False
theorem ev_ext (i : Nat) (f : M D) : dExt i f ⟨nx, rt, bk, ct, ex⟩ s = ((lstAt s i).isSome = true ∧ f s (fun y s' => onSome (lstAt s' i) fun l => extD y l i ⟨nx, rt, bk, ct, ex⟩ s') ex) := id rfl
theorem ev_extD (l2 l : List D) (i : Nat) : extD (.lst l2) l i ⟨nx, rt, bk, ct, ex⟩ s = (l.length + l2.length ≤ sizeLine ∧ nx ⟨s.d.set i (some (.lst (l ++ l2), true)), s.m⟩) := id rfl
def lstK (o : Option (Option (D × Bool))) : Option (List D) := match o with
  | some (some (.lst l, true)) => some l
  | _ => none
theorem ev_lstAt (i : Nat) : lstAt s i = lstK s.d[i]? := id rfl
theorem ev_lstK (l : List D) : lstK (some (some (.lst l, true))) = some l := id rfl
def lookK (o : Option (Option (D × Bool))) : Option D := match o with
  | some (some (d, _)) => some d
  | _ => none
theorem ev_look (i : Nat) : look s i = lookK s.d[i]? := id rfl
theorem ev_lookK (d : D) (b : Bool) : lookK (some (some (d, b))) = some d := id rfl
theorem ev_lenV (i : Nat) : dLenV i s Q E = onSome (look s i) fun d => onSome (lenQ d) fun n => Q (.int n) s := id rfl
theorem ev_ixV (i : Nat) (g : M D) : dIxV i g s Q E = ((look s i).isSome = true ∧ g s (fun y s' => onSome (look s' i) fun d => onSome (ixQ s'.m d y) fun r => Q r s') E) := id rfl
theorem ev_inV (neg : Bool) (f : M D) (i : Nat) : dInV neg f i s Q E = f s (fun y s1 => onSome (look s1 i) fun d => onSome (inQ y d) fun b => Q (.bl (if neg then !b else b)) s1) E := id rfl
theorem ev_ixQL (m : List SO) (l : List D) (i : Int) : ixQ m (.lst l) (.int i) = atI l i := id rfl
theorem ev_ixQT (m : List SO) (l : List D) (i : Int) : ixQ m (.tup l) (.int i) = atI l i := id rfl
theorem ev_ixQS (m : List SO) {z : Str} (i : Int) (h : z.length ≤ sizeLine) : ixQ m (.str z) (.int i) = (atI z.cps.toList i).map fun c => .str ⟨#[c]⟩ := by unfold ixQ; simp only [h, if_true]
def ixR (o : Option SO) (i : Int) : Option D := match o with
  | some (.cel l) => atI l i
  | _ => none
theorem ev_ixQR (m : List SO) (n : Nat) (i : Int) : ixQ m (.ref n) (.int i) = ixR m[n]? i := id rfl
theorem ev_ixR (l : List D) (i : Int) : ixR (some (.cel l)) i = atI l i := id rfl
def joinD (a : D) (g : M D) (s : S) (Q : D → S → Prop) (E : Ex → S → Prop) : Prop := match a with
  | .str sep => g s (fun d s1 => onSome (strsIn d) fun xs => (xs.map (·.length)).sum + xs.length * sep.length ≤ 16777216 ∧ Q (.str (Txt.join sep xs)) s1) E
  | _ => False
theorem ev_join (f g : M D) : dJoin f g s Q E = f s (fun a s1 => joinD a g s1 Q E) E := by
  unfold dJoin M.bnd; congr 1; funext a s1; cases a <;> rfl
theorem ev_joinD (sep : Str) (g : M D) : joinD (.str sep) g s Q E = g s (fun d s1 => onSome (strsIn d) fun xs => (xs.map (·.length)).sum + xs.length * sep.length ≤ 16777216 ∧ Q (.str (Txt.join sep xs)) s1) E := id rfl
theorem ev_all (ds : List D) : dAll ds s Q E = onSome (blsIn ds) fun bs => Q (.bl (bs.all id)) s := id rfl
theorem ev_any (ds : List D) : dAny ds s Q E = onSome (blsIn ds) fun bs => Q (.bl (bs.any id)) s := id rfl
theorem ev_sum (ds : List D) : dSum ds s Q E = onSome (intsIn ds) fun ns => Q (.int ns.sum) s := id rfl
theorem ev_intI (i : Int) : dIntOf [.int i] s Q E = Q (.int i) s := id rfl
theorem ev_intB (b : Bool) : dIntOf [.bl b] s Q E = Q (.int (if b then 1 else 0)) s := id rfl
def celK (o : Option SO) (n : Nat) : Option (Nat × List D) := match o with
  | some (.cel l) => some (n, l)
  | _ => none
def celL (o : Option D) (m : List SO) : Option (Nat × List D) := match o with
  | some (.ref n) => celK m[n]? n
  | _ => none
theorem ev_celAt (i : Nat) : celAt s i = celL (look s i) s.m := id rfl
theorem ev_celL (n : Nat) (m : List SO) : celL (some (.ref n)) m = celK m[n]? n := id rfl
theorem ev_celK (n : Nat) (l : List D) : celK (some (.cel l)) n = some (n, l) := id rfl
theorem ev_place (l : List D) (k : Int) : place l (.int k) = ixN l.length k := id rfl
theorem ev_setIx (i : Nat) (f g : M D) : dSetIx i f g ⟨nx, rt, bk, ct, ex⟩ s = f s (fun y s1 => (look s1 i).isSome = true ∧ g s1 (fun ix s2 => onSome (celAt s2 i) fun c => onSome (place c.2 ix) fun j => nx ⟨s2.d, s2.m.set c.1 (.cel (c.2.set j y))⟩) ex) ex := id rfl
theorem ev_par (i j : Nat) (fl : M (List D)) : dPar i j fl ⟨nx, rt, bk, ct, ex⟩ s = fl s (fun l s' => parNx i j l ⟨nx, rt, bk, ct, ex⟩ s') ex := id rfl
theorem ev_parNx (i j : Nat) (a b : D) : parNx i j [a, b] ⟨nx, rt, bk, ct, ex⟩ s = nx ⟨(s.d.set i (some (a, false))).set j (some (b, false)), s.m⟩ := id rfl
def negD (d : D) (s : S) (Q : D → S → Prop) : Prop := match d with
  | .int i => Q (.int (-i)) s
  | _ => False
theorem ev_neg (f : M D) : dNeg f s Q E = f s (fun d s1 => negD d s1 Q) E := id rfl
theorem ev_negD (i : Int) : negD (.int i) s Q = Q (.int (-i)) s := id rfl
end
theorem ev_fn (n : Nat) (body : MS) (ds : List D) (m : List SO) (Q : D → Bool → List SO → Prop) (E : Ex → List SO → Prop) : dFn n body ds m Q E = body { nx := fun s => Q .non false s.m, rt := fun d fr s => Q d fr s.m, ex := fun e s => E e s.m } ⟨startD n ds, m⟩ := id rfl
theorem st1 (n : Nat) (a : D) : startD (n + 1) [a] = some (a, false) :: List.replicate n none := by unfold startD; simp
theorem st2 (n : Nat) (a b : D) : startD (n + 2) [a, b] = some (a, false) :: some (b, false) :: List.replicate n none := by unfold startD; simp
theorem st3 (n : Nat) (a b c : D) : startD (n + 3) [a, b, c] = some (a, false) :: some (b, false) :: some (c, false) :: List.replicate n none := by unfold startD; simp
theorem st4 (n : Nat) (a b c d : D) : startD (n + 4) [a, b, c, d] = some (a, false) :: some (b, false) :: some (c, false) :: some (d, false) :: List.replicate n none := by unfold startD; simp
theorem atI_0 {α : Type} {a : α} {l : List α} : atI (a :: l) 0 = some a := by unfold atI ixN; simp
theorem atI_1 {α : Type} {a b : α} {l : List α} : atI (a :: b :: l) 1 = some b := by unfold atI ixN; simp; rw [if_pos (by omega)]; rfl
theorem atI_2 {α : Type} {a b c : α} {l : List α} : atI (a :: b :: c :: l) 2 = some c := by unfold atI ixN; simp; rw [if_pos (by omega)]; rfl
theorem atI_3 {α : Type} {a b c d : α} {l : List α} : atI (a :: b :: c :: d :: l) 3 = some d := by unfold atI ixN; simp; rw [if_pos (by omega)]; rfl
theorem atI_4 {α : Type} {a b c d e : α} {l : List α} : atI (a :: b :: c :: d :: e :: l) 4 = some e := by unfold atI ixN; simp; rw [if_pos (by omega)]; rfl
theorem ixN5_0 : ixN 5 0 = some 0 := id rfl
theorem ixN5_1 : ixN 5 1 = some 1 := id rfl
theorem ixN5_2 : ixN 5 2 = some 2 := id rfl
theorem ixN5_3 : ixN 5 3 = some 3 := id rfl
theorem ixN5_4 : ixN 5 4 = some 4 := id rfl
theorem ev_eqQI (i j : Int) : eqQ (.int i) (.int j) = some (decide (i = j)) := id rfl
theorem ev_eqQS (i j : Str) : eqQ (.str i) (.str j) = some (decide (i = j)) := id rfl
theorem ev_eqQB (i j : Bool) : eqQ (.bl i) (.bl j) = some (decide (i = j)) := id rfl
theorem ev_lenL (l : List D) : lenQ (.lst l) = some l.length := id rfl
theorem ev_lenT (l : List D) : lenQ (.tup l) = some l.length := id rfl
end DL

namespace DL
local macro_rules | `(tactic| array_get_dec) => `(tactic| ((try simp (config := {dsimp := false}) only [↓onSome_T, ↓ite_T, ↓varK_T, ↓movK_T, ↓retK_T, ↓loop_T, ↓fold_T, ↓while_T, Int.reducePow, Int.reduceNeg, Int.reduceLE, Int.reduceLT, Nat.reduceMul, Nat.reduceLeDiff, Int.reduceAdd, List.map_cons, List.map_nil, List.nil_append, eq_self, List.any_cons, List.any_nil, Option.getD_some, Int.reduceToNat, ixN5_0, ixN5_1, ixN5_2, ixN5_3, ixN5_4, ev_eqQI, ev_eqQS, ev_eqQB, ev_lenL, ev_lenT, List.set_set, ↓ev_ret, ↓ev_stuck, ↓ev_bnd, ↓ev_var, ↓ev_move, ↓ev_C, ↓ev_op2, ↓ev_addI, ↓ev_addS, ↓ev_addT, ↓ev_sub, ↓ev_mul, ↓ev_mod, ↓ev_div, ↓ev_divW, ↓ev_pow, ↓ev_lt, ↓ev_le, ↓ev_gt, ↓ev_ge, ↓ev_cat, ↓ev_rep, ↓ev_isN, ↓ev_notN, ↓ev_eqI, ↓ev_eqS, ↓ev_eqB, ↓ev_neI, ↓ev_neS, ↓ev_neB, ↓ev_eq, ↓ev_ne, ↓ev_in, ↓ev_notin, ↓ev_truth, ↓ev_val, ↓ev_test, ↓ev_andT, ↓ev_orT, ↓ev_notT, ↓ev_andV, ↓ev_orV, ↓ev_notV, ↓ev_if, ↓ev_chain, ↓ev_nil, ↓ev_cons, ↓ev_args0, ↓ev_itemsL, ↓ev_itemsT, ↓ev_star, ↓ev_tup, ↓ev_lst, ↓ev_ixL, ↓ev_ixT, ↓ev_ixS, ↓ev_part, ↓ev_slT, ↓ev_slL, ↓ev_slT1, ↓ev_slL1, ↓ev_N, ↓ev_len, ↓ev_tupT, ↓ev_tupL, ↓ev_lstT, ↓ev_lstL, ↓ev_isi, ↓ev_walkL, ↓ev_walkT, ↓ev_walkS, ↓ev_range1, ↓ev_range2, ↓ev_zipL, ↓ev_zipT, ↓ev_enum, ↓ev_putN, ↓ev_putT, ↓ev_sets0, ↓ev_sets1, ↓ev_comp, ↓ev_true, ↓ev_next, ↓ev_seq, ↓ev_brk, ↓ev_cnt, ↓ev_drop, ↓ev_retS, ↓ev_retO, ↓ev_retN, ↓ev_retV, ↓ev_ifS, ↓ev_set, ↓ev_setO, ↓ev_for, ↓ev_call, ↓ev_callO, ↓ev_callN, ↓ev_callNO, ↓ev_app, ↓ev_ext, ↓ev_extD, ↓ev_lstAt, ev_lstK, ↓ev_look, ev_lookK, ↓ev_lenV, ↓ev_ixV, ↓ev_inV, ↓ev_ixQL, ↓ev_ixQT, ↓ev_ixQS, ↓ev_ixQR, ev_ixR, ↓ev_join, ↓ev_joinD, ↓ev_all, ↓ev_any, ↓ev_sum, ↓ev_intI, ↓ev_intB, ↓ev_celAt, ev_celL, ev_celK, ↓ev_place, ↓ev_setIx, ↓ev_par, ↓ev_parNx, ↓ev_neg, ↓ev_negD, ↓ev_fn, ↓st1, ↓st2, ↓st3, ↓st4, ↓atI_0, ↓atI_1, ↓atI_2, ↓atI_3, ↓atI_4, List.getElem?_cons_zero, List.getElem?_cons_succ, List.getElem?_nil, List.set_cons_zero, List.set_cons_succ, List.replicate_succ, List.replicate_zero, Option.map_some, Option.isSome_some, true_and, and_true, List.length_cons, List.length_nil, Nat.reduceAdd, Bool.false_eq_true, if_true, if_false, beq_self_eq_true, Bool.true_or, Bool.or_true, Bool.false_or, Bool.or_false, Bool.not_true, Bool.not_false, Bool.and_true, Bool.true_and, decide_true, decide_false, decide_eq_true_eq, onSomeT_some, onSomeT_none, ifT_true, ifT_false, loopT_nil, ev_varF, ev_varT, ev_moveT, ev_retVF, ev_retVT]); (try simp only [onSomeT_b, ifT_b, varKT_b, movKT_b, retKT_b, loopT_b, foldT_b, whileT_b])))
open PySem PySem.Spec PyProof.Rows L2
def b_pull : MS :=
  (dSeq (dSetIx 0 (dOp2 dAdd (dIxV 0 (dC (.int 4))) (dC (.int 1))) (dC (.int 4)))
    (dSeq (dIfS (dAndT (dTest dEq (dIxV 0 (dC (.int 2))) (dC (.int 0))) (dTest dLt (dIxV 0 (dC (.int 1))) (dN dLen (daCons (dIxV 0 (dC (.int 0))) daNil)))) (dSeq (dSet (.nm 2) (dOp2 dIx (dIxV 0 (dC (.int 0))) (dIxV 0 (dC (.int 1)))))
    (dSeq (dSetIx 0 (dOp2 dAdd (dIxV 0 (dC (.int 1))) (dC (.int 1))) (dC (.int 1)))
    (dSeq (dIfS (dTest dGe (dVar 2) (dOp2 dPow (dC (.int 10)) (dC (.int 18)))) (dSetIx 0 (dVar 2) (dC (.int 2))) dNext)
    (dSetIx 0 (dOp2 dMod (dN dIntOf (daCons (dOp2 dAdd (dOp2 dAdd (dOp2 dMul (dIxV 0 (dC (.int 3))) (dC (.int 45007))) (dOp2 dMul (dOp2 dMod (dN dIntOf (daCons (dVar 2) daNil)) (dC (.int 2147483477))) (dC (.int 50021)))) (dC (.int 59))) daNil)) (dC (.int 2147483549))) (dC (.int 3)))))) dNext)
    (dSeq (dIfS (dTest dGt (dIxV 0 (dC (.int 2))) (dC (.int 0))) (dSeq (dSet (.nm 3) (dOp2 dMod (dN dIntOf (daCons (dIxV 0 (dC (.int 2))) daNil)) (dVar 1)))
    (dSeq (dSetIx 0 (dOp2 dDivW (dIxV 0 (dC (.int 2))) (dVar 1)) (dC (.int 2)))
    (dRetV 3))) dNext)
    (dSeq (dSet (.nm 4) (dIxV 0 (dC (.int 3))))
    (dSeq (dSetIx 0 (dOp2 dMod (dN dIntOf (daCons (dOp2 dAdd (dOp2 dAdd (dOp2 dAdd (dOp2 dPow (dVar 4) (dC (.int 3))) (dOp2 dMul (dVar 4) (dC (.int 36571)))) (dOp2 dMul (dIxV 0 (dC (.int 4))) (dC (.int 1299689)))) (dC (.int 80021))) daNil)) (dC (.int 2147483549))) (dC (.int 3)))
    (dRet (dOp2 dMod (dN dIntOf (daCons (dOp2 dAdd (dOp2 dDiv (dIxV 0 (dC (.int 3))) (dC (.int 83))) (dOp2 dMul (dOp2 dMod (dN dIntOf (daCons (dIxV 0 (dC (.int 3))) daNil)) (dC (.int 7901))) (dC (.int 61)))) daNil)) (dVar 1))))))))
/-- the bag's cell -/
def bagL (ns : List Int) (i j k l : Int) : List D := [.lst (ns.map .int), .int i, .int j, .int k, .int l]
/-- a bag stands at n, all else as in m -/
def BagIn (m : List SO) (n : Nat) (m' : List SO) : Prop := ∃ ns i j k l, m' = m.set n (.cel (bagL ns i j k l)) ∧ bagOk i j k l
theorem atI_at {α : Type} {l : List α} {i : Int} (h0 : 0 ≤ i) (h1 : i < l.length) : atI l i = some (l[i.toNat]'(by omega)) := by
  unfold atI ixN
  rw [if_pos h0, if_pos h1]
  exact List.getElem?_eq_getElem (by omega)
theorem bag_get {m : List SO} {n : Nat} (hn : n < m.length) (x : SO) : (m.set n x)[n]? = some x := by rw [List.getElem?_set_self hn]
/-- behind the look at the number that came: what is given back -/
theorem pull_a {m : List SO} {n : Nat} {c : Int} {ns : List Int} {i j k l : Int} {x y z : Option (D × Bool)} (hn : n < m.length) (hb : bagOk i j k l) (hc : 0 < c) (hw : c.natAbs.log2 < 9000) {Q : D → Bool → List SO → Prop} {E : Ex → List SO → Prop}
    (h : ∀ d m', 0 ≤ d → d < c → BagIn m n m' → Q (.int d) false m') (hj : 0 < j) :
    (dSeq (dSet (.nm 3) (dOp2 dMod (dN dIntOf (daCons (dIxV 0 (dC (.int 2))) daNil)) (dVar 1)))
    (dSeq (dSetIx 0 (dOp2 dDivW (dIxV 0 (dC (.int 2))) (dVar 1)) (dC (.int 2)))
    (dRetV 3))) ⟨nx, fun d fr s => Q d fr s.m, bk, ct, ex⟩ ⟨[some (.ref n, false), some (.int c, false), x, y, z], m.set n (.cel (bagL ns i j k l))⟩ := by
  obtain ⟨hi, hj', hk, hk2⟩ := hb
  unfold bagL
  iterate 12 (array_get_dec; try simp only [bag_get hn])
  refine ⟨hc, ⟨hc, hw⟩, h _ _ (Int.emod_nonneg _ (by omega)) (Int.emod_lt_of_pos _ hc) ⟨ns, i, j / c, k, l, rfl, hi, ?_, hk, hk2⟩⟩
  exact Int.ediv_nonneg hj' (by omega)
theorem pull_b {m : List SO} {n : Nat} {c : Int} {ns : List Int} {i j k l : Int} {x y z : Option (D × Bool)} (hn : n < m.length) (hb : bagOk i j k l) (hc : 0 < c) {Q : D → Bool → List SO → Prop} {E : Ex → List SO → Prop}
    (h : ∀ d m', 0 ≤ d → d < c → BagIn m n m' → Q (.int d) false m') :
    (dSeq (dSet (.nm 4) (dIxV 0 (dC (.int 3))))
    (dSeq (dSetIx 0 (dOp2 dMod (dN dIntOf (daCons (dOp2 dAdd (dOp2 dAdd (dOp2 dAdd (dOp2 dPow (dVar 4) (dC (.int 3))) (dOp2 dMul (dVar 4) (dC (.int 36571)))) (dOp2 dMul (dIxV 0 (dC (.int 4))) (dC (.int 1299689)))) (dC (.int 80021))) daNil)) (dC (.int 2147483549))) (dC (.int 3)))
    (dRet (dOp2 dMod (dN dIntOf (daCons (dOp2 dAdd (dOp2 dDiv (dIxV 0 (dC (.int 3))) (dC (.int 83))) (dOp2 dMul (dOp2 dMod (dN dIntOf (daCons (dIxV 0 (dC (.int 3))) daNil)) (dC (.int 7901))) (dC (.int 61)))) daNil)) (dVar 1))))) ⟨nx, fun d fr s => Q d fr s.m, bk, ct, ex⟩ ⟨[some (.ref n, false), some (.int c, false), x, y, z], m.set n (.cel (bagL ns i j k l))⟩ := by
  obtain ⟨hi, hj', hk, hk2⟩ := hb
  unfold bagL
  iterate 12 (array_get_dec; try simp only [bag_get hn])
  refine ⟨⟨by decide, by decide, by omega⟩, .inr (by decide), .inr (by decide), ⟨by decide, by decide⟩, .inr (by decide), hc, ?_⟩
  exact h _ _ (Int.emod_nonneg _ (by omega)) (Int.emod_lt_of_pos _ hc) ⟨ns, i, j, _, l, rfl, hi, hj', Int.emod_nonneg _ (by decide), Int.emod_lt_of_pos _ (by decide)⟩
def b_tail : MS := (dSeq (dIfS (dTest dGt (dIxV 0 (dC (.int 2))) (dC (.int 0))) (dSeq (dSet (.nm 3) (dOp2 dMod (dN dIntOf (daCons (dIxV 0 (dC (.int 2))) daNil)) (dVar 1)))
    (dSeq (dSetIx 0 (dOp2 dDivW (dIxV 0 (dC (.int 2))) (dVar 1)) (dC (.int 2)))
    (dRetV 3))) dNext)
    (dSeq (dSet (.nm 4) (dIxV 0 (dC (.int 3))))
    (dSeq (dSetIx 0 (dOp2 dMod (dN dIntOf (daCons (dOp2 dAdd (dOp2 dAdd (dOp2 dAdd (dOp2 dPow (dVar 4) (dC (.int 3))) (dOp2 dMul (dVar 4) (dC (.int 36571)))) (dOp2 dMul (dIxV 0 (dC (.int 4))) (dC (.int 1299689)))) (dC (.int 80021))) daNil)) (dC (.int 2147483549))) (dC (.int 3)))
    (dRet (dOp2 dMod (dN dIntOf (daCons (dOp2 dAdd (dOp2 dDiv (dIxV 0 (dC (.int 3))) (dC (.int 83))) (dOp2 dMul (dOp2 dMod (dN dIntOf (daCons (dIxV 0 (dC (.int 3))) daNil)) (dC (.int 7901))) (dC (.int 61)))) daNil)) (dVar 1))))))
theorem pull_t {m : List SO} {n : Nat} {c : Int} {ns : List Int} {i j k l : Int} {x y z : Option (D × Bool)} (hn : n < m.length) (hb : bagOk i j k l) (hc : 0 < c) (hw : c.natAbs.log2 < 9000) {Q : D → Bool → List SO → Prop} {E : Ex → List SO → Prop}
    (h : ∀ d m', 0 ≤ d → d < c → BagIn m n m' → Q (.int d) false m') : b_tail ⟨nx, fun d fr s => Q d fr s.m, bk, ct, ex⟩
      ⟨[some (.ref n, false), some (.int c, false), x, y, z], m.set n (.cel (bagL ns i j k l))⟩ := by
  unfold b_tail
  rw [ev_seq, ev_ifS]
  have U := pull_b (nx := nx) (bk := bk) (ct := ct) (ex := ex) (ns := ns) (i := i) (j := j) (k := k) (l := l) (x := x) (y := y) (z := z) hn hb hc (E := E) h
  by_cases h0 : 0 < j
  · have T := fun nx => pull_a (nx := nx) (bk := bk) (ct := ct) (ex := ex) (ns := ns) (i := i) (j := j) (k := k) (l := l) (x := x) (y := y) (z := z) hn hb hc hw (E := E) h h0
    simp only [↓ev_mk, ↓ev_test, ↓ev_ixV, ↓ev_look, ev_lookK, ↓ev_C, ↓onSome_some, ↓ev_ixQR, bag_get hn, ev_ixR, bagL, ↓atI_2, ↓ev_gt, ↓ev_truth, decide_eq_true_eq, h0, if_true, List.getElem?_cons_zero, Option.isSome_some, true_and]
    exact T _
  · simp only [↓ev_mk, ↓ev_test, ↓ev_ixV, ↓ev_look, ev_lookK, ↓ev_C, ↓onSome_some, ↓ev_ixQR, bag_get hn, ev_ixR, bagL, ↓atI_2, ↓ev_gt, ↓ev_truth, decide_eq_true_eq, h0, if_false, List.getElem?_cons_zero, Option.isSome_some, true_and, ↓ev_next]
    exact U
theorem pull_run {m : List SO} {n : Nat} {c : Int} {ns : List Int} {i j k l : Int} (hn : n < m.length) (hb : bagOk i j k l) (hc : 0 < c) (hw : c.natAbs.log2 < 9000) {Q : D → Bool → List SO → Prop} {E : Ex → List SO → Prop}
    (h : ∀ d m', 0 ≤ d → d < c → BagIn m n m' → Q (.int d) false m') : dFn 5 b_pull [.ref n, .int c] (m.set n (.cel (bagL ns i j k l))) Q E := by
  have fin := @pull_t
  have hb' := hb
  obtain ⟨hi, hj, hk, hk2⟩ := hb
  unfold b_pull
  change dFn 5 (dSeq _ (dSeq _ b_tail)) _ _ _ _
  unfold bagL
  iterate 12 (array_get_dec; try simp only [bag_get hn])
  by_cases h0 : j = 0
  · subst h0
    rw [if_pos rfl]
    iterate 12 (array_get_dec; try simp only [bag_get hn])
    by_cases h1 : i < (ns.map D.int).length
    · rw [if_pos h1]
      have h1' : i.toNat < ns.length := by rw [List.length_map] at h1; omega
      have h2 : atI (ns.map D.int) i = some (.int ns[i.toNat]) := by
        rw [atI_at hi h1, List.getElem_map]
      have hm1 : CMul k 45007 := .inr (by decide)
      have hm2 : ∀ x, CMul x 50021 := fun _ => .inr (by decide)
      have hp : CPow 10 18 := ⟨by decide, by decide, by decide⟩
      iterate 12 (array_get_dec; try simp only [bag_get hn, h2])
      refine ⟨hp, ?_⟩
      iterate 12 (array_get_dec; try simp only [bag_get hn, h2])
      have go : ∀ (j' : Int) (x y z : Option (D × Bool)), 0 ≤ j' → b_tail ⟨fun s => Q D.non false s.m, fun d fr s => Q d fr s.m, fun _ => False, fun _ => False, fun e s => E e s.m⟩
          ⟨[some (D.ref n, false), some (D.int c, false), x, y, z], m.set n (.cel [.lst (ns.map .int), .int (i + 1), .int j', .int ((k * 45007 + (ns[i.toNat] % 2147483477) * 50021 + 59) % 2147483549), .int (l + 1)])⟩ :=
        fun j' x y z h4 => fin hn (show bagOk _ j' _ (l + 1) from ⟨by omega, h4, Int.emod_nonneg _ (by decide), Int.emod_lt_of_pos _ (by decide)⟩) hc hw (E := E) h
      by_cases h3 : (1000000000000000000 : Int) ≤ ns[i.toNat]
      · rw [if_pos h3]
        iterate 12 (array_get_dec; try simp only [bag_get hn, h2])
        exact ⟨hm1, hm2 _, go _ _ _ _ (Int.le_trans (by decide) h3)⟩
      · rw [if_neg h3]
        iterate 12 (array_get_dec; try simp only [bag_get hn, h2])
        exact ⟨hm1, hm2 _, go _ _ _ _ (by decide)⟩
    · rw [if_neg h1]
      iterate 12 (array_get_dec; try simp only [bag_get hn])
      exact fin hn (show bagOk i 0 k (l + 1) from hb') hc hw (E := E) h
  · rw [if_neg h0]
    iterate 12 (array_get_dec; try simp only [bag_get hn])
    exact fin hn (show bagOk i j k (l + 1) from hb') hc hw (E := E) h
/-! ### the draws -/
def dScr (f : M D) (lo hi : M (Option Int)) : M D := f.bnd fun x => lo.bnd fun l => hi.bnd fun u => fun s Q _ => match x with
  | .scr => ∀ ns : List Int, ns.length ≤ 63 → Q (.lst (cutD (ns.map .int) l u)) s
  | _ => False
theorem reps_ints {K : PySem.W.Frag} {w : Wd} : ∀ ns : List Int, Reps K w (ns.map D.int) (ns.map V.int)
  | [] => .nil
  | n :: ns => .cons (d := .int n) of_int (reps_ints ns)
theorem ints_reps {K : PySem.W.Frag} {w : Wd} : ∀ {ns : List Int} {vs : List V}, Reps K w (ns.map D.int) vs → vs = ns.map V.int
  | [], _, r => by simp only [List.map_nil, Reps] at r; exact r
  | n :: ns, _, r => by
    simp only [List.map_cons, Reps] at r
    obtain ⟨v, vs, rfl, r1, r2⟩ := r
    rw [rep_int r1, ints_reps r2]; rfl
theorem do_scr {X : Cx} {B : Ent} {W : WX} {a : Expr} {f : M D} {pos p2 : Pos} {lo hi : Option Expr} {fl fh : M (Option Int)} (ha : DE X B W a f) (hl : DP X B W lo fl) (hh : DP X B W hi fh) : DO X B W (.Subscript a (.Slice lo hi none p2) pos) (dScr f fl fh) := PE.weak (pe_slice sl_list ha hl hh) fun σ H Q q => by
  refine tG.seq (back_O _ _) q fun dx s vx w H1 QD ED _ _ r1 rx h1 p => ?_
  refine ⟨w, s, fun dy s' => _, ED, r1, h1, ⟨fun dy s2 vy w2 H2 le r2 ry h2 => ?_, p.ex⟩⟩
  refine ⟨w2, s2, fun dz s' => _, ED, r2, h2, ⟨fun dz s3 vz w3 H3 le3 r3 rz h3 => ?_, (p.mono (back_O _ _) le).ex⟩⟩
  subst ry rz
  cases dx <;> first | exact h3.elim | skip
  obtain ⟨a, ns, rfl, q1, z⟩ := rep_scr (rx.mono (le.le.trans le3.le))
  exact ⟨a, ns.map V.int, rfl, same_l r3.sub q1, fun pp hp => r3.newO hp (own_lst ((reps_ints ns).cut _ _)) (h3 ns z) (p.mono (back_O _ _) (le.trans le3))⟩
section
variable {P : Program} {wd : World} {K : PySem.W.Frag} {mg : Str → Option Value} {base : Heap} {xr : XR}
theorem DefOk.imp {k n : Nat} {x : Str} {F F' : Fn} (h : DefOk P wd K mg base xr k x n F) (i : ∀ vs H Q E, spD K xr n F' vs H Q E → spD K xr n F vs H Q E) : DefOk P wd K mg base xr k x n F' := by
  obtain ⟨f, fd, ps, G, hm, kp, hb, hn⟩ := h.ex
  exact ⟨f, fd, ps, G.imp i, hm, kp, hb, hn⟩
theorem cutI (ns : List Int) (lo hi : Option Int) : ∃ ns' : List Int, cutD (ns.map D.int) lo hi = ns'.map D.int := by
  unfold cutD
  rw [List.map_drop.symm, List.map_take.symm]
  exact ⟨_, rfl⟩
theorem CallOk.add {w : Wd} {H : Hp} {w' : Wd} {m : List SO} {H' : Hp} {a : Addr} {o : HO} {b : SO} (c : CallOk K w H w' m H') (h1 : H a = none) (h2 : H' a = some o) (h4 : w'.F a = none) (h5 : a ∉ w'.th) (ob : ObjRel K ⟨w'.F, w'.th ++ [a], w'.cs⟩ H' a b) :
    CallOk K w H ⟨w'.F, w'.th ++ [a], w'.cs⟩ (m ++ [b]) H' := by
  have le : w'.le ⟨w'.F, w'.th ++ [a], w'.cs⟩ := ⟨fun _ _ e => e, [a], rfl, rfl⟩
  refine ⟨c.le.trans le, c.sub, ⟨?_, ?_, ?_, ?_⟩, c.keep, c.fnew, fun b hb hn => ?_⟩
  · show (w'.th ++ [a]).length = _
    rw [List.length_append, List.length_append, c.st.len]; rfl
  · show (w'.th ++ [a]).Nodup
    rw [List.nodup_append]
    exact ⟨c.st.nd, by simp, fun x hx y hy e => by simp at hy; subst hy e; exact h5 hx⟩
  · intro b hb
    rcases List.mem_append.mp hb with hb | hb
    · exact c.st.out b hb
    · simp at hb; subst hb; exact h4
  · intro n o' b' e1 e2
    have e2 : (w'.th ++ [a])[n]? = some b' := e2
    by_cases hn : n < m.length
    · rw [List.getElem?_append_left hn] at e1
      rw [List.getElem?_append_left (by rw [c.st.len]; exact hn)] at e2
      exact (c.st.ob n o' b' e1 e2).mono le rfl
    · rw [List.getElem?_append_right (by omega)] at e1
      rw [List.getElem?_append_right (by rw [c.st.len]; omega), c.st.len] at e2
      cases hk : n - m.length with
      | zero =>
        rw [hk] at e1 e2
        simp at e1 e2
        subst e1 e2
        exact ob
      | succ k => rw [hk] at e1; simp at e1
  · rcases List.mem_append.mp hb with hb | hb
    · exact c.tnew b hb hn
    · simp at hb; subst hb; exact h1
theorem bag_rel {w : Wd} {H : Hp} {a : Addr} {vs : List V} {ns : List Int} {i j k l : Int} (h : H a = some (.lst vs)) (r : Reps K w (bagL ns i j k l) vs) (b : bagOk i j k l) : ObjRel K w H a .bag := by
  unfold bagL at r
  simp only [Reps] at r
  obtain ⟨v0, _, rfl, r0, v1, _, rfl, r1, v2, _, rfl, r2, v3, _, rfl, r3, v4, _, rfl, r4, rfl⟩ := r
  obtain ⟨p, us, rfl, q, z⟩ := rep_lst r0
  rw [rep_int r1, rep_int r2, rep_int r3, rep_int r4] at h
  rw [ints_reps z] at q
  exact ⟨p, ns, i, j, k, l, h, q, b⟩
def F_draws : Fn := fun ds m Q _ => ds = [.scr] ∧ Q (.ref m.length) false (m ++ [.bag])
def b_draws : MS := dRetO (dLst (daCons (dN dLstOf (daCons (dScr (dVar 0) (M.ret none) ((dC (.int 63)).bnd dPart)) daNil)) (daCons (dC (.int 0)) (daCons (dC (.int 0)) (daCons (dC (.int 4915)) (daCons (dC (.int 0)) daNil))))))
theorem draws_imp {k : Nat} {x : Str} (h : DefOk P wd K mg base xr k x 1 (dFn 1 b_draws)) : DefOk P wd K mg base xr k x 1 F_draws := h.imp fun vs H Q E q => by
  obtain ⟨w, ds, m, QD, ED, hs, st, rp, hl, ⟨rfl, q⟩, ok, ex⟩ := q
  refine ⟨w, [.scr], m, fun d fr m' => fr = true ∧ m' = m ∧ ∃ ns : List Int, d = .lst [.lst (ns.map .int), .int 0, .int 0, .int 4915, .int 0], fun _ _ => False, hs, st, rp, hl, ?_, ?_, fun _ _ _ _ _ _ _ _ z => z.elim⟩
  · unfold b_draws
    rw [ev_fn, ev_retO]
    simp only [↓ev_lst, ↓ev_cons, ↓ev_N, ↓ev_nil, ↓ev_C]
    intro ns hn
    obtain ⟨ns', e⟩ := cutI ns none (some 63)
    refine ⟨show 5 ≤ sizeLine by decide, trivial, rfl, ns', ?_⟩
    rw [e]
  · rintro d fr m' v w' H' c cv ⟨rfl, rfl, ns, rfl⟩
    unfold CallV at cv
    rw [if_pos rfl] at cv
    obtain ⟨a, o, rfl, h1, h2, h3, h4, h5⟩ := cv
    obtain ⟨vs', rfl, r⟩ := h3
    have le : w'.le ⟨w'.F, w'.th ++ [a], w'.cs⟩ := ⟨fun _ _ e => e, [a], rfl, rfl⟩
    have c2 := c.add (b := .bag) h1 h2 h4 h5 (bag_rel (i := 0) (j := 0) (k := 4915) (l := 0) h2 (r.mono le) ⟨by decide, by decide, by decide, by decide⟩)
    exact ok _ false _ (.ref a) _ H' c2 (by
      show Rep K _ _ _
      simp only [Rep]
      refine ⟨a, rfl, ?_⟩
      show (w'.th ++ [a])[_]? = some a
      rw [← c.st.len, List.getElem?_append_right (Nat.le_refl _), Nat.sub_self]; rfl) q
def F_pull : Fn := fun ds m Q _ => ∃ n k, ds = [.ref n, .int k] ∧ m[n]? = some .bag ∧ 0 < k ∧ k.natAbs.log2 < 9000 ∧ ∀ d : Int, 0 ≤ d → d < k → Q (.int d) false m
theorem pull_imp {k : Nat} {x : Str} (h : DefOk P wd K mg base xr k x 2 (dFn 5 b_pull)) : DefOk P wd K mg base xr k x 2 F_pull := h.imp fun vs H Q E q => by
  obtain ⟨w, ds, m, QD, ED, hs, st, rp, hl, ⟨n, c, rfl, hm, hc, hw, q⟩, ok, ex⟩ := q
  have hn : n < m.length := (List.getElem?_eq_some_iff.mp hm).1
  obtain ⟨a, ha⟩ : ∃ a, w.th[n]? = some a := ⟨_, List.getElem?_eq_getElem (by rw [st.len]; exact hn)⟩
  obtain ⟨b, ns, i, j, k', l, h1, h2, h3⟩ := st.ob n _ a hm ha
  have swap : ∀ {w' : Wd} {m1 : List SO} {H' : Hp} {o : SO}, StRel K w' m1 H' → n < m1.length → w'.th[n]? = some a → ObjRel K w' H' a o → StRel K w' (m1.set n o) H' := fun {w' m1 H' o} s hn ha ob =>
    ⟨by rw [List.length_set]; exact s.len, s.nd, s.out, fun n' o' a' e1 e2 => by
      by_cases hj : n = n'
      · subst hj
        rw [List.getElem?_set_self hn] at e1; cases e1
        rw [ha] at e2; cases e2
        exact ob
      · rw [List.getElem?_set_ne hj] at e1
        exact s.ob n' o' a' e1 e2⟩
  have st' : StRel K w (m.set n (.cel (bagL ns i j k' l))) H := swap st hn ha ⟨_, h1, by
    unfold bagL
    refine .cons ?_ (.cons of_int (.cons of_int (.cons of_int (.cons of_int .nil))))
    simp only [Rep]
    exact ⟨b, _, rfl, h2, reps_ints ns⟩⟩
  refine ⟨w, [.ref n, .int c], _, fun d fr m' => fr = false ∧ ∃ e : Int, d = .int e ∧ 0 ≤ e ∧ e < c ∧ BagIn m n m', fun _ _ => False, hs, st', rp, hl, ?_, ?_, fun _ _ _ _ _ _ _ _ z => z.elim⟩
  · exact pull_run hn h3 hc hw fun d m' g1 g2 g3 => ⟨rfl, d, rfl, g1, g2, g3⟩
  · rintro d fr m' v w' H' cc cv ⟨rfl, e, rfl, g1, g2, ns2, i2, j2, k2, l2, rfl, g3⟩
    have ha' : w'.th[n]? = some a := by
      obtain ⟨t, ht, _⟩ := cc.le.2
      rw [ht, List.getElem?_append_left (List.getElem?_eq_some_iff.mp ha).1]; exact ha
    obtain ⟨vs2, h5, h6⟩ := cc.st.ob n _ a (bag_get hn _) ha'
    have s2 := swap cc.st (by rw [List.length_set]; exact hn) ha' (bag_rel h5 h6 g3)
    have em : (m.set n (.cel (bagL ns2 i2 j2 k2 l2))).set n .bag = m := by
      rw [List.set_set]
      obtain ⟨_, e⟩ := List.getElem?_eq_some_iff.mp hm
      rw [← e, List.set_getElem_self]
    rw [em] at s2
    exact ok _ false _ v w' H' ⟨cc.le, cc.sub, s2, cc.keep, cc.fnew, cc.tnew⟩ cv (q e g1 g2)
end
end DL

/-! ### calls with keywords and defaults -/
namespace DL
open PySem PySem.Spec PyProof.Rows L2
section
variable {X : Cx} {B : Ent} {W : WX} {e : Expr} {es : List Expr} {kws : List Keyword} {fl fk : M (List D)} {x : Str} {p pos : Pos} {k n : Nat} {f : Addr} {fd : FuncData} {ps ks : List Str} {F : Fn}
theorem run_fnG {σ : LSt} {H : Hp} {Q : VK} {s : Shared} {pins : List (Addr × Obj)} {sp : Sp} {E : XK} {us : List Value} {vs : List V} {args : Args} (F : FnOk X.prog X.w X.K X.mg X.base (L2.CX X.prog X.w) k f fd ps sp) (hr : Room k X.A) (hb : BindsTo s fd args (ps.zip us)) (hx : PassesAt (L2.CX X.prog X.w) X σ E) (I : Inv X pins σ H s) (hv : Vals vs us) (h : sp vs H Q E) :
    wpAny (model X.prog X.w) X.A (call (.ref f) args.pos args.kw) (EP X pins σ Q) X.xe s :=
  wpAny_call (codeAny_mono (F.run X.A X.stack s H args us vs Q E hr I.env0 hb hv h) fun r s' hr => by
    match r, hr with
    | .ok (.ret u), hr => exact I.after hr
    | .error e, hr => exact hx _ _ _ _ _ I hr)
theorem pe_callG {sp : Sp} {E : LSt → XK} {t tk : TA} {g : List Value → List Value → List Value} {gV : List V → List V → List V} (F : FnOk X.prog X.w X.K X.mg X.base (L2.CX X.prog X.w) k f fd ps sp) (hr : Room k X.A) (hg : Gl X x) (hm : X.mg x = some (.ref f)) (hk : PySem.W.keepIn X.K (.ref f) = true) (hb : KBn X.K fd ps n ks g gV) (hx : ∀ σ, PassesAt (L2.CX X.prog X.w) X σ (E σ)) (ha : PA X (e :: es) t) (hw : PK X kws tk)
    (hall : ((backToKw pos (keywordEach kws X.env)).all fun x => x.fst.isSome) = true := by rfl) (hks : List.filterMap (fun x => x.fst) (backToKw pos (keywordEach kws X.env)) = ks := by rfl) (hdb : (x == ("__debug__" : Str)) = false := by decide) (hs : starEach (e :: es) X.env = (false, eval e X.env) :: starEach es X.env := by rfl)
    (hp : (((backTo pos (starEach (e :: es) X.env)).any fun x => x.fst) || (backToKw pos (keywordEach kws X.env)).any fun x => x.fst.isNone) = false := by rfl) :
    PE X (.Call (.Name x p) (e :: es) kws pos) (fun σ H Q => t σ H fun vs H1 => tk σ H1 fun zs H2 => vs.length = n ∧ zs.length = ks.length ∧ sp (gV vs zs) H2 Q (E σ)) := ⟨fun pins s σ H Q I h =>
  wpAny_Call_Name_kw (ld_glob I hg hm (PySem.W.callWith_KW I.kIn hk hall (wpAny_mono (ha.run pos pins s σ H _ I h) (fun us s1 hus => by
    obtain ⟨vs, H1, I1, hv, h1⟩ := hus
    refine wpAny_mono (hw.run pos pins s1 σ H1 _ I1 h1) (fun ws s2 hws => ?_) fun _ _ z => z
    obtain ⟨zs, H2, I2, hz, hn, hn2, h2⟩ := hws
    refine ⟨I2.kIn, ?_⟩
    rw [hks]
    exact run_fnG (args := { pos := us, kw := ks.zip ws }) F hr (hb.to s2 us ws I2.kIn (by rw [← hv.length]; exact hn) (by rw [← hz.length]; exact hn2)) (hx σ) I2 (hb.rel hv hz) h2) fun _ _ z => z) hp hs) hdb)⟩
theorem pe_callG0 {sp : Sp} {E : LSt → XK} {tk : TA} {g : List Value → List Value → List Value} {gV : List V → List V → List V} (F : FnOk X.prog X.w X.K X.mg X.base (L2.CX X.prog X.w) k f fd ps sp) (hr : Room k X.A) (hg : Gl X x) (hm : X.mg x = some (.ref f)) (hk : PySem.W.keepIn X.K (.ref f) = true) (hb : KBn X.K fd ps 0 ks g gV) (hx : ∀ σ, PassesAt (L2.CX X.prog X.w) X σ (E σ)) (hw : PK X kws tk)
    (hall : ((backToKw pos (keywordEach kws X.env)).all fun x => x.fst.isSome) = true := by rfl) (hks : List.filterMap (fun x => x.fst) (backToKw pos (keywordEach kws X.env)) = ks := by rfl) (hdb : (x == ("__debug__" : Str)) = false := by decide)
    (hp : (((backTo pos (starEach [] X.env)).any fun x => x.fst) || (backToKw pos (keywordEach kws X.env)).any fun x => x.fst.isNone) = false := by rfl) :
    PE X (.Call (.Name x p) [] kws pos) (fun σ H Q => tk σ H fun zs H2 => zs.length = ks.length ∧ sp (gV [] zs) H2 Q (E σ)) := ⟨fun pins s σ H Q I h =>
  wpAny_Call_Name_kw (ld_glob I hg hm (PySem.W.callWith_KW0 I.kIn hk hall (wpAny_mono (hw.run pos pins s σ H _ I h) (fun ws s2 hws => by
    obtain ⟨zs, H2, I2, hz, hn2, h2⟩ := hws
    refine ⟨I2.kIn, ?_⟩
    rw [hks]
    exact run_fnG (args := { pos := [], kw := ks.zip ws }) F hr (hb.to s2 [] ws I2.kIn rfl (by rw [← hz.length]; exact hn2)) (hx σ) I2 (hb.rel .nil hz) h2) fun _ _ z => z) hp) hdb)⟩
/-- a def as a call with n places and the keywords ks finds it: gD gives its arguments in their order -/
structure DefKw (P : Program) (wd : World) (K : PySem.W.Frag) (mg : Str → Option Value) (base : Heap) (xr : XR) (k : Nat) (x : Str) (n : Nat) (ks : List Str) (m : Nat) (gD : List D → List D → List D) (F : Fn) : Prop where
  ex : ∃ f fd ps g gV, FnOk P wd K mg base (L2.CX P wd) k f fd ps (spD K xr m F) ∧ mg x = some (.ref f) ∧ PySem.W.keepIn K (.ref f) = true ∧ KBn K fd ps n ks g gV ∧ ∀ w ds vs es zs, Reps K w ds vs → Reps K w es zs → Reps K w (gD ds es) (gV vs zs)
abbrev DK (X : Cx) (B : Ent) (W : WX) (kws : List Keyword) (f : M (List D)) : Prop := PK X kws (tA X.K B W f)
theorem dk_nil : DK X B W [] daNil := by
  refine ⟨fun pos pins s σ H Q I h => ?_⟩
  obtain ⟨w, s, QD, ED, r, q, p⟩ := h
  exact pk_nil.run pos pins _ σ H Q I (tG.ret (R := rA _) r .nil q p)
theorem dk_cons {nm : Option Str} {kp : Pos} {f : M D} (h : DE X B W e f) (t : DK X B W kws fk) : DK X B W (⟨nm, e, kp⟩ :: kws) (daCons f fk) := by
  refine ⟨fun pos pins s σ H Q I q => ?_⟩
  refine (pk_cons (nm := nm) (kpos := kp) h t).run pos pins _ σ H Q I ?_
  refine tG.seq (back_A _) q fun d s v w H' QD ED _ _ r rv z pp => ?_
  refine ⟨w, s, _, _, r, z, ⟨fun ds s2 vs w2 H2 t2 r2 rvs z2 => ?_, (pp.mono (back_A _) (.refl ..)).ex⟩⟩
  exact (pp.mono (back_A _) t2).ok _ s2 _ w2 H2 (.refl ..) r2 (.cons (rv.mono t2.le) rvs) z2
def dCallG (n kn m : Nat) (gD : List D → List D → List D) (F : Fn) (fl fk : M (List D)) : M D := fl.bnd fun ds => fk.bnd fun es s Q E => ds.length = n ∧ es.length = kn ∧ (gD ds es).length = m ∧ F (gD ds es) s.m (fun d _ m' => Q d ⟨s.d, m'⟩) fun e m' => E e ⟨s.d, m'⟩
def dCallGO (n kn m : Nat) (gD : List D → List D → List D) (F : Fn) (fl fk : M (List D)) : M D := fl.bnd fun ds => fk.bnd fun es s Q E => ds.length = n ∧ es.length = kn ∧ (gD ds es).length = m ∧ F (gD ds es) s.m (fun d fr m' => fr = true ∧ Q d ⟨s.d, m'⟩) fun e m' => E e ⟨s.d, m'⟩
section
variable {m : Nat} {gD : List D → List D → List D}
theorem de_callG (G : DefKw X.prog X.w X.K X.mg X.base B.X k x n ks m gD F) (hr : Room k X.A) (tk : Takes X W) (ha : DA X B W (e :: es) fl) (hw : DK X B W kws fk) (hg : Gl X x := by rfl)
    (hall : ((backToKw pos (keywordEach kws X.env)).all fun x => x.fst.isSome) = true := by rfl) (hks : List.filterMap (fun x => x.fst) (backToKw pos (keywordEach kws X.env)) = ks := by rfl) (hdb : (x == ("__debug__" : Str)) = false := by decide) (hs : starEach (e :: es) X.env = (false, eval e X.env) :: starEach es X.env := by rfl)
    (hp : (((backTo pos (starEach (e :: es) X.env)).any fun x => x.fst) || (backToKw pos (keywordEach kws X.env)).any fun x => x.fst.isNone) = false := by rfl) :
    DE X B W (.Call (.Name x p) (e :: es) kws pos) (dCallG n ks.length m gD F fl fk) := by
  obtain ⟨f, fd, ps, g, gV, G, hm, hk, hb, hre⟩ := G.ex
  exact PE.weak (pe_callG (E := WE W) G hr hg hm hk hb (fun σ => passAt tk σ) ha hw hall hks hdb hs hp) fun σ H Q q => by
    refine tG.seq (back_E _) q fun ds s vs w H' QD ED _ _ r rv z pp => ?_
    refine ⟨w, s, _, _, r, z, ⟨fun es s2 zs w2 H2 t2 r2 rz z2 => ?_, pp.ex⟩⟩
    have rv : Reps X.K w ds vs := rv
    have rz : Reps X.K w2 es zs := rz
    obtain ⟨h1, h2, h3, z2⟩ := z2
    have rr := hre w2 ds vs es zs (rv.mono t2.le) rz
    exact ⟨by rw [rv.length]; exact h1, by rw [rz.length]; exact h2, spD_of r2 rr (by rw [rr.length]; exact h3) z2 (pp.mono (back_E _) t2)⟩
theorem do_callG (G : DefKw X.prog X.w X.K X.mg X.base B.X k x n ks m gD F) (hr : Room k X.A) (tk : Takes X W) (ha : DA X B W (e :: es) fl) (hw : DK X B W kws fk) (hg : Gl X x := by rfl)
    (hall : ((backToKw pos (keywordEach kws X.env)).all fun x => x.fst.isSome) = true := by rfl) (hks : List.filterMap (fun x => x.fst) (backToKw pos (keywordEach kws X.env)) = ks := by rfl) (hdb : (x == ("__debug__" : Str)) = false := by decide) (hs : starEach (e :: es) X.env = (false, eval e X.env) :: starEach es X.env := by rfl)
    (hp : (((backTo pos (starEach (e :: es) X.env)).any fun x => x.fst) || (backToKw pos (keywordEach kws X.env)).any fun x => x.fst.isNone) = false := by rfl) :
    DO X B W (.Call (.Name x p) (e :: es) kws pos) (dCallGO n ks.length m gD F fl fk) := by
  obtain ⟨f, fd, ps, g, gV, G, hm, hk, hb, hre⟩ := G.ex
  exact PE.weak (pe_callG (E := WE W) G hr hg hm hk hb (fun σ => passAt tk σ) ha hw hall hks hdb hs hp) fun σ H Q q => by
    refine tG.seq (back_O _ _) q fun ds s vs w H' QD ED _ _ r rv z pp => ?_
    refine ⟨w, s, _, _, r, z, ⟨fun es s2 zs w2 H2 t2 r2 rz z2 => ?_, pp.ex⟩⟩
    have rv : Reps X.K w ds vs := rv
    have rz : Reps X.K w2 es zs := rz
    obtain ⟨h1, h2, h3, z2⟩ := z2
    have rr := hre w2 ds vs es zs (rv.mono t2.le) rz
    exact ⟨by rw [rv.length]; exact h1, by rw [rz.length]; exact h2, spD_ofO r2 rr (by rw [rr.length]; exact h3) z2 (pp.mono (back_O _ _) t2)⟩
theorem de_callG0 (G : DefKw X.prog X.w X.K X.mg X.base B.X k x 0 ks m gD F) (hr : Room k X.A) (tk : Takes X W) (hw : DK X B W kws fk) (hg : Gl X x := by rfl)
    (hall : ((backToKw pos (keywordEach kws X.env)).all fun x => x.fst.isSome) = true := by rfl) (hks : List.filterMap (fun x => x.fst) (backToKw pos (keywordEach kws X.env)) = ks := by rfl) (hdb : (x == ("__debug__" : Str)) = false := by decide)
    (hp : (((backTo pos (starEach [] X.env)).any fun x => x.fst) || (backToKw pos (keywordEach kws X.env)).any fun x => x.fst.isNone) = false := by rfl) :
    DE X B W (.Call (.Name x p) [] kws pos) (dCallG 0 ks.length m gD F daNil fk) := by
  obtain ⟨f, fd, ps, g, gV, G, hm, hk, hb, hre⟩ := G.ex
  exact PE.weak (pe_callG0 (E := WE W) G hr hg hm hk hb (fun σ => passAt tk σ) hw hall hks hdb hp) fun σ H Q q => by
    refine tG.seq (back_E _) q fun es s2 zs w2 H2 QD ED _ _ r2 rz z2 pp => ?_
    have rz : Reps X.K w2 es zs := rz
    obtain ⟨h1, h2, h3, z2⟩ := z2
    have rr := hre w2 [] [] es zs .nil rz
    exact ⟨by rw [rz.length]; exact h2, spD_of r2 rr (by rw [rr.length]; exact h3) z2 pp⟩
theorem do_callG0 (G : DefKw X.prog X.w X.K X.mg X.base B.X k x 0 ks m gD F) (hr : Room k X.A) (tk : Takes X W) (hw : DK X B W kws fk) (hg : Gl X x := by rfl)
    (hall : ((backToKw pos (keywordEach kws X.env)).all fun x => x.fst.isSome) = true := by rfl) (hks : List.filterMap (fun x => x.fst) (backToKw pos (keywordEach kws X.env)) = ks := by rfl) (hdb : (x == ("__debug__" : Str)) = false := by decide)
    (hp : (((backTo pos (starEach [] X.env)).any fun x => x.fst) || (backToKw pos (keywordEach kws X.env)).any fun x => x.fst.isNone) = false := by rfl) :
    DO X B W (.Call (.Name x p) [] kws pos) (dCallGO 0 ks.length m gD F daNil fk) := by
  obtain ⟨f, fd, ps, g, gV, G, hm, hk, hb, hre⟩ := G.ex
  exact PE.weak (pe_callG0 (E := WE W) G hr hg hm hk hb (fun σ => passAt tk σ) hw hall hks hdb hp) fun σ H Q q => by
    refine tG.seq (back_O _ _) q fun es s2 zs w2 H2 QD ED _ _ r2 rz z2 pp => ?_
    have rz : Reps X.K w2 es zs := rz
    obtain ⟨h1, h2, h3, z2⟩ := z2
    have rr := hre w2 [] [] es zs .nil rz
    exact ⟨by rw [rz.length]; exact h2, spD_ofO r2 rr (by rw [rr.length]; exact h3) z2 pp⟩
end
theorem ev_callG {n kn m : Nat} {gD : List D → List D → List D} {F : Fn} {fl fk : M (List D)} {s : S} {Q : D → S → Prop} {E : Ex → S → Prop} : dCallG n kn m gD F fl fk s Q E = fl s (fun ds s1 => fk s1 (fun es s2 => ds.length = n ∧ es.length = kn ∧ (gD ds es).length = m ∧ F (gD ds es) s2.m (fun d _ m' => Q d ⟨s2.d, m'⟩) fun e m' => E e ⟨s2.d, m'⟩) E) E := id rfl
theorem ev_callGO {n kn m : Nat} {gD : List D → List D → List D} {F : Fn} {fl fk : M (List D)} {s : S} {Q : D → S → Prop} {E : Ex → S → Prop} : dCallGO n kn m gD F fl fk s Q E = fl s (fun ds s1 => fk s1 (fun es s2 => ds.length = n ∧ es.length = kn ∧ (gD ds es).length = m ∧ F (gD ds es) s2.m (fun d fr m' => fr = true ∧ Q d ⟨s2.d, m'⟩) fun e m' => E e ⟨s2.d, m'⟩) E) E := id rfl
/-- keywords that name all places in their order -/
theorem KBn.kw {K : PySem.W.Frag} {x qual : Str} {st : Stmt} {f : Addr} {fd : FuncData} {ps : List Str} (F : Fun K x qual st f fd)
    (h : ∀ (kV doc pm : Value) (an : Option Addr) (cdv ct : Value) (us : List Value), us.length = ps.length → bindArgs (PySem.W.fnOf x qual (defArgs st) (defBody st) (defScope st) Value.none kV doc pm an cdv ct) { pos := [], kw := ps.zip us } = pure (ps.zip us)) :
    KBn K fd ps 0 ps (fun _ ws => ws) (fun _ zs => zs) := by
  obtain ⟨oc, od, kV, doc, pm, an, cdv, ct, osl, e, _, _⟩ := F.ex
  refine ⟨fun s us ws hi hu hw => ?_, fun _ h => h⟩
  have : us = [] := List.length_eq_zero_iff.mp hu
  subst this e
  exact BindsTo.of_eq (h kV doc pm an cdv ct ws hw)
end
end DL

/-! ### comprehensions read; the defs that many texts share -/
namespace DL
open PySem PySem.Spec PyProof.Rows L2
def ownS : Option (Option (D × Bool)) → Bool
  | some (some (_, b)) => b
  | _ => false
def noOwnB (vs : List Nat) (d : Sl) : Bool := match vs with
  | [] => true
  | v :: vs => !ownS d[v]? && noOwnB vs d
theorem noOwn_iff (vs : List Nat) (d : Sl) : noOwn vs d = (noOwnB vs d = true) := by
  induction vs with
  | nil => simp [noOwn, noOwnB]
  | cons v vs ih =>
    have : noOwn (v :: vs) d = (ownS d[v]? = false ∧ noOwn vs d) := by
      apply propext
      unfold noOwn
      constructor
      · intro h
        refine ⟨?_, fun i hi x => h i (List.mem_cons_of_mem _ hi) x⟩
        have := h v (List.mem_cons_self)
        rcases e : d[v]? with _ | _ | ⟨x, b⟩ <;> simp only [ownS]
        cases b
        · rfl
        · exact absurd e (this x)
      · rintro ⟨h1, h2⟩ i hi x e
        rcases List.mem_cons.mp hi with rfl | hi
        · rw [e] at h1; simp [ownS] at h1
        · exact h2 i hi x e
    rw [this, ih]
    simp only [noOwnB, Bool.and_eq_true, Bool.not_eq_true']
theorem nob0 (d : Sl) : noOwnB [] d = true := id rfl
theorem nob1 (v : Nat) (vs : List Nat) (d : Sl) : noOwnB (v :: vs) d = (!ownS d[v]? && noOwnB vs d) := id rfl
theorem nob2 : ownS (some none) = false := id rfl
theorem nob3 (x : D) (b : Bool) : ownS (some (some (x, b))) = b := id rfl
theorem ev_wipe (d : Sl) (m : List SO) (vs : List Nat) : S.wipe ⟨d, m⟩ vs = ⟨wipeD d vs, m⟩ := id rfl
theorem wipe0 (d : Sl) : wipeD d [] = d := id rfl
theorem wipe1 (d : Sl) (v : Nat) (vs : List Nat) : wipeD d (v :: vs) = (wipeD d vs).set v none := id rfl
theorem rest0 (d0 d1 : Sl) : restD d0 d1 [] = d1 := id rfl
theorem rest1 (d0 d1 : Sl) (v : Nat) (vs : List Nat) : restD d0 d1 (v :: vs) = (restD d0 d1 vs).set v ((d0[v]?).getD none) := id rfl
def isD (d : D) (Ts : List String) : Bool := match tyD d with
  | some t => Ts.any (isT t)
  | none => false
theorem ev_isq {d : D} (Ts : List String) (h : (tyD d).isSome = true) : isQ d Ts = some (isD d Ts) := by
  unfold isQ isD
  cases e : tyD d with
  | none => rw [e] at h; cases h
  | some t => rfl
theorem isT_NoneType_bool : isT "NoneType" "bool" = false := id (by decide)
theorem isT_NoneType_int : isT "NoneType" "int" = false := id (by decide)
theorem isT_NoneType_str : isT "NoneType" "str" = false := id (by decide)
theorem isT_NoneType_tuple : isT "NoneType" "tuple" = false := id (by decide)
theorem isT_NoneType_list : isT "NoneType" "list" = false := id (by decide)
theorem isT_NoneType_dict : isT "NoneType" "dict" = false := id (by decide)
theorem isT_bool_bool : isT "bool" "bool" = true := id (by decide)
theorem isT_bool_int : isT "bool" "int" = true := id (by decide)
theorem isT_bool_str : isT "bool" "str" = false := id (by decide)
theorem isT_bool_tuple : isT "bool" "tuple" = false := id (by decide)
theorem isT_bool_list : isT "bool" "list" = false := id (by decide)
theorem isT_bool_dict : isT "bool" "dict" = false := id (by decide)
theorem isT_int_bool : isT "int" "bool" = false := id (by decide)
theorem isT_int_int : isT "int" "int" = true := id (by decide)
theorem isT_int_str : isT "int" "str" = false := id (by decide)
theorem isT_int_tuple : isT "int" "tuple" = false := id (by decide)
theorem isT_int_list : isT "int" "list" = false := id (by decide)
theorem isT_int_dict : isT "int" "dict" = false := id (by decide)
theorem isT_str_bool : isT "str" "bool" = false := id (by decide)
theorem isT_str_int : isT "str" "int" = false := id (by decide)
theorem isT_str_str : isT "str" "str" = true := id (by decide)
theorem isT_str_tuple : isT "str" "tuple" = false := id (by decide)
theorem isT_str_list : isT "str" "list" = false := id (by decide)
theorem isT_str_dict : isT "str" "dict" = false := id (by decide)
theorem isT_tuple_bool : isT "tuple" "bool" = false := id (by decide)
theorem isT_tuple_int : isT "tuple" "int" = false := id (by decide)
theorem isT_tuple_str : isT "tuple" "str" = false := id (by decide)
theorem isT_tuple_tuple : isT "tuple" "tuple" = true := id (by decide)
theorem isT_tuple_list : isT "tuple" "list" = false := id (by decide)
theorem isT_tuple_dict : isT "tuple" "dict" = false := id (by decide)
theorem isT_list_bool : isT "list" "bool" = false := id (by decide)
theorem isT_list_int : isT "list" "int" = false := id (by decide)
theorem isT_list_str : isT "list" "str" = false := id (by decide)
theorem isT_list_tuple : isT "list" "tuple" = false := id (by decide)
theorem isT_list_list : isT "list" "list" = true := id (by decide)
theorem isT_list_dict : isT "list" "dict" = false := id (by decide)
theorem isT_dict_bool : isT "dict" "bool" = false := id (by decide)
theorem isT_dict_int : isT "dict" "int" = false := id (by decide)
theorem isT_dict_str : isT "dict" "str" = false := id (by decide)
theorem isT_dict_tuple : isT "dict" "tuple" = false := id (by decide)
theorem isT_dict_list : isT "dict" "list" = false := id (by decide)
theorem isT_dict_dict : isT "dict" "dict" = true := id (by decide)
theorem isQ_NoneType (Ts : List String) : isQ (.non) Ts = some (Ts.any (isT "NoneType")) := id rfl
theorem isQ_bool (b : Bool) (Ts : List String) : isQ (.bl b) Ts = some (Ts.any (isT "bool")) := id rfl
theorem isQ_int (i : Int) (Ts : List String) : isQ (.int i) Ts = some (Ts.any (isT "int")) := id rfl
theorem isQ_str (z : Str) (Ts : List String) : isQ (.str z) Ts = some (Ts.any (isT "str")) := id rfl
theorem isQ_tuple (l : List D) (Ts : List String) : isQ (.tup l) Ts = some (Ts.any (isT "tuple")) := id rfl
theorem isQ_list (l : List D) (Ts : List String) : isQ (.lst l) Ts = some (Ts.any (isT "list")) := id rfl
theorem isQ_dict (k : List Key) (l : List D) (Ts : List String) : isQ (.dct k l) Ts = some (Ts.any (isT "dict")) := id rfl
theorem isNon_bl (b : Bool) : D.isNon (.bl b) = false := id rfl
theorem isNon_int (i : Int) : D.isNon (.int i) = false := id rfl
theorem isNon_str (z : Str) : D.isNon (.str z) = false := id rfl
theorem isNon_tup (l : List D) : D.isNon (.tup l) = false := id rfl
theorem isNon_lst (l : List D) : D.isNon (.lst l) = false := id rfl
theorem isNon_dct (k : List Key) (l : List D) : D.isNon (.dct k l) = false := id rfl
theorem isNon_ref (n : Nat) : D.isNon (.ref n) = false := id rfl
theorem isNon_non : D.isNon .non = true := id rfl
theorem blsIn_L (l : List D) : blsIn [.lst l] = blsOf l := id rfl
theorem intsIn_L (l : List D) : intsIn [.lst l] = intsOf l := id rfl
theorem strsIn_L (l : List D) : strsIn (.lst l) = strsOf l := id rfl
theorem strsIn_T (l : List D) : strsIn (.tup l) = strsOf l := id rfl
theorem blsOf_map {α : Type} (g : α → Bool) (l : List α) : blsOf (l.map fun x => D.bl (g x)) = some (l.map g) := by
  induction l with
  | nil => rfl
  | cons x l ih => simp only [List.map_cons, blsOf, ih, Option.map_some]
theorem intsOf_map {α : Type} (g : α → Int) (l : List α) : intsOf (l.map fun x => D.int (g x)) = some (l.map g) := by
  induction l with
  | nil => rfl
  | cons x l ih => simp only [List.map_cons, intsOf, ih, Option.map_some]
theorem strsOf_map {α : Type} (g : α → Str) (l : List α) : strsOf (l.map fun x => D.str (g x)) = some (l.map g) := by
  induction l with
  | nil => rfl
  | cons x l ih => simp only [List.map_cons, strsOf, ih, Option.map_some]
/-! comprehensions, by what each turn may give -/
inductive All2 {α β : Type} (P : α → β → Prop) : List α → List β → Prop where
  | nil : All2 P [] []
  | cons {x y xs ys} (h : P x y) (t : All2 P xs ys) : All2 P (x :: xs) (y :: ys)
theorem All2.length {α β : Type} {P : α → β → Prop} {xs : List α} {ys : List β} (h : All2 P xs ys) : xs.length = ys.length := by
  induction h with
  | nil => rfl
  | cons _ _ ih => simp [ih]
theorem All2.imp {α β : Type} {P P' : α → β → Prop} {xs : List α} {ys : List β} (h : All2 P xs ys) (k : ∀ x y, P x y → P' x y) : All2 P' xs ys := by
  induction h with
  | nil => exact .nil
  | cons a _ ih => exact .cons (k _ _ a) ih
theorem All2.map {α β : Type} {g : α → β} {xs : List α} {ys : List β} (h : All2 (fun x y => y = g x) xs ys) : ys = xs.map g := by
  induction h with
  | nil => rfl
  | cons a _ ih => rw [a, ih]; rfl
theorem All2.mem {α β : Type} {P : α → β → Prop} {xs : List α} {ys : List β} (h : All2 P xs ys) : ∀ y ∈ ys, ∃ x ∈ xs, P x y := by
  induction h with
  | nil => intro y hy; cases hy
  | cons a _ ih =>
    intro y hy
    rcases List.mem_cons.mp hy with rfl | hy
    · exact ⟨_, List.mem_cons_self, a⟩
    · obtain ⟨x, hx, p⟩ := ih y hy
      exact ⟨x, List.mem_cons_of_mem _ hx, p⟩
theorem fold_all {α : Type} (f : α → D) {vs : List Nat} {t : Tg} {tt : M Bool} {elt : M D} {s : S} {E : Ex → S → Prop} (P : α → D → Prop) : ∀ {l : List α} {acc : List D} {Q : List D → S → Prop},
    (∀ d ∈ l, ∃ s1, t.put (f d) s = some s1 ∧ s1.wipe vs = s ∧ (∀ QT, QT true s1 → tt s1 QT E) ∧ ∀ Q', (∀ y, P d y → Q' y s1) → elt s1 Q' E) → acc.length + l.length ≤ sizeLine →
    (∀ ys, All2 P l ys → Q (acc ++ ys) s) → dFold vs t tt elt (l.map f) acc s Q E
  | [], acc, Q, _, _, k => by
    have := k [] .nil
    rw [List.append_nil] at this
    exact this
  | d :: r, acc, Q, h, hl, k => by
    obtain ⟨s1, e, w, a, b⟩ := h d List.mem_cons_self
    rw [List.length_cons] at hl
    rw [List.map_cons]
    unfold dFold
    rw [e, onSome_some]
    refine a _ ?_
    rw [if_pos rfl]
    refine b _ fun y hy => ⟨by omega, ?_⟩
    rw [w]
    refine fold_all f P (fun d hd => h d (List.mem_cons_of_mem _ hd)) (by simp; omega) fun ys hys => ?_
    rw [List.append_assoc]
    exact k _ (.cons hy hys)
/-- .. when each turn gives one value -/
theorem fold_map {α : Type} (f : α → D) {vs : List Nat} {t : Tg} {tt : M Bool} {elt : M D} {s : S} {E : Ex → S → Prop} (g : α → D) {l : List α} {acc : List D} {Q : List D → S → Prop}
    (h : ∀ d ∈ l, ∃ s1, t.put (f d) s = some s1 ∧ s1.wipe vs = s ∧ (∀ QT, QT true s1 → tt s1 QT E) ∧ ∀ Q', Q' (g d) s1 → elt s1 Q' E) (hl : acc.length + l.length ≤ sizeLine)
    (k : Q (acc ++ l.map g) s) : dFold vs t tt elt (l.map f) acc s Q E :=
  fold_all f (fun d y => y = g d) (fun d hd => by
    obtain ⟨s1, e, w, a, b⟩ := h d hd
    exact ⟨s1, e, w, a, fun Q' hQ => b Q' (hQ _ rfl)⟩) hl fun ys hys => by rw [hys.map]; exact k
/-- .. with a filter: each turn tells whether it keeps -/
theorem fold_filt {α : Type} (f : α → D) {vs : List Nat} {t : Tg} {tt : M Bool} {elt : M D} {s : S} {E : Ex → S → Prop} (c : α → Bool) (g : α → D) : ∀ {l : List α} {acc : List D} {Q : List D → S → Prop},
    (∀ d ∈ l, ∃ s1, t.put (f d) s = some s1 ∧ s1.wipe vs = s ∧ (∀ QT, QT (c d) s1 → tt s1 QT E) ∧ (c d = true → ∀ Q', Q' (g d) s1 → elt s1 Q' E)) → acc.length + l.length ≤ sizeLine →
    Q (acc ++ (l.filter c).map g) s → dFold vs t tt elt (l.map f) acc s Q E
  | [], acc, Q, _, _, k => by
    simp only [List.filter_nil, List.map_nil, List.append_nil] at k
    exact k
  | d :: r, acc, Q, h, hl, k => by
    obtain ⟨s1, e, w, a, b⟩ := h d List.mem_cons_self
    rw [List.length_cons] at hl
    rw [List.map_cons]
    unfold dFold
    rw [e, onSome_some]
    refine a _ ?_
    cases hc : c d with
    | true =>
      rw [if_pos rfl]
      refine b hc _ ⟨by omega, ?_⟩
      rw [w]
      refine fold_filt f c g (fun d hd => h d (List.mem_cons_of_mem _ hd)) (by simp; omega) ?_
      rw [List.filter_cons, if_pos hc, List.map_cons] at k
      rw [List.append_assoc]
      exact k
    | false =>
      rw [if_neg Bool.false_ne_true]
      rw [w]
      refine fold_filt f c g (fun d hd => h d (List.mem_cons_of_mem _ hd)) (by omega) ?_
      rw [List.filter_cons, if_neg (by rw [hc]; exact Bool.false_ne_true)] at k
      exact k
theorem fold_id {vs : List Nat} {t : Tg} {tt : M Bool} {elt : M D} {l acc : List D} {s : S} {Q : List D → S → Prop} {E : Ex → S → Prop} (h : dFold vs t tt elt (l.map id) acc s Q E) : dFold vs t tt elt l acc s Q E := by rw [List.map_id] at h; exact h
local macro_rules | `(tactic| array_get_dec) => `(tactic| ((try simp (config := {dsimp := false}) only [↓onSome_T, ↓ite_T, ↓varK_T, ↓movK_T, ↓retK_T, ↓loop_T, ↓fold_T, ↓while_T, Int.reducePow, Int.reduceNeg, Int.reduceLE, Int.reduceLT, Nat.reduceMul, Nat.reduceLeDiff, Int.reduceAdd, List.map_cons, List.map_nil, blsIn_L, intsIn_L, strsIn_L, strsIn_T, blsOf_map, intsOf_map, strsOf_map, List.nil_append, isNon_bl, isNon_int, isNon_str, isNon_tup, isNon_lst, isNon_dct, isNon_ref, isNon_non, eq_self, isT_NoneType_bool, isT_NoneType_int, isT_NoneType_str, isT_NoneType_tuple, isT_NoneType_list, isT_NoneType_dict, isT_bool_bool, isT_bool_int, isT_bool_str, isT_bool_tuple, isT_bool_list, isT_bool_dict, isT_int_bool, isT_int_int, isT_int_str, isT_int_tuple, isT_int_list, isT_int_dict, isT_str_bool, isT_str_int, isT_str_str, isT_str_tuple, isT_str_list, isT_str_dict, isT_tuple_bool, isT_tuple_int, isT_tuple_str, isT_tuple_tuple, isT_tuple_list, isT_tuple_dict, isT_list_bool, isT_list_int, isT_list_str, isT_list_tuple, isT_list_list, isT_list_dict, isT_dict_bool, isT_dict_int, isT_dict_str, isT_dict_tuple, isT_dict_list, isT_dict_dict, isQ_NoneType, isQ_bool, isQ_int, isQ_str, isQ_tuple, isQ_list, isQ_dict, List.any_cons, List.any_nil, ↓ev_callG, ↓ev_callGO, ↓noOwn_iff, nob0, nob1, nob2, nob3, ↓ev_wipe, wipe0, wipe1, rest0, rest1, Option.getD_some, Int.reduceToNat, ixN5_0, ixN5_1, ixN5_2, ixN5_3, ixN5_4, ev_eqQI, ev_eqQS, ev_eqQB, ev_lenL, ev_lenT, List.set_set, ↓ev_ret, ↓ev_stuck, ↓ev_bnd, ↓ev_var, ↓ev_move, ↓ev_C, ↓ev_op2, ↓ev_addI, ↓ev_addS, ↓ev_addT, ↓ev_sub, ↓ev_mul, ↓ev_mod, ↓ev_div, ↓ev_divW, ↓ev_pow, ↓ev_lt, ↓ev_le, ↓ev_gt, ↓ev_ge, ↓ev_cat, ↓ev_rep, ↓ev_isN, ↓ev_notN, ↓ev_eqI, ↓ev_eqS, ↓ev_eqB, ↓ev_neI, ↓ev_neS, ↓ev_neB, ↓ev_eq, ↓ev_ne, ↓ev_in, ↓ev_notin, ↓ev_truth, ↓ev_val, ↓ev_test, ↓ev_andT, ↓ev_orT, ↓ev_notT, ↓ev_andV, ↓ev_orV, ↓ev_notV, ↓ev_if, ↓ev_chain, ↓ev_nil, ↓ev_cons, ↓ev_args0, ↓ev_itemsL, ↓ev_itemsT, ↓ev_star, ↓ev_tup, ↓ev_lst, ↓ev_ixL, ↓ev_ixT, ↓ev_ixS, ↓ev_part, ↓ev_slT, ↓ev_slL, ↓ev_slT1, ↓ev_slL1, ↓ev_N, ↓ev_len, ↓ev_tupT, ↓ev_tupL, ↓ev_lstT, ↓ev_lstL, ↓ev_isi, ↓ev_walkL, ↓ev_walkT, ↓ev_walkS, ↓ev_range1, ↓ev_range2, ↓ev_zipL, ↓ev_zipT, ↓ev_enum, ↓ev_putN, ↓ev_putT, ↓ev_sets0, ↓ev_sets1, ↓ev_comp, ↓ev_true, ↓ev_next, ↓ev_seq, ↓ev_brk, ↓ev_cnt, ↓ev_drop, ↓ev_retS, ↓ev_retO, ↓ev_retN, ↓ev_retV, ↓ev_ifS, ↓ev_set, ↓ev_setO, ↓ev_for, ↓ev_call, ↓ev_callO, ↓ev_callN, ↓ev_callNO, ↓ev_app, ↓ev_ext, ↓ev_extD, ↓ev_lstAt, ev_lstK, ↓ev_look, ev_lookK, ↓ev_lenV, ↓ev_ixV, ↓ev_inV, ↓ev_ixQL, ↓ev_ixQT, ↓ev_ixQS, ↓ev_ixQR, ev_ixR, ↓ev_join, ↓ev_joinD, ↓ev_all, ↓ev_any, ↓ev_sum, ↓ev_intI, ↓ev_intB, ↓ev_celAt, ev_celL, ev_celK, ↓ev_place, ↓ev_setIx, ↓ev_par, ↓ev_parNx, ↓ev_neg, ↓ev_negD, ↓ev_fn, ↓st1, ↓st2, ↓st3, ↓st4, ↓atI_0, ↓atI_1, ↓atI_2, ↓atI_3, ↓atI_4, List.getElem?_cons_zero, List.getElem?_cons_succ, List.getElem?_nil, List.set_cons_zero, List.set_cons_succ, List.replicate_succ, List.replicate_zero, Option.map_some, Option.isSome_some, true_and, and_true, List.length_cons, List.length_nil, Nat.reduceAdd, Bool.false_eq_true, if_true, if_false, beq_self_eq_true, Bool.true_or, Bool.or_true, Bool.false_or, Bool.or_false, Bool.not_true, Bool.not_false, Bool.and_true, Bool.true_and, decide_true, decide_false, decide_eq_true_eq, onSomeT_some, onSomeT_none, ifT_true, ifT_false, loopT_nil, ev_varF, ev_varT, ev_moveT, ev_retVF, ev_retVT]); (try simp only [onSomeT_b, ifT_b, varKT_b, movKT_b, retKT_b, loopT_b, foldT_b, whileT_b])))
def b_any : MS :=
  (dRet (dIxV 1 (dCallN 2 F_pull (daCons (dVar 0) (daCons (dLenV 1) daNil)))))
def F_any : Fn := dFn 2 b_any
def b_like (Fr_like : Fn) : MS :=
  (dSeq (dIfS (dVal (dIsi ["list", "tuple"] (dVar 1))) (dSeq (dIfS (dOrT (dTest dNe (dIsi ["list"] (dVar 0)) (dIsi ["list"] (dVar 1))) (dTest dNe (dIsi ["tuple"] (dVar 0)) (dIsi ["tuple"] (dVar 1)))) (dRet (dC (.bl false))) dNext)
    (dRet (dAndV (dOp2 dEq (dLenV 0) (dLenV 1)) (dN dAll (daCons (dComp [2, 3] (.tp [2, 3]) (((daCons (dVar 0) (daCons (dVar 1) daNil))).bnd dZip) mTrue (dCallN 2 Fr_like (daCons (dVar 2) (daCons (dVar 3) daNil)))) daNil))))) dNext)
    (dSeq (dIfS (dOrT (dTest dIsN (dVar 1) (dC .non)) (dTest dIsN (dVar 0) (dC .non))) (dRet (dAndV (dOp2 dIsN (dVar 1) (dC .non)) (dOp2 dIsN (dVar 0) (dC .non)))) dNext)
    (dSeq (dIfS (dOrT (dTest dNe (dIsi ["bool"] (dVar 0)) (dIsi ["bool"] (dVar 1))) (dTest dNe (dIsi ["int"] (dVar 0)) (dIsi ["int"] (dVar 1)))) (dRet (dC (.bl false))) dNext)
    (dRet (dAndV (dOp2 dEq (dIsi ["str"] (dVar 0)) (dIsi ["str"] (dVar 1))) (dOp2 dEq (dVar 0) (dVar 1)))))))
def F_like : Nat → Fn
  | 0 => fun _ _ _ _ => False
  | j + 1 => dFn 4 (b_like (F_like j))
/-- a tree of depth at most j -/
def Pl : Nat → D → Prop
  | 0, _ => False
  | _ + 1, .non => True
  | _ + 1, .bl _ => True
  | _ + 1, .int _ => True
  | _ + 1, .str _ => True
  | j + 1, .tup l => l.length ≤ sizeLine ∧ ∀ d ∈ l, Pl j d
  | j + 1, .lst l => l.length ≤ sizeLine ∧ ∀ d ∈ l, Pl j d
  | _ + 1, _ => False
theorem atI_lt {α : Type} {l : List α} {i : Int} (h0 : 0 ≤ i) (h1 : i < l.length) : ∃ x, atI l i = some x ∧ x ∈ l := ⟨_, atI_at h0 h1, List.getElem_mem _⟩
theorem log_small {n : Nat} (h : n ≤ sizeLine) : (n : Int).natAbs.log2 < 9000 := by
  rw [Int.natAbs_natCast]
  by_cases h0 : n = 0
  · subst h0; decide
  · exact Nat.lt_trans ((Nat.log2_lt h0).mpr (show n < 2 ^ 64 from Nat.lt_of_le_of_lt h (by decide))) (by decide)
theorem any_of {m : List SO} {n : Nat} {x : D} {Q : D → Bool → List SO → Prop} {E : Ex → List SO → Prop} (hm : m[n]? = some .bag) {l : List D} (hx : x = .lst l ∨ x = .tup l) (hl : l ≠ []) (hs : l.length ≤ sizeLine) (h : ∀ d ∈ l, Q d false m) : F_any [.ref n, x] m Q E := by
  have h0 : (0 : Int) < l.length := by have := List.length_pos_iff.mpr hl; omega
  unfold F_any b_any
  rcases hx with rfl | rfl
  all_goals
    array_get_dec
    refine ⟨n, _, rfl, hm, h0, log_small hs, fun d hd hd2 => ?_⟩
    obtain ⟨x, e, hx⟩ := atI_lt (l := l) hd hd2
    array_get_dec
    rw [e]
    exact h x hx
/-- a sign of a text is asked for -/
theorem any_str {m : List SO} {n : Nat} {z : Str} {Q : D → Bool → List SO → Prop} {E : Ex → List SO → Prop} (hm : m[n]? = some .bag) (hl : 0 < z.length) (hs : z.length ≤ sizeLine) (h : ∀ c ∈ z.cps.toList, Q (.str ⟨#[c]⟩) false m) : F_any [.ref n, .str z] m Q E := by
  unfold F_any b_any
  array_get_dec
  simp only [lenQ, if_pos hs]
  array_get_dec
  refine ⟨n, _, rfl, hm, (by omega), log_small hs, fun d hd hd2 => ?_⟩
  obtain ⟨x, e, hx⟩ := atI_lt (l := z.cps.toList) hd (by rw [Array.length_toList]; exact hd2)
  array_get_dec
  simp only [ixQ, if_pos hs, e]
  array_get_dec
  exact h x hx
theorem like_refl : ∀ {j : Nat} {a : D} {m : List SO} {Q : D → Bool → List SO → Prop} {E : Ex → List SO → Prop}, Pl j a → Q (.bl true) false m → F_like j [a, a] m Q E
  | 0, _, _, _, _, h, _ => h.elim
  | j + 1, a, m, Q, E, h, q => by
    have pr : ∀ l : List D, ∀ p ∈ pairs l l, ∃ d ∈ l, p = .tup [d, d] := by
      intro l
      unfold pairs
      induction l with
      | nil => intro p hp; cases hp
      | cons x l ih =>
        intro p hp
        rw [List.zipWith_cons_cons] at hp
        rcases List.mem_cons.mp hp with rfl | hp
        · exact ⟨x, List.mem_cons_self, rfl⟩
        · obtain ⟨d, hd, e⟩ := ih p hp
          exact ⟨d, List.mem_cons_of_mem _ hd, e⟩
    have lp : ∀ l : List D, (pairs l l).length = l.length := fun l => by unfold pairs; simp
    unfold F_like b_like
    cases a with
    | bl b => (iterate 3 array_get_dec); exact q
    | non => (iterate 3 array_get_dec); exact q
    | int i => (iterate 3 array_get_dec); exact q
    | str z => (iterate 3 array_get_dec); exact q
    | tup l | lst l =>
      obtain ⟨h1, h2⟩ := h
      iterate 3 array_get_dec
      refine fold_id (fold_map id (fun _ => .bl true) (fun d hd => ?_) (by rw [lp]; simpa using h1) ?_)
      · obtain ⟨x, hx, rfl⟩ := pr l d hd
        refine ⟨_, rfl, rfl, fun _ h => h, fun Q' hQ => ?_⟩
        array_get_dec
        exact like_refl (h2 x hx) hQ
      · array_get_dec
        have : ((pairs l l).map fun _ => true).all id = true := by rw [List.all_eq_true]; intro x hx; obtain ⟨_, _, rfl⟩ := List.mem_map.mp hx; rfl
        rw [this]
        exact q
    | _ => exact h.elim
end DL

/-! ### texts by their signs; marks; the names a script gives -/
namespace DL
open PySem PySem.Spec PyProof.Rows L2
def cp (z : Str) : List Nat := z.cps.toList
def mkS (l : List Nat) : Str := ⟨l.toArray⟩
theorem cp_mk (l : List Nat) : cp (mkS l) = l := rfl
theorem mk_cp (z : Str) : mkS (cp z) = z := rfl
theorem cp_inj {x y : Str} (h : cp x = cp y) : x = y := by rw [← mk_cp x, h, mk_cp]
theorem cp_len (z : Str) : z.length = (cp z).length := by unfold cp Str.length; rw [Array.length_toList]
theorem cp_app (x y : Str) : cp (x ++ y) = cp x ++ cp y := by
  show (x.cps ++ y.cps).toList = _
  rw [Array.toList_append]; rfl
theorem cp_cut (z : Str) (lo hi : Option Int) : cp (cutS z lo hi) = ((cp z).drop (HT.sIx z.length 0 lo)).take (HT.sIx z.length z.length hi - HT.sIx z.length 0 lo) := by
  unfold cutS cp; rfl
theorem cp_to (z : Str) {i : Int} (h0 : 0 ≤ i) : cp (cutS z none (some i)) = (cp z).take i.toNat := by
  rw [cp_cut]
  simp only [HT.sIx, Nat.sub_zero, List.drop_zero]
  rw [if_neg (by omega), cp_len]
  by_cases h : i.toNat ≤ (cp z).length
  · rw [Nat.min_eq_left h]
  · rw [Nat.min_eq_right (by omega), List.take_of_length_le (Nat.le_refl _), List.take_of_length_le (by omega)]
theorem cp_from (z : Str) {i : Int} (h0 : 0 ≤ i) : cp (cutS z (some i) none) = (cp z).drop i.toNat := by
  rw [cp_cut]
  simp only [HT.sIx]
  rw [if_neg (by omega), cp_len]
  by_cases h : i.toNat ≤ (cp z).length
  · rw [Nat.min_eq_left h, List.take_of_length_le (by rw [List.length_drop]; exact Nat.le_refl _)]
  · rw [Nat.min_eq_right (by omega), List.drop_of_length_le (Nat.le_refl _), List.drop_of_length_le (by omega)]; simp
theorem cp_nil : cp ("" : Str) = [] := by decide +kernel
theorem cp_join (l : List Str) : cp (Txt.join "" l) = l.flatMap cp := by
  unfold Txt.join Builtin.Str.glued cp
  have e : (Str.ofString "").cps = #[] := by decide +kernel
  rw [e]
  have key : ∀ (ps : List Str) (a : Array Nat), (List.foldl (fun acc (p : Str) => acc ++ #[] ++ p.cps) a ps).toList = a.toList ++ ps.flatMap fun p => p.cps.toList := by
    intro ps
    induction ps with
    | nil => intro a; simp
    | cons p ps ih => intro a; rw [List.foldl_cons, ih]; simp
  cases l with
  | nil => rfl
  | cons p ps => simp only [List.headD_cons, List.drop_succ_cons, List.drop_zero, List.flatMap_cons]; exact key ps _
theorem inQ_sign (c : Nat) (w : Str) : inQ (.str ⟨#[c]⟩) (.str w) = some (decide (c ∈ cp w)) := id rfl
/-! marks -/
local macro_rules | `(tactic| array_get_dec) => `(tactic| ((try simp (config := {dsimp := false}) only [↓onSome_T, ↓ite_T, ↓varK_T, ↓movK_T, ↓retK_T, ↓loop_T, ↓fold_T, ↓while_T, Int.reducePow, Int.reduceNeg, Int.reduceLE, Int.reduceLT, Nat.reduceMul, Nat.reduceLeDiff, Int.reduceAdd, List.map_cons, List.map_nil, inQ_sign, blsIn_L, intsIn_L, strsIn_L, strsIn_T, blsOf_map, intsOf_map, strsOf_map, List.nil_append, isNon_bl, isNon_int, isNon_str, isNon_tup, isNon_lst, isNon_dct, isNon_ref, isNon_non, eq_self, isT_NoneType_bool, isT_NoneType_int, isT_NoneType_str, isT_NoneType_tuple, isT_NoneType_list, isT_NoneType_dict, isT_bool_bool, isT_bool_int, isT_bool_str, isT_bool_tuple, isT_bool_list, isT_bool_dict, isT_int_bool, isT_int_int, isT_int_str, isT_int_tuple, isT_int_list, isT_int_dict, isT_str_bool, isT_str_int, isT_str_str, isT_str_tuple, isT_str_list, isT_str_dict, isT_tuple_bool, isT_tuple_int, isT_tuple_str, isT_tuple_tuple, isT_tuple_list, isT_tuple_dict, isT_list_bool, isT_list_int, isT_list_str, isT_list_tuple, isT_list_list, isT_list_dict, isT_dict_bool, isT_dict_int, isT_dict_str, isT_dict_tuple, isT_dict_list, isT_dict_dict, isQ_NoneType, isQ_bool, isQ_int, isQ_str, isQ_tuple, isQ_list, isQ_dict, List.any_cons, List.any_nil, ↓ev_callG, ↓ev_callGO, ↓noOwn_iff, nob0, nob1, nob2, nob3, ↓ev_wipe, wipe0, wipe1, rest0, rest1, Option.getD_some, Int.reduceToNat, ixN5_0, ixN5_1, ixN5_2, ixN5_3, ixN5_4, ev_eqQI, ev_eqQS, ev_eqQB, ev_lenL, ev_lenT, List.set_set, ↓ev_ret, ↓ev_stuck, ↓ev_bnd, ↓ev_var, ↓ev_move, ↓ev_C, ↓ev_op2, ↓ev_addI, ↓ev_addS, ↓ev_addT, ↓ev_sub, ↓ev_mul, ↓ev_mod, ↓ev_div, ↓ev_divW, ↓ev_pow, ↓ev_lt, ↓ev_le, ↓ev_gt, ↓ev_ge, ↓ev_cat, ↓ev_rep, ↓ev_isN, ↓ev_notN, ↓ev_eqI, ↓ev_eqS, ↓ev_eqB, ↓ev_neI, ↓ev_neS, ↓ev_neB, ↓ev_eq, ↓ev_ne, ↓ev_in, ↓ev_notin, ↓ev_truth, ↓ev_val, ↓ev_test, ↓ev_andT, ↓ev_orT, ↓ev_notT, ↓ev_andV, ↓ev_orV, ↓ev_notV, ↓ev_if, ↓ev_chain, ↓ev_nil, ↓ev_cons, ↓ev_args0, ↓ev_itemsL, ↓ev_itemsT, ↓ev_star, ↓ev_tup, ↓ev_lst, ↓ev_ixL, ↓ev_ixT, ↓ev_ixS, ↓ev_part, ↓ev_slT, ↓ev_slL, ↓ev_slT1, ↓ev_slL1, ↓ev_N, ↓ev_len, ↓ev_tupT, ↓ev_tupL, ↓ev_lstT, ↓ev_lstL, ↓ev_isi, ↓ev_walkL, ↓ev_walkT, ↓ev_walkS, ↓ev_range1, ↓ev_range2, ↓ev_zipL, ↓ev_zipT, ↓ev_enum, ↓ev_putN, ↓ev_putT, ↓ev_sets0, ↓ev_sets1, ↓ev_comp, ↓ev_true, ↓ev_next, ↓ev_seq, ↓ev_brk, ↓ev_cnt, ↓ev_drop, ↓ev_retS, ↓ev_retO, ↓ev_retN, ↓ev_retV, ↓ev_ifS, ↓ev_set, ↓ev_setO, ↓ev_for, ↓ev_call, ↓ev_callO, ↓ev_callN, ↓ev_callNO, ↓ev_app, ↓ev_ext, ↓ev_extD, ↓ev_lstAt, ev_lstK, ↓ev_look, ev_lookK, ↓ev_lenV, ↓ev_ixV, ↓ev_inV, ↓ev_ixQL, ↓ev_ixQT, ↓ev_ixQS, ↓ev_ixQR, ev_ixR, ↓ev_join, ↓ev_joinD, ↓ev_all, ↓ev_any, ↓ev_sum, ↓ev_intI, ↓ev_intB, ↓ev_celAt, ev_celL, ev_celK, ↓ev_place, ↓ev_setIx, ↓ev_par, ↓ev_parNx, ↓ev_neg, ↓ev_negD, ↓ev_fn, ↓st1, ↓st2, ↓st3, ↓st4, ↓atI_0, ↓atI_1, ↓atI_2, ↓atI_3, ↓atI_4, List.getElem?_cons_zero, List.getElem?_cons_succ, List.getElem?_nil, List.set_cons_zero, List.set_cons_succ, List.replicate_succ, List.replicate_zero, Option.map_some, Option.isSome_some, true_and, and_true, List.length_cons, List.length_nil, Nat.reduceAdd, Bool.false_eq_true, if_true, if_false, beq_self_eq_true, Bool.true_or, Bool.or_true, Bool.false_or, Bool.or_false, Bool.not_true, Bool.not_false, Bool.and_true, Bool.true_and, decide_true, decide_false, decide_eq_true_eq, onSomeT_some, onSomeT_none, ifT_true, ifT_false, loopT_nil, ev_varF, ev_varT, ev_moveT, ev_retVF, ev_retVT]); (try simp only [onSomeT_b, ifT_b, varKT_b, movKT_b, retKT_b, loopT_b, foldT_b, whileT_b])))
def c_LETTERS : D := .str "abcdefghijklmnopqrstuvwxyz"
def b_is_mark : MS :=
  (dRet (dAndV (dIsi ["str"] (dVar 0)) (dAndV (dChain dLe dLe (dC (.int 1)) (dLenV 0) (dC (.int 6))) (dN dAll (daCons (dComp [1] (.nm 1) (((dVar 0)).bnd walkable) mTrue (dOp2 dIn (dVar 1) (dC c_LETTERS))) daNil)))))
def F_is_mark : Fn := dFn 2 b_is_mark
def b_names : MS :=
  (dSeq (dSet (.nm 2) (dC (.str "abcdefghijklmnopqrstuvwxyz")))
    (dSeq (dSet (.nm 3) (dJoin (dC (.str "")) (dComp [4] (.nm 4) (((daCons (dCallN 2 F_pull (daCons (dVar 0) (daCons (dC (.int 6)) daNil))) daNil)).bnd dRange1) mTrue (dCallN 2 F_any (daCons (dVar 0) (daCons (dVar 2) daNil))))))
    (dSeq (dSet (.tp [5, 6]) (dTup (daCons (dCallN 2 F_pull (daCons (dVar 0) (daCons (dOp2 dAdd (dLenV 3) (dC (.int 1))) daNil))) (daCons (dCallN 2 F_pull (daCons (dVar 0) (daCons (dC (.int 26)) daNil))) daNil))))
    (dRetO (dComp [4] (.nm 4) (((daCons (dVar 1) daNil)).bnd dRange1) mTrue (dOp2 dAdd (dOp2 dAdd (dSlT (dVar 3) (M.ret none) (((dVar 5)).bnd dPart)) (dIxV 2 (dOp2 dMod (dN dIntOf (daCons (dOp2 dAdd (dVar 6) (dOp2 dMul (dC (.int 7)) (dVar 4))) daNil)) (dC (.int 26))))) (dSlT (dVar 3) (((dVar 5)).bnd dPart) (M.ret none))))))))
def F_names : Fn := dFn 7 b_names
def LET : List Nat := [97, 98, 99, 100, 101, 102, 103, 104, 105, 106, 107, 108, 109, 110, 111, 112, 113, 114, 115, 116, 117, 118, 119, 120, 121, 122]
theorem cp_LET : cp ("abcdefghijklmnopqrstuvwxyz" : Str) = LET := by decide +kernel
theorem mem_LET {c : Nat} : c ∈ LET ↔ 97 ≤ c ∧ c ≤ 122 := by
  unfold LET
  constructor
  · intro h; simp at h; omega
  · intro h; simp; omega
def markB (z : Str) : Bool := decide (1 ≤ (cp z).length) && (decide ((cp z).length ≤ 6) && (cp z).all fun c => decide (c ∈ LET))
def markD : D → Bool
  | .str z => markB z
  | _ => false
def MarkArg (d : D) : Prop := match d with
  | .str z => z.length ≤ sizeLine
  | d => (tyD d).isSome = true
theorem is_mark_of {d : D} {m : List SO} {Q : D → Bool → List SO → Prop} {E : Ex → List SO → Prop} (h : MarkArg d) (q : Q (.bl (markD d)) false m) : F_is_mark [d] m Q E := by
  unfold F_is_mark b_is_mark
  cases d with
  | str z =>
    have h : z.length ≤ sizeLine := h
    iterate 3 array_get_dec
    simp only [lenQ, if_pos h]
    array_get_dec
    have q : Q (.bl (decide (1 ≤ (cp z).length) && (decide ((cp z).length ≤ 6) && (cp z).all fun c => decide (c ∈ LET)))) false m := q
    rw [← cp_len] at q
    by_cases h1 : 1 ≤ z.length
    · rw [if_pos (by omega)]
      rw [decide_eq_true h1, Bool.true_and] at q
      array_get_dec
      by_cases h2 : z.length ≤ 6
      · rw [if_pos (by omega)]
        rw [decide_eq_true h2, Bool.true_and] at q
        array_get_dec
        refine fold_map (fun c => .str ⟨#[c]⟩) (fun c => .bl (decide (c ∈ LET))) (fun c hc => ⟨_, rfl, rfl, fun _ h => h, fun Q' hQ => ?_⟩) ?_ ?_
        · array_get_dec
          unfold c_LETTERS
          array_get_dec
          rw [cp_LET]
          exact hQ
        · show 0 + _ ≤ _
          rw [Nat.zero_add, Array.length_toList]; exact h
        · array_get_dec
          rw [List.all_map]
          exact q
      · rw [if_neg (by omega)]
        rw [decide_eq_false h2, Bool.false_and] at q
        array_get_dec
        exact q
    · rw [if_neg (by omega)]
      rw [decide_eq_false h1, Bool.false_and] at q
      array_get_dec
      exact q
  | ref n => cases h
  | scr => cases h
  | fn _ _ _ _ => cases h
  | exc _ _ _ => cases h
  | ins _ _ _ => cases h
  | _ => (iterate 3 array_get_dec); exact q
theorem strs_of_all {l : List Nat} {ys : List D} (h : All2 (fun (_ : Nat) y => ∃ c ∈ LET, y = D.str ⟨#[c]⟩) l ys) : ∃ cs : List Nat, cs.length = l.length ∧ (∀ c ∈ cs, c ∈ LET) ∧ ys = cs.map fun c => .str ⟨#[c]⟩ := by
  induction h with
  | nil => exact ⟨[], rfl, (fun _ h => by cases h), rfl⟩
  | cons a _ ih =>
    obtain ⟨c, hc, rfl⟩ := a
    obtain ⟨cs, h1, h2, rfl⟩ := ih
    exact ⟨c :: cs, by simp [h1], (fun x hx => (List.mem_cons.mp hx).elim (fun e => e ▸ hc) (h2 x)), rfl⟩
theorem LET_at : ∀ i : Fin 26, LET[i.val]? = some (97 + i.val) := by decide +kernel
theorem LET_len : LET.length = 26 := rfl
theorem ix_LET {m : List SO} {i : Int} (h0 : 0 ≤ i) (h1 : i < 26) : ixQ m (.str "abcdefghijklmnopqrstuvwxyz") (.int i) = some (.str ⟨#[97 + i.toNat]⟩) := by
  have hz : ("abcdefghijklmnopqrstuvwxyz" : Str).length ≤ sizeLine := by decide +kernel
  have e : atI (cp "abcdefghijklmnopqrstuvwxyz") i = some (97 + i.toNat) := by
    rw [cp_LET]
    have := LET_at ⟨i.toNat, by omega⟩
    rw [atI_at h0 (by rw [LET_len]; omega)]
    rw [List.getElem?_eq_getElem (by rw [LET_len]; show i.toNat < 26; omega)] at this
    exact this
  have e : atI ("abcdefghijklmnopqrstuvwxyz" : Str).cps.toList i = some (97 + i.toNat) := e
  simp only [ixQ, if_pos hz, e, Option.map_some]
/-- the name at i -/
def nameAt (cs : List Nat) (a f i : Nat) : Str := mkS (cs.take a ++ ((97 + (f + 7 * i) % 26) :: cs.drop a))
theorem names_of {m : List SO} {n k : Nat} {Q : D → Bool → List SO → Prop} {E : Ex → List SO → Prop} (hm : m[n]? = some .bag) (hk : k ≤ 26) (q : ∀ zs : List Str, zs.length = k → (∀ z ∈ zs, markB z = true) → zs.Nodup → Q (.lst (zs.map .str)) true m) : F_names [.ref n, .int k] m Q E := by
  unfold F_names b_names
  array_get_dec
  refine ⟨n, 6, rfl, hm, by decide, by decide, fun a ha ha2 => ?_⟩
  array_get_dec
  refine ⟨⟨by omega, by omega⟩, ?_⟩
  unfold rangeD
  refine fold_all _ (fun _ y => ∃ c ∈ LET, y = D.str ⟨#[c]⟩) (fun d hd => ⟨_, rfl, rfl, fun _ h => h, fun Q' hQ => ?_⟩) ?_ fun ys hys => ?_
  · array_get_dec
    exact any_str hm (by decide +kernel) (by decide +kernel) fun c hc => hQ _ ⟨c, by rw [← cp_LET]; exact hc, rfl⟩
  · rw [List.length_range]; show 0 + _ ≤ sizeLine
    exact Nat.le_trans (show 0 + a.toNat ≤ 6 by omega) (by decide)
  obtain ⟨cs, hl, hc, rfl⟩ := strs_of_all hys
  rw [List.length_range] at hl
  array_get_dec
  have hs : (List.map (fun x => x.length) (List.map (fun x => ({ cps := #[x] } : Str)) cs)).sum ≤ 6 := by
    rw [List.map_map]
    have : ((fun x : Str => x.length) ∘ fun x => ({ cps := #[x] } : Str)) = fun _ => 1 := rfl
    rw [this, List.map_const', List.sum_replicate_nat]; omega
  have he : ("" : Str).length = 0 := by decide +kernel
  refine ⟨by rw [he]; omega, ?_⟩
  generalize hst : Txt.join (Str.ofString "") (List.map (fun x => ({ cps := #[x] } : Str)) cs) = stem
  have hcs : cp stem = cs := by
    rw [← hst, cp_join, List.flatMap_map]
    show (cs.flatMap fun c => [c]) = cs
    rw [List.flatMap_singleton']
  have hsl : stem.length = a.toNat := by rw [cp_len, hcs, hl]
  have hsz : stem.length ≤ sizeLine := Nat.le_trans (show stem.length ≤ 6 by omega) (by decide)
  array_get_dec
  simp only [lenQ, if_pos hsz]
  array_get_dec
  refine ⟨n, _, rfl, hm, by omega, ?_, fun at_ hat hat2 => ?_⟩
  · exact Nat.lt_of_le_of_lt (show _ ≤ 2 from (Nat.le_of_lt_succ ((Nat.log2_lt (by omega)).mpr (by omega)))) (by decide)
  array_get_dec
  refine ⟨n, 26, rfl, hm, by decide, by decide, fun fi hfi hfi2 => ?_⟩
  iterate 2 array_get_dec
  refine ⟨by decide, ⟨by omega, by omega⟩, ?_⟩
  unfold rangeD
  rw [Int.toNat_natCast]
  refine fold_map _ (fun i : Nat => .str (nameAt cs at_.toNat fi.toNat i)) (fun d hd => ⟨_, rfl, rfl, fun _ h => h, fun Q' hQ => ?_⟩) ?_ ?_
  · have hd := List.mem_range.mp hd
    array_get_dec
    have h26 := Int.emod_lt_of_pos (fi + 7 * (0 + (d : Int))) (show (0 : Int) < 26 by decide)
    have h27 := Int.emod_nonneg (fi + 7 * (0 + (d : Int))) (show (26 : Int) ≠ 0 by decide)
    refine ⟨hsz, .inl (by decide), ?_⟩
    rw [ix_LET h27 h26]
    have l1 : (cutS stem none (some at_)).length ≤ 6 := by rw [cp_len, cp_to _ hat, List.length_take, hcs]; omega
    have l2 : (cutS stem (some at_) none).length ≤ 6 := by rw [cp_len, cp_from _ hat, List.length_drop, hcs]; omega
    array_get_dec
    have l3 : ∀ c : Nat, (({ cps := #[c] } : Str)).length = 1 := fun _ => rfl
    have l4 : ∀ c : Nat, (cutS stem none (some at_) ++ ({ cps := #[c] } : Str)).length ≤ 7 := fun c => by rw [cp_len, cp_app, List.length_append, ← cp_len, ← cp_len, l3]; omega
    refine ⟨by rw [l3]; exact Nat.le_trans (show _ ≤ 7 by omega) (by decide), hsz, Nat.le_trans (show _ ≤ 13 by have := l4 (97 + ((fi + 7 * (0 + (d : Int))) % 26).toNat); omega) (by decide), ?_⟩
    have e : cutS stem none (some at_) ++ ({ cps := #[97 + ((fi + 7 * (0 + (d : Int))) % 26).toNat] } : Str) ++ cutS stem (some at_) none = nameAt cs at_.toNat fi.toNat d := by
      apply cp_inj
      rw [cp_app, cp_app, cp_to _ hat, cp_from _ hat, hcs]
      have : ((fi + 7 * (0 + (d : Int))) % 26).toNat = (fi.toNat + 7 * d) % 26 := by omega
      rw [this]
      unfold nameAt
      rw [cp_mk, List.append_assoc]
      rfl
    rw [e]
    exact hQ
  · rw [List.length_range]; exact Nat.le_trans (show 0 + k ≤ 26 by omega) (by decide)
  · have e : ([] ++ List.map (fun i : Nat => D.str (nameAt cs at_.toNat fi.toNat i)) (List.range k)) = ((List.range k).map (nameAt cs at_.toNat fi.toNat)).map D.str := by rw [List.map_map]; rfl
    rw [e]
    refine q _ (by simp) ?_ ?_
    · intro z hz
      obtain ⟨i, _, rfl⟩ := List.mem_map.mp hz
      unfold markB nameAt
      rw [cp_mk]
      have hl2 : (List.take at_.toNat cs ++ (97 + (fi.toNat + 7 * i) % 26) :: List.drop at_.toNat cs).length = cs.length + 1 := by
        rw [List.length_append, List.length_cons, List.length_take, List.length_drop]; omega
      rw [hl2, decide_eq_true (by omega), decide_eq_true (by omega), Bool.true_and, Bool.true_and, List.all_eq_true]
      intro c hc'
      rw [decide_eq_true_eq]
      rcases List.mem_append.mp hc' with h | h
      · exact hc c (List.mem_of_mem_take h)
      · rcases List.mem_cons.mp h with rfl | h
        · rw [mem_LET]; omega
        · exact hc c (List.mem_of_mem_drop h)
    · unfold List.Nodup
      rw [List.pairwise_map]
      refine List.Pairwise.imp_of_mem (fun {i j} hi hj hne e => hne ?_) List.nodup_range
      have hi := List.mem_range.mp hi
      have hj := List.mem_range.mp hj
      have e2 := congrArg cp e
      unfold nameAt at e2
      rw [cp_mk, cp_mk] at e2
      have e3 := List.append_cancel_left e2
      simp only [List.cons.injEq, and_true] at e3
      omega
theorem ev_lenS {z : Str} (h : z.length ≤ sizeLine) : lenQ (.str z) = some z.length := by unfold lenQ; exact if_pos h
theorem mark_len {z : Str} (h : markB z = true) : 1 ≤ z.length ∧ z.length ≤ 6 := by
  unfold markB at h
  rw [← cp_len, Bool.and_eq_true, Bool.and_eq_true, decide_eq_true_eq, decide_eq_true_eq] at h
  exact ⟨h.1, h.2.1⟩
theorem mark_let {z : Str} (h : markB z = true) : ∀ c ∈ cp z, c ∈ LET := by
  unfold markB at h
  rw [Bool.and_eq_true, Bool.and_eq_true, List.all_eq_true] at h
  exact fun c hc => of_decide_eq_true (h.2.2 c hc)
theorem small {n : Nat} (h : n ≤ 1000) : n ≤ sizeLine := Nat.le_trans h (by decide)
theorem app_len (x y : Str) : (x ++ y).length = x.length + y.length := by rw [cp_len, cp_app, List.length_append, ← cp_len, ← cp_len]
theorem len4 {α : Type} {l : List α} (h : l.length = 4) : ∃ a b c d, l = [a, b, c, d] := by
  match l, h with
  | [a, b, c, d], _ => exact ⟨a, b, c, d, rfl⟩
theorem len3 {α : Type} {l : List α} (h : l.length = 3) : ∃ a b c, l = [a, b, c] := by
  match l, h with
  | [a, b, c], _ => exact ⟨a, b, c, rfl⟩
theorem len2 {α : Type} {l : List α} (h : l.length = 2) : ∃ a b, l = [a, b] := by
  match l, h with
  | [a, b], _ => exact ⟨a, b, rfl⟩
theorem log_lt {n : Nat} (h : n ≤ 1000) : (n : Int).natAbs.log2 < 9000 := log_small (small h)
theorem mark_str {z : Str} (h : z.length ≤ 1000) : MarkArg (.str z) := show z.length ≤ sizeLine from small h
end DL

/-! ### reading stops at a condition -/
namespace DL
open PySem PySem.Spec PyProof.Rows L2
theorem le_line {n : Nat} (h : n ≤ 16777216) : (n ≤ sizeLine) = True := eq_true h
def plB : Nat → D → Bool
  | 0, _ => false
  | _ + 1, .non => true
  | _ + 1, .bl _ => true
  | _ + 1, .int _ => true
  | _ + 1, .str _ => true
  | j + 1, .tup l => Nat.ble l.length sizeLine && l.all (plB j)
  | j + 1, .lst l => Nat.ble l.length sizeLine && l.all (plB j)
  | _ + 1, _ => false
theorem plB_ok : ∀ {j : Nat} {a : D}, plB j a = true → Pl j a
  | 0, _, h => by cases h
  | j + 1, a, h => by
    cases a with
    | tup l | lst l =>
      simp only [plB, Bool.and_eq_true, List.all_eq_true] at h
      exact ⟨Nat.le_of_ble_eq_true h.1, fun d hd => plB_ok (h.2 d hd)⟩
    | non | bl b | int i | str z => trivial
    | _ => cases h
end DL

/-! ### from a law's def to the row -/
namespace DL
open PySem PySem.Spec PyProof.Rows L2
def xr0 : XR := fun _ _ _ _ _ => False
theorem entry {K : PySem.W.Frag} {F : Fn} (hF : ∀ (Q : D → Bool → List SO → Prop) (E : Ex → List SO → Prop), (∀ m, Q (.bl true) false m) → F [.scr] [] Q E) {H : Hp} {a : Addr} {ns : List Int} (hl : ns.length ≤ 63) (h : SqL K H a (ns.map V.int)) :
    spD K xr0 1 F [.ref a] H (fun v _ => v = .bl true) fun _ _ _ => False := by
  refine ⟨⟨H, [], []⟩, [.scr], [], fun d fr _ => d = .bl true ∧ fr = false, fun _ _ => False, fun _ _ e => e, ⟨rfl, List.nodup_nil, (fun _ h => by cases h), (fun _ _ _ h => by cases h)⟩, ?_, rfl, hF _ _ fun _ => ⟨rfl, rfl⟩, ?_, fun _ _ _ _ _ _ _ h => h.elim⟩
  · refine .cons ?_ .nil
    simp only [Rep]
    exact ⟨a, ns, rfl, h, hl⟩
  · rintro d fr m' v w' H' c cv ⟨rfl, rfl⟩
    unfold CallV at cv
    rw [if_neg Bool.false_ne_true] at cv
    exact rep_bl cv
theorem cx_none {P : Program} {w : World} {H : Hp} {s s' : Shared} {e : Value} (h : L2.CX P w [] H s (fun _ _ _ => False) e s') : False := by
  obtain ⟨_, _, _, _, _, _, _, _, _, _, _, _, h⟩ := h
  exact h
theorem glb_str {K : PySem.W.Frag} {mg : Str → Option Value} {x z : Str} {t : Tok} (h : mg x = some (.str z t)) : Glb K mg x (.str z) := ⟨_, .str z, h, ⟨t, rfl⟩, fun _ => of_str⟩
theorem glb_int {K : PySem.W.Frag} {mg : Str → Option Value} {x : Str} {i : Int} {t : Tok} (h : mg x = some (.int i t)) : Glb K mg x (.int i) := ⟨_, .int i, h, ⟨t, rfl⟩, fun _ => of_int⟩
theorem glb_tup {K : PySem.W.Frag} {mg : Str → Option Value} {x : Str} {a : Addr} {o : Obj} {its : Array Value} {n : Nat} {ds : List D} (vs : List V) (h : mg x = some (.ref a)) (ho : K.lookup a = some o) (hc : o.cls = .type "tuple") (hd : o.data = .seq its n) (hz : its.size ≤ sizeLine) (hv : Vals vs its.toList) (hr : ∀ w, Reps K w ds vs) : Glb K mg x (.tup ds) :=
  ⟨_, .ref a, h, rfl, fun w => by
    simp only [Rep]
    exact ⟨a, vs, rfl, .inr ⟨o, its, n, ho, hc, hd, hz, hv⟩, hr w⟩⟩
theorem reps_strs {K : PySem.W.Frag} {w : Wd} : ∀ l : List Str, Reps K w (l.map D.str) (l.map V.str)
  | [] => .nil
  | n :: ns => .cons (d := .str n) of_str (reps_strs ns)
end DL

/-! ### a dict that stands in the module -/
namespace DL
open PySem PySem.Spec PyProof.Rows L2
structure GDct (K : PySem.W.Frag) (wd : World) (mg : Str → Option Value) (x : Str) (l : List (Str × D)) : Prop where
  ex : ∃ (d : Addr) (es : Array DictEntry) (n : Nat), mg x = some (.ref d) ∧ KDict K wd d es n ∧ ∀ z : Str, (∀ y, l.lookup z = some y → ∃ u v, PySem.W.nsIn K d z = some (some u) ∧ RelV v u ∧ ∀ w, Rep K w y v) ∧ (l.lookup z = none → PySem.W.nsIn K d z = some none)
inductive EnR (K : PySem.W.Frag) : List DictEntry → List (Str × D) → Prop where
  | nil : EnR K [] []
  | cons {h : Int} {k : Str} {t : Tok} {u : Value} {y : D} {es : List DictEntry} {l : List (Str × D)} (v : V) (hu : RelV v u) (hr : ∀ w, Rep K w y v) (r : EnR K es l) : EnR K (⟨h, .str k t, u⟩ :: es) ((k, y) :: l)
theorem EnR.noref {K : PySem.W.Frag} {es : List DictEntry} {l : List (Str × D)} (r : EnR K es l) : (es.any fun x => x.refKey) = false := by
  induction r with
  | nil => rfl
  | cons v hu hr _ ih => rw [List.any_cons, ih]; rfl
theorem EnR.find {K : PySem.W.Frag} {es : List DictEntry} {l : List (Str × D)} (r : EnR K es l) (z : Str) : (∀ y, l.lookup z = some y → ∃ e v, es.find? (fun x => x.key.isStr z) = some e ∧ RelV v e.val ∧ ∀ w, Rep K w y v) ∧ (l.lookup z = none → es.find? (fun x => x.key.isStr z) = none) := by
  induction r with
  | nil => exact ⟨(fun y h => by cases h), fun _ => rfl⟩
  | @cons h k t u y es l v hu hr _ ih =>
    rw [List.find?_cons]
    have e : (Value.str k t).isStr z = (k == z) := rfl
    show (∀ y', List.lookup z ((k, y) :: l) = some y' → _) ∧ _
    rw [e]
    by_cases hk : k = z
    · subst hk
      rw [List.lookup_cons, beq_self_eq_true]
      exact ⟨(fun y' hy => by cases hy; exact ⟨_, v, rfl, hu, hr⟩), (fun h => by cases h)⟩
    · have h1 : (k == z) = false := by rw [beq_eq_false_iff_ne]; exact hk
      have h2 : (z == k) = false := by rw [beq_eq_false_iff_ne]; exact fun h => hk h.symm
      rw [List.lookup_cons, h1, h2]
      exact ih
theorem gdct_mk {K : PySem.W.Frag} {wd : World} {mg : Str → Option Value} {x : Str} {l : List (Str × D)} {d : Addr} {es : Array DictEntry} {n : Nat} (h : mg x = some (.ref d)) (k : KDict K wd d es n) (r : EnR K es.toList l) : GDct K wd mg x l :=
  ⟨d, es, n, h, k, fun z => by
    have a := k.at_
    have e : PySem.W.nsIn K d z = match es.toList.find? (fun x => x.key.isStr z) with
      | some e => some (some e.val)
      | none => if (es.toList.any fun x => x.refKey) = true then none else some none := by
      rw [PySem.W.nsIn.eq_1, a]
      rfl
    refine ⟨fun y hy => ?_, fun hy => ?_⟩
    · obtain ⟨q, v, h1, h2, h3⟩ := (r.find z).1 y hy
      rw [h1] at e
      exact ⟨_, v, e, h2, h3⟩
    · rw [(r.find z).2 hy, r.noref] at e
      exact e⟩
def dInG (l : List (Str × D)) (neg : Bool) (f : M D) : M D := f.bnd fun d s Q _ => match d with
  | .str z => Q (.bl (if neg then !(l.lookup z).isSome else (l.lookup z).isSome)) s
  | _ => False
def dIxG (l : List (Str × D)) (f : M D) : M D := f.bnd fun d s Q _ => match d with
  | .str z => onSome (l.lookup z) fun y => Q y s
  | _ => False
section
variable {X : Cx} {B : Ent} {W : WX} {e : Expr} {f : M D} {x : Str} {p pos : Pos} {l : List (Str × D)}
theorem inG_of {K : PySem.W.Frag} {d : Addr} {neg : Bool} {σ : LSt} {H : Hp} {Q : VK} (hz : ∀ z : Str, (∀ y, l.lookup z = some y → ∃ u v, PySem.W.nsIn K d z = some (some u) ∧ RelV v u ∧ ∀ w, Rep K w y v) ∧ (l.lookup z = none → PySem.W.nsIn K d z = some none)) (q : tE K B W (dInG l neg f) σ H Q) :
    tOp (fun x y H Q => ∃ (z : Str) (r : Option Value), x = .str z ∧ y = .ref d ∧ PySem.W.nsIn K d z = some r ∧ Q (.bl (if neg then !r.isSome else r.isSome)) H) (tE K B W f) (tC (.ref d)) σ H Q := by
  refine tG.seq (back_E _) q fun y s v w H' QD ED _ _ R rv z pp => ?_
  have rv : Rep K w y v := rv
  obtain ⟨zz, rfl⟩ : ∃ zz, y = .str zz := by cases y <;> first | exact z.elim | exact ⟨_, rfl⟩
  cases rep_str rv
  have z : QD (.bl (if neg then !(l.lookup zz).isSome else (l.lookup zz).isSome)) s := z
  cases hl : l.lookup zz with
  | some y =>
    rw [hl] at z
    obtain ⟨u, v, h1, _, _⟩ := (hz zz).1 y hl
    exact ⟨zz, some u, rfl, rfl, h1, tG.ret (R := rE _) R of_bl z pp⟩
  | none =>
    rw [hl] at z
    exact ⟨zz, none, rfl, rfl, (hz zz).2 hl, tG.ret (R := rE _) R of_bl z pp⟩
theorem de_inG (G : GDct X.K X.w X.mg x l) (ha : DE X B W e f) (hg : Gl X x := by rfl) (hd : (x == ("__debug__" : Str)) = false := by decide) (hm : behindInMarks .In (.Name x p) = false := by first | exact nomark _ | rfl) : DE X B W (.Compare e [.In] [.Name x p] pos) (dInG l false f) := by
  obtain ⟨d, es, n, h, k, hz⟩ := G.ex
  exact PE.weak (pe_cmpR (op_in_kd k) ha (pe_glob (v := .ref d) hg h rfl hd) hm) fun _ _ _ q => inG_of (neg := false) hz q
theorem dt_inG (G : GDct X.K X.w X.mg x l) (ha : DE X B W e f) (hg : Gl X x := by rfl) (hd : (x == ("__debug__" : Str)) = false := by decide) (hm : behindInMarks .In (.Name x p) = false := by first | exact nomark _ | rfl) : DT X B W (.Compare e [.In] [.Name x p] pos) (dVal (dInG l false f)) := by
  obtain ⟨d, es, n, h, k, hz⟩ := G.ex
  exact PT.weak (pt_cmpR (op_in_kd k) ha (pe_glob (v := .ref d) hg h rfl hd) hm) fun σ H Q q => inG_of (neg := false) hz (tB_of q)
theorem de_ixG (G : GDct X.K X.w X.mg x l) (hb : DE X B W e f) (hg : Gl X x := by rfl) (hd : (x == ("__debug__" : Str)) = false := by decide) (hs : PlainIx e := by exact fun _ _ => rfl) : DE X B W (.Subscript (.Name x p) e pos) (dIxG l f) := by
  obtain ⟨d, es, n, h, k, hz⟩ := G.ex
  refine PE.weak (pe_ix ix_kdict (pe_glob (v := .ref d) hg h rfl hd) hb hs) fun σ H Q q => ?_
  refine tG.seq (back_E _) q fun y s v w H' QD ED _ _ R rv z pp => ?_
  have rv : Rep X.K w y v := rv
  obtain ⟨zz, rfl⟩ : ∃ zz, y = .str zz := by cases y <;> first | exact z.elim | exact ⟨_, rfl⟩
  cases rep_str rv
  replace z := onSome_ex z
  obtain ⟨y, hl, z⟩ := z
  obtain ⟨u, v, h1, h2, h3⟩ := (hz zz).1 y hl
  exact ⟨d, zz, v, rfl, rfl, ⟨es, n, u, k.at_, k.lit, h1, h2⟩, tG.ret (R := rE _) R (h3 w) z pp⟩
end
def inGD (l : List (Str × D)) (neg : Bool) (d : D) (s : S) (Q : D → S → Prop) : Prop := match d with
  | .str z => Q (.bl (if neg then !(l.lookup z).isSome else (l.lookup z).isSome)) s
  | _ => False
def ixGD (l : List (Str × D)) (d : D) (s : S) (Q : D → S → Prop) : Prop := match d with
  | .str z => onSome (l.lookup z) fun y => Q y s
  | _ => False
section
variable {l : List (Str × D)} {f : M D} {s : S} {Q : D → S → Prop} {E : Ex → S → Prop}
theorem ev_inG (neg : Bool) : dInG l neg f s Q E = f s (fun d s1 => inGD l neg d s1 Q) E := id rfl
theorem ev_ixG : dIxG l f s Q E = f s (fun d s1 => ixGD l d s1 Q) E := id rfl
theorem ev_inGD (neg : Bool) (z : Str) : inGD l neg (.str z) s Q = Q (.bl (if neg then !(l.lookup z).isSome else (l.lookup z).isSome)) s := id rfl
theorem ev_ixGD (z : Str) : ixGD l (.str z) s Q = onSome (l.lookup z) fun y => Q y s := id rfl
end
theorem rep_tupK {K : PySem.W.Frag} {a : Addr} {o : Obj} {its : Array Value} {n : Nat} {ds : List D} (vs : List V) (ho : K.lookup a = some o) (hc : o.cls = .type "tuple") (hd : o.data = .seq its n) (hz : its.size ≤ sizeLine) (hv : Vals vs its.toList) (hr : ∀ w, Reps K w ds vs) : ∀ w, Rep K w (.tup ds) (.ref a) := fun w => by
  simp only [Rep]
  exact ⟨a, vs, rfl, .inr ⟨o, its, n, ho, hc, hd, hz, hv⟩, hr w⟩
theorem natc_2 : ((2 : Nat) : Int) = 2 := id rfl
theorem natc_3 : ((3 : Nat) : Int) = 3 := id rfl
theorem natc_4 : ((4 : Nat) : Int) = 4 := id rfl
theorem natc_5 : ((5 : Nat) : Int) = 5 := id rfl
theorem natc_6 : ((6 : Nat) : Int) = 6 := id rfl
theorem natc_7 : ((7 : Nat) : Int) = 7 := id rfl
theorem natc_8 : ((8 : Nat) : Int) = 8 := id rfl
theorem natc_9 : ((9 : Nat) : Int) = 9 := id rfl
theorem natc_10 : ((10 : Nat) : Int) = 10 := id rfl
theorem natc_11 : ((11 : Nat) : Int) = 11 := id rfl
theorem natc_12 : ((12 : Nat) : Int) = 12 := id rfl
theorem natc_13 : ((13 : Nat) : Int) = 13 := id rfl
theorem natc_14 : ((14 : Nat) : Int) = 14 := id rfl
theorem natc_15 : ((15 : Nat) : Int) = 15 := id rfl
theorem natc_16 : ((16 : Nat) : Int) = 16 := id rfl
theorem natc_17 : ((17 : Nat) : Int) = 17 := id rfl
theorem natc_18 : ((18 : Nat) : Int) = 18 := id rfl
theorem natc_19 : ((19 : Nat) : Int) = 19 := id rfl
theorem natc_20 : ((20 : Nat) : Int) = 20 := id rfl
theorem natc_21 : ((21 : Nat) : Int) = 21 := id rfl
theorem natc_22 : ((22 : Nat) : Int) = 22 := id rfl
theorem natc_23 : ((23 : Nat) : Int) = 23 := id rfl
theorem natc_24 : ((24 : Nat) : Int) = 24 := id rfl
theorem natc_25 : ((25 : Nat) : Int) = 25 := id rfl
theorem natc_26 : ((26 : Nat) : Int) = 26 := id rfl
theorem natc_27 : ((27 : Nat) : Int) = 27 := id rfl
theorem natc_28 : ((28 : Nat) : Int) = 28 := id rfl
theorem natc_29 : ((29 : Nat) : Int) = 29 := id rfl
theorem natc_30 : ((30 : Nat) : Int) = 30 := id rfl
theorem natc_31 : ((31 : Nat) : Int) = 31 := id rfl
theorem natc_32 : ((32 : Nat) : Int) = 32 := id rfl
theorem natc_33 : ((33 : Nat) : Int) = 33 := id rfl
theorem natc_34 : ((34 : Nat) : Int) = 34 := id rfl
theorem natc_35 : ((35 : Nat) : Int) = 35 := id rfl
theorem natc_36 : ((36 : Nat) : Int) = 36 := id rfl
theorem natc_37 : ((37 : Nat) : Int) = 37 := id rfl
theorem natc_38 : ((38 : Nat) : Int) = 38 := id rfl
theorem natc_39 : ((39 : Nat) : Int) = 39 := id rfl
theorem natc_40 : ((40 : Nat) : Int) = 40 := id rfl
end DL

/-! ### tests told; small trees; loops by an invariant -/
namespace DL
open PySem PySem.Spec PyProof.Rows L2
local macro_rules | `(tactic| array_get_dec) => `(tactic| ((try simp (config := {dsimp := false}) only [Option.isSome_none, Int.natCast_zero, Int.natCast_one, Int.natCast_add, Int.reduceEq, natc_2, natc_3, natc_4, natc_5, natc_6, natc_7, natc_8, natc_9, natc_10, natc_11, natc_12, natc_13, natc_14, natc_15, natc_16, natc_17, natc_18, natc_19, natc_20, natc_21, natc_22, natc_23, natc_24, natc_25, natc_26, natc_27, natc_28, natc_29, natc_30, natc_31, natc_32, natc_33, natc_34, natc_35, natc_36, natc_37, natc_38, natc_39, natc_40, ↓and_T, ↓ev_inG, ↓ev_ixG, ↓ev_inGD, ↓ev_ixGD, ↓onSome_T, ↓ite_T, ↓varK_T, ↓movK_T, ↓retK_T, ↓loop_T, ↓fold_T, ↓while_T, le_line, Int.reducePow, Int.reduceNeg, Int.reduceLE, Int.reduceLT, Nat.reduceMul, Nat.reduceLeDiff, Int.reduceAdd, ev_lenS, List.map_cons, List.map_nil, inQ_sign, blsIn_L, intsIn_L, strsIn_L, strsIn_T, blsOf_map, intsOf_map, strsOf_map, List.nil_append, isNon_bl, isNon_int, isNon_str, isNon_tup, isNon_lst, isNon_dct, isNon_ref, isNon_non, eq_self, isT_NoneType_bool, isT_NoneType_int, isT_NoneType_str, isT_NoneType_tuple, isT_NoneType_list, isT_NoneType_dict, isT_bool_bool, isT_bool_int, isT_bool_str, isT_bool_tuple, isT_bool_list, isT_bool_dict, isT_int_bool, isT_int_int, isT_int_str, isT_int_tuple, isT_int_list, isT_int_dict, isT_str_bool, isT_str_int, isT_str_str, isT_str_tuple, isT_str_list, isT_str_dict, isT_tuple_bool, isT_tuple_int, isT_tuple_str, isT_tuple_tuple, isT_tuple_list, isT_tuple_dict, isT_list_bool, isT_list_int, isT_list_str, isT_list_tuple, isT_list_list, isT_list_dict, isT_dict_bool, isT_dict_int, isT_dict_str, isT_dict_tuple, isT_dict_list, isT_dict_dict, isQ_NoneType, isQ_bool, isQ_int, isQ_str, isQ_tuple, isQ_list, isQ_dict, List.any_cons, List.any_nil, ↓ev_callG, ↓ev_callGO, ↓noOwn_iff, nob0, nob1, nob2, nob3, ↓ev_wipe, wipe0, wipe1, rest0, rest1, Option.getD_some, Int.reduceToNat, ixN5_0, ixN5_1, ixN5_2, ixN5_3, ixN5_4, ev_eqQI, ev_eqQS, ev_eqQB, ev_lenL, ev_lenT, List.set_set, ↓ev_ret, ↓ev_stuck, ↓ev_bnd, ↓ev_var, ↓ev_move, ↓ev_C, ↓ev_op2, ↓ev_addI, ↓ev_addS, ↓ev_addT, ↓ev_sub, ↓ev_mul, ↓ev_mod, ↓ev_div, ↓ev_divW, ↓ev_pow, ↓ev_lt, ↓ev_le, ↓ev_gt, ↓ev_ge, ↓ev_cat, ↓ev_rep, ↓ev_isN, ↓ev_notN, ↓ev_eqI, ↓ev_eqS, ↓ev_eqB, ↓ev_neI, ↓ev_neS, ↓ev_neB, ↓ev_eq, ↓ev_ne, ↓ev_in, ↓ev_notin, ↓ev_truth, ↓ev_val, ↓ev_test, ↓ev_andT, ↓ev_orT, ↓ev_notT, ↓ev_andV, ↓ev_orV, ↓ev_notV, ↓ev_if, ↓ev_chain, ↓ev_nil, ↓ev_cons, ↓ev_args0, ↓ev_itemsL, ↓ev_itemsT, ↓ev_star, ↓ev_tup, ↓ev_lst, ↓ev_ixL, ↓ev_ixT, ↓ev_ixS, ↓ev_part, ↓ev_slT, ↓ev_slL, ↓ev_slT1, ↓ev_slL1, ↓ev_N, ↓ev_len, ↓ev_tupT, ↓ev_tupL, ↓ev_lstT, ↓ev_lstL, ↓ev_isi, ↓ev_walkL, ↓ev_walkT, ↓ev_walkS, ↓ev_range1, ↓ev_range2, ↓ev_zipL, ↓ev_zipT, ↓ev_enum, ↓ev_putN, ↓ev_putT, ↓ev_sets0, ↓ev_sets1, ↓ev_comp, ↓ev_true, ↓ev_next, ↓ev_seq, ↓ev_brk, ↓ev_cnt, ↓ev_drop, ↓ev_retS, ↓ev_retO, ↓ev_retN, ↓ev_retV, ↓ev_ifS, ↓ev_set, ↓ev_setO, ↓ev_for, ↓ev_call, ↓ev_callO, ↓ev_callN, ↓ev_callNO, ↓ev_app, ↓ev_ext, ↓ev_extD, ↓ev_lstAt, ev_lstK, ↓ev_look, ev_lookK, ↓ev_lenV, ↓ev_ixV, ↓ev_inV, ↓ev_ixQL, ↓ev_ixQT, ↓ev_ixQS, ↓ev_ixQR, ev_ixR, ↓ev_join, ↓ev_joinD, ↓ev_all, ↓ev_any, ↓ev_sum, ↓ev_intI, ↓ev_intB, ↓ev_celAt, ev_celL, ev_celK, ↓ev_place, ↓ev_setIx, ↓ev_par, ↓ev_parNx, ↓ev_neg, ↓ev_negD, ↓ev_fn, ↓st1, ↓st2, ↓st3, ↓st4, ↓atI_0, ↓atI_1, ↓atI_2, ↓atI_3, ↓atI_4, List.getElem?_cons_zero, List.getElem?_cons_succ, List.getElem?_nil, List.set_cons_zero, List.set_cons_succ, List.replicate_succ, List.replicate_zero, Option.map_some, Option.isSome_some, true_and, and_true, List.length_cons, List.length_nil, Nat.reduceAdd, Bool.false_eq_true, if_true, if_false, beq_self_eq_true, Bool.true_or, Bool.or_true, Bool.false_or, Bool.or_false, Bool.not_true, Bool.not_false, Bool.and_true, Bool.true_and, decide_true, decide_false, decide_eq_true_eq, onSomeT_some, onSomeT_none, ifT_true, ifT_false, loopT_nil, ev_varF, ev_varT, ev_moveT, ev_retVF, ev_retVT, andT_true, andT_false]); (try simp only [onSomeT_b, ifT_b, varKT_b, movKT_b, retKT_b, loopT_b, foldT_b, whileT_b, andT_b])))
local macro_rules | `(tactic| array_mem_dec) => `(tactic| ((try simp (config := {dsimp := false}) only [Option.isSome_none, Int.natCast_zero, Int.natCast_one, Int.natCast_add, Int.reduceEq, natc_2, natc_3, natc_4, natc_5, natc_6, natc_7, natc_8, natc_9, natc_10, natc_11, natc_12, natc_13, natc_14, natc_15, natc_16, natc_17, natc_18, natc_19, natc_20, natc_21, natc_22, natc_23, natc_24, natc_25, natc_26, natc_27, natc_28, natc_29, natc_30, natc_31, natc_32, natc_33, natc_34, natc_35, natc_36, natc_37, natc_38, natc_39, natc_40, ↓and_T, ↓ev_inG, ↓ev_ixG, ↓ev_inGD, ↓ev_ixGD, ↓onSome_T, ↓ite_T, ↓varK_T, ↓movK_T, ↓retK_T, ↓loop_T, ↓fold_T, ↓while_T, le_line, Int.reducePow, Int.reduceNeg, Int.reduceLE, Int.reduceLT, Nat.reduceMul, Nat.reduceLeDiff, Int.reduceAdd, ev_lenS, List.map_cons, List.map_nil, inQ_sign, blsIn_L, intsIn_L, strsIn_L, strsIn_T, blsOf_map, intsOf_map, strsOf_map, List.nil_append, isNon_bl, isNon_int, isNon_str, isNon_tup, isNon_lst, isNon_dct, isNon_ref, isNon_non, eq_self, isT_NoneType_bool, isT_NoneType_int, isT_NoneType_str, isT_NoneType_tuple, isT_NoneType_list, isT_NoneType_dict, isT_bool_bool, isT_bool_int, isT_bool_str, isT_bool_tuple, isT_bool_list, isT_bool_dict, isT_int_bool, isT_int_int, isT_int_str, isT_int_tuple, isT_int_list, isT_int_dict, isT_str_bool, isT_str_int, isT_str_str, isT_str_tuple, isT_str_list, isT_str_dict, isT_tuple_bool, isT_tuple_int, isT_tuple_str, isT_tuple_tuple, isT_tuple_list, isT_tuple_dict, isT_list_bool, isT_list_int, isT_list_str, isT_list_tuple, isT_list_list, isT_list_dict, isT_dict_bool, isT_dict_int, isT_dict_str, isT_dict_tuple, isT_dict_list, isT_dict_dict, isQ_NoneType, isQ_bool, isQ_int, isQ_str, isQ_tuple, isQ_list, isQ_dict, List.any_cons, List.any_nil, ↓ev_callG, ↓ev_callGO, ↓noOwn_iff, nob0, nob1, nob2, nob3, ↓ev_wipe, wipe0, wipe1, rest0, rest1, Option.getD_some, Int.reduceToNat, ixN5_0, ixN5_1, ixN5_2, ixN5_3, ixN5_4, ev_eqQI, ev_eqQS, ev_eqQB, ev_lenL, ev_lenT, List.set_set, ↓ev_ret, ↓ev_stuck, ↓ev_bnd, ↓ev_var, ↓ev_move, ↓ev_C, ↓ev_op2, ↓ev_addI, ↓ev_addS, ↓ev_addT, ↓ev_sub, ↓ev_mul, ↓ev_mod, ↓ev_div, ↓ev_divW, ↓ev_pow, ↓ev_lt, ↓ev_le, ↓ev_gt, ↓ev_ge, ↓ev_cat, ↓ev_rep, ↓ev_isN, ↓ev_notN, ↓ev_eqI, ↓ev_eqS, ↓ev_eqB, ↓ev_neI, ↓ev_neS, ↓ev_neB, ↓ev_eq, ↓ev_ne, ↓ev_in, ↓ev_notin, ↓ev_truth, ↓ev_val, ↓ev_test, ↓ev_andT, ↓ev_orT, ↓ev_notT, ↓ev_andV, ↓ev_orV, ↓ev_notV, ↓ev_if, ↓ev_chain, ↓ev_nil, ↓ev_cons, ↓ev_args0, ↓ev_itemsL, ↓ev_itemsT, ↓ev_star, ↓ev_tup, ↓ev_lst, ↓ev_ixL, ↓ev_ixT, ↓ev_ixS, ↓ev_part, ↓ev_slT, ↓ev_slL, ↓ev_slT1, ↓ev_slL1, ↓ev_N, ↓ev_len, ↓ev_tupT, ↓ev_tupL, ↓ev_lstT, ↓ev_lstL, ↓ev_isi, ↓ev_walkL, ↓ev_walkT, ↓ev_walkS, ↓ev_range1, ↓ev_range2, ↓ev_zipL, ↓ev_zipT, ↓ev_enum, ↓ev_putN, ↓ev_putT, ↓ev_sets0, ↓ev_sets1, ↓ev_comp, ↓ev_true, ↓ev_next, ↓ev_seq, ↓ev_brk, ↓ev_cnt, ↓ev_drop, ↓ev_retS, ↓ev_retO, ↓ev_retN, ↓ev_retV, ↓ev_ifS, ↓ev_set, ↓ev_setO, ↓ev_for, ↓ev_call, ↓ev_callO, ↓ev_callN, ↓ev_callNO, ↓ev_app, ↓ev_ext, ↓ev_extD, ↓ev_lstAt, ev_lstK, ↓ev_look, ev_lookK, ↓ev_lenV, ↓ev_ixV, ↓ev_inV, ↓ev_ixQL, ↓ev_ixQT, ↓ev_ixQS, ↓ev_ixQR, ev_ixR, ↓ev_join, ↓ev_joinD, ↓ev_all, ↓ev_any, ↓ev_sum, ↓ev_intI, ↓ev_intB, ↓ev_celAt, ev_celL, ev_celK, ↓ev_place, ↓ev_setIx, ↓ev_par, ↓ev_parNx, ↓ev_neg, ↓ev_negD, ↓ev_fn, ↓st1, ↓st2, ↓st3, ↓st4, ↓atI_0, ↓atI_1, ↓atI_2, ↓atI_3, ↓atI_4, List.getElem?_cons_zero, List.getElem?_cons_succ, List.getElem?_nil, List.set_cons_zero, List.set_cons_succ, List.replicate_succ, List.replicate_zero, Option.map_some, Option.isSome_some, true_and, and_true, List.length_cons, List.length_nil, Nat.reduceAdd, Bool.false_eq_true, if_true, if_false, beq_self_eq_true, Bool.true_or, Bool.or_true, Bool.false_or, Bool.or_false, Bool.not_true, Bool.not_false, Bool.and_true, Bool.true_and, decide_true, decide_false, decide_eq_true_eq, onSomeT_some, onSomeT_none, ifT_true, ifT_false, loopT_nil, ev_varF, ev_varT, ev_moveT, ev_retVF, ev_retVT, andT_true, andT_false, *]); (try simp only [onSomeT_b, ifT_b, varKT_b, movKT_b, retKT_b, loopT_b, foldT_b, whileT_b, andT_b])))
def c_WORDS : List (Str × D) := [("cell", .tup [.str "own", .str "trap", .str "stale"]), ("saved", .tup [.str "none", .str "own", .str "trap", .str "stale"])]
def b_is_word : MS :=
  (dRet (dAndV (dIsi ["str"] (dVar 0)) (dInV false (dVar 0) 1)))
def F_is_word : Fn := dFn 2 b_is_word
def b_head_of : MS :=
  (dSeq (dIfS (dOrT (dNotT (dVal (dIsi ["tuple"] (dVar 0)))) (dOrT (dTest dEq (dLenV 0) (dC (.int 0))) (dNotT (dVal (dIsi ["str"] (dIxV 0 (dC (.int 0)))))))) (dRet (dC (.str ""))) dNext)
    (dRet (dIxV 0 (dC (.int 0)))))
def F_head_of : Fn := dFn 1 b_head_of
def b_is_plain_test : MS :=
  (dSeq (dSet (.nm 1) (dCallN 1 F_head_of (daCons (dVar 0) daNil)))
    (dSeq (dIfS (dTest dIn (dVar 1) (dTup (daCons (dC (.str "wished")) (daCons (dC (.str "told")) daNil)))) (dRet (dOp2 dEq (dLenV 0) (dC (.int 1)))) dNext)
    (dSeq (dIfS (dVal (dInG c_WORDS false (dVar 1))) (dRet (dAndV (dOp2 dEq (dLenV 0) (dC (.int 2))) (dCallN 2 F_is_word (daCons (dIxV 0 (dC (.int 1))) (daCons (dIxG c_WORDS (dVar 1)) daNil))))) dNext)
    (dRet (dAndV (dOp2 dEq (dVar 1) (dC (.str "marked"))) (dAndV (dOp2 dEq (dLenV 0) (dC (.int 2))) (dCallN 1 F_is_mark (daCons (dIxV 0 (dC (.int 1))) daNil))))))))
def F_is_plain_test : Fn := dFn 2 b_is_plain_test
def b_is_test : MS :=
  (dSeq (dIfS (dTest dEq (dCallN 1 F_head_of (daCons (dVar 0) daNil)) (dC (.str "not"))) (dRet (dAndV (dOp2 dEq (dLenV 0) (dC (.int 2))) (dCallN 1 F_is_plain_test (daCons (dIxV 0 (dC (.int 1))) daNil)))) dNext)
    (dRet (dCallN 1 F_is_plain_test (daCons (dVar 0) daNil))))
def F_is_test : Fn := dFn 1 b_is_test
/-- a small tree -/
def Sm : Nat → D → Prop
  | 0, _ => False
  | _ + 1, .non => True
  | _ + 1, .bl _ => True
  | _ + 1, .int _ => True
  | _ + 1, .str z => z.length ≤ sizeLine
  | j + 1, .tup l => l.length ≤ sizeLine ∧ ∀ d ∈ l, Sm j d
  | j + 1, .lst l => l.length ≤ sizeLine ∧ ∀ d ∈ l, Sm j d
  | _ + 1, _ => False
def headD : D → Str
  | .tup (.str z :: _) => z
  | _ => ""
theorem head_of_of {j : Nat} {d : D} {m : List SO} {Q : D → Bool → List SO → Prop} {E : Ex → List SO → Prop} (h : Sm j d) (q : Q (.str (headD d)) false m) : F_head_of [d] m Q E := by
  unfold F_head_of b_head_of
  cases j with
  | zero => exact h.elim
  | succ j =>
  cases d with
  | tup l =>
    cases l with
    | nil => (iterate 3 array_get_dec); exact q
    | cons x r =>
      obtain ⟨h1, h2⟩ := h
      have hx := h2 x (by simp)
      have hl : ¬ ((r.length : Int) + 1 = 0) := by omega
      cases j with
      | zero => exact hx.elim
      | succ j =>
      cases x with
      | ref n => exact hx.elim
      | scr => exact hx.elim
      | dct k l => exact hx.elim
      | fn _ _ _ _ => exact hx.elim
      | exc _ _ _ => exact hx.elim
      | ins _ _ _ => exact hx.elim
      | _ =>
        array_get_dec
        rw [if_neg hl]
        iterate 2 array_get_dec
        exact q
  | ref n => exact h.elim
  | scr => exact h.elim
  | dct k l => exact h.elim
  | fn _ _ _ _ => exact h.elim
  | exc _ _ _ => exact h.elim
  | ins _ _ _ => exact h.elim
  | _ => (iterate 3 array_get_dec); exact q
def lenD : D → Nat
  | .tup l => l.length
  | _ => 0
def secD : D → D
  | .tup (_ :: y :: _) => y
  | _ => .non
def wordB (ws : D) : D → Bool
  | .str z => match ws with
    | .tup l => l.any fun d => eqF d (.str z)
    | _ => false
  | _ => false
/-- what is_plain_test tells of a tuple -/
def plainB (d : D) : Bool :=
  if headD d = "wished" ∨ headD d = "told" then decide (lenD d = 1)
  else match c_WORDS.lookup (headD d) with
    | some ws => decide (lenD d = 2) && wordB ws (secD d)
    | none => decide (headD d = "marked") && (decide (lenD d = 2) && DL.markD (secD d))
theorem is_word_of {j : Nat} {y ws : D} {m : List SO} {Q : D → Bool → List SO → Prop} {E : Ex → List SO → Prop} (h : Sm j y) (hw : ws = .tup [.str "own", .str "trap", .str "stale"] ∨ ws = .tup [.str "none", .str "own", .str "trap", .str "stale"]) (q : Q (.bl (wordB ws y)) false m) : F_is_word [y, ws] m Q E := by
  unfold F_is_word b_is_word
  cases j with
  | zero => exact h.elim
  | succ j =>
  cases y with
  | ref n => exact h.elim
  | scr => exact h.elim
  | dct k l => exact h.elim
  | fn _ _ _ _ => exact h.elim
  | exc _ _ _ => exact h.elim
  | ins _ _ _ => exact h.elim
  | str z =>
    rcases hw with rfl | rfl
    all_goals
      array_get_dec
      have e : ∀ l : List D, l.all D.flat = true → inQ (.str z) (.tup l) = some (l.any fun d => eqF d (.str z)) := fun l hl => by
        unfold inQ; simp only [D.flat, hl, and_self, if_true]
      rw [e _ (by rfl)]
      array_get_dec
      simp only [wordB, List.any_cons, List.any_nil, Bool.or_false] at q
      exact q
  | _ => (iterate 3 array_get_dec); rcases hw with rfl | rfl <;> exact q
theorem inQ_tup (z : Str) (l : List D) (hl : l.all D.flat = true) : inQ (.str z) (.tup l) = some (l.any fun d => eqF d (.str z)) := by
  unfold inQ; simp only [D.flat, hl, and_self, if_true]
theorem eqF_str (a b : Str) : eqF (.str a) (.str b) = (a == b) := rfl
theorem head_tup {d : D} (h : headD d ≠ "") : ∃ z r, d = .tup (.str z :: r) ∧ headD d = z := by
  unfold headD at h ⊢
  split at h
  · exact ⟨_, _, rfl, rfl⟩
  · exact absurd rfl h
theorem look_words {z : Str} {ws : D} (h : c_WORDS.lookup z = some ws) : ws = .tup [.str "own", .str "trap", .str "stale"] ∨ ws = .tup [.str "none", .str "own", .str "trap", .str "stale"] := by
  unfold c_WORDS at h
  rw [List.lookup_cons] at h
  split at h
  · cases h; exact .inl rfl
  · rw [List.lookup_cons] at h
    split at h
    · cases h; exact .inr rfl
    · cases h
theorem sm_sub {j : Nat} {x : D} {l : List D} (h : Sm j (.tup l)) (hx : x ∈ l) : ∃ i, Sm i x := by
  cases j with
  | zero => exact h.elim
  | succ j => exact ⟨j, h.2 x hx⟩
theorem sm_mark {j : Nat} {x : D} (h : Sm j x) : MarkArg x := by
  cases j with
  | zero => exact h.elim
  | succ j => cases x <;> first | exact h | exact h.elim | rfl
theorem plain_of {j : Nat} {d : D} {m : List SO} {Q : D → Bool → List SO → Prop} {E : Ex → List SO → Prop} (h : Sm j d) (q : Q (.bl (plainB d)) false m) : F_is_plain_test [d] m Q E := by
  unfold F_is_plain_test b_is_plain_test
  array_get_dec
  refine head_of_of h ?_
  array_get_dec
  rw [inQ_tup _ _ (by rfl)]
  array_get_dec
  simp only [eqF_str, Bool.or_eq_true, beq_iff_eq]
  have n1 : ("wished" : Str) ≠ "" := by decide +kernel
  have n2 : ("told" : Str) ≠ "" := by decide +kernel
  have n3 : List.lookup ("" : Str) c_WORDS = none := Option.isNone_iff_eq_none.mp (by decide +kernel)
  have n4 : ("marked" : Str) ≠ "" := by decide +kernel
  by_cases h1 : ("wished" : Str) = headD d ∨ ("told" : Str) = headD d
  · rw [if_pos h1]
    have h1' : headD d = "wished" ∨ headD d = "told" := h1.imp Eq.symm Eq.symm
    obtain ⟨z, r, rfl, hz⟩ := head_tup (d := d) (by rcases h1' with e | e <;> rw [e] <;> assumption)
    have e : plainB (.tup (.str z :: r)) = decide ((r.length : Int) + 1 = 1) := by
      unfold plainB
      rw [if_pos h1']
      exact decide_eq_decide.mpr (by simp only [lenD, List.length_cons]; omega)
    rw [e] at q
    array_get_dec
    exact q
  · rw [if_neg h1]
    have h1' : ¬ (headD d = "wished" ∨ headD d = "told") := fun a => h1 (a.imp Eq.symm Eq.symm)
    unfold plainB at q
    rw [if_neg h1'] at q
    array_get_dec
    cases hl : c_WORDS.lookup (headD d) with
    | some ws =>
      rw [hl] at q
      array_get_dec
      obtain ⟨z, r, rfl, hz⟩ := head_tup (d := d) (fun e => by rw [e, n3] at hl; cases hl)
      array_get_dec
      by_cases h2 : (r.length : Int) + 1 = 2
      · rw [if_pos h2]
        obtain ⟨y, rfl⟩ : ∃ y, r = [y] := by
          match r, h2 with
          | [y], _ => exact ⟨y, rfl⟩
          | [], h2 => simp at h2
          | _ :: _ :: _, h2 => simp at h2; omega
        obtain ⟨i, hy⟩ := sm_sub h (x := y) (by simp)
        iterate 2 array_get_dec
        rw [hl]
        array_get_dec
        refine is_word_of hy (look_words hl) ?_
        array_get_dec
        exact q
      · rw [if_neg h2]
        array_get_dec
        have : decide (lenD (.tup (.str z :: r)) = 2) = false := decide_eq_false (by simp only [lenD, List.length_cons]; omega)
        simp only [this, Bool.false_and] at q
        exact q
    | none =>
      rw [hl] at q
      array_get_dec
      by_cases h3 : headD d = "marked"
      · rw [if_pos h3]
        obtain ⟨z, r, rfl, hz⟩ := head_tup (d := d) (by rw [h3]; exact n4)
        array_get_dec
        simp only [decide_eq_true h3, Bool.true_and] at q
        by_cases h2 : (r.length : Int) + 1 = 2
        · rw [if_pos h2]
          obtain ⟨y, rfl⟩ : ∃ y, r = [y] := by
            match r, h2 with
            | [y], _ => exact ⟨y, rfl⟩
            | [], h2 => simp at h2
            | _ :: _ :: _, h2 => simp at h2; omega
          obtain ⟨i, hy⟩ := sm_sub h (x := y) (by simp)
          iterate 2 array_get_dec
          refine is_mark_of (sm_mark hy) ?_
          array_get_dec
          exact q
        · rw [if_neg h2]
          array_get_dec
          have : decide (lenD (.tup (.str z :: r)) = 2) = false := decide_eq_false (by simp only [lenD, List.length_cons]; omega)
          simp only [this, Bool.false_and] at q
          exact q
      · rw [if_neg h3]
        array_get_dec
        simp only [decide_eq_false h3, Bool.false_and] at q
        exact q
def testB (d : D) : Bool := if headD d = "not" then decide (lenD d = 2) && plainB (secD d) else plainB d
theorem test_of {j : Nat} {d : D} {m : List SO} {Q : D → Bool → List SO → Prop} {E : Ex → List SO → Prop} (h : Sm j d) (q : Q (.bl (testB d)) false m) : F_is_test [d] m Q E := by
  unfold F_is_test b_is_test
  array_get_dec
  refine head_of_of h ?_
  array_get_dec
  unfold testB at q
  have n1 : ("not" : Str) ≠ "" := by decide +kernel
  by_cases h1 : headD d = "not"
  · rw [if_pos h1] at q ⊢
    obtain ⟨z, r, rfl, hz⟩ := head_tup (d := d) (by rw [h1]; exact n1)
    array_get_dec
    by_cases h2 : (r.length : Int) + 1 = 2
    · rw [if_pos h2]
      obtain ⟨y, rfl⟩ : ∃ y, r = [y] := by
        match r, h2 with
        | [y], _ => exact ⟨y, rfl⟩
        | [], h2 => simp at h2
        | _ :: _ :: _, h2 => simp at h2; omega
      obtain ⟨i, hy⟩ := sm_sub h (x := y) (by simp)
      iterate 2 array_get_dec
      refine plain_of hy ?_
      array_get_dec
      exact q
    · rw [if_neg h2]
      array_get_dec
      have : decide (lenD (.tup (.str z :: r)) = 2) = false := decide_eq_false (by simp only [lenD, List.length_cons]; omega)
      simp only [this, Bool.false_and] at q
      exact q
  · rw [if_neg h1] at q ⊢
    array_get_dec
    exact plain_of h (by array_get_dec; exact q)
def smB : Nat → D → Bool
  | 0, _ => false
  | _ + 1, .non => true
  | _ + 1, .bl _ => true
  | _ + 1, .int _ => true
  | _ + 1, .str z => Nat.ble z.length sizeLine
  | j + 1, .tup l => Nat.ble l.length sizeLine && l.all (smB j)
  | j + 1, .lst l => Nat.ble l.length sizeLine && l.all (smB j)
  | _ + 1, _ => false
theorem smB_ok : ∀ {j : Nat} {a : D}, smB j a = true → Sm j a
  | 0, _, h => by cases h
  | j + 1, a, h => by
    cases a with
    | tup l | lst l =>
      simp only [smB, Bool.and_eq_true, List.all_eq_true] at h
      exact ⟨Nat.le_of_ble_eq_true h.1, fun d hd => smB_ok (h.2 d hd)⟩
    | str z => exact Nat.le_of_ble_eq_true h
    | non | bl b | int i => trivial
    | _ => cases h
theorem strOk_mark {z : Str} (h : markB z = true) : PyData.strOk z = true := by
  unfold PyData.strOk
  rw [← Array.all_toList, List.all_eq_true]
  intro c hc
  have := mem_LET.mp (mark_let h c hc)
  rw [decide_eq_true_eq]; omega
theorem test_nohead {d : D} (h : headD d = "") : testB d = false := by
  have e2 : c_WORDS.lookup ("" : Str) = none := Option.isNone_iff_eq_none.mp (by decide +kernel)
  unfold testB plainB
  rw [h, e2, if_neg (by decide +kernel), if_neg (by decide +kernel)]
  show (decide (("" : Str) = "marked") && _) = false
  rw [show decide (("" : Str) = "marked") = false from by decide +kernel, Bool.false_and]
theorem test_marked (y : D) : testB (.tup [.str "marked", y]) = markD y := by
  have e1 : headD (.tup [.str "marked", y]) = "marked" := rfl
  have e2 : c_WORDS.lookup ("marked" : Str) = none := Option.isNone_iff_eq_none.mp (by decide +kernel)
  unfold testB plainB
  rw [e1, e2, if_neg (by decide +kernel), if_neg (by decide +kernel)]
  simp only [decide_true, Bool.true_and, lenD, secD, List.length_cons, List.length_nil]
theorem loop_inv {α : Type} (f : α → D) (I : S → Prop) {t : Tg} {body : MS} {nx bk ct : S → Prop} {rt : D → Bool → S → Prop} {ex : Ex → S → Prop} : ∀ {l : List α} {s : S},
    (∀ a ∈ l, ∀ s, I s → ∃ s1, t.put (f a) s = some s1 ∧ ∀ K : S → Prop, (∀ s', I s' → K s') → body ⟨K, rt, nx, K, ex⟩ s1) → I s → (∀ s', I s' → nx s') → dLoop t body (l.map f) ⟨nx, rt, bk, ct, ex⟩ s
  | [], s, _, h, k => k s h
  | a :: r, s, hb, h, k => by
    obtain ⟨s1, e, b⟩ := hb a List.mem_cons_self s h
    rw [List.map_cons]
    unfold dLoop
    rw [e, onSome_some]
    exact b _ fun s' h' => loop_inv f I (fun a ha => hb a (List.mem_cons_of_mem _ ha)) h' k
end DL

/-! ### f-strings -/
namespace DL
open PySem PySem.Spec PyProof.Rows L2
inductive DJ (X : Cx) (B : Ent) (W : WX) : List Expr → List (M D) → Prop where
  | nil : DJ X B W [] []
  | cons {e : Expr} {f : M D} {es : List Expr} {fs : List (M D)} (h : DE X B W e f) (t : DJ X B W es fs) : DJ X B W (e :: es) (f :: fs)
theorem DJ.pj {X : Cx} {B : Ent} {W : WX} {es : List Expr} {fs : List (M D)} (h : DJ X B W es fs) : PJ X es (fs.map (tE X.K B W)) := by
  induction h with
  | nil => exact .nil
  | cons h _ ih => exact .cons h ih
def fmtD (d : D) (s : S) (Q : D → S → Prop) : Prop := match d with
  | .str y => y.length ≤ sizeLine ∧ Q (.str y) s
  | .int i => i.natAbs.log2 < 1920 ∧ Q (.str (toString i)) s
  | _ => False
def dFmt (f : M D) : M D := fun s Q E => f s (fun d s' => fmtD d s' Q) E
def jsD (d : D) (k : Str → Prop) : Prop := match d with
  | .str y => k y
  | _ => False
def dJs : List (M D) → Str → M Str
  | [], acc => fun s Q _ => Q acc s
  | f :: fs, acc => fun s Q E => f s (fun d s' => jsD d fun y => (acc ++ y).length ≤ sizeLine ∧ dJs fs (acc ++ y) s' Q E) E
def dJoined (fs : List (M D)) : M D := fun s Q E => dJs fs Str.empty s (fun x s' => Q (.str x) s') E
def rS : Rl Str Str := fun _ _ _ _ _ _ _ d v => v = d
section
variable {X : Cx} {B : Ent} {W : WX} {e : Expr} {f : M D} {pos : Pos}
theorem de_fmt (h : DE X B W e f) : DE X B W (.FormattedValue e (-1) none pos) (dFmt f) := PE.weak (pe_fmt h) fun σ H Q q => by
  refine tG.seq (back_E _) (show tE X.K B W (f.bnd fun d s Q _ => fmtD d s Q) σ H Q from q) fun d s v w H' QD ED _ _ r rv z pp => ?_
  have rv : Rep X.K w d v := rv
  unfold fmtD at z
  split at z
  · cases rep_str rv
    exact .inl ⟨_, rfl, z.1, tG.ret (R := rE _) r of_str z.2 pp⟩
  · cases rep_int rv
    exact .inr ⟨_, rfl, z.1, tG.ret (R := rE _) r of_str z.2 pp⟩
  · exact z.elim
theorem js_of {K : PySem.W.Frag} : ∀ (fs : List (M D)) (acc : Str) (σ : LSt) (H : Hp) (Q : Str → Hp → Prop), tG K B W rS (dJs fs acc) σ H Q → tJs (fs.map (tE K B W)) acc σ H Q
  | [], acc, σ, H, Q, h => by
    obtain ⟨w, s, QD, ED, r, q, p⟩ := h
    exact p.ok acc s acc w H (.refl ..) r rfl q
  | f :: fs, acc, σ, H, Q, h => by
    refine tG.seq (f := f) (g := fun d s Q E => jsD d fun y => (acc ++ y).length ≤ sizeLine ∧ dJs fs (acc ++ y) s Q E) (fun _ _ _ _ _ _ _ _ _ _ _ _ _ h => h) h fun d s v w H' QD ED _ _ r rv z pp => ?_
    have rv : Rep K w d v := rv
    unfold jsD at z
    split at z
    · cases rep_str rv
      exact ⟨_, rfl, z.1, js_of fs _ σ H' Q ⟨w, s, QD, ED, r, z.2, pp⟩⟩
    · exact z.elim
theorem de_joined {v1 v2 : Expr} {rest : List Expr} {fs : List (M D)} (h : DJ X B W (v1 :: v2 :: rest) fs) : DE X B W (.JoinedStr (v1 :: v2 :: rest) pos) (dJoined fs) := PE.weak (pe_joined h.pj) fun σ H Q q => by
  refine js_of fs Str.empty σ H _ ?_
  obtain ⟨w, s, QD, ED, r, z, p⟩ := q
  exact ⟨w, s, _, ED, r, z, ⟨fun d s' v w' H' t r' rv q' => by cases rv; exact p.ok (.str d) s' (.str d) w' H' t r' (of_str (K := X.K) (w := w')) q', p.ex⟩⟩
end
theorem ev_fmt (f : M D) {s : S} {Q : D → S → Prop} {E : Ex → S → Prop} : dFmt f s Q E = f s (fun d s' => fmtD d s' Q) E := id rfl
theorem ev_fmtS (y : Str) {s : S} {Q : D → S → Prop} : fmtD (.str y) s Q = (y.length ≤ sizeLine ∧ Q (.str y) s) := id rfl
theorem ev_fmtI (i : Int) {s : S} {Q : D → S → Prop} : fmtD (.int i) s Q = (i.natAbs.log2 < 1920 ∧ Q (.str (toString i)) s) := id rfl
theorem ev_joined (fs : List (M D)) {s : S} {Q : D → S → Prop} {E : Ex → S → Prop} : dJoined fs s Q E = dJs fs Str.empty s (fun x s' => Q (.str x) s') E := id rfl
theorem ev_js0 (acc : Str) {s : S} {Q : Str → S → Prop} {E : Ex → S → Prop} : dJs [] acc s Q E = Q acc s := id rfl
theorem ev_js1 (f : M D) (fs : List (M D)) (acc : Str) {s : S} {Q : Str → S → Prop} {E : Ex → S → Prop} : dJs (f :: fs) acc s Q E = f s (fun d s' => jsD d fun y => (acc ++ y).length ≤ sizeLine ∧ dJs fs (acc ++ y) s' Q E) E := id rfl
theorem ev_jsD (y : Str) (k : Str → Prop) : jsD (.str y) k = k y := id rfl
end DL

/-! ### a fresh list becomes a cell -/
namespace DL
open PySem PySem.Spec PyProof.Rows L2
section
variable {K : PySem.W.Frag} {B : Ent} {w : Wd} {s : S} {σ : LSt} {H : Hp} {a : Addr} {l : List D}
theorem StRel.add {m : List SO} {b : SO} (st : StRel K w m H) (h4 : w.F a = none) (h5 : a ∉ w.th) (ob : ObjRel K ⟨w.F, w.th ++ [a], w.cs⟩ H a b) : StRel K ⟨w.F, w.th ++ [a], w.cs⟩ (m ++ [b]) H := by
  have le : w.le ⟨w.F, w.th ++ [a], w.cs⟩ := ⟨fun _ _ e => e, [a], rfl, rfl⟩
  refine ⟨?_, ?_, ?_, ?_⟩
  · show (w.th ++ [a]).length = _
    rw [List.length_append, List.length_append, st.len]; rfl
  · show (w.th ++ [a]).Nodup
    rw [List.nodup_append]
    exact ⟨st.nd, by simp, fun x hx y hy e => by simp at hy; subst hy e; exact h5 hx⟩
  · intro b hb
    rcases List.mem_append.mp hb with hb | hb
    · exact st.out b hb
    · simp at hb; subst hb; exact h4
  · intro n o' b' e1 e2
    have e2 : (w.th ++ [a])[n]? = some b' := e2
    by_cases hn : n < m.length
    · rw [List.getElem?_append_left hn] at e1
      rw [List.getElem?_append_left (by rw [st.len]; exact hn)] at e2
      exact (st.ob n o' b' e1 e2).mono le rfl
    · rw [List.getElem?_append_right (by omega)] at e1
      rw [List.getElem?_append_right (by rw [st.len]; omega), st.len] at e2
      cases hk : n - m.length with
      | zero =>
        rw [hk] at e1 e2
        simp at e1 e2
        subst e1 e2
        exact ob
      | succ k => rw [hk] at e1; simp at e1
theorem Fresh.cell (R : BRel K B w s σ H) (q : Fresh K B w s σ H a (.lst l)) : BRel K B ⟨w.F, w.th ++ [a], w.cs⟩ ⟨s.d, s.m ++ [.cel l]⟩ σ H ∧ w.le ⟨w.F, w.th ++ [a], w.cs⟩ ∧ Rep K ⟨w.F, w.th ++ [a], w.cs⟩ (.ref s.m.length) (.ref a) := by
  have le : w.le ⟨w.F, w.th ++ [a], w.cs⟩ := ⟨fun _ _ e => e, [a], rfl, rfl⟩
  obtain ⟨o, ho, vs, rfl, rv⟩ := q.at_
  refine ⟨⟨R.sub, R.st.add q.f q.t ⟨vs, ho, rv.mono le⟩, R.len, fun i d h => ?_, fun i d h => ?_, R.sep, R.ent.trans le, R.keep, R.fnew, fun b hb hn => ?_, R.lv⟩, le, ?_⟩
  · obtain ⟨v, h1, h2⟩ := R.val i d h
    exact ⟨v, h1, h2.mono le⟩
  · obtain ⟨b, u, h1, h2, h3, h4, h5, h6⟩ := R.own i d h
    refine ⟨b, u, h1, h2, h3.mono le, h4, fun z => ?_, h6⟩
    rcases List.mem_append.mp z with z | z
    · exact h5 z
    · simp at z; subst z; exact q.sl i d h h1
  · rcases List.mem_append.mp hb with hb | hb
    · exact R.tnew b hb hn
    · simp at hb; subst hb; exact q.b
  · simp only [Rep]
    refine ⟨a, rfl, ?_⟩
    show (w.th ++ [a])[s.m.length]? = some a
    rw [← R.st.len, List.getElem?_append_right (Nat.le_refl _), Nat.sub_self]; rfl
end
/-- a fresh list as a cell -/
def celD (d : D) (s : S) (Q : D → S → Prop) : Prop := match d with
  | .lst l => Q (.ref s.m.length) ⟨s.d, s.m ++ [.cel l]⟩
  | _ => False
def dCell (f : M D) : M D := fun s Q E => f s (fun d s' => celD d s' Q) E
theorem de_cell {X : Cx} {B : Ent} {W : WX} {e : Expr} {f : M D} (h : DO X B W e f) : DE X B W e (dCell f) := PE.weak h fun σ H Q q => by
  obtain ⟨w, s, QD, ED, r, q, p⟩ := q
  refine ⟨w, s, _, ED, r, q, ⟨fun d s' v w' H' t r' rv z => ?_, p.ex⟩⟩
  obtain ⟨l, rfl⟩ : ∃ l, d = .lst l := by cases d <;> first | exact z.elim | exact ⟨_, rfl⟩
  have z : QD (.ref s'.m.length) ⟨s'.d, s'.m ++ [.cel l]⟩ := z
  obtain ⟨a, rfl, fr, no⟩ := rv
  obtain ⟨R, le, rp⟩ := fr.cell r'
  refine p.ok _ _ _ _ H' ⟨t.le.trans le, fun b u q => ?_⟩ R rp z
  have q' := t.fr b u q
  refine ⟨q'.at_, q'.f, fun y => ?_, q'.sl⟩
  rcases List.mem_append.mp y with y | y
  · exact q'.t y
  · simp at y; subst y; exact no u q
theorem ev_cell (f : M D) {s : S} {Q : D → S → Prop} {E : Ex → S → Prop} : dCell f s Q E = f s (fun d s' => celD d s' Q) E := id rfl
theorem ev_celD (l : List D) {s : S} {Q : D → S → Prop} : celD (.lst l) s Q = Q (.ref s.m.length) ⟨s.d, s.m ++ [.cel l]⟩ := id rfl
end DL

/-! ### exceptions of the program: their own making -/
namespace EX
open PySem PySem.Spec PySem.W PySem.Calls PyProof.Rows L2

section
open Builtin Builtin.ObjectAttr
variable {prog : Program} {w : World} {A : Around} {E : Value → Shared → Prop} {K : Frag} {B : String} {bmB : List Value}
/-- what the written part says of an own exception class over the built-in B -/
structure ExcT (K : Frag) (C : Addr) (B : String) (bmB : List Value) (newId initId : String) : Prop where
  fb : ExcBaseFacts B newId initId bmB
  sf : StoreFacts B bmB "object.__setattr__" "object"
  kf : KxsFacts B initId
  own : excInitIn K C bmB newId = true
  over : excOver K C bmB = true
  sa : findIn K (.ref C) "__setattr__" = some (some (.builtin "object.__setattr__"))
  dict : hasDictIn K C = true
  sub : subIn K (.ref C) (.type B) = some true
  base : subIn K (.ref C) (.type "BaseException") = some true
  ty : typeIn K (.ref C) = some (.type "type")
  keep : keepIn K (.ref C) = true
  ga : findIn K (.ref C) "__getattribute__" = some (some (.builtin "BaseException.__getattribute__"))
  gg : findIn K (.ref C) "__getattr__" = some none

/-- the first field of an exception -/
theorem set_new {s : Shared} {x C t : Addr} {f : Str} {u : Value} {newId initId : String} {Q : Unit → Shared → Prop} (T : ExcT K C B bmB newId initId) (X : K.In s.heap) (hx : s.heap.get? x = some (excObj C t none .none)) (hn : takerIn K C f = some none)
    (hq : ∀ h' tk' dx, (∀ b o, b ≠ x → s.heap.get? b = some o → h'.get? b = some o) → s.heap.objs.size ≤ dx → dx ≠ x → h'.get? x = some (excObj C t (some dx) .none) → h'.Ns1 dx (fun y => if y = f then some u else none) → Q () { s with heap := h', toks := tk' }) :
    wpAny (model prog w) A (setAttr (.ref x) f u) Q E s := by
  have In : InstAt s.heap x (excObj C t none .none) C none := ⟨hx, rfl, rfl, trivial⟩
  obtain ⟨hp, g, d, tk, os⟩ := s
  refine set_plain (od := none) X In T.sa ?_
  refine osa_openX (s := ⟨hp, g, d, tk + 1, os⟩) T.sf X In T.over hn fun _ => ?_
  obtain ⟨cd, hcd, hh⟩ := any_some T.dict
  have Lc : Looks (model prog w) hp (classData C) cd := looks_clsIn X hcd
  have away : x ≠ hp.objs.size := Nat.ne_of_lt (Heap.lt_size hx)
  show wpAny _ _ (storeInOwnDict (.ref x) (.ref C) (.str f tk) f u _) _ _ _
  obtain ⟨a1, a2, a3, a4, a5, hd, a7, a8, a9, a10, a11⟩ := cd
  dsimp only at hh
  subst hh
  unfold storeInOwnDict ownDictForStores
  repeat (first | with_reducible refine HandSPX.store_in_new ?_ ?_ | with_reducible refine Lc.at ?_ | with_reducible refine wpAny_loadPart_at hx ?_ | wp_step)
  · exact ⟨_, #[], _, (Heap.get?_update_ne _ _ _ _ away.symm).trans (Heap.get?_push_at rfl rfl), rfl, fun e he => absurd he (by simp), fun _ => rfl⟩
  · intro h' tk' hn' hs
    have hx' : (hp.push { cls := .type "dict", data := .dict #[] }).get? x = some (excObj C t none .none) := Heap.get?_push_of_some _ hx
    refine hq h' tk' hp.objs.size (fun b o hb ho => ?_) (Nat.le_refl _) away.symm ?_ hn'
    · exact (hs.2 b (Nat.ne_of_lt (Heap.lt_size ho))).trans ((Heap.get?_update_ne _ _ _ _ hb).trans (Heap.get?_push_of_some _ ho))
    · exact (hs.2 x away).trans (Heap.get?_update_self _ hx' rfl)
/-- a further field -/
theorem set_more {s : Shared} {x C t dx : Addr} {f : Str} {u : Value} {newId initId : String} {m0 : Str → Option Value} {nl : List Str} {Q : Unit → Shared → Prop} (T : ExcT K C B bmB newId initId) (X : K.In s.heap) (hx : s.heap.get? x = some (excObj C t (some dx) .none)) (hn : takerIn K C f = some none)
    (hD : s.heap.Ns1 dx m0) (hw : Within m0 nl) (hz : nl.length ≤ 900)
    (hq : ∀ h' tk', (∀ b o, b ≠ dx → s.heap.get? b = some o → h'.get? b = some o) → h'.Ns1 dx (fun y => if y = f then some u else m0 y) → Q () { s with heap := h', toks := tk' }) :
    wpAny (model prog w) A (setAttr (.ref x) f u) Q E s := by
  obtain ⟨oD, esD, epD, hoD, _, _⟩ := hD.count hw
  have In : InstAt s.heap x (excObj C t (some dx) .none) C (some oD) := ⟨hx, rfl, rfl, hoD⟩
  obtain ⟨hp, g, d, tk, os⟩ := s
  refine set_plain X In T.sa ?_
  refine osa_openX (s := ⟨hp, g, d, tk + 1, os⟩) T.sf X In T.over hn fun _ => ?_
  obtain ⟨cd, hcd, hh⟩ := any_some T.dict
  have Lc : Looks (model prog w) hp (classData C) cd := looks_clsIn X hcd
  show wpAny _ _ (storeInOwnDict (.ref x) (.ref C) (.str f tk) f u _) _ _ _
  obtain ⟨a1, a2, a3, a4, a5, hd, a7, a8, a9, a10, a11⟩ := cd
  dsimp only at hh
  subst hh
  unfold storeInOwnDict ownDictForStores
  repeat (first | with_reducible refine OEX.store_in_old hD hw (Nat.le_trans hz (by decide)) ?_ | with_reducible refine Lc.at ?_ | with_reducible refine wpAny_loadPart_at hx ?_ | wp_step)
  intro h' tk' hn' hs
  exact hq h' tk' (fun b o hb ho => (hs.2 b hb).trans ho) hn'
end
end EX

/-! ### super().__init__(..) -/
namespace EX
open PySem PySem.Spec PySem.W PySem.Calls PyProof.Rows L2
/-- what a def that says super() leans on: its class D, the cell cc, its code object cda -/
structure Sup (prog : Program) (K : Frag) (mg : Str → Option Value) (D cc cda : Addr) : Prop where
  code : ∃ ccl cdd vs ccs file tf, K.lookup cda = some ⟨ccl, cdd, .fields vs, ccs⟩ ∧ vs[2]? = some (.str file tf) ∧ ((prog.main.file : Str) == file) = true
  cell : ∃ cl cld csl, K.lookup cc = some ⟨cl, cld, .cell (some (.ref D)), csl⟩
  cls : isClsIn K D = true
  top : (prog.main.scope.names.lookup ("super" : Str)).isSome = false
  op : nsIn K cStatics "thirdparty.any" = some none
  nm : mg "super" = none
section
variable {prog : Program} {w : World} {A : Around} {E : Value → Shared → Prop} {K : Frag} {mg : Str → Option Value} {base h₀ : Heap} {B newId initId : String} {bmB : List Value}
/-- an argument that is read, whatever it is -/
def Reads (prog : Program) (w : World) (A : Around) (env : Env) (E : Value → Shared → Prop) (L : Addr) (m : Str → Option Value) (a : Expr) (v : V) : Prop :=
  ∀ (s : Shared) (Q : Value → Shared → Prop), s.heap.Ns L m → (∀ u tk, RelV v u → Q u { s with toks := tk }) → wpAny (model prog w) A (eval a env) Q E s
theorem reads_str {env : Env} {L : Addr} {m : Str → Option Value} {x : Str} {j : Nat} {pos : Pos} : Reads prog w A env E L m (.Constant (.str x) j pos) (.str x) := fun s Q _ h => wpAny_Constant_str (h _ _ ⟨_, rfl⟩)
theorem reads_loc {env : Env} {m : Str → Option Value} {x : Str} {pos : Pos} {v : V} {u : Value} (hk : env.scope.kind = .function) (hl : env.kindOf x = some .local) (hu : m x = some u) (r : RelV v u) (hd : (x == ("__debug__" : Str)) = false := by decide) : Reads prog w A env E env.locals m (.Name x pos) v :=
  fun s Q hn h => wpAny_Name (wpAny_loadName_local hk hl hn hu (h u s.toks r)) hd

theorem super_stmt {s : Shared} {x C D f cc cda t L : Addr} {m : Str → Option Value} {fd : FuncData} {ofc : Value} {ofd : Option Addr} {ofs : Array (Option Value)} {ar : Arg} {q : Str} {scope : Scope} {body : List Stmt} {a : Expr} {v : V} {p0 p1 p2 p3 p4 : Pos} {Q : Flow → Shared → Prop}
    (T : ExcT K C B bmB newId initId) (U : Sup prog K mg D cc cda) (Md : Mod K mg base) (hb : ∀ b o, base.get? b = some o → h₀.get? b = some o)
    (F : Fr h₀ L s.heap m) (N : News h₀ L s.heap [(x, excObj C t none .none)]) (hf : K.lookup f = some ⟨ofc, ofd, .func fd, ofs⟩) (hp : (fd.params.posonlyargs ++ fd.params.args).head? = some ar) (hv : m ar.arg = some (.ref x))
    (hD : mroIn K C (.ref D) = some true) (hi : ks_superIn K C D "__init__" = some (some (.builtin initId)))
    (hks : scope.names.lookup ("super" : Str) = some .globalImplicit) (hkc : scope.names.lookup ("__class__" : Str) = some .free) (hka : scope.names.lookup ar.arg = some .local) (hk : scope.kind = .function)
    (ha : Reads prog w A (ksEnv q scope L f (.ref cda) cc) E L m a v)
    (h : ∀ h' tk t', Fr h₀ L h' m → News h₀ L h' [(x, excObj C t' none .none)] → Q .next { s with heap := h', toks := tk })
    (hin : interactive (ksEnv q scope L f (.ref cda) cc) = false := by rfl)
    (hsw : swapsWith (.Call (.Attribute (.Call (.Name "super" p0) [] [] p1) "__init__" p2) [a] [] p3) none p4.line (ksEnv q scope L f (.ref cda) cc) = pure false := by rfl)
    (hst : starEach [a] (ksEnv q scope L f (.ref cda) cc) = (false, eval a (ksEnv q scope L f (.ref cda) cc)) :: starEach [] (ksEnv q scope L f (.ref cda) cc) := by rfl)
    {pl : Sem Bool} (hev : eval (.Call (.Attribute (.Call (.Name "super" p0) [] [] p1) "__init__" p2) [a] [] p3) (ksEnv q scope L f (.ref cda) cc) = (do
      let ov ← attributeBase (.Call (.Name "super" p0) [] [] p1) "__init__" (ksEnv q scope L f (.ref cda) cc) (eval (.Call (.Name "super" p0) [] [] p1) (ksEnv q scope L f (.ref cda) cc))
      standAt p2.atName
      let (g, first) ← holding [ov] (getMethod ov "__init__" pl)
      callWith p3 g first (backTo p3 (starEach [a] (ksEnv q scope L f (.ref cda) cc))) []) := by rfl) :
    _root_.PySem.wpAt (model prog w) A (.func body (ksEnv q scope L f (.ref cda) cc)) (exec (.Expr (.Call (.Attribute (.Call (.Name "super" p0) [] [] p1) "__init__" p2) [a] [] p3) p4) (ksEnv q scope L f (.ref cda) cc)) Q E s := by
  obtain ⟨ccl, cdd, vs, ccs, file, tf, c1, c2, c3⟩ := U.code
  obtain ⟨cl, cld, csl, d1⟩ := U.cell
  have X₀ : K.In h₀ := Md.kin.keeps hb
  have X : K.In s.heap := X₀.keeps F.keep
  obtain ⟨mb, m1, m2⟩ := Md.blt
  obtain ⟨cdD, hcd⟩ := Option.isSome_iff_exists.mp (show (clsIn K D).isSome = true from U.cls)
  have In : InstAt s.heap x (excObj C t none .none) C none := ⟨(N _ List.mem_cons_self).1, rfl, rfl, trivial⟩
  have bk : ∀ b o, base.get? b = some o → s.heap.get? b = some o := fun b o e => F.keep _ _ (hb _ _ e)
  have isD : ∀ {Q : Bool → Shared → Prop} {s' : Shared}, K.In s'.heap → Q true s' → wpAny (model prog w) A (isType (.ref D)) Q E s' := fun {Q s'} XX qq => by
    unfold clsIn at hcd
    split at hcd
    · rename_i c d cd' sl ho
      obtain ⟨hh, g, d, tt, os⟩ := s'
      exact ks_wpAny_isType_cls (XX _ _ ho) rfl qq
    · cases hcd
  refine ks_wpAt_Expr_any (ks_wpAt_MethodCall (pl := pl) ?_ hev) hin hsw
  refine ks_wpAt_super_base (env := ksEnv q scope L f (.ref cda) cc) hks hkc (by decide) rfl (X _ _ hf) rfl hp rfl (X _ _ c1) rfl c2 c3 U.top ?_
  refine ks_loadName_global hk hks (loadGlobal_builtin (env := ksEnv q scope L f (.ref cda) cc) (Md.glob.keeps bk) U.nm (m1.keeps bk) ((m2 _ (by decide)).trans (by first | rfl | decide +kernel)) ⟨rfl, ?_⟩)
  refine wpAny_loadName_free hk hkc rfl ⟨_, X _ _ d1, rfl⟩ ?_
  refine wpAny_loadName_local hk hka F.ns hv (isD X ⟨rfl, ?_⟩)
  obtain ⟨oD, hoD, hdD⟩ : ∃ oD, s.heap.get? D = some oD ∧ oD.data = .cls cdD := by
    unfold clsIn at hcd
    split at hcd
    · rename_i c d cd' sl ho
      cases hcd
      exact ⟨_, X _ _ ho, rfl⟩
    · cases hcd
  obtain ⟨hh, g, dr, tk, os⟩ := s
  refine ks_wpAny_call_super hoD hdD In.at_ In.cls (fun c e => nomatch e) (looks_mroIn X hD) (fun h1 e1 k1 => ?_)
  obtain ⟨F1, N1, l1⟩ := ks_newsPush (s := ⟨hh, g, dr, tk, os⟩) F N rfl e1 k1
  have In1 : InstAt h1 x (excObj C t none .none) C none := ⟨(N1 _ (.tail _ List.mem_cons_self)).1, rfl, rfl, trivial⟩
  refine kxs_method (s := ⟨h1, g, dr, tk, os⟩) T.kf F1 X₀ N1 List.mem_cons_self In1 U.op hi T.sub (by decide) fun qa h2 F2 N2 l2 => ?_
  refine kxs_callWith1 (s := ⟨h2, g, dr, tk + 1, os⟩) N2 List.mem_cons_self ?_ hst (by rfl)
  rw [hst]
  show wpAny _ _ (spliced ((false, eval a _) :: backTo p3 (starEach [] _))) _ _ _
  refine spliced_cons (ha _ _ F2.ns fun u tk2 _ => spliced_nil ⟨kxs_at N2 List.mem_cons_self, ?_⟩)
  have ux : ∀ p ∈ ([(x, excObj C t none .none)] : List (Addr × Obj)), p.1 < hh.objs.size := l1
  have nx1 : hh.objs.size ≠ x := Nat.ne_of_gt (l1 _ List.mem_cons_self)
  have nx2 : qa ≠ x := Nat.ne_of_gt (l2 _ (.tail _ List.mem_cons_self))
  refine kxs_call (s := ⟨h2, g, dr, tk2, os⟩) F2 X₀ N2 T.fb T.own List.mem_cons_self (.tail nx2 (.tail nx1 (.head fun _ z => nomatch z))) (by show 1 ≤ sizeLine; rw [sizeLine_eq]; decide) fun t' h3 F3 N3 _ => ?_
  exact h h3 tk2 t' F3 fun p hp => N3 p (.tail _ (.tail _ (.tail _ hp)))
end
end EX

/-! ### an __init__ that says super().__init__(..), then stores fields -/
namespace EX
open PySem PySem.Spec PySem.W PySem.Calls PyProof.Rows L2
inductive SetL (K : Frag) (C : Addr) (env : Env) (ar : Str) (RD : Expr → V → Prop) : List Stmt → List (Str × V) → List (Str × V) → Prop
  | nil {fs : List (Str × V)} : SetL K C env ar RD [] fs fs
  | cons {e : Expr} {v : V} {f : Str} {q1 q2 q3 : Pos} {rest : List Stmt} {fs gs : List (Str × V)} (hr : RD e v) (hn : takerIn K C f = some none) (hs : swapsWith e (some (.Attribute (.Name ar q1) f q2)) q3.line env = pure false)
      (r : SetL K C env ar RD rest ((f, v) :: fs) gs) : SetL K C env ar RD (.Assign [.Attribute (.Name ar q1) f q2] e q3 :: rest) fs gs
theorem SetL.len {K : Frag} {C : Addr} {env : Env} {ar : Str} {RD : Expr → V → Prop} {l : List Stmt} {fs gs : List (Str × V)} (h : SetL K C env ar RD l fs gs) : gs.length = fs.length + l.length := by
  induction h with
  | nil => rfl
  | cons _ _ _ _ ih => rw [ih, List.length_cons, List.length_cons]; omega
section
variable {prog : Program} {w : World} {A : Around} {E : Value → Shared → Prop} {K : Frag} {mg : Str → Option Value} {h₀ : Heap} {B newId initId : String} {bmB : List Value}
theorem sets_more {x C L dx t : Addr} {m : Str → Option Value} {env : Env} {ar : Str} (T : ExcT K C B bmB newId initId) (X₀ : K.In h₀) (eL : env.locals = L) (hkd : env.scope.kind = .function) (har : env.kindOf ar = some .local) (hv : m ar = some (.ref x)) (hdb : (ar == ("__debug__" : Str)) = false) (nxL : x ≠ L) (ndL : dx ≠ L) (nxd : x ≠ dx) (n0 : h₀.get? dx = none) (nx0 : h₀.get? x = none) :
    ∀ {l : List Stmt} {fs gs : List (Str × V)}, SetL K C env ar (Reads prog w A env E L m) l fs gs → gs.length ≤ 900 → ∀ {s : Shared} {mA : Str → Option Value} {Q : Flow → Shared → Prop}, Fr h₀ L s.heap m → s.heap.get? x = some (excObj C t (some dx) .none) → s.heap.Ns1 dx mA → (∀ g, RelO (fs.lookup g) (mA g)) →
      (∀ h' tk mB, (∀ b o, b ≠ dx → s.heap.get? b = some o → h'.get? b = some o) → h'.Ns1 dx mB → (∀ g, RelO (gs.lookup g) (mB g)) → Q .next { s with heap := h', toks := tk }) → wpAny (model prog w) A (execs l env) Q E s := by
  intro l fs gs hS
  induction hS with
  | nil =>
    intro _ s mA Q F hx hD hr h
    exact wpAny_execs_nil (h s.heap s.toks mA (fun _ _ _ z => z) hD hr)
  | @cons e v f q1 q2 q3 rest fs gs hr1 hn hs r ih =>
    intro hl s mA Q F hx hD hr h
    have hl2 := r.len
    rw [List.length_cons] at hl2
    refine wpAny_execs_cons (plainObj_wpAny_Assign_Attribute (hr1 s _ F.ns fun u tk ru => ?_) hs)
    refine wpAny_Name (wpAny_loadName_local hkd har (by rw [eL]; exact F.ns) hv ?_) hdb
    refine set_more (s := { s with toks := tk }) T (X₀.keeps F.keep) hx hn hD (within_of hr) (by rw [List.length_map]; omega) fun h1 tk1 k1 hD1 => ?_
    have F1 : Fr h₀ L h1 m := by
      obtain ⟨oL, es, ep, hoL, rL⟩ := F.ns
      exact ⟨⟨oL, es, ep, k1 _ _ (Ne.symm ndL) hoL, rL⟩, fun b o z => k1 b o (fun y => by rw [y, n0] at z; cases z) (F.keep b o z), F.above⟩
    refine ih hl (s := { s with heap := h1, toks := tk1 }) F1 (k1 _ _ nxd hx) hD1 (relO_put ru hr) fun h' tk' mB k' hB rB => ?_
    exact h h' tk' mB (fun b o hb z => k' b o hb (k1 b o hb z)) hB rB
/-- the whole body -/
theorem init_body {s : Shared} {x C D f cc cda t L : Addr} {m : Str → Option Value} {fd : FuncData} {ofc : Value} {ofd : Option Addr} {ofs : Array (Option Value)} {ar : Arg} {q : Str} {scope : Scope} {body l : List Stmt} {a : Expr} {v : V} {fs : List (Str × V)} {p0 p1 p2 p3 p4 : Pos} {base : Heap} {Q : Flow → Shared → Prop}
    (T : ExcT K C B bmB newId initId) (U : Sup prog K mg D cc cda) (Md : Mod K mg base) (hb : ∀ b o, base.get? b = some o → h₀.get? b = some o)
    (F : Fr h₀ L s.heap m) (N : News h₀ L s.heap [(x, excObj C t none .none)]) (hf : K.lookup f = some ⟨ofc, ofd, .func fd, ofs⟩) (hp : (fd.params.posonlyargs ++ fd.params.args).head? = some ar) (hv : m ar.arg = some (.ref x))
    (hD : mroIn K C (.ref D) = some true) (hi : ks_superIn K C D "__init__" = some (some (.builtin initId)))
    (hks : scope.names.lookup ("super" : Str) = some .globalImplicit) (hkc : scope.names.lookup ("__class__" : Str) = some .free) (hka : scope.names.lookup ar.arg = some .local) (hk : scope.kind = .function) (hdb : (ar.arg == ("__debug__" : Str)) = false)
    (ha : Reads prog w A (ksEnv q scope L f (.ref cda) cc) E L m a v) (hS : SetL K C (ksEnv q scope L f (.ref cda) cc) ar.arg (Reads prog w A (ksEnv q scope L f (.ref cda) cc) E L m) l [] fs) (hne : l ≠ []) (hlen : fs.length ≤ 900)
    (h : ∀ h' tk t' dx mB, (∀ b o, h₀.get? b = some o → h'.get? b = some o) → h'.Ns L m → h'.get? x = some (excObj C t' (some dx) .none) → h₀.get? dx = none → h₀.objs.size ≤ dx → dx ≠ x → dx ≠ L → h'.Ns1 dx mB → (∀ g, RelO (fs.lookup g) (mB g)) → Q .next { s with heap := h', toks := tk })
    (hin : interactive (ksEnv q scope L f (.ref cda) cc) = false := by rfl)
    (hsw : swapsWith (.Call (.Attribute (.Call (.Name "super" p0) [] [] p1) "__init__" p2) [a] [] p3) none p4.line (ksEnv q scope L f (.ref cda) cc) = pure false := by rfl)
    (hst : starEach [a] (ksEnv q scope L f (.ref cda) cc) = (false, eval a (ksEnv q scope L f (.ref cda) cc)) :: starEach [] (ksEnv q scope L f (.ref cda) cc) := by rfl)
    {pl : Sem Bool} (hev : eval (.Call (.Attribute (.Call (.Name "super" p0) [] [] p1) "__init__" p2) [a] [] p3) (ksEnv q scope L f (.ref cda) cc) = (do
      let ov ← attributeBase (.Call (.Name "super" p0) [] [] p1) "__init__" (ksEnv q scope L f (.ref cda) cc) (eval (.Call (.Name "super" p0) [] [] p1) (ksEnv q scope L f (.ref cda) cc))
      standAt p2.atName
      let (g, first) ← holding [ov] (getMethod ov "__init__" pl)
      callWith p3 g first (backTo p3 (starEach [a] (ksEnv q scope L f (.ref cda) cc))) []) := by rfl) :
    _root_.PySem.wpAt (model prog w) A (.func body (ksEnv q scope L f (.ref cda) cc)) (execs (.Expr (.Call (.Attribute (.Call (.Name "super" p0) [] [] p1) "__init__" p2) [a] [] p3) p4 :: l) (ksEnv q scope L f (.ref cda) cc)) Q E s := by
  have X₀ : K.In h₀ := Md.kin.keeps hb
  refine ks_wpAt_execs_cons (super_stmt T U Md hb F N hf hp hv hD hi hks hkc hka hk ha (fun h1 tk1 t1 F1 N1 => ?_) hin hsw hst hev)
  refine wpAt_of_wpAny ?_
  cases hS with
  | nil => exact absurd rfl hne
  | @cons e v2 f2 q1 q2 q3 rest _ _ hr1 hn hs r =>
    have nxL := (N1 _ List.mem_cons_self).2.1
    have nx0 := (N1 _ List.mem_cons_self).2.2
    have hx1 := (N1 _ List.mem_cons_self).1
    refine wpAny_execs_cons (plainObj_wpAny_Assign_Attribute (hr1 { s with heap := h1, toks := tk1 } _ F1.ns fun u tk ru => ?_) hs)
    refine wpAny_Name (wpAny_loadName_local hk hka F1.ns hv ?_) hdb
    refine set_new (s := { s with heap := h1, toks := tk }) T (X₀.keeps F1.keep) hx1 hn fun h2 tk2 dx k2 dn dne hx2 hD2 => ?_
    have dn : h1.objs.size ≤ dx := dn
    have n0 : h₀.get? dx = none := by
      cases z : h₀.get? dx with
      | none => rfl
      | some o => exact absurd (Nat.lt_of_lt_of_le (Heap.lt_size (F1.keep _ _ z)) dn) (Nat.lt_irrefl _)
    have ndL : dx ≠ L := Nat.ne_of_gt (Nat.lt_of_lt_of_le F1.ns.lt dn)
    have F2 : Fr h₀ L h2 m := by
      obtain ⟨oL, es, ep, hoL, rL⟩ := F1.ns
      exact ⟨⟨oL, es, ep, k2 _ _ (Ne.symm nxL) hoL, rL⟩, fun b o z => k2 b o (fun y => by rw [y, nx0] at z; cases z) (F1.keep b o z), F1.above⟩
    refine sets_more (env := ksEnv q scope L f (.ref cda) cc) T X₀ rfl hk hka hv hdb nxL ndL (Ne.symm dne) n0 nx0 r hlen (s := { s with heap := h2, toks := tk2 }) F2 hx2 hD2 (relO_put (fs := []) ru fun g => True.intro) fun h3 tk3 mB k3 hB rB => ?_
    have F3 : ∀ b o, h₀.get? b = some o → h3.get? b = some o := fun b o z => k3 b o (fun y => by rw [y, n0] at z; cases z) (F2.keep b o z)
    obtain ⟨oL, es, ep, hoL, rL⟩ := F2.ns
    exact h h3 tk3 t1 dx mB F3 ⟨oL, es, ep, k3 _ _ (Ne.symm ndL) hoL, rL⟩ (k3 _ _ (Ne.symm dne) hx2) n0 (Nat.le_trans (Nat.le_trans F1.above (Nat.le_of_lt F1.ns.lt)) dn) dne ndL hB rB
end
end EX

/-! ### such an __init__ as a def that keeps a promise -/
namespace EX
open PySem PySem.Spec PySem.W PySem.Calls PyProof.Rows L2
/-- C may be made through the __init__ that stands in D -/
structure InitC (K : Frag) (D C : Addr) (B : String) (bmB : List Value) (newId initId : String) (flds : List Str) : Prop where
  t : ExcT K C B bmB newId initId
  mro : mroIn K C (.ref D) = some true
  sup : ks_superIn K C D "__init__" = some (some (.builtin initId))
  tk : ∀ f ∈ flds, takerIn K C f = some none
/-- .. what it leaves: the dict's fields g of the arguments -/
def spInit (K : Frag) (D : Addr) (B : String) (bmB : List Value) (newId initId : String) (flds ps : List Str) (g : List V → List (Str × V)) : Sp := fun vs H Q _ =>
  ∃ (a C : Addr) (ws : List V), vs = .ref a :: ws ∧ vs.length = ps.length ∧ InitC K D C B bmB newId initId flds ∧ H a = some (exo a C none) ∧
    ∀ dx, H dx = none → dx ≠ a → Q .non (upd (upd H dx (exd dx (g ws))) a (exo a C (some dx)))
section
variable {P : Program} {w : World} {K : Frag} {mg : Str → Option Value} {base : Heap} {B newId initId : String} {bmB : List Value}
theorem init_ok {CX : CXT} {k : Nat} {D f cc cda : Addr} {name qual : Str} {params : Arguments} {l : List Stmt} {scope : Scope} {dV kV doc pm ct oc : Value} {an od : Option Addr} {osl : Array (Option Value)} {ar : Arg} {a : Expr} {flds ps : List Str} {g : List V → List (Str × V)} {p0 p1 p2 p3 p4 : Pos}
    (U : Sup P K mg D cc cda)
    (lk : K.lookup f = some ⟨oc, od, .func (ksFn name qual params (.Expr (.Call (.Attribute (.Call (.Name "super" p0) [] [] p1) "__init__" p2) [a] [] p3) p4 :: l) scope dV kV doc pm an (.ref cda) ct cc), osl⟩) (hcd : codeIn K (.ref cda) qual = true)
    (hp : (params.posonlyargs ++ params.args).head? = some ar) (har : ps[0]? = some ar.arg) (hnd : ps.Nodup)
    (hks : scope.names.lookup ("super" : Str) = some .globalImplicit) (hkc : scope.names.lookup ("__class__" : Str) = some .free) (hk : scope.kind = .function) (hdb : (ar.arg == ("__debug__" : Str)) = false)
    (hcell : ∀ x ∈ scope.names, x.2 ≠ .cell) (hco : scope.isCoroutine = false) (hgen : scope.isGenerator = false) (hloc : ∀ x ∈ ps, scope.names.lookup x = some .local) (hne : l ≠ []) (hgl : ∀ ws, (g ws).length ≤ 900)
    (hR : ∀ (A : Around) (E : Value → Shared → Prop) (L : Addr) (C : Addr) (us : List Value) (vs : List V), Vals vs us → vs.length = ps.length → (∀ f ∈ flds, takerIn K C f = some none) →
      (∃ v, Reads P w A (ksEnv qual scope L f (.ref cda) cc) E L (fun y => (ps.zip us).reverse.lookup y) a v) ∧ SetL K C (ksEnv qual scope L f (.ref cda) cc) ar.arg (Reads P w A (ksEnv qual scope L f (.ref cda) cc) E L (fun y => (ps.zip us).reverse.lookup y)) l [] (g vs.tail))
    (hin : ∀ L, interactive (ksEnv qual scope L f (.ref cda) cc) = false)
    (hsw : ∀ L, swapsWith (.Call (.Attribute (.Call (.Name "super" p0) [] [] p1) "__init__" p2) [a] [] p3) none p4.line (ksEnv qual scope L f (.ref cda) cc) = pure false)
    (hst : ∀ L, starEach [a] (ksEnv qual scope L f (.ref cda) cc) = (false, eval a (ksEnv qual scope L f (.ref cda) cc)) :: starEach [] (ksEnv qual scope L f (.ref cda) cc))
    (hev : ∀ L, ∃ pl : Sem Bool, eval (.Call (.Attribute (.Call (.Name "super" p0) [] [] p1) "__init__" p2) [a] [] p3) (ksEnv qual scope L f (.ref cda) cc) = (do
      let ov ← attributeBase (.Call (.Name "super" p0) [] [] p1) "__init__" (ksEnv qual scope L f (.ref cda) cc) (eval (.Call (.Name "super" p0) [] [] p1) (ksEnv qual scope L f (.ref cda) cc))
      standAt p2.atName
      let (g, first) ← holding [ov] (getMethod ov "__init__" pl)
      callWith p3 g first (backTo p3 (starEach [a] (ksEnv qual scope L f (.ref cda) cc))) [])) :
    FnOk P w K mg base CX k f (ksFn name qual params (.Expr (.Call (.Attribute (.Call (.Name "super" p0) [] [] p1) "__init__" p2) [a] [] p3) p4 :: l) scope dV kV doc pm an (.ref cda) ct cc) ps (spInit K D B bmB newId initId flds ps g) := by
  refine ⟨fun vs H Q E h => ?_, fun A outer s H args us vs Q E hr e0 hbd hv h => ?_⟩
  · obtain ⟨_, _, _, _, e, _⟩ := h
    exact e
  obtain ⟨x, C, ws, rfl, hlen, IC, hx, q⟩ := h
  have KX : K.In s.heap := e0.mod.kin.keeps fun b o e => (e0.bs b o e).1
  have lim : s.heap.NoLimit := e0.mod.nolimit.keeps fun b o e => (e0.bs b o e).1
  obtain ⟨t1, hox⟩ := exo_at e0.hok hx
  cases hv with
  | @cons _ u0 _ ur ra rr =>
  obtain rfl : u0 = Value.ref x := ra
  have hul : (Value.ref x :: ur).length = ps.length := by rw [← hlen, List.length_cons, List.length_cons, Paired.length rr]
  have hbl : ∀ y ∈ ps.zip (Value.ref x :: ur), scope.names.lookup y.1 = some .local := fun y hy => hloc _ (List.of_mem_zip hy).1
  have nx : ∀ b o, base.get? b = some o → b ≠ x := fun b o e z => by
    have := (e0.bs b o e).2
    rw [z, hx] at this; cases this
  have hbk : ∀ b o, base.get? b = some o → (hideAll s.heap [x]).get? b = some o := fun b o e => hideAll_get _ (e0.bs b o e).1 fun hm => nx b o e (List.mem_singleton.mp hm)
  refine ks_codeAny_call_defAt (binds := ps.zip (Value.ref x :: ur)) hr.depth (KX _ _ lk) rfl lim (codeRec_of KX hcd) rfl hbd hcell hbl (fun h1 hns k1 => ?_) hco hgen hk
  have nlx : x ≠ s.heap.objs.size := Nat.ne_of_lt (Heap.lt_size hox)
  have F1 : Fr (hideAll s.heap [x]) s.heap.objs.size h1 (fun y => (ps.zip (Value.ref x :: ur)).reverse.lookup y) := ⟨hns, fun b o e => k1 b o (of_hideAll _ e), Nat.le_of_eq (hideAll_size _ _)⟩
  have N1 : News (hideAll s.heap [x]) s.heap.objs.size h1 [(x, excObj C t1 none .none)] := fun p hp => by
    rw [List.mem_singleton.mp hp]
    exact ⟨k1 _ _ hox, nlx, hideAll_none _ List.mem_cons_self⟩
  have hself : (fun y => (ps.zip (Value.ref x :: ur)).reverse.lookup y) ar.arg = some (.ref x) := by
    show List.lookup ar.arg (ps.zip (Value.ref x :: ur)).reverse = some (.ref x)
    cases ps with
    | nil => simp at har
    | cons p ps' =>
      have e : p = ar.arg := by simpa using har
      subst e
      have hn : ar.arg ∉ ps' := (List.nodup_cons.mp hnd).1
      have z : ∀ (l : List (Str × Value)), (∀ y ∈ l, y.1 ≠ ar.arg) → (l ++ [(ar.arg, Value.ref x)]).lookup ar.arg = some (Value.ref x) := by
        intro l
        induction l with
        | nil => intro _; simp [List.lookup]
        | cons y l ih =>
          intro hh
          have e1 : (ar.arg == y.1) = false := beq_eq_false_iff_ne.mpr fun e => hh y List.mem_cons_self e.symm
          obtain ⟨y1, y2⟩ := y
          show (match ar.arg == y1 with | true => some y2 | false => (l ++ [(ar.arg, Value.ref x)]).lookup ar.arg) = some (Value.ref x)
          rw [show (ar.arg == y1) = false from e1]
          exact ih fun y hy => hh y (List.mem_cons_of_mem _ hy)
      rw [List.zip_cons_cons, List.reverse_cons]
      refine z _ fun y hy => ?_
      have := (List.of_mem_zip (List.mem_reverse.mp hy)).1
      exact fun e => hn (by rw [← e]; exact this)
  obtain ⟨⟨v, hrd⟩, hS⟩ := hR (A.deeper (ksEnv qual scope s.heap.objs.size f (.ref cda) cc)) (fun e s' => wpAny (model P w) (A.deeper (ksEnv qual scope s.heap.objs.size f (.ref cda) cc)) (leaving (ksEnv qual scope s.heap.objs.size f (.ref cda) cc) e) (fun _ s'' => CR CX outer P w H s Q E (.error e) s'') (fun e' s'' => CR CX outer P w H s Q E (.error e') s'') s') s.heap.objs.size C _ _ (Paired.cons (F := RelV) (a := V.ref x) (b := Value.ref x) rfl rr) hlen IC.tk
  refine init_body (Q := fun fl s' => CR CX outer P w H s Q E (.ok (.ret (match fl with | .ret v => v | _ => .none))) s') (s := { s with heap := h1, toks := s.toks + (ps.zip (Value.ref x :: ur)).length }) IC.t U e0.mod hbk F1 N1 lk hp hself IC.mro IC.sup hks hkc (hloc _ (List.mem_of_getElem? har)) hk hdb hrd hS hne (hgl _) (fun h2 tk2 t2 dx mB k2 _ hx2 n0 sz2 dne ndL hB rB => ?_) (hin _) (hsw _) (hst _) (hev _).choose_spec
  have sz : s.heap.objs.size ≤ dx := by rw [hideAll_size] at sz2; exact sz2
  have hnd : H dx = none := e0.hok.fresh sz
  have keep2 : ∀ b o, b ≠ x → s.heap.get? b = some o → h2.get? b = some o := fun b o hb e => k2 b o (hideAll_get _ e fun hm => hb (List.mem_singleton.mp hm))
  have na : ∀ {b : Addr}, H b = none → b ≠ x := fun {b} n z => by
    rw [z, hx] at n
    cases n
  have nd : ∀ {b : Addr} {o : Obj}, s.heap.get? b = some o → b ≠ dx := fun {b o} e => Nat.ne_of_lt (Nat.lt_of_lt_of_le (Heap.lt_size e) sz)
  refine ⟨.non, upd (upd H dx (exd dx (g ws))) x (exo x C (some dx)), rfl, e0.bare, ?_, fun b o e => ?_, rfl, q dx hnd dne⟩
  · exact {
      keep := fun b o e n _ _ => keep2 b o (na n) e
      slot := fun b o e n _ _ => ⟨o.slots, keep2 b o (na n) e⟩
      free := fun b o e n _ => by rw [upd_ne (na n), upd_ne (nd e)]; exact n
      there := fun b o e _ => by
        by_cases hb : b = x
        · exact ⟨_, by rw [hb]; exact hx2⟩
        · exact ⟨o, keep2 b o hb e⟩
      tups := fun b xs e => by rw [upd_ne (at_ne hx e exo_tup), upd_ne (ne_of_none e hnd)]; exact e
      frzs := fun b o v e => by rw [upd_ne (at_ne hx e exo_frz), upd_ne (ne_of_none e hnd)]; exact e
      tbls := fun b ps e => ⟨#[], by rw [upd_ne (at_ne hx e exo_tbl), upd_ne (ne_of_none e hnd), e]; simp⟩ }
  · by_cases hb : b = x
    · subst hb
      rw [upd_same] at e
      cases e
      exact exo_ok hx2
    · rw [upd_ne hb] at e
      by_cases hbd : b = dx
      · subst hbd
        rw [upd_same] at e
        cases e
        exact exd_ok hB rB
      · rw [upd_ne hbd] at e
        exact (e0.hok b o e).stay (fun c v hc z => keep2 c v (by
            rcases hc with hc | hc
            · rw [hc]; exact hb
            · exact at_ne hx hc exo_own) z)
          (fun c hc => by rw [upd_ne (at_ne hx hc exo_own), upd_ne (ne_of_none hc hnd)]; exact hc) (fun c xs hc => by rw [upd_ne (at_ne hx hc exo_tup), upd_ne (ne_of_none hc hnd)]; exact hc)
end
end EX

/-! ### three forms of such an __init__ -/
namespace EX
open PySem PySem.Spec PySem.W PySem.Calls PyProof.Rows L2
abbrev scI (ps : List Str) : Scope := { kind := .function, names := (ps.map fun x => (x, NameKind.local)) ++ [(PySem.Str.ofString "__class__", NameKind.free), (PySem.Str.ofString "super", NameKind.globalImplicit)], isGenerator := false, isCoroutine := false, more := [] }
def g1 : List V → List (Str × V) := fun ws => match ws with | [c] => [("code", c)] | _ => []
def g2 (z : Str) : List V → List (Str × V) := fun ws => match ws with | [v] => [("value", v), ("code", .str z)] | _ => []
def g3 (z : Str) : List V → List (Str × V) := fun _ => [("code", .str z)]
theorem look_zip2 {a b : Str} {u v : Value} (h : (b == a) = false) : (([(a, u), (b, v)] : List (Str × Value)).reverse.lookup a = some u) ∧ (([(a, u), (b, v)] : List (Str × Value)).reverse.lookup b = some v) := by
  have h' : (a == b) = false := beq_eq_false_iff_ne.mpr fun e => (beq_eq_false_iff_ne.mp h) e.symm
  constructor
  · simp [List.lookup, h']
  · simp [List.lookup]
section
variable {P : Program} {w : World} {K : Frag} {mg : Str → Option Value} {base : Heap} {B newId initId : String} {bmB : List Value}
theorem init1 {CX : CXT} {k : Nat} {D f cc cda : Addr} {name qual : Str} {params : Arguments} {dV kV doc pm ct oc : Value} {an od : Option Addr} {osl : Array (Option Value)} {p0 p1 p2 p3 p4 pa q1 q2 q3 q4 : Pos}
    (U : Sup P K mg D cc cda)
    (lk : K.lookup f = some ⟨oc, od, .func (ksFn name qual params [.Expr (.Call (.Attribute (.Call (.Name "super" p0) [] [] p1) "__init__" p2) [.Name "code" pa] [] p3) p4, .Assign [.Attribute (.Name "self" q1) "code" q2] (.Name "code" q4) q3] (scI ["self", "code"]) dV kV doc pm an (.ref cda) ct cc), osl⟩) (hcd : codeIn K (.ref cda) qual = true)
    (hp : ((params.posonlyargs ++ params.args).head?).map (·.arg) = some "self")
    (hev : ∀ L, ∃ pl : Sem Bool, eval (.Call (.Attribute (.Call (.Name "super" p0) [] [] p1) "__init__" p2) [.Name "code" pa] [] p3) (ksEnv qual (scI ["self", "code"]) L f (.ref cda) cc) = (do
      let ov ← attributeBase (.Call (.Name "super" p0) [] [] p1) "__init__" (ksEnv qual (scI ["self", "code"]) L f (.ref cda) cc) (eval (.Call (.Name "super" p0) [] [] p1) (ksEnv qual (scI ["self", "code"]) L f (.ref cda) cc))
      standAt p2.atName
      let (g, first) ← holding [ov] (getMethod ov "__init__" pl)
      callWith p3 g first (backTo p3 (starEach [.Name "code" pa] (ksEnv qual (scI ["self", "code"]) L f (.ref cda) cc))) [])) :
    FnOk P w K mg base CX k f (ksFn name qual params [.Expr (.Call (.Attribute (.Call (.Name "super" p0) [] [] p1) "__init__" p2) [.Name "code" pa] [] p3) p4, .Assign [.Attribute (.Name "self" q1) "code" q2] (.Name "code" q4) q3] (scI ["self", "code"]) dV kV doc pm an (.ref cda) ct cc) ["self", "code"] (spInit K D B bmB newId initId ["code"] ["self", "code"] g1) := by
  obtain ⟨ar, har, e⟩ := Option.map_eq_some_iff.mp hp
  refine init_ok (ar := ar) U lk hcd har (by rw [e]; rfl) (by decide) (by decide) (by decide) rfl (by rw [e]; decide) (by decide) rfl rfl (by decide) (by simp) (fun ws => by unfold g1; split <;> exact Nat.le_of_lt_succ (by simp)) (fun A E L C us vs hv hl hf => ?_) (fun _ => rfl) (fun _ => rfl) (fun _ => rfl) hev
  match vs, us, hv, hl with
  | [v0, v1], [u0, u1], .cons r0 (.cons r1 .nil), _ =>
    have z := look_zip2 (a := "self") (b := "code") (u := u0) (v := u1) (by decide)
    refine ⟨⟨v1, reads_loc rfl (show List.lookup _ _ = _ by first | rfl | decide +kernel) z.2 r1⟩, ?_⟩
    rw [e]
    refine .cons (v := v1) ?_ (hf "code" (by decide)) rfl .nil
    exact reads_loc rfl (show List.lookup _ _ = _ by first | rfl | decide +kernel) z.2 r1
theorem init2 {CX : CXT} {k : Nat} {D f cc cda : Addr} {name qual : Str} {params : Arguments} {dV kV doc pm ct oc : Value} {an od : Option Addr} {osl : Array (Option Value)} {p0 p1 p2 p3 p4 pa q1 q2 q3 q4 r1 r2 r3 r4 : Pos} {z : Str} {j j' : Nat}
    (U : Sup P K mg D cc cda)
    (lk : K.lookup f = some ⟨oc, od, .func (ksFn name qual params [.Expr (.Call (.Attribute (.Call (.Name "super" p0) [] [] p1) "__init__" p2) [.Constant (.str z) j pa] [] p3) p4, .Assign [.Attribute (.Name "self" q1) "code" q2] (.Constant (.str z) j' q4) q3, .Assign [.Attribute (.Name "self" r1) "value" r2] (.Name "value" r4) r3] (scI ["self", "value"]) dV kV doc pm an (.ref cda) ct cc), osl⟩) (hcd : codeIn K (.ref cda) qual = true)
    (hp : ((params.posonlyargs ++ params.args).head?).map (·.arg) = some "self")
    (hev : ∀ L, ∃ pl : Sem Bool, eval (.Call (.Attribute (.Call (.Name "super" p0) [] [] p1) "__init__" p2) [.Constant (.str z) j pa] [] p3) (ksEnv qual (scI ["self", "value"]) L f (.ref cda) cc) = (do
      let ov ← attributeBase (.Call (.Name "super" p0) [] [] p1) "__init__" (ksEnv qual (scI ["self", "value"]) L f (.ref cda) cc) (eval (.Call (.Name "super" p0) [] [] p1) (ksEnv qual (scI ["self", "value"]) L f (.ref cda) cc))
      standAt p2.atName
      let (g, first) ← holding [ov] (getMethod ov "__init__" pl)
      callWith p3 g first (backTo p3 (starEach [.Constant (.str z) j pa] (ksEnv qual (scI ["self", "value"]) L f (.ref cda) cc))) [])) :
    FnOk P w K mg base CX k f (ksFn name qual params [.Expr (.Call (.Attribute (.Call (.Name "super" p0) [] [] p1) "__init__" p2) [.Constant (.str z) j pa] [] p3) p4, .Assign [.Attribute (.Name "self" q1) "code" q2] (.Constant (.str z) j' q4) q3, .Assign [.Attribute (.Name "self" r1) "value" r2] (.Name "value" r4) r3] (scI ["self", "value"]) dV kV doc pm an (.ref cda) ct cc) ["self", "value"] (spInit K D B bmB newId initId ["code", "value"] ["self", "value"] (g2 z)) := by
  obtain ⟨ar, har, e⟩ := Option.map_eq_some_iff.mp hp
  refine init_ok (ar := ar) U lk hcd har (by rw [e]; rfl) (by decide) (by decide) (by decide) rfl (by rw [e]; decide) (by decide) rfl rfl (by decide) (by simp) (fun ws => by unfold g2; split <;> exact Nat.le_of_lt_succ (by simp)) (fun A E L C us vs hv hl hf => ?_) (fun _ => rfl) (fun _ => rfl) (fun _ => rfl) hev
  match vs, us, hv, hl with
  | [v0, v1], [u0, u1], .cons r0 (.cons r1 .nil), _ =>
    have zz := look_zip2 (a := "self") (b := "value") (u := u0) (v := u1) (by decide)
    refine ⟨⟨.str z, reads_str⟩, ?_⟩
    rw [e]
    refine .cons (v := .str z) reads_str (hf "code" (by decide)) rfl (.cons (v := v1) ?_ (hf "value" (by decide)) rfl .nil)
    exact reads_loc rfl (show List.lookup _ _ = _ by first | rfl | decide +kernel) zz.2 r1
theorem init3 {CX : CXT} {k : Nat} {D f cc cda : Addr} {name qual : Str} {params : Arguments} {dV kV doc pm ct oc : Value} {an od : Option Addr} {osl : Array (Option Value)} {p0 p1 p2 p3 p4 pa q1 q2 q3 q4 : Pos} {z : Str} {j j' : Nat}
    (U : Sup P K mg D cc cda)
    (lk : K.lookup f = some ⟨oc, od, .func (ksFn name qual params [.Expr (.Call (.Attribute (.Call (.Name "super" p0) [] [] p1) "__init__" p2) [.Constant (.str z) j pa] [] p3) p4, .Assign [.Attribute (.Name "self" q1) "code" q2] (.Constant (.str z) j' q4) q3] (scI ["self"]) dV kV doc pm an (.ref cda) ct cc), osl⟩) (hcd : codeIn K (.ref cda) qual = true)
    (hp : ((params.posonlyargs ++ params.args).head?).map (·.arg) = some "self")
    (hev : ∀ L, ∃ pl : Sem Bool, eval (.Call (.Attribute (.Call (.Name "super" p0) [] [] p1) "__init__" p2) [.Constant (.str z) j pa] [] p3) (ksEnv qual (scI ["self"]) L f (.ref cda) cc) = (do
      let ov ← attributeBase (.Call (.Name "super" p0) [] [] p1) "__init__" (ksEnv qual (scI ["self"]) L f (.ref cda) cc) (eval (.Call (.Name "super" p0) [] [] p1) (ksEnv qual (scI ["self"]) L f (.ref cda) cc))
      standAt p2.atName
      let (g, first) ← holding [ov] (getMethod ov "__init__" pl)
      callWith p3 g first (backTo p3 (starEach [.Constant (.str z) j pa] (ksEnv qual (scI ["self"]) L f (.ref cda) cc))) [])) :
    FnOk P w K mg base CX k f (ksFn name qual params [.Expr (.Call (.Attribute (.Call (.Name "super" p0) [] [] p1) "__init__" p2) [.Constant (.str z) j pa] [] p3) p4, .Assign [.Attribute (.Name "self" q1) "code" q2] (.Constant (.str z) j' q4) q3] (scI ["self"]) dV kV doc pm an (.ref cda) ct cc) ["self"] (spInit K D B bmB newId initId ["code"] ["self"] (g3 z)) := by
  obtain ⟨ar, har, e⟩ := Option.map_eq_some_iff.mp hp
  refine init_ok (ar := ar) U lk hcd har (by rw [e]; rfl) (by decide) (by decide) (by decide) rfl (by rw [e]; decide) (by decide) rfl rfl (by decide) (by simp) (fun ws => by unfold g3; exact Nat.le_of_lt_succ (by simp)) (fun A E L C us vs hv hl hf => ?_) (fun _ => rfl) (fun _ => rfl) (fun _ => rfl) hev
  match vs, us, hv, hl with
  | [v0], [u0], .cons r0 .nil, _ =>
    refine ⟨⟨.str z, reads_str⟩, ?_⟩
    rw [e]
    exact SetL.cons (v := .str z) (fs := []) reads_str (hf "code" (by decide)) rfl .nil
end
end EX

/-! ### rules: D.__init__(..), a further field, C(..) as a value, its fields -/
namespace EX
open PySem PySem.Spec PySem.W PySem.Calls PyProof.Rows L2
section
variable {X : Cx} {B newId initId : String} {bmB : List Value}
/-- D.m(e, ..), m a def of the class D -/
theorem pe_kdef {CX : CXT} {k : Nat} {D f : Addr} {mc : Value} {fd : FuncData} {ps : List Str} {sp : Sp} {E : XK} {x m : Str} {p1 p2 pos : Pos} {e : Expr} {es : List Expr} {t : TA} {pl : Sem Bool}
    (hg : Gl X x) (hm : X.mg x = some (.ref D)) (rd : readsIn X.K D mc = true) (ga : specialIn X.K (.ref D) "__getattribute__" = some (some (.builtin "type.__getattribute__"))) (at_ : findCls X.K (.ref D) mc m = some (.val (.ref f)))
    (hk : keepIn X.K (.ref f) = true) (F : FnOk X.prog X.w X.K X.mg X.base CX k f fd ps sp) (hr : Room k X.A) (hb : Binds X.K fd ps []) (hx : Passes CX X E) (ha : PA X (e :: es) t)
    (ht : eval (.Call (.Attribute (.Name x p1) m p2) (e :: es) [] pos) X.env = (do
      let ov ← eval (.Name x p1) X.env
      standAt p2.atName
      let (g, first) ← holding [ov] (getMethod ov m pl)
      callWith pos g first (backTo pos (starEach (e :: es) X.env)) (backToKw pos (keywordEach [] X.env))) := by rfl)
    (hdb : (x == ("__debug__" : Str)) = false := by decide) (he : starEach (e :: es) X.env = (false, eval e X.env) :: starEach es X.env := by rfl) (hpl : (backTo pos (starEach es X.env)).any (·.1) = false := by rfl) :
    PE X (.Call (.Attribute (.Name x p1) m p2) (e :: es) [] pos) (fun σ H Q => t σ H fun vs H1 => sp vs H1 Q E) := by
  refine ⟨fun pins s σ H Q I h => ?_⟩
  refine methodCall_KW (pl := pl) (ld_glob I hg hm ?_ hdb) ht
  refine method_cls I.kIn ga (cls_value I.kIn rd at_ rfl ?_)
  refine callWith_K (h₀ := X.base) (first := []) I.ok.mod.kin hk (thn (ha.run pos pins _ σ H _ (I.tok _) h) fun us s1 ⟨vs, H1, I1, r1, q⟩ => ⟨I1.kIn, ?_⟩) he hpl
  exact run_fn (us := us) (vs := vs) F hr hb .nil hx I1 r1 (by rw [List.append_nil]; exact q)
/-- o.f = e, o an exception of ours that has its dict -/
def tXs (K : Frag) (B : String) (bmB : List Value) (newId initId : String) (f : Str) (to te : TE) : TS := fun D σ H => te σ H fun y H1 => to σ H1 fun x H2 => ∃ (a C dx : Addr) (fs : List (Str × V)), x = .ref a ∧ ExcT K C B bmB newId initId ∧ takerIn K C f = some none ∧
  H2 a = some (exo a C (some dx)) ∧ H2 dx = some (exd dx fs) ∧ fs.length ≤ 900 ∧ D.nx σ (upd H2 dx (exd dx ((f, y) :: fs)))
theorem ps_xs {o e : Expr} {f : Str} {p' pos : Pos} {to te : TE} (ho : PE X o to) (he : PE X e te) (hs : swapsWith e (some (.Attribute o f p')) pos.line X.env = pure false := by rfl) : PS X (.Assign [.Attribute o f p'] e pos) (tXs X.K B bmB newId initId f to te) := by
  refine ⟨fun pins s σ H D I h => ?_⟩
  refine plainObj_wpAny_Assign_Attribute (thn (he.run pins s σ H _ I h) fun v s1 ⟨y, H1, I1, r1, q1⟩ => thn (ho.run pins s1 σ H1 _ I1 q1) fun u s2 ⟨x, H2, I2, r2, a, C, dx, fs, ex, T, hn, ea, ed, hl, q⟩ => ?_) hs
  subst ex
  obtain rfl : u = Value.ref a := r2
  obtain ⟨t1, ho⟩ := exo_at I2.hok ea
  obtain ⟨mA, hns, rel⟩ := exd_at I2.hok ed
  refine set_more T I2.kIn ho hn hns (within_of rel) (by rw [List.length_map]; exact hl) fun h' tk' k hn' => ?_
  have hd : ∃ o, h'.get? dx = some o := by
    obtain ⟨o, _, _, e', _⟩ := hn'
    exact ⟨o, e'⟩
  exact ⟨σ, _, I2.write (t' := tk') (x := dx) (e := dx) (o := exd dx ((f, y) :: fs)) (by rw [ed]; exact True.intro) (.inl rfl) k hd (exd_ok hn' (relO_put r1 rel)), q⟩
/-- o.f, o such an exception -/
def tXg (K : Frag) (f : Str) (to : TE) : TE := fun σ H Q => to σ H fun x H1 => ∃ (a C dx : Addr) (fs : List (Str × V)) (v : V) (B newId initId : String) (bmB : List Value), x = .ref a ∧ ExcT K C B bmB newId initId ∧ findIn K (.ref C) f = some none ∧ Rd H1 a (exo a C (some dx)) ∧ Rd H1 dx (exd dx fs) ∧ fs.lookup f = some v ∧ Q v H1
theorem pe_xg {o : Expr} {f : Str} {pos : Pos} {to : TE} (ho : PE X o to) (hb : attributeBase o f X.env (eval o X.env) = eval o X.env := by rfl) : PE X (.Attribute o f pos) (tXg X.K f to) := by
  refine ⟨fun pins s σ H Q I h => ?_⟩
  refine attr_of hb (thn (ho.run pins s σ H _ I h) fun u s1 ⟨x, H1, I1, rx, a, C, dx, fs, v, B, newId, initId, bmB, ex, T, hno, ea, ed, l, q⟩ => ?_)
  subst ex
  obtain rfl : u = Value.ref a := rx
  have hea : ∃ t1 : Addr, s1.heap.get? a = some (excObj C t1 (some dx) .none) := by
    rcases ea with ea | ⟨ob, ea⟩
    · exact exo_at I1.hok ea
    · obtain ⟨_, z⟩ := (show ObjOk X.prog X.w H1 s1.heap a (.frz ob (exo a C (some dx))) from I1.hok a _ ea)
      exact z.1
  have hed : ∃ mA, s1.heap.Ns1 dx mA ∧ ∀ g, RelO (fs.lookup g) (mA g) := by
    rcases ed with ed | ⟨ob, ed⟩
    · exact exd_at I1.hok ed
    · obtain ⟨_, z⟩ := (show ObjOk X.prog X.w H1 s1.heap dx (.frz ob (exd dx fs)) from I1.hok dx _ ed)
      exact z.1
  obtain ⟨t1, h1⟩ := hea
  obtain ⟨mA, hns, hr⟩ := hed
  obtain ⟨od, ho, hl⟩ := lookIn_ns hns
  obtain ⟨u, hu, ru⟩ := RelO.some_of (v := v) (o := mA f) (by rw [← l]; exact hr f)
  have J : InstAt s1.heap a (excObj C t1 (some dx) .none) C (some od) := ⟨h1, rfl, rfl, ho⟩
  exact HandSPX.exc_get I1.kIn J T.ga T.gg T.base (findObj_own T.dict hno rfl (by rw [hl, hu])) (handed_of ru) ⟨v, H1, I1.tok _, ru, q⟩
end
end EX

/-! ### C(..), an exception as a value -/
namespace EX
open PySem PySem.Spec PySem.W PySem.Calls PyProof.Rows L2
section
variable {prog : Program} {w : World} {M : Model} {A : Around} {E : Value → Shared → Prop} {R : Result → Shared → Prop} {h : Heap} {g : Array GenState} {d : Drawn} {t : Nat} {os : OsState}
variable {nm q : Str} {C N : Addr} {bs bm bmB : List Value} {hdct : Bool} {sn : List Str} {sub : List Value} {ab : Bool} {col : Option Bool} {dd : Option Addr} {k0 k1 k2 k3 k5 : Option Value} {B newId initId : String} {kw : List (Str × Value)} {rest : List Value}
theorem kw_check (F : ExcBaseFacts B newId initId bmB) (hT : ∀ X : String, bm.contains (.type X) = bmB.contains (.type X)) {Q : Unit → Shared → Prop}
    (hC : h.get? C = some (excClassObj nm q C N bs bm hdct sn sub ab col dd k0 k1 k2 k3 k5 newId)) (hq : Q () ⟨h, g, d, t, os⟩) : wpAny M A (checkBuiltinCall newId ⟨.ref C :: rest, kw⟩) Q E ⟨h, g, d, t, os⟩ := by
  have has : (Value.ref C :: bm).contains (.type B) = true := by rw [List.contains_cons, hT, F.hasB, Bool.or_true]
  have stars := F.noStar
  simp only [checkBuiltinCall, F.newKind, F.newSplit, F.newRow]
  repeat (first | simp only [bne_self_eq_false, Bool.false_eq_true, if_false] | refine wpAny_madeBy_exc hC ?_ | refine wpAny_staticBase_exc hC ?_ | (refine wpAny_isSubtype_exc hC ?_; rw [has]) | refine wpAny_loadPart_at hC ?_ | wp_step)
  exact hq
theorem kw_new (F : ExcBaseFacts B newId initId bmB) (hT : ∀ X : String, bm.contains (.type X) = bmB.contains (.type X))
    (hC : h.get? C = some (excClassObj nm q C N bs bm hdct sn sub ab col dd k0 k1 k2 k3 k5 newId))
    (hq : R (.ok (.ret (.ref (h.objs.size + 1)))) ⟨(h.push { cls := .type "tuple", data := .seq rest.toArray }).push { cls := .ref C, data := .fields #[.ref h.objs.size, .none, .none, .none, .bool false, .none] }, g, d, t, os⟩) (hrest : rest.length ≤ sizeLine) :
    codeAny (model prog w) A (.builtin newId ⟨.ref C :: rest, kw⟩) R ⟨h, g, d, t, os⟩ := by
  have fin := F.ends
  have z1 : (Value.ref C :: bm).contains (.type B) = true := by rw [List.contains_cons, hT, F.hasB, Bool.or_true]
  have z2 : (Value.ref C :: bm).contains (.type "AttributeError") = false := by rw [List.contains_cons, hT, F.noAttr]; rfl
  have z3 : (Value.ref C :: bm).contains (.type "NameError") = false := by rw [List.contains_cons, hT, F.noName]; rfl
  refine codeAny_builtinAt F.entry ?_
  unfold Builtin.«BaseException.__new__»
  refine _root_.PySem.wpAt_bind ?_
  show _root_.PySem.wpAt _ _ _ (stack >>= _) _ _ _
  refine _root_.PySem.wpAt_bind (_root_.PySem.wpAt_stack fun p below => _root_.PySem.wpAt_of_wpAny ?_)
  wp_walk
  refine _root_.PySem.wpAt_of_wpAny ?_
  rw [F.owner]
  repeat (first | (with_reducible refine wpAny_isSubtype_exc hC ?_; first | rw [z1] | rw [z2] | rw [z3]) | with_reducible refine wpAny_madeHere_exc F.canon hC ?_ | with_reducible refine wpAny_loadPart_at hC ?_ | wp_step)
  show R _ _
  rw [Heap.size_push]
  exact hq
theorem kw_type (F : ExcBaseFacts B newId initId bmB) (hT : ∀ X : String, bm.contains (.type X) = bmB.contains (.type X)) {fI : Addr} {Q : Fin → Shared → Prop}
    (hC : h.get? C = some (excClassObj nm q C N bs bm hdct sn sub ab col dd k0 k1 k2 k3 k5 newId))
    (hi : W.Looks (model prog w) h (typeLookup (.ref C) "__init__") (some (.ref fI))) (hb : ∀ self, W.Looks (model prog w) h (bindSpecial (.ref fI) self) (.ref fI, [self])) (hrest : rest.length ≤ sizeLine)
    (hq : codeAny (model prog w) A (.call (.ref fI) ⟨.ref (h.objs.size + 1) :: rest, kw⟩)
      (fun r s' => match r with | .ok (.ret v) => v = .none ∧ Q (.done (.ret (.ref (h.objs.size + 1)))) s' | .ok _ => False | .error e => E e s') ⟨(h.push (W.kdv_tup rest)).push (HandSPX.excO C h.objs.size), g, d, t, os⟩) :
    wpAny (model prog w) A (Builtin.«type.__call__» ⟨.ref C :: rest, kw⟩) Q E ⟨h, g, d, t, os⟩ := by
  repeat (first | with_reducible refine wpAny_madeBy_exc hC ?_ | with_reducible refine wpAny_loadPart_at hC ?_ | wp_step)
  refine codeAny_call_builtin_code (Code.quiet_builtin _ F.quiet) (kw_check F hT hC ?_)
  refine kw_new F hT hC ?_ hrest
  show wpAny _ _ _ _ _ _
  have kp : ∀ b o, h.get? b = some o → ((h.push (W.kdv_tup rest)).push (HandSPX.excO C h.objs.size)).get? b = some o := fun b o e => Heap.get?_push_of_some _ (Heap.get?_push_of_some _ e)
  have hC' := kp _ _ hC
  have at' : ((h.push (W.kdv_tup rest)).push (HandSPX.excO C h.objs.size)).get? (h.objs.size + 1) = some (HandSPX.excO C h.objs.size) := by heap_get
  have self' : (Value.ref C :: bm).contains (.ref C) = true := by simp
  have li := hi.keeps kp
  have lb := (hb (.ref (h.objs.size + 1))).keeps kp
  unfold isInstance
  repeat (first | (with_reducible refine wpAny_isSubtype_exc hC' ?_; rw [self']) | with_reducible refine wpAny_loadPart_at at' ?_ | wp_step)
  show wpAny _ _ (typeLookup (.ref C) _) _ _ _
  refine li.at (wpAny_holding (wpAny_bind (lb.at (wpAny_bind (wpAny_call (codeAny_mono hq fun r s' z => ?_))))))
  rcases r with e | (v | _ | _ | _) <;> first | exact z | exact z.elim | skip
  obtain ⟨rfl, z⟩ := z
  first
    | exact wpAny_pure (wpAny_pure z)
    | (wp_walk; exact z)
theorem kw_check0 {Q : Unit → Shared → Prop}
    (hC : h.get? C = some (excClassObj nm q C N bs bm hdct sn sub ab col dd k0 k1 k2 k3 k5 newId)) (hq : Q () ⟨h, g, d, t, os⟩) : wpAny M A (checkBuiltinCall "type.__call__" ⟨.ref C :: rest, kw⟩) Q E ⟨h, g, d, t, os⟩ := by
  have f3 := tc_sub
  have isT : (⟨h, g, d, t, os⟩ : Shared).TypeIs (.ref C) "type" := ⟨_, hC, rfl⟩
  simp only [checkBuiltinCall, tc_kind, tc_split]
  repeat (any_goals (first | assumption | with_reducible refine wpAny_map ?_ | with_reducible refine wpAny_onRaise ?_ | with_reducible refine wpAny_loadPart_at hC ?_ | wp_step))
theorem kw_call (F : ExcBaseFacts B newId initId bmB) (hT : ∀ X : String, bm.contains (.type X) = bmB.contains (.type X)) {fI : Addr}
    (hC : h.get? C = some (excClassObj nm q C N bs bm hdct sn sub ab col dd k0 k1 k2 k3 k5 newId))
    (hi : W.Looks (model prog w) h (typeLookup (.ref C) "__init__") (some (.ref fI))) (hb : ∀ self, W.Looks (model prog w) h (bindSpecial (.ref fI) self) (.ref fI, [self])) (hrest : rest.length ≤ sizeLine)
    (hq : codeAny (model prog w) (A.under (.builtin "type.__call__" ⟨.ref C :: rest, kw⟩)) (.call (.ref fI) ⟨.ref (h.objs.size + 1) :: rest, kw⟩) (W.InitBack (h.objs.size + 1) R) ⟨(h.push (W.kdv_tup rest)).push (HandSPX.excO C h.objs.size), g, d, t, os⟩) :
    codeAny (model prog w) A (.call (.ref C) ⟨rest, kw⟩) R ⟨h, g, d, t, os⟩ := by
  have l1 := tc_lookup
  have l2 := tc_bind (.ref C)
  have isT : (⟨h, g, d, t, os⟩ : Shared).TypeIs (.ref C) "type" := ⟨_, hC, rfl⟩
  refine codeAny_of_tree ?_
  show wpAny _ _ (callAny (.ref C) _) _ _ _
  repeat (any_goals (first | assumption | with_reducible refine wpAny_loadPart_at hC ?_ | wp_step))
  refine ⟨rfl, ?_⟩
  refine codeAny_call_builtin_at (Code.quiet_builtin _ (by decide +kernel)) entry_typeCall (kw_check0 hC (kw_type F hT hC hi hb hrest ?_))
  refine codeAny_mono hq fun r s' z => ?_
  rcases r with e | (v | _ | _ | _) <;> exact z
end
end EX

/-! ### C(..), an exception as a value: the rules -/
namespace EX
open PySem PySem.Spec PySem.W PySem.Calls PyProof.Rows L2
theorem upd3 {H : Hp} {a dx : Addr} {o1 o2 d : HO} (h : dx ≠ a) : upd (upd (upd H a o1) dx d) a o2 = upd (upd H dx d) a o2 := by
  funext b
  by_cases hb : b = a
  · rw [hb, upd_same, upd_same]
  · rw [upd_ne hb, upd_ne hb]
    by_cases hd : b = dx
    · rw [hd, upd_same, upd_same]
    · rw [upd_ne hd, upd_ne hd, upd_ne hb]
/-- what a call of the class C leans on: its __init__ stands at fI (in D) -/
structure MakeC (P : Program) (w : World) (K : Frag) (mg : Str → Option Value) (base : Heap) (CX : CXT) (k : Nat) (C : Addr) (ps flds : List Str) (g : List V → List (Str × V)) (n : Nat) (ks : List Str) (gV : List V → List V → List V) : Prop where
  ex : ∃ (D fI : Addr) (fd : FuncData) (B newId initId : String) (bmB : List Value) (gg : List Value → List Value → List Value), InitC K D C B bmB newId initId flds ∧ findIn K (.ref C) "__init__" = some (some (.ref fI)) ∧ typeIn K (.ref fI) = some (.type "function") ∧
    FnOk P w K mg base CX k fI fd ps (spInit K D B bmB newId initId flds ps g) ∧ KBn K fd ps (n + 1) ks gg gV
theorem kbn_of {K : Frag} {fd : FuncData} {ps : List Str} {n : Nat} (hb : Binds K fd ps []) (hn : ps.length = n) : KBn K fd ps n [] (fun us _ => us) (fun vs _ => vs) :=
  ⟨fun s us ws X l1 l2 => by
    have z := hb s us X (by rw [List.append_nil, l1, hn])
    rw [List.append_nil] at z
    exact z, fun r _ => r⟩
section
variable {X : Cx} {CX : CXT} {k n : Nat} {C : Addr} {ps flds ks : List Str} {g : List V → List (Str × V)} {gV : List V → List V → List V}
theorem run_exn {pins : List (Addr × Obj)} {σ : L2.St} {H : Hp} {s : Shared} {Q : VK} {us ws : List Value} {vs zs : List V} (Mk : MakeC X.prog X.w X.K X.mg X.base CX k C ps flds g n ks gV) (hr : Room (k + 1) X.A) (hx : Passes CX X (fun _ _ _ => False))
    (I : Inv X pins σ H s) (r : Vals vs us) (rz : Vals zs ws) (l1 : vs.length = n) (l2 : zs.length = ks.length) (l3 : ∀ a, (gV (.ref a :: vs) zs).length = ps.length) (l4 : vs.length ≤ 1000) (hself : ∀ a, ∃ t, gV (.ref a :: vs) zs = .ref a :: t)
    (h : ∀ a dx, H a = none → H dx = none → dx ≠ a → Q (.ref a) (upd (upd H dx (exd dx (g (gV (.ref a :: vs) zs).tail))) a (exo a C (some dx)))) :
    wpAny (model X.prog X.w) X.A (call (.ref C) us (ks.zip ws)) (EP X pins σ Q) X.xe s := by
  obtain ⟨D, fI, fd, B, newId, initId, bmB, gg, IC, iC, tI, F1, hb⟩ := Mk.ex
  have T := IC.t
  obtain ⟨hp, gn, dr, tk, os⟩ := s
  obtain ⟨nm, N, qn, bs, bm, hdct, sn, sub, ab, col, dd, k0, k1, k2, k3, k5, hC, hT⟩ := excInit_of I.kIn T.own
  have hsz : hp.objs.size ≤ hp.objs.size + 1 := Nat.le_succ _
  have hn : H (hp.objs.size + 1) = none := I.hok.fresh hsz
  have kk : ∀ b o, hp.get? b = some o → ((hp.push (kdv_tup us)).push (HandSPX.excO C hp.objs.size)).get? b = some o := fun b o e => Heap.get?_push_of_some _ (Heap.get?_push_of_some _ e)
  have at' : ((hp.push (kdv_tup us)).push (HandSPX.excO C hp.objs.size)).get? (hp.objs.size + 1) = some (HandSPX.excO C hp.objs.size) := by heap_get
  have I2 : Inv X pins σ (upd H (hp.objs.size + 1) (exo (hp.objs.size + 1) C none)) ⟨(hp.push (kdv_tup us)).push (HandSPX.excO C hp.objs.size), gn, dr, tk, os⟩ :=
    I.laid (t' := tk) (a := hp.objs.size + 1) (o := exo (hp.objs.size + 1) C none) (h' := (hp.push (kdv_tup us)).push (HandSPX.excO C hp.objs.size)) kk hsz (exo_ok at')
  have r1 : Vals (V.ref (hp.objs.size + 1) :: vs) (Value.ref (hp.objs.size + 1) :: us) := .cons rfl r
  have r2 := hb.rel r1 rz
  have n1 : (Value.ref (hp.objs.size + 1) :: us).length = n + 1 := by rw [List.length_cons, ← r.length, l1]
  have hus : us.length ≤ sizeLine := by
    rw [← Paired.length r, sizeLine_eq]
    omega
  obtain ⟨tt, ht⟩ := hself (hp.objs.size + 1)
  have hq : spInit X.K D B bmB newId initId flds ps g (gV (.ref (hp.objs.size + 1) :: vs) zs) (upd H (hp.objs.size + 1) (exo (hp.objs.size + 1) C none)) (fun v H2 => v = .non ∧ Q (.ref (hp.objs.size + 1)) H2) (fun _ _ _ => False) := by
    refine ⟨hp.objs.size + 1, C, tt, ht, l3 _, IC, upd_same, fun dx hd ne => ⟨rfl, ?_⟩⟩
    rw [upd3 ne]
    have := h (hp.objs.size + 1) dx hn (by rw [upd_ne ne] at hd; exact hd) ne
    rw [ht] at this
    exact this
  refine wpAny_call (kw_call T.fb hT hC (looks_findIn I.kIn iC) (fun self => bind_fn I.kIn self tI) hus
    (codeAny_mono (F1.run _ X.stack _ _ ⟨Value.ref (hp.objs.size + 1) :: us, ks.zip ws⟩ (gg (Value.ref (hp.objs.size + 1) :: us) ws) _ _ (fun _ _ _ => False) ((hr.make C us (ks.zip ws))) (I2.env0.make C us (ks.zip ws)) (hb.to _ (Value.ref (hp.objs.size + 1) :: us) ws I2.kIn n1 (by rw [← rz.length]; exact l2)) r2 hq) fun r s' hq' => ?_))
  cases r with
  | error er => exact hx pins σ _ _ er s' I2 hq'
  | ok fl =>
    cases fl with
    | ret u =>
      obtain ⟨v, H', I3, rv, ev, q3⟩ := I2.after hq'
      subst ev
      exact ⟨rv, ⟨V.ref (hp.objs.size + 1), H', I3, rfl, q3⟩⟩
    | next => exact False.elim hq'
    | brk => exact False.elim hq'
    | cont => exact False.elim hq'
/-- the reading -/
def tExn (C : Addr) (n m : Nat) (ps : List Str) (g : List V → List (Str × V)) (gV : List V → List V → List V) (t tk : TA) : TE := fun σ H Q => t σ H fun vs H1 => tk σ H1 fun zs H2 => vs.length = n ∧ zs.length = m ∧ vs.length ≤ 1000 ∧ (∀ a, (gV (.ref a :: vs) zs).length = ps.length) ∧ (∀ a, ∃ t, gV (.ref a :: vs) zs = .ref a :: t) ∧
  ∀ a dx, H2 a = none → H2 dx = none → dx ≠ a → Q (.ref a) (upd (upd H2 dx (exd dx (g (gV (.ref a :: vs) zs).tail))) a (exo a C (some dx)))
variable {x : Str} {p pos : Pos} {e : Expr} {es : List Expr} {kws : List Keyword} {t tk : TA}
theorem pe_exn (Mk : MakeC X.prog X.w X.K X.mg X.base CX k C ps flds g n [] gV) (kp : keepIn X.K (.ref C) = true) (hr : Room (k + 1) X.A) (hg : Gl X x) (hm : X.mg x = some (.ref C)) (hx : Passes CX X (fun _ _ _ => False)) (ha : PA X (e :: es) t)
    (hdb : (x == ("__debug__" : Str)) = false := by decide) (he : starEach (e :: es) X.env = (false, eval e X.env) :: starEach es X.env := by rfl) (hpl : (backTo pos (starEach es X.env)).any (·.1) = false := by rfl) :
    PE X (.Call (.Name x p) (e :: es) [] pos) (tExn C n 0 ps g gV t tNil) := by
  refine ⟨fun pins s σ H Q I h => ?_⟩
  refine wpAny_Call_Name_kw (ld_glob I hg hm ?_ hdb)
  refine callWith_K (h₀ := X.base) I.ok.mod.kin kp (thn (ha.run pos pins s σ H _ I h) fun us s1 ⟨vs, H1, I1, r, q⟩ => ⟨I1.kIn, ?_⟩) he hpl
  obtain ⟨l1, l2, l4, l3, hs, q⟩ := q
  exact run_exn (ws := []) (zs := []) Mk hr hx I1 r .nil l1 rfl l3 l4 hs q
theorem pe_exn0 (Mk : MakeC X.prog X.w X.K X.mg X.base CX k C ps flds g 0 [] gV) (kp : keepIn X.K (.ref C) = true) (hr : Room (k + 1) X.A) (hg : Gl X x) (hm : X.mg x = some (.ref C)) (hx : Passes CX X (fun _ _ _ => False)) (hdb : (x == ("__debug__" : Str)) = false := by decide) :
    PE X (.Call (.Name x p) [] [] pos) (tExn C 0 0 ps g gV tNil tNil) := by
  refine ⟨fun pins s σ H Q I h => ?_⟩
  refine wpAny_Call_Name_kw (ld_glob I hg hm ?_ hdb)
  refine callWith_K0 I.kIn kp ?_
  obtain ⟨l1, l2, l4, l3, hs, q⟩ := h
  exact run_exn (us := []) (vs := []) (ws := []) (zs := []) Mk hr hx I .nil .nil rfl rfl l3 l4 hs q
theorem pe_exnK (Mk : MakeC X.prog X.w X.K X.mg X.base CX k C ps flds g 0 ks gV) (kp : keepIn X.K (.ref C) = true) (hr : Room (k + 1) X.A) (hg : Gl X x) (hm : X.mg x = some (.ref C)) (hx : Passes CX X (fun _ _ _ => False)) (hkw : PK X kws tk)
    (hall : (backToKw pos (keywordEach kws X.env)).all (·.1.isSome) = true := by rfl) (hks : (backToKw pos (keywordEach kws X.env)).filterMap (·.1) = ks := by rfl) (hdb : (x == ("__debug__" : Str)) = false := by decide)
    (hpl : ((backTo pos (starEach [] X.env)).any (·.1) || (backToKw pos (keywordEach kws X.env)).any (·.1.isNone)) = false := by rfl) :
    PE X (.Call (.Name x p) [] kws pos) (tExn C 0 ks.length ps g gV tNil tk) := by
  refine ⟨fun pins s σ H Q I h => ?_⟩
  refine wpAny_Call_Name_kw (ld_glob I hg hm ?_ hdb)
  refine callWith_KW0 (h₀ := X.base) I.ok.mod.kin kp hall ?_ hpl
  refine thn (hkw.run pos pins s σ H _ I h) fun ws s2 ⟨zs, H2, I2, rz, l1, l2, l4, l3, hs, q⟩ => ⟨I2.kIn, ?_⟩
  rw [hks]
  exact run_exn (us := []) (vs := []) Mk hr hx I2 .nil rz rfl l2 l3 l4 hs q
end
end EX

/-! ### an __init__ that calls D.__init__(self, ..), then stores its fields -/
namespace EX
open PySem PySem.Spec PySem.W PySem.Calls PyProof.Rows L2
def gs (z : Str) (fl : List Str) : List V → List (Str × V) := fun ws => (fl.zip ws).reverse ++ [(PySem.Str.ofString "code", V.str z)]
theorem upd2 {H : Hp} {a dx : Addr} {o d1 d2 : HO} (h : dx ≠ a) : upd (upd (upd H dx d1) a o) dx d2 = upd (upd H dx d2) a o := by
  funext b
  by_cases hd : b = dx
  · rw [hd, upd_same, upd_ne h, upd_same]
  · rw [upd_ne hd]
    by_cases hb : b = a
    · rw [hb, upd_same, upd_same]
    · rw [upd_ne hb, upd_ne hb, upd_ne hd, upd_ne hd]
/-- the class D as the program's text has it: its own __init__ at f -/
structure BaseC (P : Program) (w : World) (K : Frag) (mg : Str → Option Value) (base : Heap) (k : Nat) (x : Str) (D : Addr) (B : String) (bmB : List Value) (newId initId : String) : Prop where
  ex : ∃ (f : Addr) (mc : Value) (fd : FuncData), mg x = some (.ref D) ∧ readsIn K D mc = true ∧ specialIn K (.ref D) "__getattribute__" = some (some (.builtin "type.__getattribute__")) ∧ findCls K (.ref D) mc "__init__" = some (.val (.ref f)) ∧ keepIn K (.ref f) = true ∧
    FnOk P w K mg base (L2.CX P w) k f fd ["self", "code"] (spInit K D B bmB newId initId ["code"] ["self", "code"] g1) ∧ Binds K fd ["self", "code"] []
/-- D.__init__(self, z), the reading -/
def tBase (K : Frag) (D : Addr) (B : String) (bmB : List Value) (newId initId : String) (z : Str) : TE := fun σ H Q => tCons (tVar 0) (tCons (tC (.str z)) tNil) σ H fun vs H1 => spInit K D B bmB newId initId ["code"] ["self", "code"] g1 vs H1 Q (fun _ _ _ => False)
section
variable {K : Frag} {B newId initId : String} {bmB : List Value} {D : Addr} {z fl fl2 : Str} {vs : List V} {H : Hp} {Q : VK} {E : XK}
theorem pure1 (h : spInit K D B bmB newId initId ["code", fl] ["self", fl] (gs z [fl]) vs H Q E) :
    tSeq (tDrop (tBase K D B bmB newId initId z)) (tXs K B bmB newId initId fl (tVar 0) (tVar 1)) { nx := fun _ H' => Q .non H', rt := Q } (L2.start ["self", fl] vs) H := by
  obtain ⟨a, C, ws, rfl, hl, IC, hx, q⟩ := h
  obtain ⟨v, rfl⟩ : ∃ v, ws = [v] := by
    match ws, hl with
    | [v], _ => exact ⟨v, rfl⟩
  refine ⟨_, rfl, a, C, [.str z], rfl, rfl, ⟨IC.t, IC.mro, IC.sup, fun f hf => IC.tk f ?_⟩, hx, fun dx hd ne => ?_⟩
  · have : f = "code" := by simpa using hf
    rw [this]; exact List.mem_cons_self
  · refine ⟨_, rfl, _, rfl, a, C, dx, [("code", .str z)], rfl, IC.t, IC.tk fl (List.mem_cons_of_mem _ List.mem_cons_self), upd_same, ?_, by show 1 ≤ 900; decide, ?_⟩
    · rw [upd_ne ne, upd_same]; rfl
    · show Q .non _
      rw [upd2 ne]
      exact q dx hd ne
theorem pure2 (h : spInit K D B bmB newId initId ["code", fl, fl2] ["self", fl, fl2] (gs z [fl, fl2]) vs H Q E) :
    tSeq (tDrop (tBase K D B bmB newId initId z)) (tSeq (tXs K B bmB newId initId fl (tVar 0) (tVar 1)) (tXs K B bmB newId initId fl2 (tVar 0) (tVar 2))) { nx := fun _ H' => Q .non H', rt := Q } (L2.start ["self", fl, fl2] vs) H := by
  obtain ⟨a, C, ws, rfl, hl, IC, hx, q⟩ := h
  obtain ⟨v, u, rfl⟩ : ∃ v u, ws = [v, u] := by
    match ws, hl with
    | [v, u], _ => exact ⟨v, u, rfl⟩
  refine ⟨_, rfl, a, C, [.str z], rfl, rfl, ⟨IC.t, IC.mro, IC.sup, fun f hf => IC.tk f ?_⟩, hx, fun dx hd ne => ?_⟩
  · have : f = "code" := by simpa using hf
    rw [this]; exact List.mem_cons_self
  · refine ⟨_, rfl, _, rfl, a, C, dx, [("code", .str z)], rfl, IC.t, IC.tk fl (by simp), upd_same, ?_, by show 1 ≤ 900; decide, ?_⟩
    · rw [upd_ne ne, upd_same]; rfl
    · refine ⟨_, rfl, _, rfl, a, C, dx, [(fl, v), ("code", .str z)], rfl, IC.t, IC.tk fl2 (by simp), ?_, upd_same, by show 2 ≤ 900; decide, ?_⟩
      · rw [upd_ne (Ne.symm ne), upd_same]
      · show Q .non _
        rw [show upd (upd (upd (upd H dx (exd dx (g1 [V.str z]))) a (exo a C (some dx))) dx (exd dx [(fl, v), ("code", V.str z)])) dx (exd dx [(fl2, u), (fl, v), ("code", V.str z)]) = upd (upd (upd H dx (exd dx (g1 [V.str z]))) a (exo a C (some dx))) dx (exd dx [(fl2, u), (fl, v), ("code", V.str z)]) from upd_upd, upd2 ne]
        exact q dx hd ne
end
end EX
namespace DL
open PySem
/-- the i-th def of a class's body -/
def defIn (st : Stmt) (i : Nat) : Stmt := match st with
  | .ClassDef (body := b) .. => b.getD i (.Pass ⟨0, 0, 0, 0⟩)
  | _ => .Pass ⟨0, 0, 0, 0⟩
end DL

/-! ### exceptions as trees: C(..), e.f, isinstance(e, C) -/
namespace DL
open PySem PySem.Spec PyProof.Rows L2 EX
theorem zip_rev {α β : Type} : ∀ {l : List α} {m : List β}, l.length = m.length → (l.zip m).reverse = l.reverse.zip m.reverse
  | [], [], _ => rfl
  | a :: l, b :: m, h => by
    have h' : l.length = m.length := by simpa using h
    rw [List.zip_cons_cons, List.reverse_cons, List.reverse_cons, List.reverse_cons, zip_rev h', List.zip_append (by rw [List.length_reverse, List.length_reverse]; exact h')]
    rfl
theorem gs_zip {z : Str} {fl : List Str} {ws : List V} (h : fl.length = ws.length) : gs z fl ws = (fl.reverse ++ [PySem.Str.ofString "code"]).zip (ws.reverse ++ [V.str z]) := by
  unfold gs
  rw [zip_rev h, List.zip_append (by rw [List.length_reverse, List.length_reverse]; exact h)]
  rfl
theorem Reps.rev {K : PySem.W.Frag} {w : Wd} : ∀ {ds : List D} {vs : List V}, Reps K w ds vs → Reps K w ds.reverse vs.reverse
  | [], vs, r => by simp only [Reps] at r; subst r; exact .nil
  | d :: ds, vs, r => by
    simp only [Reps] at r
    obtain ⟨v, vs', rfl, q, z⟩ := r
    rw [List.reverse_cons, List.reverse_cons]
    exact (Reps.rev z).append (.one q)
theorem of_exc {K : PySem.W.Frag} {w : Wd} {c : Str} {ks : List Str} {ds : List D} {a C dx : Addr} {vs : List V} (n : PySem.W.nsIn K mainGlobals c = some (some (.ref C))) (h1 : w.F a = some (exo a C (some dx))) (h2 : w.F dx = some (exd dx (ks.zip vs))) (l : ks.length = vs.length) (r : Reps K w ds vs) : Rep K w (.exc c ks ds) (.ref a) := by
  simp only [Rep]
  exact ⟨a, C, dx, vs, rfl, n, h1, h2, l, r⟩
/-- a new thing is laid and stands still -/
theorem BRel.lay {K : PySem.W.Frag} {B : Ent} {w : Wd} {s : S} {σ : LSt} {H : Hp} {p : Addr} {o : HO} (R : BRel K B w s σ H) (h : H p = none) : To σ w s H σ ⟨upd w.F p o, w.th, w.cs⟩ s (upd H p o) ∧ BRel K B ⟨upd w.F p o, w.th, w.cs⟩ s σ (upd H p o) := by
  have hF := R.newF h
  refine ⟨⟨frz_le hF, fun b u q => ?_⟩, (R.new (o := o) h).freeze upd_same hF (R.newT h) (R.live h) fun i e q z => ?_⟩
  · have nb : b ≠ p := fun z => by rw [z] at q; have := q.at_; rw [h] at this; cases this
    exact ⟨by rw [upd_ne nb]; exact q.at_, by show upd w.F p _ b = none; rw [upd_ne nb]; exact q.f, q.t, q.sl⟩
  · obtain ⟨b, x, h1, h2, _⟩ := R.own i e q
    rw [h1] at z; cases z
    rw [h] at h2; cases h2
/-- a class of exceptions: called with n places and the keywords ks; fl: its fields (and __init__'s names), z: its code; gD: the arguments in their order -/
structure DefExc (P : Program) (wd : World) (K : PySem.W.Frag) (mg : Str → Option Value) (base : Heap) (k : Nat) (c : Str) (fl : List Str) (z : Str) (n : Nat) (ks : List Str) (gD : List D → List D → List D) : Prop where
  ex : ∃ (C : Addr) (flds : List Str) (g : List V → List (Str × V)) (gV : List V → List V → List V), PySem.W.nsIn K mainGlobals c = some (some (.ref C)) ∧ mg c = some (.ref C) ∧ PySem.W.keepIn K (.ref C) = true ∧ MakeC P wd K mg base (L2.CX P wd) k C ("self" :: fl) flds g n ks gV ∧
    ∀ a vs zs, vs.length = n → zs.length = ks.length → ∃ ws, gV (.ref a :: vs) zs = .ref a :: ws ∧ ws.length = fl.length ∧ g ws = gs z fl ws ∧ ∀ w ds es, Reps K w ds vs → Reps K w es zs → Reps K w (gD ds es) ws
def dExn (c : Str) (fl : List Str) (z : Str) (n m : Nat) (gD : List D → List D → List D) (f g : M (List D)) : M D := f.bnd fun ds => g.bnd fun es s Q _ => ds.length = n ∧ es.length = m ∧ n ≤ 1000 ∧ Q (.exc c (fl.reverse ++ [PySem.Str.ofString "code"]) ((gD ds es).reverse ++ [.str z])) s
section
variable {X : Cx} {B : Ent} {W : WX} {k n : Nat} {c z : Str} {fl ks : List Str} {gD : List D → List D → List D} {e : Expr} {es : List Expr} {kws : List Keyword} {fa fk : M (List D)} {p pos : Pos}
theorem exn_of {C : Addr} {g : List V → List (Str × V)} {gV : List V → List V → List V} {t tk : TA} {m : Nat} (hn : PySem.W.nsIn X.K mainGlobals c = some (some (.ref C)))
    (hG : ∀ a vs zs, vs.length = n → zs.length = m → ∃ ws, gV (.ref a :: vs) zs = .ref a :: ws ∧ ws.length = fl.length ∧ g ws = gs z fl ws ∧ ∀ w ds es, Reps X.K w ds vs → Reps X.K w es zs → Reps X.K w (gD ds es) ws)
    (ht : ∀ σ H Q, tA X.K B W fa σ H Q → t σ H Q) (htk : ∀ σ H Q, tA X.K B W fk σ H Q → tk σ H Q) {σ : LSt} {H : Hp} {Q : VK} (q : tE X.K B W (dExn c fl z n m gD fa fk) σ H Q) : tExn C n m ("self" :: fl) g gV t tk σ H Q := by
  refine ht _ _ _ (tG.seq (back_E _) q fun ds s vs w H1 QD ED _ _ r1 rv q1 pp => ?_)
  refine htk _ _ _ ⟨w, s, fun es s2 => ds.length = n ∧ es.length = m ∧ n ≤ 1000 ∧ QD (.exc c (fl.reverse ++ [PySem.Str.ofString "code"]) ((gD ds es).reverse ++ [D.str z])) s2, ED, r1, q1, ⟨fun es s2 zs w2 H2 t2 r2 rz q2 => ?_, pp.ex⟩⟩
  have pp2 := pp.mono (back_E _) t2
  obtain ⟨l1, l2, l3, q2⟩ := q2
  have rv2 := Reps.mono t2.le rv
  have rz : Reps X.K w2 es zs := rz
  have lv : vs.length = n := by rw [Reps.length rv]; exact l1
  have lz : zs.length = m := by rw [Reps.length rz]; exact l2
  refine ⟨lv, lz, by rw [lv]; exact l3, fun a => ?_, fun a => ?_, fun a dx ha hd ne => ?_⟩
  · obtain ⟨ws, e, l, _⟩ := hG a vs zs lv lz
    rw [e, List.length_cons, List.length_cons, l]
  · obtain ⟨ws, e, _⟩ := hG a vs zs lv lz
    exact ⟨ws, e⟩
  · obtain ⟨ws, e, l, hg, hr⟩ := hG a vs zs lv lz
    rw [e]
    show Q (.ref a) (upd (upd H2 dx (exd dx (g ws))) a (exo a C (some dx)))
    obtain ⟨T1, R1⟩ := r2.lay (o := exd dx (g ws)) hd
    obtain ⟨T2, R2⟩ := R1.lay (o := exo a C (some dx)) (p := a) (by rw [upd_ne (Ne.symm ne)]; exact ha)
    have le := T1.le.trans T2.le
    refine pp2.ok _ s2 (.ref a) _ _ (T1.trans T2) R2 ?_ q2
    refine of_exc (C := C) (dx := dx) (vs := ws.reverse ++ [V.str z]) hn upd_same ?_ (by simp [l]) (Reps.append ((hr _ _ _ (rv2.mono le) (rz.mono le)).rev) (.one of_str))
    show upd (upd w2.F dx (exd dx (g ws))) a (exo a C (some dx)) dx = _
    rw [upd_ne ne, upd_same, hg, gs_zip l.symm]
theorem de_exn (G : DefExc X.prog X.w X.K X.mg X.base k c fl z n [] gD) (hr : Room (k + 1) X.A) (ha : DA X B W (e :: es) fa) (hg : Gl X c := by rfl) (hdb : (c == ("__debug__" : Str)) = false := by decide) (he : starEach (e :: es) X.env = (false, eval e X.env) :: starEach es X.env := by rfl) (hpl : (backTo pos (starEach es X.env)).any (·.1) = false := by rfl) :
    DE X B W (.Call (.Name c p) (e :: es) [] pos) (dExn c fl z n 0 gD fa daNil) := by
  obtain ⟨C, flds, g, gV, hn, hm, kp, Mk, hG⟩ := G.ex
  exact PE.weak (pe_exn Mk kp hr hg hm (fun _ _ _ _ _ _ _ c => by obtain ⟨_, _, _, _, _, _, _, _, _, _, _, _, z⟩ := c; exact z.elim) ha hdb he hpl) fun σ H Q q => exn_of hn hG (fun _ _ _ z => z) (fun σ H Q q => by
    obtain ⟨w, s, QD, ED, r, q, pp⟩ := q
    exact pp.ok [] s [] w H (.refl ..) r .nil q) q
theorem de_exn0 (G : DefExc X.prog X.w X.K X.mg X.base k c fl z 0 [] gD) (hr : Room (k + 1) X.A) (hg : Gl X c := by rfl) (hdb : (c == ("__debug__" : Str)) = false := by decide) :
    DE X B W (.Call (.Name c p) [] [] pos) (dExn c fl z 0 0 gD daNil daNil) := by
  obtain ⟨C, flds, g, gV, hn, hm, kp, Mk, hG⟩ := G.ex
  have nil : ∀ (σ : LSt) (H : Hp) (Q : List V → Hp → Prop), tA X.K B W daNil σ H Q → tNil σ H Q := fun σ H Q q => by
    obtain ⟨w, s, QD, ED, r, q, pp⟩ := q
    exact pp.ok [] s [] w H (.refl ..) r .nil q
  exact PE.weak (pe_exn0 Mk kp hr hg hm (fun _ _ _ _ _ _ _ c => by obtain ⟨_, _, _, _, _, _, _, _, _, _, _, _, z⟩ := c; exact z.elim) hdb) fun σ H Q q => exn_of hn hG nil nil q
theorem de_exnK (G : DefExc X.prog X.w X.K X.mg X.base k c fl z 0 ks gD) (hr : Room (k + 1) X.A) (hw : DK X B W kws fk) (hg : Gl X c := by rfl) (hall : (backToKw pos (keywordEach kws X.env)).all (·.1.isSome) = true := by rfl) (hks : (backToKw pos (keywordEach kws X.env)).filterMap (·.1) = ks := by rfl) (hdb : (c == ("__debug__" : Str)) = false := by decide)
    (hpl : ((backTo pos (starEach [] X.env)).any (·.1) || (backToKw pos (keywordEach kws X.env)).any (·.1.isNone)) = false := by rfl) :
    DE X B W (.Call (.Name c p) [] kws pos) (dExn c fl z 0 ks.length gD daNil fk) := by
  obtain ⟨C, flds, g, gV, hn, hm, kp, Mk, hG⟩ := G.ex
  have nil : ∀ (σ : LSt) (H : Hp) (Q : List V → Hp → Prop), tA X.K B W daNil σ H Q → tNil σ H Q := fun σ H Q q => by
    obtain ⟨w, s, QD, ED, r, q, pp⟩ := q
    exact pp.ok [] s [] w H (.refl ..) r .nil q
  exact PE.weak (pe_exnK Mk kp hr hg hm (fun _ _ _ _ _ _ _ c => by obtain ⟨_, _, _, _, _, _, _, _, _, _, _, _, z⟩ := c; exact z.elim) hw hall hks hdb hpl) fun σ H Q q => exn_of hn hG nil (fun _ _ _ z => z) q
end
/-- what the text says of the classes cl: their instances' fields fs are read, isinstance asks them rightly -/
structure Excs (K : PySem.W.Frag) (cl fs : List Str) : Prop where
  t : ∀ c ∈ cl, ∀ C, PySem.W.nsIn K mainGlobals c = some (some (.ref C)) → ∃ (B newId initId : String) (bmB : List Value), ExcT K C B bmB newId initId
  f : ∀ c ∈ cl, ∀ C, PySem.W.nsIn K mainGlobals c = some (some (.ref C)) → ∀ f ∈ fs, PySem.W.findIn K (.ref C) f = some none
  ha : ∀ c ∈ cl, ∀ C, PySem.W.nsIn K mainGlobals c = some (some (.ref C)) → PySem.W.findIn K (.ref C) "__class__" = some (some (.builtin "object.__class__")) ∧ PySem.W.mroIn K C (.type "object") = some true ∧ PySem.W.isClsIn K C = true
  hn : PySem.W.specialIn K (.builtin "object.__class__") "__get__" = some (some (.builtin "getset_descriptor.__get__"))
  ht : PySem.W.takesIn K (.builtin "object.__class__") = some true
def getF : List Str → List D → Str → Option D
  | k :: ks, d :: ds, f => if f = k then some d else getF ks ds f
  | _, _, _ => none
theorem getF_of {K : PySem.W.Frag} {w : Wd} : ∀ {ks : List Str} {ds : List D} {vs : List V} {f : Str} {d : D}, Reps K w ds vs → ks.length = vs.length → getF ks ds f = some d → ∃ v, (ks.zip vs).lookup f = some v ∧ Rep K w d v
  | [], ds, vs, f, d, r, l, e => by cases ds <;> simp [getF] at e
  | k :: ks, [], vs, f, d, r, l, e => by simp [getF] at e
  | k :: ks, d0 :: ds, vs, f, d, r, l, e => by
    simp only [Reps] at r
    obtain ⟨v, vs', rfl, q, z⟩ := r
    unfold getF at e
    rw [List.zip_cons_cons, lookup_put]
    by_cases h : f = k
    · rw [if_pos h] at e ⊢
      cases e
      exact ⟨v, rfl, q⟩
    · rw [if_neg h] at e ⊢
      exact getF_of z (by simpa using l) e
def attE (cl fs : List Str) (f : Str) (d : D) (s : S) (Q : D → S → Prop) : Prop := match d with
  | .exc c ks ds => c ∈ cl ∧ f ∈ fs ∧ onSome (getF ks ds f) fun x => Q x s
  | _ => False
def dAttE (cl fs : List Str) (f : Str) (g : M D) : M D := g.bnd fun d s Q _ => attE cl fs f d s Q
section
variable {X : Cx} {B : Ent} {W : WX} {o : Expr} {f : Str} {g : M D} {pos p p2 : Pos} {cl fs : List Str}
theorem de_attE (G : Excs X.K cl fs) (ho : DE X B W o g) (hb : attributeBase o f X.env (eval o X.env) = eval o X.env := by rfl) : DE X B W (.Attribute o f pos) (dAttE cl fs f g) := PE.weak (pe_xg ho hb) fun σ H Q q => by
  refine tG.seq (back_E _) q fun d s v w H' QD ED _ _ r rv z pp => ?_
  cases d with
  | exc c ks ds =>
    obtain ⟨hc, hf, z⟩ := z
    obtain ⟨x, e, z⟩ := onSome_ex z
    have rv : Rep X.K w (.exc c ks ds) v := rv
    obtain ⟨a, C, dx, vs, rfl, n, h1, h2, l, rr⟩ := rep_exc rv
    obtain ⟨B', newId, initId, bmB, T⟩ := G.t c hc C n
    obtain ⟨u, lu, ru⟩ := getF_of rr l e
    exact ⟨a, C, dx, _, u, B', newId, initId, bmB, rfl, T, G.f c hc C n f hf, .inl (r.sub _ _ h1), .inl (r.sub _ _ h2), lu, tG.ret (R := rE _) r ru z pp⟩
  | _ => exact z.elim
/-- isinstance(e, T), e such an exception: tb tells the answers -/
structure IsTab (K : PySem.W.Frag) (cl : List Str) (tv : V) (cv : Value) (tb : List (Str × Bool)) : Prop where
  rel : ∀ u, RelV tv u → u = cv
  at_ : ∀ c b, (c, b) ∈ tb → c ∈ cl ∧ ∀ C, PySem.W.nsIn K mainGlobals c = some (some (.ref C)) → PySem.W.kitOne K (.ref C) cv = some b
def rIsX (K : PySem.W.Frag) (tv : V) (cv : Value) : List V → Hp → VK → Prop := fun xs H Q => ∃ (a C dx : Addr) (fs : List (Str × V)) (b : Bool) (B newId initId : String) (bmB : List Value), xs = [.ref a, tv] ∧ (∀ u, RelV tv u → u = cv) ∧ ExcT K C B bmB newId initId ∧ H a = some (exo a C (some dx)) ∧ H dx = some (exd dx fs) ∧
  (PySem.W.findIn K (.ref C) "__class__" = some (some (.builtin "object.__class__")) ∧ PySem.W.mroIn K C (.type "object") = some true ∧ PySem.W.isClsIn K C = true) ∧ PySem.W.specialIn K (.builtin "object.__class__") "__get__" = some (some (.builtin "getset_descriptor.__get__")) ∧ PySem.W.takesIn K (.builtin "object.__class__") = some true ∧
  PySem.W.kitOne K (.ref C) cv = some b ∧ Q (.bl b) H
theorem call_isX {tv : V} {cv : Value} : CallR X (.builtin "isinstance") (rIsX X.K tv cv) := by
  intro pins s σ H xs us Q I r h
  obtain ⟨a, C, dx, fs, b, B', newId, initId, bmB, rfl, hcv, T, ea, ed, ⟨ha, hm, hcl⟩, hn, htk, e, q⟩ := h
  cases r with
  | cons rx rr =>
    cases rr with
    | cons rt rr =>
      cases rr
      cases rx
      have ec := hcv _ rt
      subst ec
      obtain ⟨t1, h1⟩ := exo_at I.hok ea
      obtain ⟨mA, hns, hr⟩ := exd_at I.hok ed
      obtain ⟨od, ho, hl⟩ := lookIn_ns hns
      have J : PySem.W.InstAt s.heap a (PySem.W.excObj C t1 (some dx) .none) C (some od) := ⟨h1, rfl, rfl, ho⟩
      exact PySem.W.kia_one (PySem.W.kitx_exc hcl T.ga T.gg T.base ha hn htk hm) I.kIn J e (fun z => nomatch z) fun tk => ⟨.bl b, H, I.kept (t' := tk) fun _ _ z => z, rfl, q⟩
def isE (tb : List (Str × Bool)) (d : D) (s : S) (Q : D → S → Prop) : Prop := match d with
  | .exc c _ _ => onSome (tb.lookup c) fun b => Q (.bl b) s
  | _ => False
def dIsE (tb : List (Str × Bool)) (g : M D) : M D := g.bnd fun d s Q _ => isE tb d s Q
theorem isE_of {tv : V} {cv : Value} {tb : List (Str × Bool)} (G : Excs X.K cl fs) (T : IsTab X.K cl tv cv tb) {σ : LSt} {H : Hp} {Q : VK} (q : tE X.K B W (dIsE tb g) σ H Q) : tCB (rIsX X.K tv cv) (tCons (tE X.K B W g) (tCons (tC tv) tNil)) σ H Q := by
  refine tG.seq (back_E _) q fun d s v w H' QD ED _ _ r rv z pp => ?_
  cases d with
  | exc c ks ds =>
    obtain ⟨b, e, z⟩ := onSome_ex z
    have rv : Rep X.K w (.exc c ks ds) v := rv
    obtain ⟨a, C, dx, vs, rfl, n, h1, h2, l, rr⟩ := rep_exc rv
    have hmem : (c, b) ∈ tb := by
      have : ∀ {l : List (Str × Bool)}, l.lookup c = some b → (c, b) ∈ l := by
        intro l
        induction l with
        | nil => intro h; cases h
        | cons p l ih =>
          obtain ⟨k, v⟩ := p
          intro h
          unfold List.lookup at h
          split at h
          · rename_i hk
            cases h
            have : c = k := by simpa using hk
            subst this
            exact List.mem_cons_self
          · exact List.mem_cons_of_mem _ (ih h)
      exact this e
    obtain ⟨hc, hk⟩ := T.at_ c b hmem
    obtain ⟨B', newId, initId, bmB, TT⟩ := G.t c hc C n
    exact ⟨a, C, dx, _, b, B', newId, initId, bmB, rfl, T.rel, TT, r.sub _ _ h1, r.sub _ _ h2, G.ha c hc C n, G.hn, G.ht, hk C n, tG.ret (R := rE _) r of_bl z pp⟩
  | _ => exact z.elim
variable {x : Str} {e : Expr}
theorem de_isE (T : String) {tb : List (Str × Bool)} (G : Excs X.K cl fs) (TT : IsTab X.K cl (.ty T) (.type T) tb) (hm : X.mg "isinstance" = none) (hmT : X.mg x = none) (ha : DE X B W e g) (hv : bootBuiltins x = some (.type T) := by decide +kernel) (hn : x ≠ "__name__" := by decide) (hd : (x == ("__debug__" : Str)) = false := by decide) (hg : Gl X "isinstance" := by rfl) (hgT : Gl X x := by rfl)
    (h1 : starEach [e, .Name x p2] X.env = (false, eval e X.env) :: starEach [.Name x p2] X.env := by rfl) (h2 : starEach [.Name x p2] X.env = (false, eval (.Name x p2) X.env) :: starEach [] X.env := by rfl) (h3 : (backTo pos (starEach [.Name x p2] X.env)).any (·.1) = false := by rfl) :
    DE X B W (.Call (.Name "isinstance" p) [e, .Name x p2] [] pos) (dIsE tb g) :=
  PE.weak (pe_callB call_isX hg hm (by decide +kernel) (pa_cons ha (pa_cons (pe_bltn (v := .ty T) hgT hmT hv rfl hn hd) pa_nil h2) h1) (by decide) (by decide) h1 h3) fun σ H Q q => isE_of G TT q
theorem de_isEC {T : Addr} {tb : List (Str × Bool)} (G : Excs X.K cl fs) (TT : IsTab X.K cl (.ref T) (.ref T) tb) (hm : X.mg "isinstance" = none) (hmT : X.mg x = some (.ref T)) (ha : DE X B W e g) (hd : (x == ("__debug__" : Str)) = false := by decide) (hg : Gl X "isinstance" := by rfl) (hgT : Gl X x := by rfl)
    (h1 : starEach [e, .Name x p2] X.env = (false, eval e X.env) :: starEach [.Name x p2] X.env := by rfl) (h2 : starEach [.Name x p2] X.env = (false, eval (.Name x p2) X.env) :: starEach [] X.env := by rfl) (h3 : (backTo pos (starEach [.Name x p2] X.env)).any (·.1) = false := by rfl) :
    DE X B W (.Call (.Name "isinstance" p) [e, .Name x p2] [] pos) (dIsE tb g) :=
  PE.weak (pe_callB call_isX hg hm (by decide +kernel) (pa_cons ha (pa_cons (pe_glob (v := .ref T) hgT hmT rfl hd) pa_nil h2) h1) (by decide) (by decide) h1 h3) fun σ H Q q => isE_of G TT q
end
end DL

/-! ### the text's classes of exceptions: what is asked of the written part, as one question each -/
namespace DL
open PySem PySem.Spec PyProof.Rows L2 EX PySem.W
def excB (K : Frag) (C : Addr) (B : String) (bmB : List Value) (newId : String) : Bool :=
  excInitIn K C bmB newId && (excOver K C bmB && (decide (findIn K (.ref C) "__setattr__" = some (some (.builtin "object.__setattr__"))) && (hasDictIn K C && (decide (subIn K (.ref C) (.type B) = some true) && (decide (subIn K (.ref C) (.type "BaseException") = some true) &&
  (decide (typeIn K (.ref C) = some (.type "type")) && (keepIn K (.ref C) && (decide (findIn K (.ref C) "__getattribute__" = some (some (.builtin "BaseException.__getattribute__"))) && decide (findIn K (.ref C) "__getattr__" = some none)))))))))
theorem excB_ok {K : Frag} {C : Addr} {B newId initId : String} {bmB : List Value} (fb : ExcBaseFacts B newId initId bmB) (sf : StoreFacts B bmB "object.__setattr__" "object") (kf : KxsFacts B initId) (h : excB K C B bmB newId = true) : ExcT K C B bmB newId initId := by
  unfold excB at h
  simp only [Bool.and_eq_true, decide_eq_true_eq] at h
  obtain ⟨h1, h2, h3, h4, h5, h6, h7, h8, h9, h10⟩ := h
  exact ⟨fb, sf, kf, h1, h2, h3, h4, h5, h6, h7, h8, h9, h10⟩
/-- C may be made through D's __init__ -/
def initB (K : Frag) (D C : Addr) (initId : String) (flds : List Str) : Bool :=
  decide (mroIn K C (.ref D) = some true) && (decide (ks_superIn K C D "__init__" = some (some (.builtin initId))) && flds.all fun f => decide (takerIn K C f = some none))
theorem initB_ok {K : Frag} {D C : Addr} {B newId initId : String} {bmB : List Value} {flds : List Str} (T : ExcT K C B bmB newId initId) (h : initB K D C initId flds = true) : InitC K D C B bmB newId initId flds := by
  unfold initB at h
  simp only [Bool.and_eq_true, decide_eq_true_eq, List.all_eq_true] at h
  exact ⟨T, h.1, h.2.1, h.2.2⟩
/-- fields are read, isinstance asks rightly -/
def readB (K : Frag) (C : Addr) (fs : List Str) : Bool :=
  (fs.all fun f => decide (findIn K (.ref C) f = some none)) && (decide (findIn K (.ref C) "__class__" = some (some (.builtin "object.__class__"))) && (decide (mroIn K C (.type "object") = some true) && isClsIn K C))
/-- the class at C, of the family of ValueError, LookupError, IndexError -/
inductive Fam where
  | val | look | index
def Fam.B : Fam → String
  | .val => "ValueError" | .look => "LookupError" | .index => "IndexError"
def Fam.new : Fam → String
  | .val => "ValueError.__new__" | .look => "LookupError.__new__" | .index => "IndexError.__new__"
def Fam.init : Fam → String
  | .val => "ValueError.__init__" | .look => "LookupError.__init__" | .index => "IndexError.__init__"
def Fam.bm : Fam → List Value
  | .val => [.type "ValueError", .type "Exception", .type "BaseException", .type "object"]
  | .look => [.type "LookupError", .type "Exception", .type "BaseException", .type "object"]
  | .index => [.type "IndexError", .type "LookupError", .type "Exception", .type "BaseException", .type "object"]
theorem Fam.fb : ∀ f : Fam, ExcBaseFacts f.B f.new f.init f.bm
  | .val => PySem.F.excBase_ValueError | .look => PySem.F.excBase_LookupError | .index => PySem.F.excBase_IndexError
theorem Fam.sf : ∀ f : Fam, StoreFacts f.B f.bm "object.__setattr__" "object"
  | .val => PySem.F.store_ValueError | .look => PySem.F.store_LookupError | .index => PySem.F.store_IndexError
theorem Fam.kf : ∀ f : Fam, KxsFacts f.B f.init
  | .val => kxs_ValueError | .look => kxs_LookupError | .index => kxs_IndexError
abbrev ExcF (K : Frag) (C : Addr) (f : Fam) : Prop := ExcT K C f.B f.bm f.new f.init
theorem excF_ok {K : Frag} {C : Addr} (f : Fam) (h : excB K C f.B f.bm f.new = true) : ExcF K C f := excB_ok f.fb f.sf f.kf h
/-- the classes cl of a program, their families: one question -/
def clsB (K : Frag) (cl : List (Str × Fam)) (fs : List Str) : Bool := cl.all fun p => match nsIn K mainGlobals p.1 with
  | some (some (.ref C)) => excB K C p.2.B p.2.bm p.2.new && readB K C fs
  | _ => false
theorem clsB_at {K : Frag} {cl : List (Str × Fam)} {fs : List Str} (h : clsB K cl fs = true) {c : Str} {f : Fam} (hc : (c, f) ∈ cl) {C : Addr} (n : nsIn K mainGlobals c = some (some (.ref C))) : ExcF K C f ∧ readB K C fs = true := by
  unfold clsB at h
  have := List.all_eq_true.mp h _ hc
  dsimp only at this
  rw [n] at this
  obtain ⟨h1, h2⟩ := Bool.and_eq_true_iff.mp this
  exact ⟨excF_ok f h1, h2⟩
theorem excs_of {K : Frag} {cl : List (Str × Fam)} {fs : List Str} (h : clsB K cl fs = true) (hn : specialIn K (.builtin "object.__class__") "__get__" = some (some (.builtin "getset_descriptor.__get__"))) (ht : takesIn K (.builtin "object.__class__") = some true) : Excs K (cl.map (·.1)) fs := by
  have key : ∀ c ∈ cl.map (·.1), ∃ f, (c, f) ∈ cl := fun c hc => by
    obtain ⟨p, hp, rfl⟩ := List.mem_map.mp hc
    exact ⟨p.2, hp⟩
  refine ⟨fun c hc C n => ?_, fun c hc C n f hf => ?_, fun c hc C n => ?_, hn, ht⟩
  · obtain ⟨f, hf⟩ := key c hc
    exact ⟨_, _, _, _, (clsB_at h hf n).1⟩
  · obtain ⟨f', hf'⟩ := key c hc
    have := (clsB_at h hf' n).2
    unfold readB at this
    simp only [Bool.and_eq_true, decide_eq_true_eq, List.all_eq_true] at this
    exact this.1 f hf
  · obtain ⟨f', hf'⟩ := key c hc
    have := (clsB_at h hf' n).2
    unfold readB at this
    simp only [Bool.and_eq_true, decide_eq_true_eq, List.all_eq_true] at this
    exact this.2
/-- isinstance's answers: one question -/
def tabB (K : Frag) (cv : Value) (tb : List (Str × Bool)) : Bool := tb.all fun p => match nsIn K mainGlobals p.1 with
  | some (some (.ref C)) => decide (kitOne K (.ref C) cv = some p.2)
  | _ => false
theorem istab_of {K : Frag} {cl : List Str} {tv : V} {cv : Value} {tb : List (Str × Bool)} (hr : ∀ u, RelV tv u → u = cv) (hc : ∀ p ∈ tb, p.1 ∈ cl) (h : tabB K cv tb = true) : IsTab K cl tv cv tb := by
  refine ⟨hr, fun c b hm => ⟨hc _ hm, fun C n => ?_⟩⟩
  have := List.all_eq_true.mp h _ hm
  dsimp only at this
  rw [n] at this
  exact of_decide_eq_true this
/-- a def that says super(), in the text -/
structure SupF (P : Program) (K : Frag) (mg : Str → Option Value) (D : Addr) (qual : Str) (st : Stmt) (f : Addr) (fd : FuncData) : Prop where
  ex : ∃ (oc : Value) (od : Option Addr) (kV doc pm : Value) (an : Option Addr) (cda : Addr) (ct : Value) (cc : Addr) (osl : Array (Option Value)), fd = ksFn "__init__" qual (defArgs st) (defBody st) (defScope st) .none kV doc pm an (.ref cda) ct cc ∧ K.lookup f = some ⟨oc, od, .func fd, osl⟩ ∧ codeIn K (.ref cda) qual = true ∧ Sup P K mg D cc cda
theorem supF_mk {P : Program} {K : Frag} {mg : Str → Option Value} {D : Addr} {qual : Str} {st : Stmt} {f : Addr} {oc : Value} {od : Option Addr} {kV doc pm : Value} {an : Option Addr} {cda : Addr} {ct : Value} {cc : Addr} {osl : Array (Option Value)} {ccl : Value} {cdd : Option Addr} {vs : Array Value} {ccs : Array (Option Value)} {file : Str} {tf : Tok} {cl : Value} {cld : Option Addr} {csl : Array (Option Value)}
    (l : K.lookup f = some ⟨oc, od, .func (ksFn "__init__" qual (defArgs st) (defBody st) (defScope st) .none kV doc pm an (.ref cda) ct cc), osl⟩) (c : codeIn K (.ref cda) qual = true) (h1 : K.lookup cda = some ⟨ccl, cdd, .fields vs, ccs⟩) (h2 : vs[2]? = some (.str file tf)) (h3 : ((P.main.file : Str) == file) = true)
    (h4 : K.lookup cc = some ⟨cl, cld, .cell (some (.ref D)), csl⟩) (h5 : isClsIn K D = true) (h6 : (P.main.scope.names.lookup ("super" : Str)).isSome = false) (h7 : nsIn K cStatics "thirdparty.any" = some none) (h8 : mg "super" = none) :
    SupF P K mg D qual st f (ksFn "__init__" qual (defArgs st) (defBody st) (defScope st) .none kV doc pm an (.ref cda) ct cc) :=
  ⟨oc, od, kV, doc, pm, an, cda, ct, cc, osl, rfl, l, c, ⟨⟨_, _, _, _, _, _, h1, h2, h3⟩, ⟨_, _, _, h4⟩, h5, h6, h7, h8⟩⟩
/-- .. the names of such a class in the text -/
structure RootT (P : Program) (K : Frag) (mg : Str → Option Value) (x qual : Str) (st : Stmt) (D : Addr) : Prop where
  ns : nsIn K mainGlobals x = some (some (.ref D))
  at_ : mg x = some (.ref D)
  ex : ∃ (f : Addr) (mc : Value) (fd : FuncData), readsIn K D mc = true ∧ specialIn K (.ref D) "__getattribute__" = some (some (.builtin "type.__getattribute__")) ∧ findCls K (.ref D) mc "__init__" = some (.val (.ref f)) ∧ keepIn K (.ref f) = true ∧ SupF P K mg D qual st f fd
/-- a class that is made: C, its __init__ at f -/
structure SubT (K : Frag) (mg : Str → Option Value) (x : Str) (C f : Addr) : Prop where
  ns : nsIn K mainGlobals x = some (some (.ref C))
  at_ : mg x = some (.ref C)
  init : findIn K (.ref C) "__init__" = some (some (.ref f))
  fn : typeIn K (.ref f) = some (.type "function")
theorem exc_mk {P : Program} {w : World} {K : Frag} {mg : Str → Option Value} {base : Heap} {k : Nat} {x z : Str} {C D f : Addr} {fl flds : List Str} {fm : Fam} {fd : FuncData} {n : Nat} {g : List V → List (Str × V)} (T : SubT K mg x C f) (I : InitC K D C fm.B fm.bm fm.new fm.init flds)
    (F : FnOk P w K mg base (L2.CX P w) k f fd ("self" :: fl) (spInit K D fm.B fm.bm fm.new fm.init flds ("self" :: fl) g)) (hb : Binds K fd ("self" :: fl) []) (hn : fl.length = n) (hg : ∀ ws, ws.length = fl.length → g ws = gs z fl ws) :
    DefExc P w K mg base k x fl z n [] (fun ds _ => ds) := by
  refine ⟨C, flds, g, fun vs _ => vs, T.ns, T.at_, I.t.keep, ⟨D, f, fd, _, _, _, _, _, I, T.init, T.fn, F, kbn_of hb (by rw [List.length_cons, hn])⟩, fun a vs zs l1 l2 => ⟨vs, rfl, by rw [l1, hn], hg _ (by rw [l1, hn]), fun w ds es r _ => r⟩⟩
/-- .. called by keywords -/
theorem exc_mkK {P : Program} {w : World} {K : Frag} {mg : Str → Option Value} {base : Heap} {k : Nat} {x z : Str} {C Dc f : Addr} {fl flds ks : List Str} {fm : Fam} {fd : FuncData} {g : List V → List (Str × V)} {gg : List Value → List Value → List Value} {gV : List V → List V → List V} {gD : List D → List D → List D} (T : SubT K mg x C f) (I : InitC K Dc C fm.B fm.bm fm.new fm.init flds)
    (F : FnOk P w K mg base (L2.CX P w) k f fd ("self" :: fl) (spInit K Dc fm.B fm.bm fm.new fm.init flds ("self" :: fl) g)) (hb : KBn K fd ("self" :: fl) 1 ks gg gV) (hg : ∀ ws, ws.length = fl.length → g ws = gs z fl ws)
    (hG : ∀ a zs, zs.length = ks.length → ∃ ws, gV [.ref a] zs = .ref a :: ws ∧ ws.length = fl.length ∧ ∀ w es, Reps K w es zs → Reps K w (gD [] es) ws) :
    DefExc P w K mg base k x fl z 0 ks gD := by
  refine ⟨C, flds, g, gV, T.ns, T.at_, I.t.keep, ⟨Dc, f, fd, _, _, _, _, gg, I, T.init, T.fn, F, hb⟩, fun a vs zs l1 l2 => ?_⟩
  obtain rfl := List.length_eq_zero_iff.mp l1
  obtain ⟨ws, e, l, r⟩ := hG a zs l2
  exact ⟨ws, e, l, hg _ l, fun w ds es r1 r2 => by
    have : ds = [] := by
      have := Reps.length r1
      exact List.length_eq_zero_iff.mp (by simpa using this.symm)
    subst this
    exact r w es r2⟩
theorem vals_rev : ∀ {vs : List V} {us : List Value}, Vals vs us → Vals vs.reverse us.reverse
  | _, _, .nil => .nil
  | _, _, .cons r t => by
    rw [List.reverse_cons, List.reverse_cons]
    exact (vals_rev t).append (.cons r .nil)
section
variable {P : Program} {w : World} {K : Frag} {mg : Str → Option Value} {base : Heap} {k : Nat} {x z : Str} {C Dc f : Addr} {fl flds ks : List Str} {fm : Fam} {fd : FuncData} {g : List V → List (Str × V)}
theorem exc_k (T : SubT K mg x C f) (I : InitC K Dc C fm.B fm.bm fm.new fm.init flds) (F : FnOk P w K mg base (L2.CX P w) k f fd ("self" :: fl) (spInit K Dc fm.B fm.bm fm.new fm.init flds ("self" :: fl) g))
    (hb : ∀ (s : Shared) (u : Value) (ws : List Value), K.In s.heap → ws.length = ks.length → BindsTo s fd ⟨[u], ks.zip ws⟩ ((PySem.Str.ofString "self" :: fl).zip (u :: ws))) (hl : ks.length = fl.length) (hg : ∀ ws, ws.length = fl.length → g ws = gs z fl ws) : DefExc P w K mg base k x fl z 0 ks (fun _ es => es) :=
  exc_mkK (gg := fun us ws => us ++ ws) (gV := fun vs zs => vs ++ zs) T I F ⟨fun s us ws X l1 l2 => match us, l1 with | [u], _ => hb s u ws X l2, fun r1 r2 => r1.append r2⟩ hg fun a zs h => ⟨zs, rfl, h.trans hl, fun _ _ r => r⟩
theorem exc_kr (T : SubT K mg x C f) (I : InitC K Dc C fm.B fm.bm fm.new fm.init flds) (F : FnOk P w K mg base (L2.CX P w) k f fd ("self" :: fl) (spInit K Dc fm.B fm.bm fm.new fm.init flds ("self" :: fl) g))
    (hb : ∀ (s : Shared) (u : Value) (ws : List Value), K.In s.heap → ws.length = ks.length → BindsTo s fd ⟨[u], ks.zip ws⟩ ((PySem.Str.ofString "self" :: fl).zip (u :: ws.reverse))) (hl : ks.length = fl.length) (hg : ∀ ws, ws.length = fl.length → g ws = gs z fl ws) : DefExc P w K mg base k x fl z 0 ks (fun _ es => es.reverse) :=
  exc_mkK (gg := fun us ws => us ++ ws.reverse) (gV := fun vs zs => vs ++ zs.reverse) T I F ⟨fun s us ws X l1 l2 => match us, l1 with | [u], _ => hb s u ws X l2, fun r1 r2 => r1.append (vals_rev r2)⟩ hg fun a zs h => ⟨zs.reverse, rfl, by rw [List.length_reverse]; exact h.trans hl, fun _ _ r => r.rev⟩
end
section
variable {X : Cx} {B : Ent} {W : WX} {g : M D} {pos p p2 : Pos} {cl fs : List Str} {x : Str} {e : Expr}
theorem de_isEX {tb : List (Str × Bool)} (G : Excs X.K cl fs) (h : ∃ A, X.mg x = some (.ref A) ∧ IsTab X.K cl (.ref A) (.ref A) tb) (hm : X.mg "isinstance" = none) (ha : DE X B W e g) (hd : (x == ("__debug__" : Str)) = false := by decide) (hg : Gl X "isinstance" := by rfl) (hgT : Gl X x := by rfl)
    (h1 : starEach [e, .Name x p2] X.env = (false, eval e X.env) :: starEach [.Name x p2] X.env := by rfl) (h2 : starEach [.Name x p2] X.env = (false, eval (.Name x p2) X.env) :: starEach [] X.env := by rfl) (h3 : (backTo pos (starEach [.Name x p2] X.env)).any (·.1) = false := by rfl) :
    DE X B W (.Call (.Name "isinstance" p) [e, .Name x p2] [] pos) (dIsE tb g) := by
  obtain ⟨A, hA, TT⟩ := h
  exact de_isEC G TT hm hA ha hd hg hgT h1 h2 h3
end
end DL

/-! ### rows of exceptions -/
namespace DL
open PySem PySem.Spec PyProof.Rows L2
section
variable {s : S} {Q : D → S → Prop} {E : Ex → S → Prop}
theorem ev_exn (c : Str) (fl : List Str) (z : Str) (n m : Nat) (gD : List D → List D → List D) (f g : M (List D)) : dExn c fl z n m gD f g s Q E = f s (fun ds s1 => g s1 (fun es s2 => ds.length = n ∧ es.length = m ∧ n ≤ 1000 ∧ Q (.exc c (fl.reverse ++ [PySem.Str.ofString "code"]) ((gD ds es).reverse ++ [.str z])) s2) E) E := id rfl
theorem ev_attE (cl fs : List Str) (f : Str) (g : M D) : dAttE cl fs f g s Q E = g s (fun d s1 => attE cl fs f d s1 Q) E := id rfl
theorem ev_attX (cl fs : List Str) (f c : Str) (ks : List Str) (ds : List D) : attE cl fs f (.exc c ks ds) s Q = (c ∈ cl ∧ f ∈ fs ∧ onSome (getF ks ds f) fun x => Q x s) := id rfl
theorem ev_isE (tb : List (Str × Bool)) (g : M D) : dIsE tb g s Q E = g s (fun d s1 => isE tb d s1 Q) E := id rfl
theorem ev_isX (tb : List (Str × Bool)) (c : Str) (ks : List Str) (ds : List D) : isE tb (.exc c ks ds) s Q = onSome (tb.lookup c) fun b => Q (.bl b) s := id rfl
theorem onSome_c {α : Type} {o : Option α} {b : α} {k : α → Prop} (h : o = some b) (q : k b) : onSome o k := by rw [h]; exact q
end
end DL

/-! ### enumerate over a tuple -/
namespace EX
open PySem PySem.Spec PyProof.Rows L2
open AutoSeq1 (wpAny_loadPart')
theorem new_enumT (l : Addr) (items : Array Value) (n : Nat) (dct : Option Addr) (sl : Array (Option Value)) :
    Meets (Builtin.«enumerate.__new__» ⟨[.type "enumerate", .ref l], []⟩) (fun _ R s => s.heap.get? l = some { cls := .type "tuple", dict := dct, data := .seq items n, slots := sl } ∧
      R (.ok (.ret (.ref (s.heap.push { cls := .type "tuple_iterator", data := .fields #[.ref l, .int 0 0] }).objs.size)))
        { s with heap := (s.heap.push { cls := .type "tuple_iterator", data := .fields #[.ref l, .int 0 0] }).push { cls := .type "enumerate", data := .fields #[.none, .bool false, .ref s.heap.objs.size, rawInt 0, .none, .none] } }) :=
  .of_wp fun prog w A R s h => by
    obtain ⟨hp, g, d, tk, os⟩ := s
    obtain ⟨hl, h⟩ := h
    have isSub := sub_enumerate
    have isT : Heap.IsTuple (Shared.heap ⟨hp, g, d, tk, os⟩) l items := ⟨_, hl, rfl, n, rfl⟩
    wp_walk using wpAny_loadPart' hl
    refine wpAny_stack_any fun st => wpAny_pure ?_
    split
    · rename_i c _ _ _ _ _
      cases (c == Value.type "enumerate") <;> (wp_walk using wpAny_loadPart' hl, wpAny_pyIter_tuple isT; exact ⟨_, rfl, h⟩)
    · wp_walk using wpAny_loadPart' hl, wpAny_pyIter_tuple isT
      exact ⟨_, rfl, h⟩
theorem call_enumT {prog : Program} {w : World} {A : Around} {E : Value → Shared → Prop} {s : Shared} {l : Addr} {items : Array Value} {Q : Value → Shared → Prop} (hL : s.heap.IsTuple l items)
    (h : ∀ h', IsEnum h' (s.heap.objs.size + 1) s.heap.objs.size 0 .none → h'.IsTupleIter s.heap.objs.size l 0 → h'.objs.size = s.heap.objs.size + 2 → (∀ b o, s.heap.get? b = some o → h'.get? b = some o) → Q (.ref (s.heap.objs.size + 1)) { s with heap := h' }) :
    wpAny (model prog w) A (call (.type "enumerate") [.ref l]) Q E s := by
  obtain ⟨⟨c, dct, dt, sl⟩, hl, hc, n, hd⟩ := hL
  obtain rfl : c = .type "tuple" := hc
  obtain rfl : dt = .seq items n := hd
  refine callType_new F.called_enumerate (by decide) (F.typeCall_enumerate_1 _) (F.newCall_enumerate_1 _) (fun obj => F.args_object_init_2 obj _) F.entry_enumerate_new (new_enumT l items n dct sl) ⟨hl, ?_⟩
  have sz : (s.heap.push { cls := .type "tuple_iterator", data := .fields #[.ref l, .int 0 0] }).objs.size = s.heap.objs.size + 1 := Heap.size_push ..
  show _ ∧ _
  rw [sz]
  have he : IsEnum ((s.heap.push { cls := .type "tuple_iterator", data := .fields #[.ref l, .int 0 0] }).push { cls := .type "enumerate", data := .fields #[.none, .bool false, .ref s.heap.objs.size, rawInt 0, .none, .none] }) (s.heap.objs.size + 1) s.heap.objs.size 0 .none := by
    have z := Heap.get?_push_size (s.heap.push { cls := .type "tuple_iterator", data := .fields #[.ref l, .int 0 0] }) (o := { cls := .type "enumerate", data := .fields #[.none, .bool false, .ref s.heap.objs.size, rawInt 0, .none, .none] }) rfl
    rw [sz] at z
    exact z
  exact ⟨⟨_, he, rfl⟩, h _ he ⟨_, Heap.get?_push_of_some _ (Heap.get?_push_size _ rfl), rfl, rfl⟩ (by rw [Heap.size_push, sz]) fun b o x => Heap.get?_push_of_some _ (Heap.get?_push_of_some _ x)⟩
/-- the tuple at a, each item in a new pair -/
def IteT (K : PySem.W.Frag) (a : Addr) : It :=
  ⟨fun i H => ∃ (xs : List V) (x : V), SqT K H a xs ∧ xs[i]? = some x, fun i H v H' => ∃ T x, v = .ref T ∧ H T = none ∧ H' = upd H T (.tup [.int (i : Nat), x]) ∧ ∀ xs, SqT K H a xs → xs[i]? = some x, fun i H => ∃ xs : List V, SqT K H a xs ∧ xs.length ≤ i⟩
theorem turn_enumT {P : Program} {w : World} {K : PySem.W.Frag} {elts : List Expr} {kk : Nat} {tpos : Pos} (a e it : Addr) (hai : a ≠ it) (hae : a ≠ e) :
    Turn P w K (.Tuple elts kk tpos) (IteT K a) [e, it] e (fun i h => (∃ old, IsEnum h e it ((i : Nat) : Int) old) ∧ h.IsTupleIter it a i ∧ e ≠ it) where
  mem := by simp
  obj := fun i h st b hb => by
    obtain ⟨⟨old, he⟩, ⟨o, ho, hc, hd⟩, _⟩ := st
    have e' : b = e ∨ b = it := by simpa using hb
    rcases e' with z | z
    · rw [z]; exact ⟨_, he, fun v q => nomatch q⟩
    · rw [z]; exact ⟨o, ho, fun v q => by rw [hd] at q; cases q⟩
  keep := fun i h h' st k => let ⟨⟨old, he⟩, hi, hne⟩ := st; ⟨⟨old, k e (by simp) _ he⟩, hi.at fun o q => k it (by simp) o q, hne⟩
  item := by
    intro X hP hw hK hc i pins s σ H E I hf st hg
    subst hP hw hK
    obtain ⟨⟨old, he⟩, hit, hne⟩ := st
    obtain ⟨xs, x, hq, hx⟩ := hg
    obtain ⟨its, rv, p, hz⟩ := I.tuple hq
    obtain ⟨u, hu, ru⟩ := rv.get hx
    have hel : e < s.heap.objs.size := Heap.lt_size he
    have hil : it < s.heap.objs.size := by obtain ⟨_, q, _⟩ := hit; exact Heap.lt_size q
    have pT : s.heap.IsTuple a its.toArray := p
    have hlt : i < its.toArray.size := by
      have := (List.getElem?_eq_some_iff.mp hu).1
      simpa using this
    have D := Draws.tuple (prog := X.prog) (w := X.w) (A := X.A.in1) (show X.A.in1.handled = none from I.ok.hd hc) it a hai its.toArray
    refine wpAny_pyNext_enum_itemD D he ⟨hit, pT⟩ hlt hne (by simp [hne, Ne.symm hae]) fun x' h' tk hx' ho hst' hT hsz hk => ?_
    have ex : x' = u := by
      have q : its.toArray[i]? = some u := by simpa using hu
      exact Option.some.inj (hx'.symm.trans q)
    subst ex
    refine ⟨_, rfl, wpAny_letOwnedTupleGo_enum (s := { s with heap := h', toks := tk + 1 }) ho fun h'' he' sb => ?_⟩
    have hT2 : h''.get? s.heap.objs.size = some { cls := .type "tuple", data := .seq #[.int i tk, x'] } := (sb.2 _ (Nat.ne_of_gt hel)).trans hT
    have new : ObjOk X.prog X.w (upd H s.heap.objs.size (.tup [.int (i : Nat), x])) h'' s.heap.objs.size (.tup [.int (i : Nat), x]) :=
      ⟨by show 2 ≤ sizeLine; decide, [.int i tk, x'], .cons ⟨_, rfl⟩ (.cons ru .nil), ⟨_, hT2, rfl, _, rfl⟩⟩
    have I1 : Inv X pins σ (upd H s.heap.objs.size (.tup [.int (i : Nat), x])) { s with heap := h'', toks := tk + 1 } :=
      I.turnedNew (ch := [e, it]) (fun b ob hb q => (sb.2 b (fun z => hb (by simp [z]))).trans (hk b ob (fun z => hb (by simp [z])) (fun z => hb (by simp [z])) q)) hf (Nat.le_refl _) new
    refine ⟨.ref s.heap.objs.size, _, I1, rfl, ⟨_, x, rfl, I.hok.fresh (Nat.le_refl _), rfl, fun ys hy => by rw [I.tuple_inj hy hq]; exact hx⟩, ⟨⟨x', ?_⟩, hst'.1.at fun o q => (sb.2 it (Ne.symm hne)).trans q, hne⟩, fun b hb => ?_⟩
    · have e1 : ((i + 1 : Nat) : Int) = (i : Int) + 1 := by omega
      rw [e1]; exact he'
    · have hb' : b < s.heap.objs.size := by
        have e' : b = e ∨ b = it := by simpa using hb
        rcases e' with z | z
        · rw [z]; exact hel
        · rw [z]; exact hil
      rw [upd_ne (Nat.ne_of_lt hb')]
      exact (hf b hb).1
  done := by
    intro X hP hw hK hc i pins s σ H E I hf st hg
    subst hP hw hK
    obtain ⟨⟨old, he⟩, hit, hne⟩ := st
    obtain ⟨xs, hq, hx⟩ := hg
    obtain ⟨its, rv, p, hz⟩ := I.tuple hq
    obtain ⟨f0, f1, f2, f3, f4, f5⟩ := hf it (by simp)
    have hl := rv.length
    have hD : wpAny (model X.prog X.w) X.A.in1 (Builtin.SmallTypes.nextOf (.ref it)) (fun _ _ => False) (fun e' s' => ∃ h', s' = { s with heap := h' } ∧ Heap.ExtBut it s.heap h' ∧ ∃ a, e' = .ref a ∧ ∃ o, h'.get? a = some o ∧ o.cls = .type "StopIteration") s :=
      wpAny_nextOf_tuple_end (show X.A.in1.handled = none from I.ok.hd hc) hit p (by simp; omega) fun h' e' eb ho => ⟨h', rfl, eb, e', rfl, ho⟩
    have hT : s.TypeIs (.ref e) "enumerate" := ⟨_, he, rfl⟩
    unfold pyNext
    refine wpAny_bind (wpAny_attempt (wpAny_callSpecial?_slot (name := Str.ofString "__next__") hT F.slot_enumerate_next (wpAny_call_entry F.slot_enumerate_next hT F.entry_enumerate_next ?_ (F.args_enumerate_next_1 _))))
    show wpAny _ _ (field (.ref e) 2 >>= _) _ _ _
    refine wpAny_bind (wpAny_field he rfl (x := .ref it) rfl ?_)
    refine wpAny_bind (wpAny_mono hD (fun _ _ z => z.elim) fun e' s' z => ?_)
    obtain ⟨h', rfl, eb, a', rfl, o, ho, hcl⟩ := z
    refine wpAny_bind (wpAny_isInstance (T := "StopIteration") (b := true) ⟨o, ho, hcl⟩ isSubtype_stop ?_)
    exact wpAny_pure ⟨rfl, I.turned (t' := s.toks) (fun b o hb q => eb b o hb q) f0 f1 f3 f4 f5⟩
  self := fun A i s Q E st h => let ⟨⟨_, he⟩, _⟩ := st; wpAny_pyIter_enum he h
def iEnumA (K : PySem.W.Frag) (ta : TA) : TI := fun σ H R => ta σ H fun vs H1 => ∃ a xs, vs = [.ref a] ∧ ((SqL K H1 a xs ∧ R (Ite K a) H1) ∨ (SqT K H1 a xs ∧ R (IteT K a) H1))
theorem pi_enumA {X : Cx} {e : Expr} {ta : TA} {p pos tpos : Pos} {elts : List Expr} {kk : Nat} (hg : Gl X "enumerate") (hm : X.mg "enumerate" = none) (ha : PA X [e] ta) (hs : starEach [e] X.env = [(false, eval e X.env)] := by rfl) :
    PI X (.Tuple elts kk tpos) (.Call (.Name "enumerate" p) [e] [] pos) (iEnumA X.K ta) := by
  refine ⟨fun pins s σ H R I h => ?_⟩
  refine Call_ (ld_blt I hg hm boot_enumerate (PyProof.Rows.callWith_type1 (thn (ha.run pos pins s σ H _ I h) fun us s1 ⟨vs, H1, I1, r1, q1⟩ => ?_) hs rfl))
  obtain ⟨a, xs, ex, q1⟩ := q1
  subst ex
  cases r1 with
  | cons r rr =>
    cases rr
    cases r
    have fp : ∀ b ∈ [s1.heap.objs.size + 1, s1.heap.objs.size], s1.heap.objs.size ≤ b := fun b hb => by
      have e' : b = s1.heap.objs.size + 1 ∨ b = s1.heap.objs.size := by simpa using hb
      rcases e' with z | z
      · rw [z]; exact Nat.le_add_right _ _
      · rw [z]; exact Nat.le_refl _
    rcases q1 with ⟨hq, q⟩ | ⟨hq, q⟩
    · obtain ⟨its, rv, p', hz⟩ := I1.list hq
      refine call_enumerate_list p'.isList fun h' he hit hsz hk => wpAny_pyIter_enum he ?_
      have I2 : Inv X pins σ H1 { s1 with heap := h' } := I1.kept (t' := s1.toks) hk
      exact ⟨s1.heap.objs.size + 1, [s1.heap.objs.size + 1, s1.heap.objs.size], _, _, H1, rfl, I2, turn_enum a (s1.heap.objs.size + 1) s1.heap.objs.size, ⟨⟨.none, he⟩, hit, Nat.succ_ne_self _⟩, fun b hb => I1.fpOk (fp b hb) (I1.hok.fresh (fp b hb)), q⟩
    · obtain ⟨its, rv, p', hz⟩ := I1.tuple hq
      have al : a < s1.heap.objs.size := by obtain ⟨o, ho, _⟩ := p'; exact Heap.lt_size ho
      refine call_enumT (show s1.heap.IsTuple a its.toArray from p') fun h' he hit hsz hk => wpAny_pyIter_enum he ?_
      have I2 : Inv X pins σ H1 { s1 with heap := h' } := I1.kept (t' := s1.toks) hk
      exact ⟨s1.heap.objs.size + 1, [s1.heap.objs.size + 1, s1.heap.objs.size], _, _, H1, rfl, I2, turn_enumT a (s1.heap.objs.size + 1) s1.heap.objs.size (Nat.ne_of_lt al) (Nat.ne_of_lt (Nat.lt_succ_of_lt al)), ⟨⟨.none, he⟩, hit, Nat.succ_ne_self _⟩, fun b hb => I1.fpOk (fp b hb) (I1.hok.fresh (fp b hb)), q⟩
end EX
namespace DL
open PySem PySem.Spec PyProof.Rows L2 EX
theorem walk_enumT {K : PySem.W.Frag} {a : Addr} {xs : List V} : Walk (IteT K a) xs.length (fun H => SqT K H a xs) (YPair (fun i => some (.int (i : Nat))) (fun i => xs[i]?)) := by
  refine ⟨fun i _ hi q => ⟨xs, xs[i], q, by simp [hi]⟩, fun _ q => ⟨xs, q, Nat.le_refl _⟩, fun i H v H' _ q y => ?_⟩
  obtain ⟨T, x, h1, h2, h3, h4⟩ := y
  exact ⟨T, .int (i : Nat), x, h1, h2, h3, rfl, h4 xs q⟩
theorem enum_item {K : PySem.W.Frag} {w : Wd} {l : List D} {vs : List V} (r : Reps K w l vs) : ∀ i x d, (fun i : Nat => some (V.int (i : Nat))) i = some x → (rangeD 0 l.length)[i]? = some d → Rep K w d x := fun i x d h1 h2 => by
  cases h1
  unfold rangeD at h2
  rw [List.getElem?_map] at h2
  cases h : (List.range l.length)[i]? with
  | none => rw [h] at h2; cases h2
  | some j =>
    rw [h] at h2
    have : j = i := by
      obtain ⟨h1, h3⟩ := List.getElem?_eq_some_iff.mp h
      rw [List.getElem_range] at h3
      exact h3.symm
    subst this
    cases h2
    show Rep K w (.int (0 + (j : Int))) _
    rw [Int.zero_add]
    exact of_int
theorem Wk.enumT {K : PySem.W.Frag} {w : Wd} {l : List D} {vs : List V} {a : Addr} (q : SqT K w.F a vs) (r : Reps K w l vs) : Wk K w (IteT K a) (pairs (rangeD 0 l.length) l) := by
  have hl : (pairs (rangeD 0 l.length) l).length = vs.length := by unfold pairs rangeD; rw [List.length_zipWith, List.length_map, List.length_range, r.length]; omega
  refine ⟨fun H => SqT K H a vs, _, by rw [hl]; exact walk_enumT (xs := vs), fun H e => same_t e q, ?_⟩
  refine pair_item (enum_item r) fun i x d h1 h2 => ?_
  obtain ⟨d', e', rd⟩ := r.get h1
  rw [h2] at e'; cases e'; exact rd
def dEnumA : List D → M (List D) := fun ds s Q _ => match ds with
  | [.lst a] => Q (pairs (rangeD 0 a.length) a) s
  | [.tup a] => Q (pairs (rangeD 0 a.length) a) s
  | _ => False
section
variable {X : Cx} {B : Ent} {W : WX} {e : Expr} {fl : M (List D)} {pos p tpos : Pos} {elts : List Expr} {kk : Nat}
theorem di_enumA (hm : X.mg "enumerate" = none) (ha : DA X B W [e] fl) (hg : Gl X "enumerate" := by rfl) (hs : starEach [e] X.env = [(false, eval e X.env)] := by rfl) : DI X B W (.Tuple elts kk tpos) (.Call (.Name "enumerate" p) [e] [] pos) (fl.bnd dEnumA) := PI.weak (pi_enumA hg hm ha hs) fun σ H R q => by
  refine tG.seq (back_W _) q fun ds s vs w H' QD ED _ _ r rv z pp => ?_
  have rv : Reps X.K w ds vs := rv
  unfold dEnumA at z
  split at z
  · obtain ⟨v, rfl, rv1⟩ := reps1 rv
    obtain ⟨a, xs, rfl, q1, r1⟩ := rep_lst rv1
    exact ⟨a, xs, rfl, .inl ⟨.inl (.inl (r.sub _ _ q1)), tG.ret (R := rW _) r (.enumL q1 r1) z pp⟩⟩
  · obtain ⟨v, rfl, rv1⟩ := reps1 rv
    obtain ⟨a, xs, rfl, q1, r1⟩ := rep_tup rv1
    exact ⟨a, xs, rfl, .inr ⟨same_t r.sub q1, tG.ret (R := rW _) r (.enumT q1 r1) z pp⟩⟩
  · exact z.elim
end
section
variable {s : S} {QL : List D → S → Prop} {E : Ex → S → Prop}
theorem ev_enumL (l : List D) : dEnumA [.lst l] s QL E = QL (pairs (rangeD 0 l.length) l) s := id rfl
theorem ev_enumT (l : List D) : dEnumA [.tup l] s QL E = QL (pairs (rangeD 0 l.length) l) s := id rfl
end
end DL

/-! ### raise C(..) -/
namespace EX
open PySem PySem.Spec PySem.W PySem.Calls PyProof.Rows L2
section
variable {X : Cx} {k n : Nat} {C : Addr} {ps flds ks : List Str} {g : List V → List (Str × V)} {gV : List V → List V → List V}
/-- the reading -/
def tRs (C : Addr) (n : Nat) (ps : List Str) (g : List V → List (Str × V)) (gV : List V → List V → List V) (t : TA) : L2.St → Hp → XK → Prop := fun σ H Q => t σ H fun vs H1 => vs.length = n ∧ vs.length ≤ 1000 ∧ (∀ a, (gV (.ref a :: vs) []).length = ps.length) ∧ (∀ a, ∃ t, gV (.ref a :: vs) [] = .ref a :: t) ∧
  ∀ a dx, H1 dx = none → Q (.ref C) (some dx) (upd H1 dx (.xd (g (gV (.ref a :: vs) []).tail)))
theorem pmk_exn {x : Str} {e : Expr} {es : List Expr} {ta : TA} {p pos : Pos} (Mk : MakeC X.prog X.w X.K X.mg X.base (L2.CX X.prog X.w) k C ps flds g n [] gV) (kp : keepIn X.K (.ref C) = true) (ty : typeIn X.K (.ref C) = some (.type "type")) (bs : subIn X.K (.ref C) (.type "BaseException") = some true) (hr : Room (k + 1) X.A) (hg : Gl X x) (hm : X.mg x = some (.ref C)) (ha : PA X (e :: es) ta)
    (hdb : (x == ("__debug__" : Str)) = false := by decide) (he : starEach (e :: es) X.env = (false, eval e X.env) :: starEach es X.env := by rfl) (hpl : (backTo pos (starEach es X.env)).any (·.1) = false := by rfl) :
    PMk X (.Call (.Name x p) (e :: es) [] pos) (tRs C n ps g gV ta) := by
  intro pins s σ H Q I h
  refine wpAny_Call_Name_kw (ld_glob I hg hm ?_ hdb)
  refine callWith_K (h₀ := X.base) I.ok.mod.kin kp (thn (ha.run pos pins s σ H _ I h) fun us s1 ⟨vs, H1, I1, r, l1, l4, l3, hself, q⟩ => ⟨I1.kIn, ?_⟩) he hpl
  show wpAny _ _ (call (.ref C) us) _ _ _
  obtain ⟨D, fI, fd, B, newId, initId, bmB, gg, IC, iC, tI, F1, hb⟩ := Mk.ex
  have T := IC.t
  obtain ⟨hp, gn, dr, tk, os⟩ := s1
  obtain ⟨nm, N, qn, bss, bm, hdct, sn, sub, ab, col, dd, k0, k1, k2, k3, k5, hC, hT⟩ := excInit_of I1.kIn T.own
  have hsz : hp.objs.size ≤ hp.objs.size + 1 := Nat.le_succ _
  have hn : H1 (hp.objs.size + 1) = none := I1.hok.fresh hsz
  have kk : ∀ b o, hp.get? b = some o → ((hp.push (kdv_tup us)).push (HandSPX.excO C hp.objs.size)).get? b = some o := fun b o e => Heap.get?_push_of_some _ (Heap.get?_push_of_some _ e)
  have at' : ((hp.push (kdv_tup us)).push (HandSPX.excO C hp.objs.size)).get? (hp.objs.size + 1) = some (HandSPX.excO C hp.objs.size) := by heap_get
  have I2 : Inv X pins σ (upd H1 (hp.objs.size + 1) (exo (hp.objs.size + 1) C none)) ⟨(hp.push (kdv_tup us)).push (HandSPX.excO C hp.objs.size), gn, dr, tk, os⟩ :=
    I1.laid (t' := tk) (a := hp.objs.size + 1) (o := exo (hp.objs.size + 1) C none) (h' := (hp.push (kdv_tup us)).push (HandSPX.excO C hp.objs.size)) kk hsz (exo_ok at')
  have r1 : Vals (V.ref (hp.objs.size + 1) :: vs) (Value.ref (hp.objs.size + 1) :: us) := .cons rfl r
  have r2 := hb.rel r1 (.nil (F := RelV))
  have n1 : (Value.ref (hp.objs.size + 1) :: us).length = n + 1 := by rw [List.length_cons, ← r.length, l1]
  have hus : us.length ≤ sizeLine := by
    rw [← Paired.length r, sizeLine_eq]
    omega
  obtain ⟨tt, ht⟩ := hself (hp.objs.size + 1)
  have hq : spInit X.K D B bmB newId initId flds ps g (gV (.ref (hp.objs.size + 1) :: vs) []) (upd H1 (hp.objs.size + 1) (exo (hp.objs.size + 1) C none)) (fun v H2 => v = .non ∧ ∃ dx, H1 dx = none ∧ dx ≠ hp.objs.size + 1 ∧ H2 = upd (upd H1 dx (exd dx (g tt))) (hp.objs.size + 1) (exo (hp.objs.size + 1) C (some dx))) (fun _ _ _ => False) := by
    refine ⟨hp.objs.size + 1, C, tt, ht, l3 _, IC, upd_same, fun dx hd ne => ⟨rfl, dx, by rw [upd_ne ne] at hd; exact hd, ne, ?_⟩⟩
    rw [upd3 ne]
  refine wpAny_call (kw_call T.fb hT hC (looks_findIn I1.kIn iC) (fun self => bind_fn I1.kIn self tI) hus
    (codeAny_mono (F1.run _ X.stack _ _ ⟨Value.ref (hp.objs.size + 1) :: us, []⟩ (gg (Value.ref (hp.objs.size + 1) :: us) []) _ _ (fun _ _ _ => False) ((hr.make C us [])) (I2.env0.make C us []) (hb.to _ (Value.ref (hp.objs.size + 1) :: us) [] I2.kIn n1 rfl) r2 hq) fun r s' hq' => ?_))
  cases r with
  | error er =>
    obtain ⟨_, _, _, _, _, _, _, _, _, _, _, _, z⟩ := hq'
    exact z.elim
  | ok fl =>
    cases fl with
    | ret u =>
      obtain ⟨v, H2, os2, bare2, un2, hok2, rv, ev, dx, hd1, ne, eH⟩ := hq'
      subst ev eH
      obtain ⟨h2, g2, d2, t2, os'⟩ := s'
      have q2 := q (hp.objs.size + 1) dx hd1
      rw [ht] at q2
      have fin : (upd (del (upd (upd H1 dx (exd dx (g tt))) (hp.objs.size + 1) (exo (hp.objs.size + 1) C (some dx))) (hp.objs.size + 1)) dx (.xd (g tt))) = upd H1 dx (.xd (g tt)) := by
        funext b
        by_cases hbd : b = dx
        · rw [hbd, upd_same, upd_same]
        · rw [upd_ne hbd, upd_ne hbd]
          by_cases hba : b = hp.objs.size + 1
          · rw [hba, del_same, hn]
          · rw [del_ne hba, upd_ne hba, upd_ne hbd]
      refine ⟨rv, mk_end (raises_own bs ty) I1 hsz kk un2 hok2 os2 bare2 (d := dx) (fs := g tt) upd_same (by rw [upd_ne ne, upd_same]) hd1 ?_⟩
      rw [fin]
      exact q2
    | next => exact False.elim hq'
    | brk => exact False.elim hq'
    | cont => exact False.elim hq'
end
end EX
namespace DL
open PySem PySem.Spec PyProof.Rows L2 EX
/-- an exception in the air, told as a tree -/
def xrE (K : PySem.W.Frag) : XR := fun w e c dd _ => ∃ (C dx : Addr) (vs : List V), PySem.W.nsIn K mainGlobals e.cls = some (some (.ref C)) ∧ c = .ref C ∧ dd = some dx ∧ w.F dx = some (.xd ((e.fs.map (·.1)).zip vs)) ∧ e.fs.length = vs.length ∧ Reps K w (e.fs.map (·.2)) vs
def dRaise (c : Str) (fl : List Str) (z : Str) (n : Nat) (f : M (List D)) : MS := fun DD s => f s (fun ds s' => ds.length = n ∧ n ≤ 1000 ∧ fl.length = n ∧ DD.ex ⟨c, (fl.reverse ++ [PySem.Str.ofString "code"]).zip (ds.reverse ++ [.str z])⟩ s') DD.ex
section
variable {X : Cx} {B : Ent} {W : WX} {k n : Nat} {c z : Str} {fl : List Str} {e : Expr} {es : List Expr} {fa : M (List D)} {p pos pos2 : Pos}
theorem ds_raise {cl fs : List Str} (G : DefExc X.prog X.w X.K X.mg X.base k c fl z n [] (fun ds _ => ds)) (GX : Excs X.K cl fs) (hX : B.X = xrE X.K) (hr : Room (k + 1) X.A) (tk : Takes X W) (ha : DA X B W (e :: es) fa) (hcl : c ∈ cl := by decide +kernel) (hg : Gl X c := by rfl) (hc : X.calm = true := by rfl) (hdb : (c == ("__debug__" : Str)) = false := by decide)
    (he : starEach (e :: es) X.env = (false, eval e X.env) :: starEach es X.env := by rfl) (hpl : (backTo pos (starEach es X.env)).any (·.1) = false := by rfl) :
    DS X B W (.Raise (some (.Call (.Name c p) (e :: es) [] pos)) none pos2) (dRaise c fl z n fa) := by
  obtain ⟨C, flds, g, gV, hn, hm, kp, Mk, hG⟩ := G.ex
  obtain ⟨B', newId, initId, bmB, T⟩ := GX.t c hcl C hn
  refine PS.weak (ps_raise hc tk (pmk_exn Mk kp T.ty T.base hr hg hm ha hdb he hpl)) fun DE σ H q => ?_
  refine tS.seq (R := rA X.K) (f := fa) (g := fun ds DD s' => ds.length = n ∧ n ≤ 1000 ∧ fl.length = n ∧ DD.ex ⟨c, (fl.reverse ++ [PySem.Str.ofString "code"]).zip (ds.reverse ++ [D.str z])⟩ s') q fun ds s vs w H' DD _ _ r rv z1 pp => ?_
  obtain ⟨l1, l2, lf, z2⟩ := z1
  have rv : Reps X.K w ds vs := rv
  have lv : vs.length = n := by rw [Reps.length rv]; exact l1
  refine ⟨lv, by rw [lv]; exact l2, fun a => ?_, fun a => ?_, fun a dx hd => ?_⟩
  · obtain ⟨ws, e, l, _⟩ := hG a vs [] lv rfl
    rw [e, List.length_cons, List.length_cons, l]
  · obtain ⟨ws, e, _⟩ := hG a vs [] lv rfl
    exact ⟨ws, e⟩
  · obtain ⟨ws, e, l, hg2, hr2⟩ := hG a vs [] lv rfl
    rw [e]
    show W (.ref C) (some dx) σ (upd H' dx (.xd (g ws)))
    obtain ⟨T1, R1⟩ := r.lay (o := .xd (g ws)) hd
    refine pp.ex _ s _ σ _ _ _ T1.le R1 ?_ z2
    rw [hX]
    have hl2 : fl.length = ds.length := lf.trans l1.symm
    have ez : ((fl.reverse ++ [PySem.Str.ofString "code"]).zip (ds.reverse ++ [D.str z])).map (·.1) = fl.reverse ++ [PySem.Str.ofString "code"] := by
      rw [List.map_fst_zip]
      simp [hl2]
    have ez2 : ((fl.reverse ++ [PySem.Str.ofString "code"]).zip (ds.reverse ++ [D.str z])).map (·.2) = ds.reverse ++ [D.str z] := by
      rw [List.map_snd_zip]
      simp [hl2]
    refine ⟨C, dx, ws.reverse ++ [V.str z], hn, rfl, rfl, ?_, by simp [hl2, ← l1, l, lf], ?_⟩
    · show upd w.F dx (.xd (g ws)) dx = _
      rw [upd_same, hg2, gs_zip l.symm, ez]
    · rw [ez2]
      exact Reps.append (hr2 _ _ [] (rv.mono T1.le) .nil).rev (.one of_str)
end
section
variable {s : S} {nx : S → Prop} {rt : D → Bool → S → Prop} {bk ct : S → Prop} {ex : Ex → S → Prop}
theorem ev_raise (c : Str) (fl : List Str) (z : Str) (n : Nat) (f : M (List D)) : dRaise c fl z n f ⟨nx, rt, bk, ct, ex⟩ s = f s (fun ds s' => ds.length = n ∧ n ≤ 1000 ∧ fl.length = n ∧ ex ⟨c, (fl.reverse ++ [PySem.Str.ofString "code"]).zip (ds.reverse ++ [.str z])⟩ s') ex := id rfl
end
end DL

/-! ### sorted(set(xs)), xs a list of texts -/
namespace DL
open PySem PySem.Spec PyProof.Rows L2 PySem.Froz
/-- the table rises, its walk is known -/
def Tbl (w : World) (D : SD) : Prop := Ris D.2.2.place.toList ∧ (w.params.followText "set-order" = true ∨ D.2.2.led = true)
theorem Tbl.tail {w : World} {es1 : Array (Int × Value)} {ep ep' : Nat} {t2 : SetTable} {d : Bool} (T : Tbl w (es1, ep', t2)) : Tbl w (tailTx ep es1 t2 d) := by
  unfold tailTx
  split
  · exact ⟨relayAll_ris _ _ _, T.2.imp id fun z => (relayAll_led _ _ _).trans z⟩
  · exact T
theorem Tbl.add {w : World} {D : SD} {h : Int} {v : Value} (T : Tbl w D) : Tbl w (addTx h v D) := by
  obtain ⟨es, ep, t⟩ := D
  obtain ⟨r, l⟩ := T
  have r1 := layNew_ris t es h v r
  have l1 := layNew_led t es h v
  refine Tbl.tail (ep' := 0) ?_
  show Ris (SetTable.place (if _ then _ else _)).toList ∧ (_ ∨ SetTable.led (if _ then _ else _) = true)
  by_cases c : (layNew t es h v).2.1.plain = true
  · rw [if_pos c]
    exact ⟨r1, l.imp id fun z => l1.trans z⟩
  · rw [if_neg c]
    exact ⟨r1, l.imp id fun z => l1.trans z⟩
section
variable {P : Program} {w : World} {A : Around} {E : Value → Shared → Prop} {s : Shared}
/-- a text that is there already -/
theorem add_in {a : Addr} {T : String} {D : SD} {l : List Str} {k : Str} {u : Tok} {Q : Bool → Shared → Prop} (ho : s.heap.get? a = some (sObj T D)) (F : TxOk P w D l) (hk : k ∈ l) (hb : l.length < scanBound)
    (h : Q false s) : wpAny (model P w) A (setAddHashed a (.str k u) (hashStr w k)) Q E s := by
  obtain ⟨es, ep, t⟩ := D
  have hd : (sObj T (es, ep, t)).data = .set es ep t := rfl
  have hf : t.fits es.size = true := F.fit
  have hel : ElemsOf (strKind P w) es.toList := F.el
  have hsz : es.size = l.length := F.sz
  have hkey : (strKind P w).is k (.str k u) = true := is_str k u
  obtain ⟨e, he, q⟩ := (F.mem k).mp hk
  unfold setAddHashed setAddHashedIn
  refine wpAny_holding (wpAny_bind (wpAny_setState_of ho hd hf ?_))
  dsimp only
  rw [byScan_of rfl (by omega) hel]
  simp only [↓reduceIte]
  unfold setAddByScan
  refine wpAny_bind ?_
  refine wpAny_bind (wpAny_rule ?_)
  refine wpAny_bind (wpAny_setScan_of (knd := strKind P w) (k := k) hkey ho hd hf hel ?_)
  cases hr : List.findIdx? (fun e => (strKind P w).is k e.2) es.toList with
  | none =>
    have c := List.findIdx?_eq_none_iff.mp hr e he
    rw [q] at c
    cases c
  | some j => exact wpAny_pure (wpAny_pure h)
/-- the set at a: the texts l, told once each -/
def SetX (P : Program) (w : World) (h : Heap) (a : Addr) (l : List Str) : Prop := ∃ D : SD, h.get? a = some (sObj "set" D) ∧ TxOk P w D l ∧ Tbl w D ∧ l.Nodup
theorem SetX.at {h h' : Heap} {a : Addr} {l : List Str} (R : SetX P w h a l) (k : ∀ o, h.get? a = some o → h'.get? a = some o) : SetX P w h' a l := by
  obtain ⟨D, ho, r⟩ := R
  exact ⟨D, k _ ho, r⟩
/-- the one add -/
theorem setX_add {a : Addr} {l : List Str} {k : Str} {u : Tok} {Q : Bool → Shared → Prop} (R : SetX P w s.heap a l) (hb : l.length + 1 < scanBound)
    (hQ : ∀ b h' l', Heap.SameBut a s.heap h' → SetX P w h' a l' → l'.length ≤ l.length + 1 → (∀ x, x ∈ l' ↔ x ∈ l ∨ x = k) → Q b { s with heap := h' }) : wpAny (model P w) A (setAddHashed a (.str k u) (hashStr w k)) Q E s := by
  obtain ⟨D, ho, F, T, nd⟩ := id R
  by_cases hk : k ∈ l
  · refine add_in ho F hk (by omega) ?_
    exact hQ false s.heap l (Heap.SameBut.refl a s.heap) R (Nat.le_succ _) fun x => ⟨.inl, fun z => z.elim id fun e => e ▸ hk⟩
  · refine add_x ho F hk hb ?_
    refine hQ true _ (k :: l) (Heap.SameBut.update s.heap a _) ⟨_, get_upd _ ho rfl, add_ok u F, T.add, List.nodup_cons.mpr ⟨hk, nd⟩⟩ (by simp) fun x => ?_
    rw [List.mem_cons]
    exact Or.comm
theorem setX_new {h : Heap} {a : Addr} (ho : h.get? a = some { cls := .type "set", dict := none, data := .set #[] 0 (.fresh 0 0 (!w.params.followText "set-order")) }) : SetX P w h a [] :=
  ⟨(#[], 0, .fresh 0 0 (!w.params.followText "set-order")), ho, TxOk.nil (by rfl), ⟨List.Pairwise.nil, by
    show _ ∨ (!w.params.followText "set-order") = true
    cases w.params.followText "set-order"
    · exact .inr rfl
    · exact .inl rfl⟩, .nil⟩
def new0 (w : World) : Obj := { cls := .type "set", dict := none, data := .set #[] 0 (.fresh 0 0 (!w.params.followText "set-order")) }
theorem strs_len : ∀ {vs : List Value} {xs : List Str}, StrsAre vs xs → vs.length = xs.length
  | _, _, .nil => rfl
  | _, _, .cons _ _ h => by rw [List.length_cons, List.length_cons, strs_len h]
theorem str_at : ∀ {vs : List Value} {xs : List Str}, StrsAre vs xs → ∀ (i : Nat) (v : Value), vs[i]? = some v → ∃ k t, xs[i]? = some k ∧ v = .str k t
  | _, _, .nil, i, v, e => by simp at e
  | _, _, .cons x t h, 0, v, e => by simp at e; exact ⟨x, t, rfl, e.symm⟩
  | _, _, .cons x t h, i + 1, v, e => by simp at e; obtain ⟨k, u, h1, h2⟩ := str_at h i v e; exact ⟨k, u, by simpa using h1, h2⟩
/-- the update loop -/
theorem setX_loop {I : Addr} {fp wr : List Addr} {G : Array GenState → Array GenState → Prop} {n : Nat} {Pv : Nat → Value → Prop} {St : Nat → Shared → Prop} {R : Result → Shared → Prop}
    (W : WalksS P w A.in1 I fp wr G n Pv St) (S : Addr) (hSf : S ∉ fp) (ns : List Str) (hn : n = ns.length) (hb : ns.length + 1 < scanBound) (hval : ∀ i v, Pv i v → ∃ k t, ns[i]? = some k ∧ v = .str k t) :
    ∀ (k i : Nat) (s : Shared), n - i = k → i ≤ n → St i s → (∃ l, l.length ≤ i ∧ SetX P w s.heap S l ∧ ∀ x, x ∈ l ↔ x ∈ ns.take i) →
      (∀ s' l, Moved (S :: wr) G s s' → l.length ≤ n → SetX P w s'.heap S l → (∀ x, x ∈ l ↔ x ∈ ns) → R (.ok (.ret .none)) s') →
      codeAny (model P w) A (.builtin "set.update.loop" ⟨[.ref S, .ref I], []⟩) R s := by
  have hSw : S ∉ wr := fun h => hSf (W.sub _ h)
  have hsub : ∀ b ∈ wr, b ∈ S :: wr := fun b hb => List.mem_cons_of_mem _ hb
  intro k
  induction k with
  | zero =>
    intro i s hk' hi hst ⟨l, hc, hS, hm0⟩ hR
    have hin : i = n := by omega
    subst hin
    refine codeAny_builtin F.entry_set_update_loop ?_
    rw [Around.under_plainId F.plain_set_update_loop _]
    show wpAny _ A.in1 (pyNext (.ref I) >>= _) _ _ s
    refine wpAny_bind (W.done s _ _ hst fun s' hm => ?_)
    show wpAny _ A.in1 (ret Value.none) _ _ s'
    rw [List.take_of_length_le (show ns.length ≤ i by omega)] at hm0
    exact wpAny_pure (hR s' l (hm.mono hsub) hc (hS.at fun o e => hm.heap S o hSw e) hm0)
  | succ k ih =>
    intro i s hk' hi hst ⟨l, hc, hS, hm0⟩ hR
    have hlt : i < n := by omega
    refine codeAny_builtin F.entry_set_update_loop ?_
    rw [Around.under_plainId F.plain_set_update_loop _]
    show wpAny _ A.in1 (pyNext (.ref I) >>= _) _ _ s
    refine wpAny_bind (W.item i s _ _ hlt hst fun v s' hP hst' hm => ?_)
    obtain ⟨z, t, hz, rfl⟩ := hval i v hP
    have hS' : SetX P w s'.heap S l := hS.at fun o e => hm.heap S o hSw e
    show wpAny _ A.in1 (holding [Value.str z t] (setAdd S (.str z t)) >>= _) _ _ s'
    refine wpAny_bind (wpAny_holding ?_)
    unfold setAdd
    refine wpAny_holding ?_
    refine wpAny_bind ((strKind P w).pyHash (k := z) (strKind_is _ _ _ _) ?_)
    refine setX_add (s := { s' with toks := s'.toks + 1 }) hS' (by omega) fun b h' l' hsb hS2 hl2 hm2 => ?_
    refine wpAny_pure ⟨plainId_quiet F.plain_set_update_loop _, ih (i + 1) _ (by omega) hlt (W.frame _ s' _ _ hst' (Nat.le_succ _) fun b hb o e => ?_) ⟨l', by omega, hS2, fun x => ?_⟩ fun s'' l2 hm'' hc'' hS'' hm3 => ?_⟩
    · rw [hsb.2 b (fun h : b = S => hSf (by rw [← h]; exact hb))]; exact e
    · rw [hm2, hm0, List.take_add_one, hz]
      simp [List.mem_append]
    · refine hR s'' l2 (Moved.trans W.gtrans ((hm.mono hsub).then_heap (Nat.le_succ _) fun b o hb e => ?_) hm'') hc'' hS'' hm3
      rw [hsb.2 b (fun h : b = S => hb (by rw [h]; exact List.mem_cons_self))]; exact e
/-- set(xs) -/
theorem call_setX {l : Addr} {items : Array Value} (ns : List Str) {Q : Value → Shared → Prop} (hh : A.handled = none) (hl : s.heap.IsList l items) (hit : StrsAre items.toList ns) (hb : ns.length + 1 < scanBound)
    (h : ∀ (h' : Heap) (tk : Nat) (ks : List Str), SetX P w h' s.heap.objs.size ks → ks.length ≤ ns.length → (∀ x, x ∈ ks ↔ x ∈ ns) → (∀ b o, s.heap.get? b = some o → h'.get? b = some o) → Q (.ref s.heap.objs.size) { s with heap := h', toks := tk }) :
    wpAny (model P w) A (call (.type "set") [.ref l]) Q E s := by
  have hisz : items.size = ns.length := by
    have q := strs_len hit
    rw [Array.length_toList] at q
    exact q
  obtain ⟨c, tl, hmro⟩ := F.called_set.mro
  have hmade := F.called_set.made
  have hsub := F.called_set.sub
  refine wpAny_call (codeAny_of_tree ?_)
  show wpAny _ _ (callAny (.type "set") _) _ _ _
  refine wpAny_pure ⟨Code.quiet_builtin _ (by decide +kernel), codeAny_builtin F.entry_type_call ?_⟩
  rw [Around.under_plain (weight_type_call_type "set" [.ref l] []) rfl]
  have h1 := F.called_set.notType
  have h2 := F.called_set.canCreate
  have hct := F.typeCall_set_1 (.ref l)
  repeat (any_goals (first | assumption | wp_step))
  refine codeAny_mono (code_set_led1 (.ref l) (E := E) (Q₁ := fun obj s₁ => obj = .ref s.heap.objs.size ∧ s₁ = { s with heap := s.heap.push (new0 w) }) ⟨rfl, rfl⟩) fun r s₁ hr => ?_
  cases r with
  | error e => exact hr
  | ok fl =>
    cases fl with
    | ret obj =>
      obtain ⟨rfl, rfl⟩ := hr
      have hS : (s.heap.push (new0 w)).get? s.heap.objs.size = some (new0 w) := Heap.get?_push_size _ rfl
      have hT : Shared.TypeIs { s with heap := s.heap.push (new0 w) } (.ref s.heap.objs.size) "set" := ⟨_, hS, rfl⟩
      have hli := F.called_set.init.lookup
      have hbi := F.called_set.init.bind (.ref s.heap.objs.size)
      repeat (any_goals (first | assumption | wp_step))
      refine codeAny_mono (codeAny_call_builtin (R := wants (fun r s₂ => r = .none ∧ ∃ h' tk ks, s₂ = { s with heap := h', toks := tk } ∧ SetX P w h' s.heap.objs.size ks ∧ ks.length ≤ ns.length ∧ (∀ x, x ∈ ks ↔ x ∈ ns) ∧
          (∀ b o, s.heap.get? b = some o → h'.get? b = some o)) E) F.called_set.init.plain F.entry_set_init (check_set_init_1 hT ?_)) fun r₂ s₂ hr₂ => ?_
      · obtain ⟨ol, hol, hcl, nl, hdl⟩ := hl
        obtain ⟨ocls, odict, odata, oslots⟩ := ol
        simp only at hcl hdl
        subst hcl; subst hdl
        have hol' : (s.heap.push (new0 w)).get? l = some { cls := .type "list", dict := odict, data := .seq items nl, slots := oslots } := Heap.get?_push_of_some _ hol
        have hsls := F.sub_list_set
        have hslf := F.sub_list_frozenset
        have hne : (Value.type "list" == Value.type "dict") = false := by decide
        have hl1 : (s.heap.push (new0 w)).IsList l items := ⟨_, hol', rfl, nl, rfl⟩
        unfold Builtin.«set.__init__» noKeywords Builtin.Frozenset.updateFrom
        generalize hPI : pyIter = PI
        wp_walk
        subst hPI
        refine wpAny_pyIter_list hl1 ?_
        refine wpAny_bind (wpAny_runValue ?_)
        have hlS : l < s.heap.objs.size := Heap.lt_size hol
        have hh3 : A.in1.in1.in1.handled = none := by simp [hh]
        have hneI : l ≠ (s.heap.push (new0 w)).objs.size := by
          rw [Heap.size_push]; exact Nat.ne_of_lt (Nat.lt_succ_of_lt hlS)
        have hSf : s.heap.objs.size ∉ [(s.heap.push (new0 w)).objs.size, l] := by
          rw [Heap.size_push]; simp only [List.mem_cons, List.mem_singleton, List.not_mem_nil, or_false, not_or]
          exact ⟨Nat.ne_of_lt (Nat.lt_succ_self _), Nat.ne_of_gt hlS⟩
        have hval : ∀ (i : Nat) (v : Value), items[i]? = some v → ∃ k t, ns[i]? = some k ∧ v = .str k t := fun i v hv => str_at hit i v (by rw [Array.getElem?_toList]; exact hv)
        refine setX_loop ((Walks.list hh3 _ l hneI items).toS) s.heap.objs.size
          hSf ns hisz hb hval (items.size - 0) 0 _ (by omega) (Nat.zero_le _)
          ⟨⟨_, Heap.get?_push_size _ rfl, rfl, rfl⟩, (hl1.push _)⟩ ?hS0 ?hR
        case hS0 => exact ⟨[], Nat.le_refl 0, setX_new (Heap.get?_push_of_some _ hS), fun x => by simp⟩
        case hR =>
          intro s' ks hm hc' hS' hmem
          obtain ⟨h', g2, d', tk', os'⟩ := s'
          have eg : g2 = s.gens := hm.gens
          have ed : d' = s.drawn := hm.drawn
          have eo : os' = s.os := hm.os
          subst eg; subst ed; subst eo
          show wpAny _ _ _ _ _ _
          refine wpAny_pure ?_
          show wpAny _ _ (ret Value.none) _ _ _
          rw [hisz] at hc'
          refine wpAny_pure ⟨rfl, h', tk', ks, rfl, hS', hc', hmem, fun b o e => ?_⟩
          have hb0 : b < s.heap.objs.size := Heap.lt_size e
          have hb1 : b ≠ s.heap.objs.size := Nat.ne_of_lt hb0
          have hb2 : b ≠ (s.heap.push (new0 w)).objs.size := by
            rw [Heap.size_push]; exact Nat.ne_of_lt (Nat.lt_succ_of_lt hb0)
          refine hm.heap b o (fun z => ?_) (Heap.get?_push_of_some _ (Heap.get?_push_of_some _ e))
          rcases List.mem_cons.mp z with z | z
          · exact hb1 z
          · exact hb2 (List.mem_singleton.mp z)
      · cases r₂ with
        | error e => exact hr₂
        | ok fl₂ =>
          cases fl₂ with
          | ret r =>
            obtain ⟨rfl, h', tk, ks, rfl, hS', hc', hmem, hk'⟩ := hr₂
            repeat (any_goals (first | assumption | wp_step))
            exact h _ _ _ hS' hc' hmem hk'
          | _ => exact hr₂.elim
    | _ => exact hr.elim
end
end DL

namespace DL
open PySem PySem.Spec PyProof.Rows L2 PySem.Froz
/-- the texts of xs, once each, in their order -/
structure IsSrt (xs ys : List Str) : Prop where
  mem : ∀ x, x ∈ ys ↔ x ∈ xs
  nd : ys.Nodup
  up : ys.Pairwise fun a b => ¬ b.cps.toList < a.cps.toList
theorem IsSrt.eq {xs ys zs : List Str} (h : IsSrt xs ys) (k : IsSrt xs zs) : ys = zs := by
  refine List.Perm.eq_of_pairwise (fun a b _ _ h1 h2 => ?_) h.up k.up ((List.perm_ext_iff_of_nodup h.nd k.nd).mpr fun x => (h.mem x).trans (k.mem x).symm)
  have e : a.cps.toList = b.cps.toList := List.le_antisymm h1 h2
  obtain ⟨⟨l⟩⟩ := a
  obtain ⟨⟨m⟩⟩ := b
  have e : l = m := e
  rw [e]
theorem IsSrt.len {xs ys : List Str} (h : IsSrt xs ys) : ys.length ≤ xs.length := by
  have : ∀ (ys xs : List Str), ys.Nodup → (∀ x ∈ ys, x ∈ xs) → ys.length ≤ xs.length := by
    intro ys
    induction ys with
    | nil => intro xs _ _; exact Nat.zero_le _
    | cons y ys ih =>
      intro xs nd hm
      obtain ⟨n1, n2⟩ := List.nodup_cons.mp nd
      have hy := hm y List.mem_cons_self
      have := ih (xs.erase y) n2 fun x hx => by
        have ne : x ≠ y := fun e => n1 (e ▸ hx)
        exact (List.mem_erase_of_ne ne).mpr (hm x (List.mem_cons_of_mem _ hx))
      rw [List.length_erase_of_mem hy] at this
      have := List.length_pos_of_mem hy
      rw [List.length_cons]; omega
  exact this ys xs h.nd fun x hx => (h.mem x).mp hx
open Classical in
noncomputable def srt (xs : List Str) : List Str := if h : ∃ ys, IsSrt xs ys then Classical.choose h else []
theorem srt_of {xs ys : List Str} (h : IsSrt xs ys) : srt xs = ys := by
  unfold srt
  rw [dif_pos ⟨ys, h⟩]
  exact (Classical.choose_spec (⟨ys, h⟩ : ∃ ys, IsSrt xs ys)).eq h
theorem srt_nil : srt [] = [] := srt_of ⟨fun x => Iff.rfl, .nil, .nil⟩
section
variable {P : Program} {w : World} {A : Around} {E : Value → Shared → Prop} {s : Shared}
theorem up_from : ∀ (r : List Str) (p : Str), risingS p r = true → (p :: r).Pairwise fun a b => ¬ b.cps.toList < a.cps.toList
  | [], p, _ => List.pairwise_singleton ..
  | x :: r, p, h => by
    have h : (!ltCps x.cps.toList p.cps.toList && risingS x r) = true := h
    rw [Bool.and_eq_true, ltCps_eq, Bool.not_eq_true', decide_eq_false_iff_not] at h
    have ih := up_from r x h.2
    refine List.pairwise_cons.mpr ⟨fun y hy => ?_, ih⟩
    rcases List.mem_cons.mp hy with z | z
    · rw [z]; exact h.1
    · exact List.le_trans (l₁ := p.cps.toList) (l₂ := x.cps.toList) (l₃ := y.cps.toList) h.1 ((List.pairwise_cons.mp ih).1 y z)
theorem up_of : ∀ (ys : List Str), sortedS ys = true → ys.Pairwise fun a b => ¬ b.cps.toList < a.cps.toList
  | [], _ => .nil
  | x :: r, h => up_from r x h
theorem perm_by {α : Type} [DecidableEq α] : ∀ (l K : List α), l.Nodup → (∀ x ∈ l, x ∈ K) → K.length ≤ l.length → K.Perm l
  | [], K, _, _, h => by
    have : K = [] := List.eq_nil_of_length_eq_zero (by simpa using h)
    rw [this]
  | x :: l, K, nd, hm, h => by
    obtain ⟨n1, n2⟩ := List.nodup_cons.mp nd
    have hx := hm x List.mem_cons_self
    have hl := List.length_erase_of_mem hx
    rw [List.length_cons] at h
    have := perm_by l (K.erase x) n2 (fun y hy => (List.mem_erase_of_ne (fun e : y = x => n1 (by rw [← e]; exact hy))).mpr (hm y (List.mem_cons_of_mem _ hy))) (by omega)
    exact (List.perm_cons_erase hx).trans (this.cons x)
theorem sorted_setX {a : Addr} {l : List Str} {Q : Value → Shared → Prop} (R : SetX P w s.heap a l) (hh : A.handled = none) (h64 : l.length < 64)
    (hQ : ∀ s' p (out : Array Value) (c : Nat) (ys : List Str), (∀ b o, s.heap.get? b = some o → s'.heap.get? b = some o) → s'.gens = s.gens → s'.os = s.os → s.heap.objs.size ≤ p →
      s'.heap.get? p = some (seqObj "list" out c) → StrsAre out.toList ys → IsSrt l ys → Q (.ref p) s') :
    wpAny (model P w) A (call (.builtin "sorted") [.ref a]) Q E s := by
  obtain ⟨⟨es, ep, t⟩, ho, F, T, nd⟩ := R
  have hsz : es.size = l.length := F.sz
  refine Calls.call_function_entry kind_sorted plain_sorted entry_sorted (args_sorted1 _) ?_
  unfold Builtin.«sorted»
  refine wpAny_bind (m := checkCount "sorted" 1 1 _) (wpAny_pure ?_)
  refine wpAny_bind (collect_set (A := A.in1) hh ⟨_, ho, rfl, rfl⟩ F.fit (by show es.size < scanBound; unfold scanBound; omega) T.1 T.2 fun s1 vs k1 hz g1 o1 pm => ?_)
  have hvl : vs.length = l.length := by rw [pm.length_eq, List.length_map, Array.length_toList]; exact hsz
  have hall : ∀ v ∈ vs, ∃ x t, v = .str x t ∧ x ∈ l := fun v hv => by
    obtain ⟨e, he, q⟩ := List.mem_map.mp (pm.mem_iff.mp hv)
    obtain ⟨⟨k, h1, _⟩, _⟩ := F.el e he
    have hk : k ∈ l := (F.mem k).mpr ⟨e, he, h1⟩
    have h1' : Value.isStrOf k e.2 = true := h1
    rw [q] at h1'
    cases v <;> first | (simp [Value.isStrOf] at h1'; done) | skip
    rename_i x t
    have : x = k := by simpa [Value.isStrOf] using h1'
    exact ⟨x, t, rfl, this ▸ hk⟩
  have hS : StrsAre vs (vs.map strOf) := strsAre_map vs fun v hv => let ⟨x, t, e, _⟩ := hall v hv; ⟨x, t, e⟩
  refine wpAny_bind (wpAny_newList ?_ (by rw [hvl, sizeLine_eq]; omega))
  have hoL : (s1.heap.push (seqObj "list" vs.toArray 0)).get? s1.heap.objs.size = some (seqObj "list" vs.toArray 0) := Heap.get?_push_size _ rfl
  refine wpAny_bind (wpAny_holding (wpAny_call_entry slot_list_sort ⟨_, hoL, rfl⟩ entry_list_sort (list_sort_treeK strKind_oneLt hoL hS.keysOf (fun v₁ v₂ rest e => keyKind_strs (by rw [← e]; exact hS)) (by rw [hvl]; exact h64) fun st' hp hs => ⟨_, rfl, ?_⟩) (args_list_sort _)))
  obtain ⟨ys, a1, a2, a3⟩ := sorted_out_str hS hp hs
  obtain ⟨c, hc⟩ := sortedHeap_at (vs := vs) (out := (arrOf st').map (·.2)) hoL
  have hP : (vs.map strOf).Perm l := perm_by l _ nd (fun x hx => by
    obtain ⟨e, he, q⟩ := (F.mem x).mp hx
    have hv : e.2 ∈ vs := pm.mem_iff.mpr (List.mem_map.mpr ⟨e, he, rfl⟩)
    obtain ⟨y, t, e1, _⟩ := hall _ hv
    refine List.mem_map.mpr ⟨e.2, hv, ?_⟩
    have q : Value.isStrOf x e.2 = true := q
    rw [e1] at q ⊢
    show y = x
    simpa [Value.isStrOf] using q) (by rw [List.length_map, hvl]; exact Nat.le_refl _)
  have hm : ∀ x, x ∈ vs.map strOf ↔ x ∈ l := fun x => hP.mem_iff
  have hn : (vs.map strOf).Nodup := hP.nodup_iff.mpr nd
  refine wpAny_pure ⟨_, rfl, hQ _ s1.heap.objs.size _ c ys (fun b u e => ?_) g1 o1 hz hc a1 ⟨fun x => a2.mem_iff.trans (hm x), a2.nodup_iff.mpr hn, up_of ys a3⟩⟩
  have q := k1 b u e
  have hlt := Heap.lt_size q
  show (sortedHeap (s1.heap.push (seqObj "list" vs.toArray 0)) s1.heap.objs.size vs ((arrOf st').map (·.2))).get? b = some u
  rw [sortedHeap_old (Nat.ne_of_lt hlt) (by rw [size_push']; exact Nat.lt_succ_of_lt hlt)]
  exact Heap.get?_push_of_some _ q
end
/-- sorted(set(xs)) -/
def rSrt (K : PySem.W.Frag) (x : V) (H1 : Hp) (Q : VK) : Prop := ∃ (l : Addr) (xs : List Str), x = .ref l ∧ SqL K H1 l (xs.map V.str) ∧ xs.length < 64 ∧ ∀ p, H1 p = none → Q (.ref p) (upd H1 p (.lst ((srt xs).map V.str)))
theorem pe_srt {X : Cx} {a : Expr} {ta : TE} {p p2 q pos : Pos} (hc : X.calm = true) (hg : Gl X "sorted") (hm : X.mg "sorted" = none) (hg2 : Gl X "set") (hm2 : X.mg "set" = none) (ha : PE X a ta)
    (na : starEach [a] X.env = (false, eval a X.env) :: starEach [] X.env := by rfl) : PE X (.Call (.Name "sorted" p) [.Call (.Name "set" p2) [a] [] q] [] pos) (fun σ H Q => ta σ H fun x H1 => rSrt X.K x H1 Q) := by
  refine ⟨fun pins s σ H Q I h => ?_⟩
  refine Call_ (ld_blt I hg hm boot_sorted ?_)
  refine PyProof.Rows.callWith_builtin1 (PyProof.Rows.args_cons ?_ rfl) rfl rfl
  refine Call_ (ld_blt I hg2 hm2 PyProof.Rows.boot_set ?_)
  refine PyProof.Rows.callWith_type1 (PyProof.Rows.args_cons (thn (ha.run pins s σ H _ I h) fun v s1 ⟨x, H1, I1, r1, q1⟩ => PyProof.Rows.args_nil ?_) na) na rfl
  obtain ⟨l, xs, rfl, hq, h64, q1⟩ := q1
  cases r1
  obtain ⟨its, r, pl, hz⟩ := I1.list hq
  refine call_setX xs (I1.ok.hd hc) pl.isList (by simpa using r.strs) (by unfold scanBound; omega) fun h' tk ks hS hl2 hmem hk => ?_
  refine PyProof.Rows.args_nil ?_
  have I2 : Inv X pins σ H1 { s1 with heap := h', toks := tk } := I1.kept hk
  refine sorted_setX (s := { s1 with heap := h', toks := tk }) hS (I1.ok.hd hc) (by omega) fun s' pp out c ys k g o hp hgt hi hs => ?_
  have hsrt : IsSrt xs ys := ⟨fun x => (hs.mem x).trans (hmem x), hs.nd, hs.up⟩
  have e1 := srt_of hsrt
  have hlen : (ys.map V.str).length ≤ sizeLine := by
    have := hsrt.len
    rw [List.length_map, sizeLine_eq]; omega
  have hn : H1 pp = none := I2.hok.fresh hp
  have J : Inv X pins σ (upd H1 pp (.lst (ys.map V.str))) { { s1 with heap := h', toks := tk } with heap := s'.heap, gens := s'.gens, drawn := s'.drawn, toks := s'.toks } :=
    I2.call (ch := []) (Un.laid k hp hn) (I2.hok.laid k hp ⟨hlen, out.toList, c, vals_of_strs hi, hgt⟩) (by rw [g]; exact I2.bare) (fun _ z => nomatch z)
  have e : s' = { { s1 with heap := h', toks := tk } with heap := s'.heap, gens := s'.gens, drawn := s'.drawn, toks := s'.toks } := by
    cases s'
    cases s1
    cases o
    rfl
  rw [e]
  have q2 := q1 pp hn
  rw [e1] at q2
  exact ⟨.ref pp, _, J, rfl, q2⟩
def dSrt (f : M D) : M D := f.bnd fun d s Q _ => match d with
  | .lst l => onSome (strsOf l) fun xs => xs.length < 64 ∧ Q (.lst ((srt xs).map D.str)) s
  | _ => False
theorem do_srt {X : Cx} {B : Ent} {W : WX} {a : Expr} {f : M D} {p p2 q pos : Pos} (hm : X.mg "sorted" = none) (hm2 : X.mg "set" = none) (ha : DE X B W a f) (hc : X.calm = true := by rfl) (hg : Gl X "sorted" := by rfl) (hg2 : Gl X "set" := by rfl)
    (na : starEach [a] X.env = (false, eval a X.env) :: starEach [] X.env := by rfl) : DO X B W (.Call (.Name "sorted" p) [.Call (.Name "set" p2) [a] [] q] [] pos) (dSrt f) := PE.weak (pe_srt hc hg hm hg2 hm2 ha na) fun σ H Q q => by
  refine tG.seq (back_O _ _) q fun d s v w H' QD ED _ _ r rv z pp => ?_
  cases d <;> first | exact z.elim | skip
  obtain ⟨xs, e, h64, z⟩ := onSome_ex z
  have rv : Rep X.K w (.lst _) v := rv
  obtain ⟨a, vs, rfl, q1, z1⟩ := rep_lst rv
  have e2 := strs_of z1 e
  subst e2
  exact ⟨a, xs, rfl, .inl (.inl (r.sub _ _ q1)), h64, fun p hp => r.newO hp (own_lst (reps_strs _)) z pp⟩
theorem ev_srt {f : M D} {s : S} {Q : D → S → Prop} {E : Ex → S → Prop} : dSrt f s Q E = f s (fun d s' => match d with
  | .lst l => onSome (strsOf l) fun xs => xs.length < 64 ∧ Q (.lst ((srt xs).map D.str)) s'
  | _ => False) E := id rfl
end DL

/-! ### [elt for x in xs for y in ys] -/
namespace DL
open PySem PySem.Spec PyProof.Rows L2
def dFold2 (vs vs1 : List Nat) (t : Tg) (tt : M Bool) (src1 : M (List D)) (t1 : Tg) (tt1 : M Bool) (elt : M D) : List D → List D → M (List D)
  | [], acc => fun s Q _ => Q acc s
  | d :: r, acc => fun s Q E => onSome (t.put d s) fun s1 => tt s1 (fun b s2 => if b = true then src1 s2 (fun l1 s3 => dFold vs1 t1 tt1 elt l1 acc (s3.wipe vs1) (fun acc' s4 => dFold2 vs vs1 t tt src1 t1 tt1 elt r acc' (s4.wipe vs) Q E) E) E else dFold2 vs vs1 t tt src1 t1 tt1 elt r acc (s2.wipe vs) Q E) E
def dComp2 (vs vs1 : List Nat) (t : Tg) (src : M (List D)) (tt : M Bool) (t1 : Tg) (src1 : M (List D)) (tt1 : M Bool) (elt : M D) : M D := src.bnd fun l s Q _ =>
  noOwn vs s.d ∧ dFold2 vs vs1 t tt src1 t1 tt1 elt l [] (s.wipe vs) (fun acc s' => Q (.lst acc) { s' with d := restD s.d s'.d vs }) (fun _ _ => False)
theorem wipe_sub {σ : LSt} {vs vs1 : List Nat} (h : ∀ i ∈ vs1, i ∈ vs) : L2.wipe (L2.wipe σ vs1) vs = L2.wipe σ vs := wipe_ext (wipe_length _ _) fun i hi => wipe_out fun z => hi (h i z)
section
variable {K : PySem.W.Frag} {B : Ent} {W : WX} {vs vs1 : List Nat} {t t1 : Tg} {src src1 : M (List D)} {tt tt1 : M Bool} {elt : M D} {σ : LSt} {H : Hp} {Q : VK}
theorem lc2_of (ht : ∀ i ∈ t.sl, i ∈ vs) (ht1 : ∀ i ∈ t1.sl, i ∈ vs1) (hv : ∀ i ∈ vs1, i ∈ vs) (q : tO K B W (dComp2 vs vs1 t src tt t1 src1 tt1 elt) σ H Q) :
    tLc2 (tI K B W src) (tgG K t) (tT K B W0 tt) (tI K B W0 src1) (tgG K t1) (tT K B W0 tt1) (tE K B W0 elt) vs vs1 σ H Q := by
  refine tG.seq (back_O _ _) q fun l s J w H1 QD ED _ _ R rv z pp => ?_
  obtain ⟨G, Y, hw, hG, hY⟩ := rv.ex
  obtain ⟨no, z⟩ := z
  intro A hA
  have oA : Out σ w s (upd H1 A (.lst [])) A (.lst []) := ⟨upd_same, R.newF hA, R.newT hA, fun i e g y => by
    obtain ⟨b, u, h1, h2, _⟩ := R.own i e g
    rw [h1] at y; cases y
    rw [hA] at h2; cases h2⟩
  have bA : B.H A = none := R.live hA
  have R0 : BRel K B w (s.wipe vs) (L2.wipe σ vs) (upd H1 A (.lst [])) := (R.new hA).wipe rfl
  have oA' : Out (L2.wipe σ vs) w (s.wipe vs) (upd H1 A (.lst [])) A (.lst []) := (To.wipe (s := s) (vs := vs) (σ' := σ) rfl).fr A _ oA
  generalize hFQ : (fun acc s' => QD (.lst acc) { s' with d := restD s.d s'.d vs } : List D → S → Prop) = FQ at z
  generalize hFE : (fun _ _ => False : Ex → S → Prop) = FE at z
  have fe : ∀ e s, ¬ FE e s := fun e s h => by rw [← hFE] at h; exact h
  let PvO : Nat → Hp → Prop := fun i H => ∃ w1 s1 acc us, To σ w s H1 (L2.wipe σ vs) w1 s1 H ∧ BRel K B w1 s1 (L2.wipe σ vs) H ∧ Out (L2.wipe σ vs) w1 s1 H A (.lst us) ∧ Reps K w1 acc us ∧ dFold2 vs vs1 t tt src1 t1 tt1 elt (l.drop i) acc s1 FQ FE
  -- the first state of a turn that comes next
  have again : ∀ (i : Nat) (σ3 : LSt), L2.wipe σ3 vs = L2.wipe σ vs → ∀ (w5 : Wd) (s5 : S) (H5 : Hp) (us5 : List V) (acc5 : List D), To σ w s H1 σ3 w5 s5 H5 → BRel K B w5 s5 σ3 H5 → Out σ3 w5 s5 H5 A (.lst us5) → Reps K w5 acc5 us5 → dFold2 vs vs1 t tt src1 t1 tt1 elt (l.drop i) acc5 (s5.wipe vs) FQ FE → PvO i H5 :=
    fun i σ3 ew w5 s5 H5 us5 acc5 t5 R5 o5 r5 z5 => by
      have Tw := To.wipe (σ := σ3) (w := w5) (s := s5) (H := H5) (vs := vs) (σ' := σ3) rfl
      have Rw := R5.wipe (vs := vs) (σ' := σ3) rfl
      rw [ew] at Tw Rw
      exact ⟨w5, s5.wipe vs, acc5, us5, t5.trans Tw, Rw, Tw.fr A _ o5, r5, z5⟩
  refine ⟨fun i m H => m = l.length - i ∧ i ≤ l.length ∧ PvO i H, ⟨l.length, by simp, Nat.zero_le _, ⟨w, s.wipe vs, [], [], (To.new hA).trans (To.wipe rfl), R0, oA', .nil, by rw [List.drop_zero]; exact z⟩⟩, ?_⟩
  rintro i m H ⟨rfl, hi, p⟩
  obtain ⟨w1, s1, acc, us, T1, R1, o1, r1, z1⟩ := p
  have hGH : G H := hG H (T1.le.1.trans R1.sub)
  by_cases hlt : i < l.length
  case neg =>
    have e : i = l.length := by omega
    subst e
    refine .inl ⟨hw.stops H hGH, ?_⟩
    rw [List.drop_length] at z1
    have z1 : FQ acc s1 := z1
    rw [← hFQ] at z1
    refine pp.ok _ _ _ w1 H (T1.rest no) (R.rest R1 T1.le no) ⟨A, rfl, ?_, fun o z => ?_⟩ z1
    · have o1' : Out σ w1 { s1 with d := restD s.d s1.d vs } H A (.lst us) := ⟨o1.at_, o1.f, o1.t, fun i e g => by
        have g : (restD s.d s1.d vs)[i]? = some (some (e, true)) := g
        by_cases hi : i ∈ vs
        · exact absurd (restD_in hi g) (no i hi e)
        · rw [restD_out hi] at g
          have := o1.sl i e g
          rw [wipe_out hi] at this
          exact this⟩
      exact .of_out o1' bA (own_lst r1)
    · have := z.at_
      rw [hA] at this; cases this
  refine .inr ⟨hw.goes i H hlt hGH, PvO (i + 1), fun H' p' => ⟨l.length - (i + 1), by omega, rfl, hlt, p'⟩, fun x H' y => ?_⟩
  have hy := hw.yields i H x H' hlt hGH y
  rw [List.drop_eq_getElem_cons hlt] at z1
  obtain ⟨s2, e2, z2⟩ := onSome_ex z1
  have it := (hY i H x H' l[i] (List.getElem?_eq_getElem hlt) hy).mono T1.le
  obtain ⟨w2, t2, R2, rx⟩ := item_of R1 it
  obtain ⟨σ3, R3, t3, S3, g3⟩ := tg_of R2 rx e2
  have ew : L2.wipe σ3 vs = L2.wipe σ vs := (S3.wipe ht).trans wipe_wipe
  refine g3 _ ⟨ew, ?_⟩
  have T3 := T1.trans (t2.trans t3)
  have o3 := (t2.trans t3).fr A _ o1
  have r3 := r1.mono (t2.trans t3).le
  refine ⟨w2, s2, _, _, R3, z2, ⟨fun b s4 b' w4 H4 t4 R4 eb z4 => ?_, fun e s' w' H' c dd le R' hx hf => (fe _ _ hf).elim⟩⟩
  subst eb
  have o4 := t4.fr A _ o3
  have r4 := r3.mono t4.le
  cases b' with
  | false =>
    rw [if_neg Bool.false_ne_true] at z4 ⊢
    exact again (i + 1) σ3 ew w4 s4 H4 us acc (T3.trans t4) R4 o4 r4 z4
  | true =>
    rw [if_pos rfl] at z4 ⊢
    refine ⟨w4, s4, _, _, R4, z4, ⟨fun l1 s5 J1 w5 H5 t5 R5 rv1 z5 => ?_, fun e s' w' H' c dd le R' hx hf => (fe _ _ hf).elim⟩⟩
    obtain ⟨G1, Y1, hw1, hG1, hY1⟩ := rv1.ex
    have T5 := (T3.trans t4).trans t5
    have o5 := t5.fr A _ o4
    have r5 := r4.mono t5.le
    let PvI : Nat → Hp → Prop := fun j H => ∃ w6 s6 acc us, w5.le w6 ∧ To σ w s H1 (L2.wipe σ3 vs1) w6 s6 H ∧ BRel K B w6 s6 (L2.wipe σ3 vs1) H ∧ Out (L2.wipe σ3 vs1) w6 s6 H A (.lst us) ∧ Reps K w6 acc us ∧ dFold vs1 t1 tt1 elt (l1.drop j) acc s6 (fun acc' s4 => dFold2 vs vs1 t tt src1 t1 tt1 elt (l.drop (i + 1)) acc' (s4.wipe vs) FQ FE) FE
    have Tw := To.wipe (σ := σ3) (w := w5) (s := s5) (H := H5) (vs := vs1) (σ' := σ3) rfl
    refine ⟨fun j k H => k = l1.length - j ∧ j ≤ l1.length ∧ PvI j H, ⟨l1.length, by simp, Nat.zero_le _, ⟨w5, s5.wipe vs1, acc, us, .refl _, T5.trans Tw, R5.wipe rfl, Tw.fr A _ o5, r5, by rw [List.drop_zero]; exact z5⟩⟩, ?_⟩
    rintro j k H6 ⟨rfl, hj, p⟩
    obtain ⟨w6, s6, acc, us, le6, T6, R6, o6, r6, z6⟩ := p
    have hG6 : G1 H6 := hG1 H6 (le6.1.trans R6.sub)
    by_cases hlj : j < l1.length
    case neg =>
      have e : j = l1.length := by omega
      subst e
      refine .inl ⟨hw1.stops H6 hG6, ?_⟩
      rw [List.drop_length] at z6
      exact again (i + 1) _ ((wipe_sub hv).trans ew) w6 s6 H6 us acc T6 R6 o6 r6 z6
    refine .inr ⟨hw1.goes j H6 hlj hG6, PvI (j + 1), fun H' p' => ⟨l1.length - (j + 1), by omega, rfl, hlj, p'⟩, fun x H' y => ?_⟩
    have hy := hw1.yields j H6 x H' hlj hG6 y
    rw [List.drop_eq_getElem_cons hlj] at z6
    obtain ⟨s7, e7, z7⟩ := onSome_ex z6
    have it := (hY1 j H6 x H' l1[j] (List.getElem?_eq_getElem hlj) hy).mono le6
    obtain ⟨w7, t7, R7, rx⟩ := item_of R6 it
    obtain ⟨σ8, R8, t8, S8, g8⟩ := tg_of R7 rx e7
    have ew1 : L2.wipe σ8 vs1 = L2.wipe σ3 vs1 := (S8.wipe ht1).trans wipe_wipe
    refine g8 _ ⟨ew1, ?_⟩
    have T78 := t7.trans t8
    refine ⟨w7, s7, _, _, R8, z7, ⟨fun b s9 b' w9 H9 t9 R9 eb z9 => ?_, fun e s' w' H' c dd le R' hx hf => (fe _ _ hf).elim⟩⟩
    subst eb
    have again1 : ∀ (w5' : Wd) (s5 : S) (H5 : Hp) (us5 : List V) (acc5 : List D), w5.le w5' → To σ w s H1 σ8 w5' s5 H5 → BRel K B w5' s5 σ8 H5 → Out σ8 w5' s5 H5 A (.lst us5) → Reps K w5' acc5 us5 → dFold vs1 t1 tt1 elt (l1.drop (j + 1)) acc5 (s5.wipe vs1) (fun acc' s4 => dFold2 vs vs1 t tt src1 t1 tt1 elt (l.drop (i + 1)) acc' (s4.wipe vs) FQ FE) FE → PvI (j + 1) H5 :=
      fun w5' s5 H5 us5 acc5 le5 t5 R5 o5 r5 z5 => by
        have Tw := To.wipe (σ := σ8) (w := w5') (s := s5) (H := H5) (vs := vs1) (σ' := σ8) rfl
        have Rw := R5.wipe (vs := vs1) (σ' := σ8) rfl
        rw [ew1] at Tw Rw
        exact ⟨w5', s5.wipe vs1, acc5, us5, le5, t5.trans Tw, Rw, Tw.fr A _ o5, r5, z5⟩
    have T9 := T78.trans t9
    cases b' with
    | false =>
      rw [if_neg Bool.false_ne_true] at z9 ⊢
      exact again1 w9 s9 H9 us acc (le6.trans T9.le) (T6.trans T9) R9 (T9.fr A _ o6) (r6.mono T9.le) z9
    | true =>
      rw [if_pos rfl] at z9 ⊢
      refine ⟨w9, s9, _, _, R9, z9, ⟨fun y s10 v10 w10 H10 t10 R10 ry z10 => ?_, fun e s' w' H' c dd le R' hx hf => (fe _ _ hf).elim⟩⟩
      have T10 := T9.trans t10
      have o10 := T10.fr A _ o6
      have ry : Rep K w10 y v10 := ry
      have r10 := r6.mono T10.le
      refine ⟨us, o10.at_, by rw [r6.length]; exact z10.1, ?_⟩
      refine again1 w10 s10 _ (us ++ [v10]) (acc ++ [y]) (le6.trans T10.le) ⟨(T6.trans T10).le, fun a o q => ?_⟩ (R10.put o10.f o10.t bA o10.sl) ⟨upd_same, o10.f, o10.t, o10.sl⟩ (r10.append (.one ry)) z10.2
      have na : a ≠ A := fun z => by have := q.at_; rw [z, hA] at this; cases this
      have q' := (T6.trans T10).fr a o q
      exact ⟨by rw [upd_ne na]; exact q'.at_, q'.f, q'.t, q'.sl⟩
end
section
variable {X : Cx} {B : Ent} {W : WX} {elt tg iter tg1 iter1 : Expr} {ifs ifs1 : List Expr} {scope : Scope} {pos : Pos} {t t1 : Tg} {src src1 : M (List D)} {tt tt1 : M Bool} {f : M D}
theorem do_lc2 (own : List (Str × Nat)) (vs1 : List Nat) (hi : DI X B W tg iter src)
    (hg : ∀ (s : Shared) (H : Hp) (C : Addr) (cl : List (Str × Addr)) (fp : List Addr), DG (X.blk s H scope (compEnvC scope cl C X.env) fp) tg t)
    (ht : ∀ (s : Shared) (H : Hp) (C : Addr) (cl : List (Str × Addr)) (fp : List Addr), DTs (X.blk s H scope (compEnvC scope cl C X.env) fp) B W0 ifs tt)
    (hi1 : ∀ (s : Shared) (H : Hp) (C : Addr) (cl : List (Str × Addr)) (fp : List Addr), DI (X.blk s H scope (compEnvC scope cl C X.env) fp) B W0 tg1 iter1 src1)
    (hg1 : ∀ (s : Shared) (H : Hp) (C : Addr) (cl : List (Str × Addr)) (fp : List Addr), DG (X.blk s H scope (compEnvC scope cl C X.env) fp) tg1 t1)
    (ht1 : ∀ (s : Shared) (H : Hp) (C : Addr) (cl : List (Str × Addr)) (fp : List Addr), DTs (X.blk s H scope (compEnvC scope cl C X.env) fp) B W0 ifs1 tt1)
    (he : ∀ (s : Shared) (H : Hp) (C : Addr) (cl : List (Str × Addr)) (fp : List Addr), DE (X.blk s H scope (compEnvC scope cl C X.env) fp) B W0 elt f)
    (hN : X.N.Nodup) (ok : BlkOk X.N X.env.scope scope own := by exact blkOk_by (by rfl)) (hc : X.calm = true := by rfl) (hv : ∀ i ∈ t.sl, i ∈ own.map (·.2) := by decide) (hv1 : ∀ i ∈ t1.sl, i ∈ vs1 := by decide) (hv2 : ∀ i ∈ vs1, i ∈ own.map (·.2) := by decide)
    (hs : ∀ x, foldedSetIterable iter X.env x = pure x := by intro _; rfl) (hs1 : ∀ env x, foldedSetIterable iter1 env x = pure x := by intro _ _; rfl) :
    DO X B W (.ListComp elt [⟨tg, iter, ifs, 0⟩, ⟨tg1, iter1, ifs1, 0⟩] scope pos) (dComp2 (own.map (·.2)) vs1 t src tt t1 src1 tt1 f) :=
  PE.weak (pe_lc2 (own := own) (vs1 := vs1) hc hN hi ok hv2 (fun s H C cl fp => (hg s H C cl fp).h) ht hi1 (fun s H C cl fp => (hg1 s H C cl fp).h) ht1 he hs hs1) fun _ _ _ q => lc2_of hv hv1 hv2 q
end
end DL

/-! ### a call that only reads: cells given as trees; e.append(y), e a cell -/
namespace DL
open PySem PySem.Spec PyProof.Rows L2
mutual
def noRef : D → Bool
  | .tup l => noRefs l
  | .lst l => noRefs l
  | .dct _ l => noRefs l
  | .exc _ _ l => noRefs l
  | .ins _ _ l => noRefs l
  | .ref _ => false
  | .fn _ _ _ _ => true
  | .non => true
  | .bl _ => true
  | .int _ => true
  | .str _ => true
  | .scr => true
def noRefs : List D → Bool
  | [] => true
  | d :: ds => noRef d && noRefs ds
end
mutual
def res (m : List SO) : D → Option D
  | .ref n => match m[n]? with
    | some (.cel l) => if noRefs l = true then some (.lst l) else none
    | _ => none
  | .lst l => (ress m l).map .lst
  | .tup l => (ress m l).map .tup
  | .dct ks l => if noRefs l = true then some (.dct ks l) else none
  | .exc c ks l => if noRefs l = true then some (.exc c ks l) else none
  | .ins c ks l => if noRefs l = true then some (.ins c ks l) else none
  | .fn a b c d => some (.fn a b c d)
  | .non => some .non
  | .bl b => some (.bl b)
  | .int i => some (.int i)
  | .str x => some (.str x)
  | .scr => some .scr
def ress (m : List SO) : List D → Option (List D)
  | [] => some []
  | d :: ds => (res m d).bind fun x => (ress m ds).map fun xs => x :: xs
end
section
variable {K : PySem.W.Frag} {w w' : Wd}
mutual
theorem Rep.free (h : Same w.F w'.F) (hc : w'.cs = w.cs) : ∀ {d : D} {v : V}, noRef d = true → Rep K w d v → Rep K w' d v
  | .non, _, _, r => r
  | .bl _, _, _, r => r
  | .int _, _, _, r => r
  | .str _, _, _, r => r
  | .tup ds, v, n, r => by
    simp only [Rep] at r ⊢
    obtain ⟨a, vs, e, q, z⟩ := r
    exact ⟨a, vs, e, same_t h q, Reps.free h hc (by simpa only [noRef] using n) z⟩
  | .lst ds, v, n, r => by
    simp only [Rep] at r ⊢
    obtain ⟨a, vs, e, q, z⟩ := r
    exact ⟨a, vs, e, h _ _ q, Reps.free h hc (by simpa only [noRef] using n) z⟩
  | .dct ks ds, v, n, r => by
    simp only [Rep] at r ⊢
    obtain ⟨a, vs, e, q, l, z⟩ := r
    exact ⟨a, vs, e, h _ _ q, l, Reps.free h hc (by simpa only [noRef] using n) z⟩
  | .scr, v, _, r => by
    simp only [Rep] at r ⊢
    obtain ⟨a, ns, e, q, z⟩ := r
    exact ⟨a, ns, e, same_l h q, z⟩
  | .ref n, v, q, _ => by simp [noRef] at q
  | .fn _ ps b sc, v, _, r => by
    simp only [Rep] at r ⊢
    obtain ⟨f, c', q, e, q1, q2⟩ := r
    exact ⟨f, c', q, e, by rw [hc]; exact h _ _ q1, h _ _ q2⟩
  | .exc c ks ds, v, n, r => by
    simp only [Rep] at r ⊢
    obtain ⟨a, C, dx, vs, e, m, q1, q2, l, z⟩ := r
    exact ⟨a, C, dx, vs, e, m, h _ _ q1, h _ _ q2, l, Reps.free h hc (by simpa only [noRef] using n) z⟩
  | .ins c ks ds, v, n, r => by
    simp only [Rep] at r ⊢
    obtain ⟨a, C, dx, vs, e, m, q1, q2, l, z⟩ := r
    exact ⟨a, C, dx, vs, e, m, h _ _ q1, h _ _ q2, l, Reps.free h hc (by simpa only [noRef] using n) z⟩
theorem Reps.free (h : Same w.F w'.F) (hc : w'.cs = w.cs) : ∀ {ds : List D} {vs : List V}, noRefs ds = true → Reps K w ds vs → Reps K w' ds vs
  | [], _, _, r => r
  | d :: ds, vs, n, r => by
    simp only [Reps] at r ⊢
    simp only [noRefs, Bool.and_eq_true] at n
    obtain ⟨v, vs', e, q, z⟩ := r
    exact ⟨v, vs', e, Rep.free h hc n.1 q, Reps.free h hc n.2 z⟩
end
end
section
variable {K : PySem.W.Frag} {B : Ent} {w : Wd} {s : S} {σ : LSt} {H : Hp}
/-- the heap as it stands, all of it -/
def fz (w : Wd) (H : Hp) : Wd := ⟨H, [], w.cs⟩
mutual
theorem res_of (R : BRel K B w s σ H) : ∀ {d d' : D} {v : V}, res s.m d = some d' → Rep K w d v → Rep K (fz w H) d' v
  | .non, _, _, e, r => by simp only [res, Option.some.injEq] at e; subst e; rw [rep_non r]; exact of_non
  | .bl _, _, _, e, r => by simp only [res, Option.some.injEq] at e; subst e; rw [rep_bl r]; exact of_bl
  | .int _, _, _, e, r => by simp only [res, Option.some.injEq] at e; subst e; rw [rep_int r]; exact of_int
  | .str _, _, _, e, r => by simp only [res, Option.some.injEq] at e; subst e; rw [rep_str r]; exact of_str
  | .scr, _, _, e, r => by simp only [res, Option.some.injEq] at e; subst e; exact r.free (w' := fz w H) R.sub rfl rfl
  | .fn _ _ _ _, _, _, e, r => by simp only [res, Option.some.injEq] at e; subst e; exact r.free (w' := fz w H) R.sub rfl rfl
  | .dct ks l, _, _, e, r => by
    simp only [res] at e
    split at e
    · rename_i h; cases e; exact r.free (w' := fz w H) R.sub rfl (by simpa only [noRef] using h)
    · cases e
  | .exc c ks l, _, _, e, r => by
    simp only [res] at e
    split at e
    · rename_i h; cases e; exact r.free (w' := fz w H) R.sub rfl (by simpa only [noRef] using h)
    · cases e
  | .ins c ks l, _, _, e, r => by
    simp only [res] at e
    split at e
    · rename_i h; cases e; exact r.free (w' := fz w H) R.sub rfl (by simpa only [noRef] using h)
    · cases e
  | .ref n, _, v, e, r => by
    simp only [res] at e
    split at e
    · rename_i l hm
      split at e
      · rename_i h
        cases e
        obtain ⟨a, rfl, ha⟩ := rep_ref r
        obtain ⟨vs, q1, z⟩ := R.st.ob _ _ a hm ha
        simp only [Rep]
        exact ⟨a, vs, rfl, q1, z.free (w' := fz w H) R.sub rfl h⟩
      · cases e
    · cases e
  | .lst l, _, _, e, r => by
    simp only [res, Option.map_eq_some_iff] at e
    obtain ⟨l', e, rfl⟩ := e
    simp only [Rep] at r ⊢
    obtain ⟨a, vs, e1, q, z⟩ := r
    exact ⟨a, vs, e1, R.sub _ _ q, ress_of R e z⟩
  | .tup l, _, _, e, r => by
    simp only [res, Option.map_eq_some_iff] at e
    obtain ⟨l', e, rfl⟩ := e
    simp only [Rep] at r ⊢
    obtain ⟨a, vs, e1, q, z⟩ := r
    exact ⟨a, vs, e1, same_t R.sub q, ress_of R e z⟩
theorem ress_of (R : BRel K B w s σ H) : ∀ {d d' : List D} {v : List V}, ress s.m d = some d' → Reps K w d v → Reps K (fz w H) d' v
  | [], _, _, e, r => by
    simp only [ress, Option.some.injEq] at e
    subst e
    simp only [Reps] at r
    subst r
    exact .nil
  | d :: ds, _, _, e, r => by
    simp only [ress, Option.bind_eq_some_iff, Option.map_eq_some_iff] at e
    obtain ⟨x, e1, xs, e2, rfl⟩ := e
    simp only [Reps] at r
    obtain ⟨v, vs, rfl, r1, r2⟩ := r
    exact .cons (res_of R e1 r1) (ress_of R e2 r2)
end
/-- more stands than stood -/
theorem BRel.ext {H' : Hp} (R : BRel K B w s σ H) (h : Same H H') : BRel K B w s σ H' := by
  refine ⟨R.sub.trans h, ⟨R.st.len, R.st.nd, R.st.out, fun n ob b h1 h2 => ?_⟩, R.len, R.val, fun i e q => ?_, R.sep, R.ent, fun b x h1 h2 => h _ _ (R.keep b x h1 h2), R.fnew, R.tnew, R.lv⟩
  · have o := R.st.ob n ob b h1 h2
    obtain ⟨x, hx⟩ := o.some
    exact o.mono (.refl w) (by rw [hx]; exact h _ _ hx)
  · obtain ⟨b, x, h1, h2, h3⟩ := R.own i e q
    exact ⟨b, x, h1, h _ _ h2, h3⟩
theorem To.ext {H' : Hp} (h : Same H H') : To σ w s H σ w s H' := ⟨.refl w, fun a u q => ⟨h _ _ q.at_, q.f, q.t, q.sl⟩⟩
theorem flat_any {w' : Wd} {d : D} {v : V} (h : d.flat = true) (r : Rep K w d v) : Rep K w' d v := by
  cases d <;> first | (simp [D.flat] at h; done) | skip
  all_goals simp only [Rep] at r ⊢; exact r
end
/-- a def that reads alone: cells are given to it as lists that stand still -/
def dLend (n : Nat) (F : Fn) (f : M (List D)) : M D := f.bnd fun ds s Q _ => ds.length = n ∧ onSome (ress s.m ds) fun ds' => F ds' [] (fun d fr _ => fr = false ∧ d.flat = true ∧ Q d s) fun _ _ => False
theorem spD_lend {K : PySem.W.Frag} {B : Ent} {W : WX} {n : Nat} {F : Fn} {w : Wd} {s : S} {σ : LSt} {H : Hp} {ds ds' : List D} {vs : List V} {QD : D → S → Prop} {ED : Ex → S → Prop} {Q : VK} {E : XK} (R : BRel K B w s σ H) (r : Reps K w ds vs) (hn : vs.length = n) (e : ress s.m ds = some ds')
    (h : F ds' [] (fun d fr _ => fr = false ∧ d.flat = true ∧ QD d s) fun _ _ => False) (p : Post K B W σ (rE K) w s H QD ED Q) : spD K B.X n F vs H Q E := by
  refine ⟨fz w H, ds', [], _, _, .refl _, ⟨rfl, .nil, fun a ha => absurd ha (by simp [fz]), fun n o a h1 _ => by simp at h1⟩, ress_of R e r, hn, h, fun d fr m' v w' H' c rv z => ?_, fun e m' w' H' c dd ok hx z => z.elim⟩
  obtain ⟨rfl, hf, z⟩ := z
  have hS : Same H H' := fun a o h => c.keep a o h (by simp [fz])
  have rv : Rep K w' d v := rv
  exact p.ok d s v w H' (To.ext hS) (R.ext hS) (flat_any hf rv) z
section
variable {X : Cx} {B : Ent} {W : WX} {e o : Expr} {es : List Expr} {fl : M (List D)} {f g : M D} {x : Str} {p pos apos cpos : Pos} {k : Nat} {F : Fn}
theorem de_lend {n : Nat} (G : DefOk X.prog X.w X.K X.mg X.base B.X k x n F) (hr : Room k X.A) (tk : Takes X W) (ha : DA X B W (e :: es) fl) (hg : Gl X x := by rfl) (hdb : (x == ("__debug__" : Str)) = false := by decide) (he : starEach (e :: es) X.env = (false, eval e X.env) :: starEach es X.env := by rfl) (hpl : (backTo pos (starEach es X.env)).any (·.1) = false := by rfl) :
    DE X B W (.Call (.Name x p) (e :: es) [] pos) (dLend n F fl) := by
  obtain ⟨f, fd, ps, G, hm, hk, hb, hn⟩ := G.ex
  exact PE.weak (pe_callS (E := WE W) G hr hg hm hk hb (fun σ => passAt tk σ) ha hdb he hpl) fun σ H Q q => by
    refine tG.seq (back_E _) q fun ds s vs w H' QD ED _ _ r rv z pp => ?_
    have rv : Reps X.K w ds vs := rv
    obtain ⟨z1, z2⟩ := z
    obtain ⟨ds', e, z⟩ := onSome_ex z2
    exact spD_lend r rv (lenOf rv z1) e z pp
/-- e.append(y) -/
def celN (s : S) (n : Nat) : Option (List D) := match s.m[n]? with
  | some (.cel l) => some l
  | _ => none
def celR (s : S) (d : D) : Option Nat := match d with
  | .ref n => if (celN s n).isSome = true then some n else none
  | _ => none
def dAppE (f g : M D) : MS := fun DD s => f s (fun d s1 => onSome (celR s1 d) fun n => g s1 (fun y s2 => onSome (celN s2 n) fun l => l.length < sizeLine ∧ DD.nx { s2 with m := s2.m.set n (.cel (l ++ [y])) }) DD.ex) DD.ex
theorem celN_some {s : S} {n : Nat} {l : List D} (h : celN s n = some l) : s.m[n]? = some (.cel l) := by
  unfold celN at h
  split at h
  · rename_i l' e; cases h; exact e
  · cases h
theorem ds_appE (ho : DE X B W o f) (he : DE X B W e g)
    (hbase : attributeBase o "append" X.env (eval o X.env) = eval o X.env := by rfl)
    (hfew : ((backTo cpos (starEach [e] X.env)).all (fun x => !x.1) && (backToKw cpos (keywordEach [] X.env)).all (fun x => x.1.isSome) && decide ([e].length + ([] : List Keyword).length + (if ([] : List Keyword).isEmpty then 0 else 1) < 30)) = true := by rfl)
    (hline : (apos.endLine == cpos.line) = true := by rfl) (hs : starEach [e] X.env = (false, eval e X.env) :: starEach [] X.env := by rfl) (hplain : (backTo cpos (starEach [] X.env)).any (·.1) = false := by rfl)
    (hsw : swapsWith (.Call (.Attribute o "append" apos) [e] [] cpos) none pos.line X.env = pure false := by rfl) :
    DS X B W (.Expr (.Call (.Attribute o "append" apos) [e] [] cpos) pos) (dAppE f g) :=
  PS.weak (ps_expr (pe_bm PySem.F.plainAttrs_list PySem.F.slot_list_append PySem.F.type_list_append mt_append ho (pa_cons he pa_nil hs) hbase hfew hline hs hplain) hsw) fun D σ H q => by
    obtain ⟨w, s, DD, r, q, pp⟩ := q
    refine ⟨w, s, _, _, r, q, ⟨fun d s1 v w1 H1 t1 r1 rd z => ?_, fun e s' w' H' c dd le => pp.ex e s' w' σ H' c dd le⟩⟩
    replace z := onSome_ex z
    obtain ⟨n, e1, z⟩ := z
    have rd : Rep X.K w1 d v := rd
    cases d <;> simp only [celR] at e1 <;> first | (cases e1; done) | skip
    split at e1
    case isFalse => cases e1
    rename_i h0
    cases e1
    obtain ⟨l0, h0⟩ := Option.isSome_iff_exists.mp h0
    obtain ⟨a, rfl, ha⟩ := rep_ref rd
    obtain ⟨vs0, q1, _⟩ := r1.st.ob _ _ a (celN_some h0) ha
    refine ⟨.inl ⟨rfl, vs0, .inl (.inl q1)⟩, ?_⟩
    refine ⟨w1, s1, _, _, r1, z, ⟨fun y s2 v2 w2 H2 t2 r2 ry z => ?_, fun e s' w' H' c dd le => pp.ex e s' w' σ H' c dd (t1.le.trans le)⟩⟩
    obtain ⟨l, e2, hz, z⟩ := onSome_ex z
    have ha2 : w2.th[_]? = some a := th_mono t2.le ha
    obtain ⟨vs, q2, rl⟩ := r2.st.ob _ _ a (celN_some e2) ha2
    have ry : Rep X.K w2 y v2 := ry
    refine ⟨a, vs, v2, rfl, rfl, q2, by rw [rl.length]; exact hz, ?_⟩
    exact pp.nx _ w2 σ _ ((t1.trans t2).trans (To.cell ha2)) (r2.cell (celN_some e2) ha2 (rl.append (.one ry))) z
end
end DL

/-! ### rows: sorted sets, lent cells, cells of a list, two generators -/
namespace DL
open PySem PySem.Spec PyProof.Rows L2
def srtD (d : D) (s : S) (Q : D → S → Prop) : Prop := match d with
  | .lst l => onSome (strsOf l) fun xs => xs.length < 64 ∧ Q (.lst ((srt xs).map D.str)) s
  | _ => False
structure Fold2X where
  vs : List Nat
  vs1 : List Nat
  t : Tg
  tt : M Bool
  src1 : M (List D)
  t1 : Tg
  tt1 : M Bool
  elt : M D
  Q : List D → S → Prop
  E : Ex → S → Prop
def fold2T (x : Fold2X) (_ : Tag x) (l acc : List D) (s : S) : Prop := dFold2 x.vs x.vs1 x.t x.tt x.src1 x.t1 x.tt1 x.elt l acc s x.Q x.E
section
variable {s : S} {Q : D → S → Prop} {E : Ex → S → Prop} {DD : DEnd}
theorem ev_srtE (f : M D) : dSrt f s Q E = f s (fun d s' => srtD d s' Q) E := id rfl
theorem ev_srtD (l : List D) : srtD (.lst l) s Q = onSome (strsOf l) fun xs => xs.length < 64 ∧ Q (.lst ((srt xs).map D.str)) s := id rfl
theorem ev_lend (n : Nat) (F : Fn) (fl : M (List D)) : dLend n F fl s Q E = fl s (fun ds s1 => ds.length = n ∧ onSome (ress s1.m ds) fun ds' => F ds' [] (fun d fr _ => fr = false ∧ d.flat = true ∧ Q d s1) fun _ _ => False) E := id rfl
theorem ev_appE (f g : M D) : dAppE f g DD s = f s (fun d s1 => onSome (celR s1 d) fun n => g s1 (fun y s2 => onSome (celN s2 n) fun l => l.length < sizeLine ∧ DD.nx { s2 with m := s2.m.set n (.cel (l ++ [y])) }) DD.ex) DD.ex := id rfl
theorem ev_comp2 (vs vs1 : List Nat) (t : Tg) (src : M (List D)) (tt : M Bool) (t1 : Tg) (src1 : M (List D)) (tt1 : M Bool) (elt : M D) : dComp2 vs vs1 t src tt t1 src1 tt1 elt s Q E = src s (fun l s1 => noOwn vs s1.d ∧ dFold2 vs vs1 t tt src1 t1 tt1 elt l [] (s1.wipe vs) (fun acc s' => Q (.lst acc) { s' with d := restD s1.d s'.d vs }) (fun _ _ => False)) E := id rfl
theorem fold2_T (vs vs1 : List Nat) (t : Tg) (tt : M Bool) (src1 : M (List D)) (t1 : Tg) (tt1 : M Bool) (elt : M D) (l acc : List D) (s : S) (Q : List D → S → Prop) (E : Ex → S → Prop) : dFold2 vs vs1 t tt src1 t1 tt1 elt l acc s Q E = fold2T ⟨vs, vs1, t, tt, src1, t1, tt1, elt, Q, E⟩ .it l acc s := id rfl
theorem fold2T_b (vs vs1 : List Nat) (t : Tg) (tt : M Bool) (src1 : M (List D)) (t1 : Tg) (tt1 : M Bool) (elt : M D) (l acc : List D) (s : S) (Q : List D → S → Prop) (E : Ex → S → Prop) (u : Tag (⟨vs, vs1, t, tt, src1, t1, tt1, elt, Q, E⟩ : Fold2X)) : fold2T ⟨vs, vs1, t, tt, src1, t1, tt1, elt, Q, E⟩ u l acc s = dFold2 vs vs1 t tt src1 t1 tt1 elt l acc s Q E := id rfl
end
end DL

/-! ### texts that are written: told apart -/
namespace DL
open PySem PySem.Spec PyProof.Rows L2
theorem ne_wished_not : ((PySem.Str.ofString "wished") = PySem.Str.ofString "not") = False := eq_false (by decide +kernel)
theorem ne_wished_marked : ((PySem.Str.ofString "wished") = PySem.Str.ofString "marked") = False := eq_false (by decide +kernel)
theorem ne_told_not : ((PySem.Str.ofString "told") = PySem.Str.ofString "not") = False := eq_false (by decide +kernel)
theorem ne_told_marked : ((PySem.Str.ofString "told") = PySem.Str.ofString "marked") = False := eq_false (by decide +kernel)
theorem ne_cell_not : ((PySem.Str.ofString "cell") = PySem.Str.ofString "not") = False := eq_false (by decide +kernel)
theorem ne_cell_marked : ((PySem.Str.ofString "cell") = PySem.Str.ofString "marked") = False := eq_false (by decide +kernel)
theorem ne_saved_not : ((PySem.Str.ofString "saved") = PySem.Str.ofString "not") = False := eq_false (by decide +kernel)
theorem ne_saved_marked : ((PySem.Str.ofString "saved") = PySem.Str.ofString "marked") = False := eq_false (by decide +kernel)
theorem ne_marked_not : ((PySem.Str.ofString "marked") = PySem.Str.ofString "not") = False := eq_false (by decide +kernel)
theorem ne_not_marked : ((PySem.Str.ofString "not") = PySem.Str.ofString "marked") = False := eq_false (by decide +kernel)
theorem ne_save_pause : ((PySem.Str.ofString "save") = PySem.Str.ofString "pause") = False := eq_false (by decide +kernel)
theorem ne_save_if : ((PySem.Str.ofString "save") = PySem.Str.ofString "if") = False := eq_false (by decide +kernel)
theorem ne_save_mark : ((PySem.Str.ofString "save") = PySem.Str.ofString "mark") = False := eq_false (by decide +kernel)
theorem ne_save_unmark : ((PySem.Str.ofString "save") = PySem.Str.ofString "unmark") = False := eq_false (by decide +kernel)
theorem ne_lay_pause : ((PySem.Str.ofString "lay") = PySem.Str.ofString "pause") = False := eq_false (by decide +kernel)
theorem ne_lay_if : ((PySem.Str.ofString "lay") = PySem.Str.ofString "if") = False := eq_false (by decide +kernel)
theorem ne_lay_mark : ((PySem.Str.ofString "lay") = PySem.Str.ofString "mark") = False := eq_false (by decide +kernel)
theorem ne_lay_unmark : ((PySem.Str.ofString "lay") = PySem.Str.ofString "unmark") = False := eq_false (by decide +kernel)
theorem ne_lift_pause : ((PySem.Str.ofString "lift") = PySem.Str.ofString "pause") = False := eq_false (by decide +kernel)
theorem ne_lift_if : ((PySem.Str.ofString "lift") = PySem.Str.ofString "if") = False := eq_false (by decide +kernel)
theorem ne_lift_mark : ((PySem.Str.ofString "lift") = PySem.Str.ofString "mark") = False := eq_false (by decide +kernel)
theorem ne_lift_unmark : ((PySem.Str.ofString "lift") = PySem.Str.ofString "unmark") = False := eq_false (by decide +kernel)
theorem ne_tell_pause : ((PySem.Str.ofString "tell") = PySem.Str.ofString "pause") = False := eq_false (by decide +kernel)
theorem ne_tell_if : ((PySem.Str.ofString "tell") = PySem.Str.ofString "if") = False := eq_false (by decide +kernel)
theorem ne_tell_mark : ((PySem.Str.ofString "tell") = PySem.Str.ofString "mark") = False := eq_false (by decide +kernel)
theorem ne_tell_unmark : ((PySem.Str.ofString "tell") = PySem.Str.ofString "unmark") = False := eq_false (by decide +kernel)
theorem ne_back_pause : ((PySem.Str.ofString "back") = PySem.Str.ofString "pause") = False := eq_false (by decide +kernel)
theorem ne_back_if : ((PySem.Str.ofString "back") = PySem.Str.ofString "if") = False := eq_false (by decide +kernel)
theorem ne_back_mark : ((PySem.Str.ofString "back") = PySem.Str.ofString "mark") = False := eq_false (by decide +kernel)
theorem ne_back_unmark : ((PySem.Str.ofString "back") = PySem.Str.ofString "unmark") = False := eq_false (by decide +kernel)
theorem ne_hold_pause : ((PySem.Str.ofString "hold") = PySem.Str.ofString "pause") = False := eq_false (by decide +kernel)
theorem ne_hold_if : ((PySem.Str.ofString "hold") = PySem.Str.ofString "if") = False := eq_false (by decide +kernel)
theorem ne_hold_mark : ((PySem.Str.ofString "hold") = PySem.Str.ofString "mark") = False := eq_false (by decide +kernel)
theorem ne_hold_unmark : ((PySem.Str.ofString "hold") = PySem.Str.ofString "unmark") = False := eq_false (by decide +kernel)
theorem ne_step_pause : ((PySem.Str.ofString "step") = PySem.Str.ofString "pause") = False := eq_false (by decide +kernel)
theorem ne_step_if : ((PySem.Str.ofString "step") = PySem.Str.ofString "if") = False := eq_false (by decide +kernel)
theorem ne_step_mark : ((PySem.Str.ofString "step") = PySem.Str.ofString "mark") = False := eq_false (by decide +kernel)
theorem ne_step_unmark : ((PySem.Str.ofString "step") = PySem.Str.ofString "unmark") = False := eq_false (by decide +kernel)
theorem ne_aside_pause : ((PySem.Str.ofString "aside") = PySem.Str.ofString "pause") = False := eq_false (by decide +kernel)
theorem ne_aside_if : ((PySem.Str.ofString "aside") = PySem.Str.ofString "if") = False := eq_false (by decide +kernel)
theorem ne_aside_mark : ((PySem.Str.ofString "aside") = PySem.Str.ofString "mark") = False := eq_false (by decide +kernel)
theorem ne_aside_unmark : ((PySem.Str.ofString "aside") = PySem.Str.ofString "unmark") = False := eq_false (by decide +kernel)
theorem ne_scrub_pause : ((PySem.Str.ofString "scrub") = PySem.Str.ofString "pause") = False := eq_false (by decide +kernel)
theorem ne_scrub_if : ((PySem.Str.ofString "scrub") = PySem.Str.ofString "if") = False := eq_false (by decide +kernel)
theorem ne_scrub_mark : ((PySem.Str.ofString "scrub") = PySem.Str.ofString "mark") = False := eq_false (by decide +kernel)
theorem ne_scrub_unmark : ((PySem.Str.ofString "scrub") = PySem.Str.ofString "unmark") = False := eq_false (by decide +kernel)
theorem ne_mark_pause : ((PySem.Str.ofString "mark") = PySem.Str.ofString "pause") = False := eq_false (by decide +kernel)
theorem ne_mark_if : ((PySem.Str.ofString "mark") = PySem.Str.ofString "if") = False := eq_false (by decide +kernel)
theorem ne_mark_unmark : ((PySem.Str.ofString "mark") = PySem.Str.ofString "unmark") = False := eq_false (by decide +kernel)
theorem ne_unmark_pause : ((PySem.Str.ofString "unmark") = PySem.Str.ofString "pause") = False := eq_false (by decide +kernel)
theorem ne_unmark_if : ((PySem.Str.ofString "unmark") = PySem.Str.ofString "if") = False := eq_false (by decide +kernel)
theorem ne_unmark_mark : ((PySem.Str.ofString "unmark") = PySem.Str.ofString "mark") = False := eq_false (by decide +kernel)
theorem ne_pause_if : ((PySem.Str.ofString "pause") = PySem.Str.ofString "if") = False := eq_false (by decide +kernel)
theorem ne_pause_mark : ((PySem.Str.ofString "pause") = PySem.Str.ofString "mark") = False := eq_false (by decide +kernel)
theorem ne_pause_unmark : ((PySem.Str.ofString "pause") = PySem.Str.ofString "unmark") = False := eq_false (by decide +kernel)
theorem ne_if_pause : ((PySem.Str.ofString "if") = PySem.Str.ofString "pause") = False := eq_false (by decide +kernel)
theorem ne_if_mark : ((PySem.Str.ofString "if") = PySem.Str.ofString "mark") = False := eq_false (by decide +kernel)
theorem ne_if_unmark : ((PySem.Str.ofString "if") = PySem.Str.ofString "unmark") = False := eq_false (by decide +kernel)
theorem inQ_ss (z a b : Str) : inQ (.str z) (.tup [.str a, .str b]) = some (decide (z = a ∨ z = b)) := by
  show some ((a == z) || ((b == z) || false)) = _
  congr 1
  rw [Bool.or_false]
  by_cases h1 : z = a
  · simp [h1]
  · by_cases h2 : z = b
    · simp [h2]
    · have e1 : (a == z) = false := beq_eq_false_iff_ne.mpr fun e => h1 e.symm
      have e2 : (b == z) = false := beq_eq_false_iff_ne.mpr fun e => h2 e.symm
      simp [h1, h2, e1, e2]
theorem strsOf_1 (a : Str) : strsOf [.str a] = some [a] := id rfl
theorem strsOf_2 (a b : Str) : strsOf [.str a, .str b] = some [a, b] := id rfl
theorem sp_len : (PySem.Str.ofString " ").length = 1 := by decide +kernel
theorem join1 {a : Str} (h : a.length ≤ 8) : (List.map (fun x : Str => x.length) [a]).sum + [a].length * (PySem.Str.ofString " ").length ≤ 16777216 := by
  rw [sp_len]; simp; omega
theorem join2 {a b : Str} (h : a.length ≤ 8) (k : b.length ≤ 8) : (List.map (fun x : Str => x.length) [a, b]).sum + [a, b].length * (PySem.Str.ofString " ").length ≤ 16777216 := by
  rw [sp_len]; simp; omega
theorem jn1 (s a : Str) : Txt.join s [a] = a := by
  apply cp_inj
  simp [Txt.join, cp, Builtin.Str.glued]
theorem jn2 (s a b : Str) : Txt.join s [a, b] = a ++ s ++ b := by
  apply cp_inj
  rw [cp_app, cp_app]
  simp [Txt.join, cp, Builtin.Str.glued]
theorem emp_app (x : Str) : Str.empty ++ x = x := by
  apply cp_inj
  rw [cp_app]
  have : cp Str.empty = [] := by decide +kernel
  rw [this, List.nil_append]
theorem jn2_len {a b : Str} (h : a.length ≤ 8) (k : b.length ≤ 8) : (Txt.join (PySem.Str.ofString " ") [a, b]).length ≤ 17 := by
  rw [jn2, app_len, app_len, sp_len]; omega
theorem jn1_len {a : Str} (h : a.length ≤ 8) : (Txt.join (PySem.Str.ofString " ") [a]).length ≤ 17 := by
  rw [jn1]; omega
theorem st5 (n : Nat) (a b c d e : D) : startD (n + 5) [a, b, c, d, e] = some (a, false) :: some (b, false) :: some (c, false) :: some (d, false) :: some (e, false) :: List.replicate n none := by unfold startD; simp
theorem st6 (n : Nat) (a b c d e f : D) : startD (n + 6) [a, b, c, d, e, f] = some (a, false) :: some (b, false) :: some (c, false) :: some (d, false) :: some (e, false) :: some (f, false) :: List.replicate n none := by unfold startD; simp
end DL

namespace K05
open PySem PySem.Spec PyProof.Rows L2 DL
def topS (i : Nat) : Stmt := PySem.Challenge.pw_laidstops_k05_lines_marks_and_sizes.main.body.getD i (.Pass ⟨0, 0, 0, 0⟩)
abbrev s_inner_rows : Stmt := topS 2
abbrev s_test_text : Stmt := topS 3
abbrev s_command_lines : Stmt := topS 4
abbrev s_lines_of : Stmt := topS 5
abbrev s_test_marks : Stmt := topS 6
abbrev s_all_marks : Stmt := topS 7
abbrev s_marks_of : Stmt := topS 8
abbrev s_all_commands : Stmt := topS 9
abbrev s_size_of : Stmt := topS 10
abbrev s_draws : Stmt := topS 12
abbrev s_pull : Stmt := topS 13
abbrev s_any : Stmt := topS 14
abbrev s_like : Stmt := topS 15
abbrev s_names : Stmt := topS 16
abbrev s_events : Stmt := topS 17
abbrev s_test : Stmt := topS 18
abbrev s_simple : Stmt := topS 19
abbrev s_command : Stmt := topS 20
abbrev s_commands : Stmt := topS 21
abbrev s_inner : Stmt := topS 22
abbrev s_whole : Stmt := topS 23
abbrev s_all : Stmt := topS 24
abbrev s_test_words : Stmt := topS 25
abbrev s_lines : Stmt := topS 26
abbrev s_all_lines : Stmt := topS 27
abbrev s_marks : Stmt := topS 28
abbrev s_law : Stmt := topS 29
def c_MARKING : D := .tup [.str "mark", .str "unmark"]
/-- what the top has written -/
structure Txt (P : Program) (wd : World) (K : PySem.W.Frag) (mg : Str → Option Value) : Prop where
  b_all : mg "all" = none
  b_bool : mg "bool" = none
  b_int : mg "int" = none
  b_isinstance : mg "isinstance" = none
  b_len : mg "len" = none
  b_list : mg "list" = none
  b_range : mg "range" = none
  b_set : mg "set" = none
  b_sorted : mg "sorted" = none
  b_str : mg "str" = none
  b_tuple : mg "tuple" = none
  b_zip : mg "zip" = none
  g_MARKING : Glb K mg "MARKING" c_MARKING
  u_inner_rows : ∃ f fd, mg "inner_rows" = some (.ref f) ∧ Fun K "inner_rows" "inner_rows" s_inner_rows f fd ∧ Binds K fd ["command"] []
  u_test_text : ∃ f fd, mg "test_text" = some (.ref f) ∧ Fun K "test_text" "test_text" s_test_text f fd ∧ Binds K fd ["test"] []
  u_command_lines : ∃ f fd, mg "command_lines" = some (.ref f) ∧ Fun K "command_lines" "command_lines" s_command_lines f fd ∧ Binds K fd ["command"] []
  u_lines_of : ∃ f fd, mg "lines_of" = some (.ref f) ∧ Fun K "lines_of" "lines_of" s_lines_of f fd ∧ Binds K fd ["commands"] []
  u_test_marks : ∃ f fd, mg "test_marks" = some (.ref f) ∧ Fun K "test_marks" "test_marks" s_test_marks f fd ∧ Binds K fd ["test"] []
  u_all_marks : ∃ f fd, mg "all_marks" = some (.ref f) ∧ Fun K "all_marks" "all_marks" s_all_marks f fd ∧ Binds K fd ["commands"] []
  u_marks_of : ∃ f fd, mg "marks_of" = some (.ref f) ∧ Fun K "marks_of" "marks_of" s_marks_of f fd ∧ Binds K fd ["commands"] []
  u_all_commands : ∃ f fd, mg "all_commands" = some (.ref f) ∧ Fun K "all_commands" "all_commands" s_all_commands f fd ∧ Binds K fd ["commands"] []
  u_size_of : ∃ f fd, mg "size_of" = some (.ref f) ∧ Fun K "size_of" "size_of" s_size_of f fd ∧ Binds K fd ["commands"] []
  u_draws : ∃ f fd, mg "_law_draws" = some (.ref f) ∧ Fun K "_law_draws" "_law_draws" s_draws f fd ∧ Binds K fd ["_law_script"] []
  u_pull : ∃ f fd, mg "_law_pull" = some (.ref f) ∧ Fun K "_law_pull" "_law_pull" s_pull f fd ∧ Binds K fd ["_law_bag", "_law_many"] []
  u_any : ∃ f fd, mg "_law_any" = some (.ref f) ∧ Fun K "_law_any" "_law_any" s_any f fd ∧ Binds K fd ["_law_bag", "_law_things"] []
  u_like : ∃ f fd, mg "_law_like" = some (.ref f) ∧ Fun K "_law_like" "_law_like" s_like f fd ∧ Binds K fd ["_law_found", "_law_due"] []
  u_names : ∃ f fd, mg "_law_names" = some (.ref f) ∧ Fun K "_law_names" "_law_names" s_names f fd ∧ Binds K fd ["_law_bag", "_law_many"] []
  u_events : ∃ f fd, mg "_law_events" = some (.ref f) ∧ Fun K "_law_events" "_law_events" s_events f fd ∧ Binds K fd [] []
  u_test : ∃ f fd, mg "_law_test" = some (.ref f) ∧ Fun K "_law_test" "_law_test" s_test f fd ∧ Binds K fd ["_law_bag", "_law_marks_here"] []
  u_simple : ∃ f fd, mg "_law_simple" = some (.ref f) ∧ Fun K "_law_simple" "_law_simple" s_simple f fd ∧ Binds K fd ["_law_bag", "_law_event", "_law_marks_here"] []
  u_command : ∃ f fd, mg "_law_command" = some (.ref f) ∧ Fun K "_law_command" "_law_command" s_command f fd ∧ Binds K fd ["_law_bag", "_law_event", "_law_marks_here", "_law_room", "_law_deep"] []
  u_commands : ∃ f fd, mg "_law_commands" = some (.ref f) ∧ Fun K "_law_commands" "_law_commands" s_commands f fd ∧ Binds K fd ["_law_bag", "_law_event", "_law_marks_here", "_law_room", "_law_deep", "_law_many"] []
  u_inner : ∃ f fd, mg "_law_inner" = some (.ref f) ∧ Fun K "_law_inner" "_law_inner" s_inner f fd ∧ Binds K fd ["_law_command_here"] []
  u_whole : ∃ f fd, mg "_law_whole" = some (.ref f) ∧ Fun K "_law_whole" "_law_whole" s_whole f fd ∧ Binds K fd ["_law_commands_here"] []
  u_all : ∃ f fd, mg "_law_all" = some (.ref f) ∧ Fun K "_law_all" "_law_all" s_all f fd ∧ Binds K fd ["_law_rows"] []
  u_test_words : ∃ f fd, mg "_law_test_words" = some (.ref f) ∧ Fun K "_law_test_words" "_law_test_words" s_test_words f fd ∧ Binds K fd ["_law_test_here"] []
  u_lines : ∃ f fd, mg "_law_lines" = some (.ref f) ∧ Fun K "_law_lines" "_law_lines" s_lines f fd ∧ Binds K fd ["_law_command_here"] []
  u_all_lines : ∃ f fd, mg "_law_all_lines" = some (.ref f) ∧ Fun K "_law_all_lines" "_law_all_lines" s_all_lines f fd ∧ Binds K fd ["_law_commands_here"] []
  u_marks : ∃ f fd, mg "_law_marks" = some (.ref f) ∧ Fun K "_law_marks" "_law_marks" s_marks f fd ∧ Binds K fd ["_law_rows"] []
  u_law : ∃ f fd, mg "law" = some (.ref f) ∧ Fun K "law" "law" s_law f fd ∧ Binds K fd ["_law_script"] []
section
variable {P : Program} {wd : World} {K : PySem.W.Frag} {mg : Str → Option Value} {base : Heap} {xr : XR}
theorem sc_inner_rows : FnScope ["command"] ["command"] (defScope s_inner_rows) := ⟨rfl, rfl, rfl, by decide +kernel, rfl, by decide +kernel, by decide +kernel⟩
def b_inner_rows : MS :=
  (dSeq (dIfS (dTest dEq (dIxV 0 (dC (.int 0))) (dC (.str "pause"))) (dRetO (dLst (daCons (dIxV 0 (dC (.int 1))) daNil))) dNext)
    (dRetO (dIf (dTest dEq (dIxV 0 (dC (.int 0))) (dC (.str "if"))) (dLst (daCons (dIxV 0 (dC (.int 2))) (daCons (dIxV 0 (dC (.int 3))) daNil))) (dLst daNil))))
def F_inner_rows : Fn := dFn 1 b_inner_rows
theorem k_inner_rows (T : Txt P wd K mg) {f : Addr} {fd : FuncData} (F : Fun K "inner_rows" "inner_rows" s_inner_rows f fd) : FnOk P wd K mg base (L2.CX P wd) 1 f fd ["command"] (spD K xr 1 F_inner_rows) := by
  refine fn_ok F sc_inner_rows (by decide) fun cdv A outer s H E w hr => ?_
  exact (dss_cons (ds_if (dt_cmp (op_eq.or (op_eqD hr.units)) opsEq (de_ixV 0 de_int) de_str) (dss_one (ds_retO (do_lst (da_cons (de_ixV 0 de_int) da_nil)))) dss_nil)
    (dss_one (ds_retO (do_if (dt_cmp (op_eq.or (op_eqD hr.units)) opsEq (de_ixV 0 de_int) de_str) (do_lst (da_cons (de_ixV 0 de_int) (da_cons (de_ixV 0 de_int) da_nil))) (do_lst da_nil)))))
theorem d_inner_rows (T : Txt P wd K mg) : DefOk P wd K mg base xr 1 "inner_rows" 1 F_inner_rows := by
  obtain ⟨f, fd, hm, F, hb⟩ := T.u_inner_rows
  exact ⟨f, fd, _, k_inner_rows T F, hm, F.kp, hb, rfl⟩
theorem sc_test_text : FnScope ["test"] ["test"] (defScope s_test_text) := ⟨rfl, rfl, rfl, by decide +kernel, rfl, by decide +kernel, by decide +kernel⟩
def b_test_text (Fr_test_text : Fn) : MS :=
  (dSeq (dIfS (dTest dEq (dIxV 0 (dC (.int 0))) (dC (.str "not"))) (dRet (dJoined [(dC (.str "not ")), (dFmt (dCallN 1 Fr_test_text (daCons (dIxV 0 (dC (.int 1))) daNil)))])) dNext)
    (dRet (dJoin (dC (.str " ")) (dVar 0))))
def F_test_text : Nat → Fn
  | 0 => fun _ _ _ _ => False
  | j + 1 => dFn 1 (b_test_text (F_test_text j))
theorem d_test_text (T : Txt P wd K mg) : ∀ j, DefOk P wd K mg base xr (1 + j) "test_text" 1 (F_test_text j) := by
  obtain ⟨f0, fd0, hm0, F0, hb0⟩ := T.u_test_text
  intro j
  induction j with
  | zero => exact ⟨f0, fd0, ["test"], fn_never F0 rfl, hm0, F0.kp, hb0, rfl⟩
  | succ j ih =>
    have G_test_text := ih
    have r0 : DefOk P wd K mg base xr (1 + (j + 1)) "test_text" 1 (F_test_text (j + 1)) := by
      refine ⟨f0, fd0, ["test"], fn_ok F0 sc_test_text (by decide) fun cdv A outer s H E w hr => ?_, hm0, F0.kp, hb0, rfl⟩
      exact (dss_cons (ds_if (dt_cmp (op_eq.or (op_eqD hr.units)) opsEq (de_ixV 0 de_int) de_str) (dss_one (ds_ret (de_joined (DJ.cons de_str (DJ.cons (de_fmt (de_call G_test_text (hr.mono (by first | omega | exact Nat.le_refl _ | (simp only [Nat.add_eq]; omega))) (takes_of rfl rfl rfl rfl) (da_cons (de_ixV 0 de_int) da_nil))) DJ.nil))))) dss_nil)
    (dss_one (ds_ret (de_join de_str (de_var 0)))))
    exact r0
theorem sc_lines_of : FnScope ["commands", "command", "line"] ["commands"] (defScope s_lines_of) := ⟨rfl, rfl, rfl, by decide +kernel, rfl, by decide +kernel, by decide +kernel⟩
theorem sc_command_lines : FnScope ["command"] ["command"] (defScope s_command_lines) := ⟨rfl, rfl, rfl, by decide +kernel, rfl, by decide +kernel, by decide +kernel⟩
def b_lines_of (Fr_lines_of Fr_command_lines : Fn) : MS :=
  (dRetO (dComp2 [1, 2] [2] (.nm 1) (((dVar 0)).bnd walkable) mTrue (.nm 2) (((dCallNO 1 Fr_command_lines (daCons (dVar 1) daNil))).bnd walkable) mTrue (dVar 2)))
def b_command_lines (Fr_lines_of Fr_command_lines : Fn) : MS :=
  (dSeq (dIfS (dTest dEq (dIxV 0 (dC (.int 0))) (dC (.str "pause"))) (dRetO (dLst (daCons (dC (.str "pause")) (daStar (dCallNO 1 Fr_lines_of (daCons (dIxV 0 (dC (.int 1))) daNil)) (daCons (dC (.str "end")) daNil))))) dNext)
    (dSeq (dIfS (dTest dEq (dIxV 0 (dC (.int 0))) (dC (.str "if"))) (dRetO (dLst (daCons (dJoined [(dC (.str "if ")), (dFmt (dCallN 1 (F_test_text 8) (daCons (dIxV 0 (dC (.int 1))) daNil)))]) (daStar (dCallNO 1 Fr_lines_of (daCons (dIxV 0 (dC (.int 2))) daNil)) (daCons (dC (.str "else")) (daStar (dCallNO 1 Fr_lines_of (daCons (dIxV 0 (dC (.int 3))) daNil)) (daCons (dC (.str "end")) daNil))))))) dNext)
    (dRetO (dLst (daCons (dJoin (dC (.str " ")) (dVar 0)) daNil)))))
mutual
def F_lines_of : Nat → Fn
  | 0 => fun _ _ _ _ => False
  | j + 1 => dFn 3 (b_lines_of (F_lines_of j) (F_command_lines j))
def F_command_lines : Nat → Fn
  | 0 => fun _ _ _ _ => False
  | j + 1 => dFn 1 (b_command_lines (F_lines_of j) (F_command_lines j))
end
theorem d_lines_of_group (T : Txt P wd K mg) : ∀ j, DefOk P wd K mg base xr (10 + j) "lines_of" 1 (F_lines_of j) ∧ DefOk P wd K mg base xr (10 + j) "command_lines" 1 (F_command_lines j) := by
  obtain ⟨f0, fd0, hm0, F0, hb0⟩ := T.u_lines_of
  obtain ⟨f1, fd1, hm1, F1, hb1⟩ := T.u_command_lines
  intro j
  induction j with
  | zero => exact ⟨⟨f0, fd0, ["commands"], fn_never F0 rfl, hm0, F0.kp, hb0, rfl⟩, ⟨f1, fd1, ["command"], fn_never F1 rfl, hm1, F1.kp, hb1, rfl⟩⟩
  | succ j ih =>
    obtain ⟨G_lines_of, G_command_lines⟩ := ih
    have r0 : DefOk P wd K mg base xr (10 + (j + 1)) "lines_of" 1 (F_lines_of (j + 1)) := by
      refine ⟨f0, fd0, ["commands"], fn_ok F0 sc_lines_of (by decide) fun cdv A outer s H E w hr => ?_, hm0, F0.kp, hb0, rfl⟩
      exact (dss_one (ds_retO (do_lc2 [("command", 1), ("line", 2)] [2] (di_seq (de_var 0)) (fun _ _ _ _ _ => (dg_name 1 sc_lines_of.nd)) (fun _ _ _ _ _ => dts_nil) (fun _ _ _ _ _ => (di_seq (de_of (do_call G_command_lines (hr.mono (by first | omega | exact Nat.le_refl _ | (simp only [Nat.add_eq]; omega))) takes0 (da_cons (de_var 1) da_nil))))) (fun _ _ _ _ _ => (dg_name 2 sc_lines_of.nd)) (fun _ _ _ _ _ => dts_nil) (fun _ _ _ _ _ => (de_var 2)) sc_lines_of.nd)))
    have r1 : DefOk P wd K mg base xr (10 + (j + 1)) "command_lines" 1 (F_command_lines (j + 1)) := by
      refine ⟨f1, fd1, ["command"], fn_ok F1 sc_command_lines (by decide) fun cdv A outer s H E w hr => ?_, hm1, F1.kp, hb1, rfl⟩
      exact (dss_cons (ds_if (dt_cmp (op_eq.or (op_eqD hr.units)) opsEq (de_ixV 0 de_int) de_str) (dss_one (ds_retO (do_lst (da_cons de_str (da_star (de_of (do_call G_lines_of (hr.mono (by first | omega | exact Nat.le_refl _ | (simp only [Nat.add_eq]; omega))) (takes_of rfl rfl rfl rfl) (da_cons (de_ixV 0 de_int) da_nil))) (da_cons de_str da_nil)))))) dss_nil)
    (dss_cons (ds_if (dt_cmp (op_eq.or (op_eqD hr.units)) opsEq (de_ixV 0 de_int) de_str) (dss_one (ds_retO (do_lst (da_cons (de_joined (DJ.cons de_str (DJ.cons (de_fmt (de_call (d_test_text T 8) (hr.mono (by first | omega | exact Nat.le_refl _ | (simp only [Nat.add_eq]; omega))) (takes_of rfl rfl rfl rfl) (da_cons (de_ixV 0 de_int) da_nil))) DJ.nil))) (da_star (de_of (do_call G_lines_of (hr.mono (by first | omega | exact Nat.le_refl _ | (simp only [Nat.add_eq]; omega))) (takes_of rfl rfl rfl rfl) (da_cons (de_ixV 0 de_int) da_nil))) (da_cons de_str (da_star (de_of (do_call G_lines_of (hr.mono (by first | omega | exact Nat.le_refl _ | (simp only [Nat.add_eq]; omega))) (takes_of rfl rfl rfl rfl) (da_cons (de_ixV 0 de_int) da_nil))) (da_cons de_str da_nil)))))))) dss_nil)
    (dss_one (ds_retO (do_lst (da_cons (de_join de_str (de_var 0)) da_nil))))))
    exact ⟨r0, r1⟩
theorem d_lines_of (T : Txt P wd K mg) (j : Nat) : DefOk P wd K mg base xr (10 + j) "lines_of" 1 (F_lines_of j) := (d_lines_of_group T j).1
theorem d_command_lines (T : Txt P wd K mg) (j : Nat) : DefOk P wd K mg base xr (10 + j) "command_lines" 1 (F_command_lines j) := (d_lines_of_group T j).2
theorem sc_test_marks : FnScope ["test"] ["test"] (defScope s_test_marks) := ⟨rfl, rfl, rfl, by decide +kernel, rfl, by decide +kernel, by decide +kernel⟩
def b_test_marks (Fr_test_marks : Fn) : MS :=
  (dSeq (dIfS (dTest dEq (dIxV 0 (dC (.int 0))) (dC (.str "not"))) (dRet (dCallN 1 Fr_test_marks (daCons (dIxV 0 (dC (.int 1))) daNil))) dNext)
    (dRetO (dIf (dTest dEq (dIxV 0 (dC (.int 0))) (dC (.str "marked"))) (dLst (daCons (dIxV 0 (dC (.int 1))) daNil)) (dLst daNil))))
def F_test_marks : Nat → Fn
  | 0 => fun _ _ _ _ => False
  | j + 1 => dFn 1 (b_test_marks (F_test_marks j))
theorem d_test_marks (T : Txt P wd K mg) : ∀ j, DefOk P wd K mg base xr (1 + j) "test_marks" 1 (F_test_marks j) := by
  obtain ⟨f0, fd0, hm0, F0, hb0⟩ := T.u_test_marks
  intro j
  induction j with
  | zero => exact ⟨f0, fd0, ["test"], fn_never F0 rfl, hm0, F0.kp, hb0, rfl⟩
  | succ j ih =>
    have G_test_marks := ih
    have r0 : DefOk P wd K mg base xr (1 + (j + 1)) "test_marks" 1 (F_test_marks (j + 1)) := by
      refine ⟨f0, fd0, ["test"], fn_ok F0 sc_test_marks (by decide) fun cdv A outer s H E w hr => ?_, hm0, F0.kp, hb0, rfl⟩
      exact (dss_cons (ds_if (dt_cmp (op_eq.or (op_eqD hr.units)) opsEq (de_ixV 0 de_int) de_str) (dss_one (ds_ret (de_call G_test_marks (hr.mono (by first | omega | exact Nat.le_refl _ | (simp only [Nat.add_eq]; omega))) (takes_of rfl rfl rfl rfl) (da_cons (de_ixV 0 de_int) da_nil)))) dss_nil)
    (dss_one (ds_retO (do_if (dt_cmp (op_eq.or (op_eqD hr.units)) opsEq (de_ixV 0 de_int) de_str) (do_lst (da_cons (de_ixV 0 de_int) da_nil)) (do_lst da_nil)))))
    exact r0
theorem sc_all_marks : FnScope ["commands", "found", "command", "rows"] ["commands"] (defScope s_all_marks) := ⟨rfl, rfl, rfl, by decide +kernel, rfl, by decide +kernel, by decide +kernel⟩
def b_all_marks (Fr_all_marks : Fn) : MS :=
  (dSeq (dSetO 1 (dLst daNil))
    (dSeq (dFor (((dVar 0)).bnd walkable) (.nm 2)
    (dSeq (dIfS (dTest dIn (dIxV 2 (dC (.int 0))) (dC c_MARKING)) (dApp 1 (dIxV 2 (dC (.int 1)))) dNext)
    (dSeq (dIfS (dTest dEq (dIxV 2 (dC (.int 0))) (dC (.str "if"))) (dExt 1 (dCallN 1 (F_test_marks 8) (daCons (dIxV 2 (dC (.int 1))) daNil))) dNext)
    (dFor (((dCallNO 1 F_inner_rows (daCons (dVar 2) daNil))).bnd walkable) (.nm 3)
    (dExt 1 (dCallNO 1 Fr_all_marks (daCons (dVar 3) daNil)))))))
    (dRetV 1)))
def F_all_marks : Nat → Fn
  | 0 => fun _ _ _ _ => False
  | j + 1 => dFn 4 (b_all_marks (F_all_marks j))
theorem d_all_marks (T : Txt P wd K mg) : ∀ j, DefOk P wd K mg base xr (10 + j) "all_marks" 1 (F_all_marks j) := by
  obtain ⟨f0, fd0, hm0, F0, hb0⟩ := T.u_all_marks
  intro j
  induction j with
  | zero => exact ⟨f0, fd0, ["commands"], fn_never F0 rfl, hm0, F0.kp, hb0, rfl⟩
  | succ j ih =>
    have G_all_marks := ih
    have r0 : DefOk P wd K mg base xr (10 + (j + 1)) "all_marks" 1 (F_all_marks (j + 1)) := by
      refine ⟨f0, fd0, ["commands"], fn_ok F0 sc_all_marks (by decide) fun cdv A outer s H E w hr => ?_, hm0, F0.kp, hb0, rfl⟩
      exact (dss_cons (ds_setO 1 sc_all_marks.nd (do_lst da_nil))
    (dss_cons (ds_for (passes_of rfl) (di_seq (de_var 0)) (dg_name 2 sc_all_marks.nd)
    (dss_cons (ds_if (dt_cmp (op_in_seq.or op_in_sign) opsIn (de_ixV 2 de_int) (de_glob T.g_MARKING)) (dss_one (ds_append 1 (de_ixV 2 de_int))) dss_nil)
    (dss_cons (ds_if (dt_cmp (op_eq.or (op_eqD hr.units)) opsEq (de_ixV 2 de_int) de_str) (dss_one (ds_extend 1 (de_call (d_test_marks T 8) (hr.mono (by first | omega | exact Nat.le_refl _ | (simp only [Nat.add_eq]; omega))) (takes_of rfl rfl rfl rfl) (da_cons (de_ixV 2 de_int) da_nil)))) dss_nil)
    (dss_one (ds_for (passes_of rfl) (di_seq (de_of (do_call (d_inner_rows T) (hr.mono (by first | omega | exact Nat.le_refl _ | (simp only [Nat.add_eq]; omega))) (takes_of rfl rfl rfl rfl) (da_cons (de_var 2) da_nil)))) (dg_name 3 sc_all_marks.nd)
    (dss_one (ds_extend 1 (de_of (do_call G_all_marks (hr.mono (by first | omega | exact Nat.le_refl _ | (simp only [Nat.add_eq]; omega))) (takes_of rfl rfl rfl rfl) (da_cons (de_var 3) da_nil))))))))))
    (dss_one (ds_retV 1))))
    exact r0
theorem sc_marks_of : FnScope ["commands"] ["commands"] (defScope s_marks_of) := ⟨rfl, rfl, rfl, by decide +kernel, rfl, by decide +kernel, by decide +kernel⟩
def b_marks_of : MS :=
  (dRetO (dSrt (dCallNO 1 (F_all_marks 8) (daCons (dVar 0) daNil))))
def F_marks_of : Fn := dFn 1 b_marks_of
theorem k_marks_of (T : Txt P wd K mg) {f : Addr} {fd : FuncData} (F : Fun K "marks_of" "marks_of" s_marks_of f fd) : FnOk P wd K mg base (L2.CX P wd) 19 f fd ["commands"] (spD K xr 1 F_marks_of) := by
  refine fn_ok F sc_marks_of (by decide) fun cdv A outer s H E w hr => ?_
  exact (dss_one (ds_retO (do_srt T.b_sorted T.b_set (de_of (do_call (d_all_marks T 8) (hr.mono (by decide)) (takes_of rfl rfl rfl rfl) (da_cons (de_var 0) da_nil))))))
theorem d_marks_of (T : Txt P wd K mg) : DefOk P wd K mg base xr 19 "marks_of" 1 F_marks_of := by
  obtain ⟨f, fd, hm, F, hb⟩ := T.u_marks_of
  exact ⟨f, fd, _, k_marks_of T F, hm, F.kp, hb, rfl⟩
theorem sc_all_commands : FnScope ["commands", "found", "command", "rows"] ["commands"] (defScope s_all_commands) := ⟨rfl, rfl, rfl, by decide +kernel, rfl, by decide +kernel, by decide +kernel⟩
def b_all_commands (Fr_all_commands : Fn) : MS :=
  (dSeq (dSetO 1 (dLst daNil))
    (dSeq (dFor (((dVar 0)).bnd walkable) (.nm 2)
    (dSeq (dSetO 1 (dLst (daStar (dVar 1) (daCons (dVar 2) daNil))))
    (dFor (((dCallNO 1 F_inner_rows (daCons (dVar 2) daNil))).bnd walkable) (.nm 3)
    (dSetO 1 (dOp2 dCat (dVar 1) (dCallNO 1 Fr_all_commands (daCons (dVar 3) daNil)))))))
    (dRetV 1)))
def F_all_commands : Nat → Fn
  | 0 => fun _ _ _ _ => False
  | j + 1 => dFn 4 (b_all_commands (F_all_commands j))
theorem d_all_commands (T : Txt P wd K mg) : ∀ j, DefOk P wd K mg base xr (2 + j) "all_commands" 1 (F_all_commands j) := by
  obtain ⟨f0, fd0, hm0, F0, hb0⟩ := T.u_all_commands
  intro j
  induction j with
  | zero => exact ⟨f0, fd0, ["commands"], fn_never F0 rfl, hm0, F0.kp, hb0, rfl⟩
  | succ j ih =>
    have G_all_commands := ih
    have r0 : DefOk P wd K mg base xr (2 + (j + 1)) "all_commands" 1 (F_all_commands (j + 1)) := by
      refine ⟨f0, fd0, ["commands"], fn_ok F0 sc_all_commands (by decide) fun cdv A outer s H E w hr => ?_, hm0, F0.kp, hb0, rfl⟩
      exact (dss_cons (ds_setO 1 sc_all_commands.nd (do_lst da_nil))
    (dss_cons (ds_for (passes_of rfl) (di_seq (de_var 0)) (dg_name 2 sc_all_commands.nd)
    (dss_cons (ds_setO 1 sc_all_commands.nd (do_lst (da_star (de_var 1) (da_cons (de_var 2) da_nil))))
    (dss_one (ds_for (passes_of rfl) (di_seq (de_of (do_call (d_inner_rows T) (hr.mono (by first | omega | exact Nat.le_refl _ | (simp only [Nat.add_eq]; omega))) (takes_of rfl rfl rfl rfl) (da_cons (de_var 2) da_nil)))) (dg_name 3 sc_all_commands.nd)
    (dss_one (ds_setO 1 sc_all_commands.nd (do_bin op_cat opsCat (de_var 1) (de_of (do_call G_all_commands (hr.mono (by first | omega | exact Nat.le_refl _ | (simp only [Nat.add_eq]; omega))) (takes_of rfl rfl rfl rfl) (da_cons (de_var 3) da_nil))))))))))
    (dss_one (ds_retV 1))))
    exact r0
theorem sc_size_of : FnScope ["commands"] ["commands"] (defScope s_size_of) := ⟨rfl, rfl, rfl, by decide +kernel, rfl, by decide +kernel, by decide +kernel⟩
def b_size_of : MS :=
  (dRet (dN dLen (daCons (dCallNO 1 (F_all_commands 8) (daCons (dVar 0) daNil)) daNil)))
def F_size_of : Fn := dFn 1 b_size_of
theorem k_size_of (T : Txt P wd K mg) {f : Addr} {fd : FuncData} (F : Fun K "size_of" "size_of" s_size_of f fd) : FnOk P wd K mg base (L2.CX P wd) 11 f fd ["commands"] (spD K xr 1 F_size_of) := by
  refine fn_ok F sc_size_of (by decide) fun cdv A outer s H E w hr => ?_
  exact (dss_one (ds_ret (de_callB call_len csLen T.b_len (da_cons (de_of (do_call (d_all_commands T 8) (hr.mono (by decide)) (takes_of rfl rfl rfl rfl) (da_cons (de_var 0) da_nil))) da_nil))))
theorem d_size_of (T : Txt P wd K mg) : DefOk P wd K mg base xr 11 "size_of" 1 F_size_of := by
  obtain ⟨f, fd, hm, F, hb⟩ := T.u_size_of
  exact ⟨f, fd, _, k_size_of T F, hm, F.kp, hb, rfl⟩
theorem sc_draws : FnScope ["_law_script"] ["_law_script"] (defScope s_draws) := ⟨rfl, rfl, rfl, by decide +kernel, rfl, by decide +kernel, by decide +kernel⟩
def b_draws : MS :=
  (dRetO (dLst (daCons (dN dLstOf (daCons (dScr (dVar 0) (M.ret none) (((dC (.int 63))).bnd dPart)) daNil)) (daCons (dC (.int 0)) (daCons (dC (.int 0)) (daCons (dC (.int 4915)) (daCons (dC (.int 0)) daNil)))))))
def F0_draws : Fn := dFn 1 b_draws
theorem k_draws (T : Txt P wd K mg) {f : Addr} {fd : FuncData} (F : Fun K "_law_draws" "_law_draws" s_draws f fd) : FnOk P wd K mg base (L2.CX P wd) 1 f fd ["_law_script"] (spD K xr 1 F0_draws) := by
  refine fn_ok F sc_draws (by decide) fun cdv A outer s H E w hr => ?_
  exact (dss_one (ds_retO (do_lst (da_cons (de_of (do_callTy call_list_of cfLstOf T.b_list (da_cons (de_of (do_scr (de_var 0) dp_none (dp_some de_int))) da_nil))) (da_cons de_int (da_cons de_int (da_cons de_int (da_cons de_int da_nil))))))))
theorem d0_draws (T : Txt P wd K mg) : DefOk P wd K mg base xr 1 "_law_draws" 1 F0_draws := by
  obtain ⟨f, fd, hm, F, hb⟩ := T.u_draws
  exact ⟨f, fd, _, k_draws T F, hm, F.kp, hb, rfl⟩
theorem d_draws (T : Txt P wd K mg) : DefOk P wd K mg base xr 1 "_law_draws" 1 F_draws := draws_imp (d0_draws T)
theorem sc_pull : FnScope ["_law_bag", "_law_many", "_law_cell", "_law_digit", "_law_seed"] ["_law_bag", "_law_many"] (defScope s_pull) := ⟨rfl, rfl, rfl, by decide +kernel, rfl, by decide +kernel, by decide +kernel⟩
def F0_pull : Fn := dFn 5 b_pull
theorem k_pull (T : Txt P wd K mg) {f : Addr} {fd : FuncData} (F : Fun K "_law_pull" "_law_pull" s_pull f fd) : FnOk P wd K mg base (L2.CX P wd) 1 f fd ["_law_bag", "_law_many"] (spD K xr 2 F0_pull) := by
  refine fn_ok F sc_pull (by decide) fun cdv A outer s H E w hr => ?_
  exact (dss_cons (ds_setIx 0 (de_bin opAdd opsAdd (de_ixV 0 de_int) de_int) de_int)
    (dss_cons (ds_if (dt_w (dw_and (dt_cmp (op_eq.or (op_eqD hr.units)) opsEq (de_ixV 0 de_int) de_int) (dw_and1 (dt_cmp op_lt opsLt (de_ixV 0 de_int) (de_callB call_len csLen T.b_len (da_cons (de_ixV 0 de_int) da_nil)))))) (dss_cons (ds_set 2 sc_pull.nd (de_ix (de_ixV 0 de_int) (de_ixV 0 de_int)))
    (dss_cons (ds_setIx 0 (de_bin opAdd opsAdd (de_ixV 0 de_int) de_int) de_int)
    (dss_cons (ds_if (dt_cmp op_ge opsGe (de_var 2) (de_bin op_pow opsPow de_int de_int)) (dss_one (ds_setIx 0 (de_var 2) de_int)) dss_nil)
    (dss_one (ds_setIx 0 (de_bin op_mod opsMod (de_callTy call_int1 csIntOf T.b_int (da_cons (de_bin opAdd opsAdd (de_bin opAdd opsAdd (de_bin op_mul opsMul (de_ixV 0 de_int) de_int) (de_bin op_mul opsMul (de_bin op_mod opsMod (de_callTy call_int1 csIntOf T.b_int (da_cons (de_var 2) da_nil)) de_int) de_int)) de_int) da_nil)) de_int) de_int))))) dss_nil)
    (dss_cons (ds_if (dt_cmp op_gt opsGt (de_ixV 0 de_int) de_int) (dss_cons (ds_set 3 sc_pull.nd (de_bin op_mod opsMod (de_callTy call_int1 csIntOf T.b_int (da_cons (de_ixV 0 de_int) da_nil)) (de_var 1)))
    (dss_cons (ds_setIx 0 (de_bin op_fdivW opsDivW (de_ixV 0 de_int) (de_var 1)) de_int)
    (dss_one (ds_retV 3)))) dss_nil)
    (dss_cons (ds_set 4 sc_pull.nd (de_ixV 0 de_int))
    (dss_cons (ds_setIx 0 (de_bin op_mod opsMod (de_callTy call_int1 csIntOf T.b_int (da_cons (de_bin opAdd opsAdd (de_bin opAdd opsAdd (de_bin opAdd opsAdd (de_bin op_pow opsPow (de_var 4) de_int) (de_bin op_mul opsMul (de_var 4) de_int)) (de_bin op_mul opsMul (de_ixV 0 de_int) de_int)) de_int) da_nil)) de_int) de_int)
    (dss_one (ds_ret (de_bin op_mod opsMod (de_callTy call_int1 csIntOf T.b_int (da_cons (de_bin opAdd opsAdd (de_bin op_fdiv opsDiv (de_ixV 0 de_int) de_int) (de_bin op_mul opsMul (de_bin op_mod opsMod (de_callTy call_int1 csIntOf T.b_int (da_cons (de_ixV 0 de_int) da_nil)) de_int) de_int)) da_nil)) (de_var 1)))))))))
theorem d0_pull (T : Txt P wd K mg) : DefOk P wd K mg base xr 1 "_law_pull" 2 F0_pull := by
  obtain ⟨f, fd, hm, F, hb⟩ := T.u_pull
  exact ⟨f, fd, _, k_pull T F, hm, F.kp, hb, rfl⟩
theorem d_pull (T : Txt P wd K mg) : DefOk P wd K mg base xr 1 "_law_pull" 2 F_pull := pull_imp (d0_pull T)
theorem sc_any : FnScope ["_law_bag", "_law_things"] ["_law_bag", "_law_things"] (defScope s_any) := ⟨rfl, rfl, rfl, by decide +kernel, rfl, by decide +kernel, by decide +kernel⟩
theorem k_any (T : Txt P wd K mg) {f : Addr} {fd : FuncData} (F : Fun K "_law_any" "_law_any" s_any f fd) : FnOk P wd K mg base (L2.CX P wd) 2 f fd ["_law_bag", "_law_things"] (spD K xr 2 F_any) := by
  refine fn_ok F sc_any (by decide) fun cdv A outer s H E w hr => ?_
  exact (dss_one (ds_ret (de_ixV 1 (de_call (d_pull T) (hr.mono (by decide)) (takes_of rfl rfl rfl rfl) (da_cons (de_var 0) (da_cons (de_lenV 1 T.b_len) da_nil))))))
theorem d_any (T : Txt P wd K mg) : DefOk P wd K mg base xr 2 "_law_any" 2 F_any := by
  obtain ⟨f, fd, hm, F, hb⟩ := T.u_any
  exact ⟨f, fd, _, k_any T F, hm, F.kp, hb, rfl⟩
theorem sc_like : FnScope ["_law_found", "_law_due", "_law_one", "_law_other"] ["_law_found", "_law_due"] (defScope s_like) := ⟨rfl, rfl, rfl, by decide +kernel, rfl, by decide +kernel, by decide +kernel⟩
theorem d_like (T : Txt P wd K mg) : ∀ j, DefOk P wd K mg base xr (1 + j) "_law_like" 2 (F_like j) := by
  obtain ⟨f0, fd0, hm0, F0, hb0⟩ := T.u_like
  intro j
  induction j with
  | zero => exact ⟨f0, fd0, ["_law_found", "_law_due"], fn_never F0 rfl, hm0, F0.kp, hb0, rfl⟩
  | succ j ih =>
    have G_like := ih
    have r0 : DefOk P wd K mg base xr (1 + (j + 1)) "_law_like" 2 (F_like (j + 1)) := by
      refine ⟨f0, fd0, ["_law_found", "_law_due"], fn_ok F0 sc_like (by decide) fun cdv A outer s H E w hr => ?_, hm0, F0.kp, hb0, rfl⟩
      exact (dss_cons (ds_if (dt_val (de_isi2 "list" "tuple" T.b_isinstance T.b_list T.b_tuple (de_var 1) (hT := by decide) (hT' := by decide))) (dss_cons (ds_if (dt_w (dw_or (dt_cmp (op_ne.or (op_neD hr.units)) opsNe (de_isi "list" (hT := by decide) T.b_isinstance T.b_list (de_var 0)) (de_isi "list" (hT := by decide) T.b_isinstance T.b_list (de_var 1))) (dw_or1 (dt_cmp (op_ne.or (op_neD hr.units)) opsNe (de_isi "tuple" (hT := by decide) T.b_isinstance T.b_tuple (de_var 0)) (de_isi "tuple" (hT := by decide) T.b_isinstance T.b_tuple (de_var 1)))))) (dss_one (ds_ret de_bl)) dss_nil)
    (dss_one (ds_ret (de_and (de_cmp (op_eq.or (op_eqD hr.units)) opsEq (de_lenV 0 T.b_len) (de_lenV 1 T.b_len)) (de_one (de_callB (cr_all rfl) csAll T.b_all (da_cons (de_of (do_lc [("_law_one", 2), ("_law_other", 3)] (di_zip T.b_zip (da_cons (de_var 0) (da_cons (de_var 1) da_nil))) (fun _ _ _ _ _ => (dg_tup (dgs_cons 2 sc_like.nd (dgs_cons 3 sc_like.nd dgs_nil)))) (fun _ _ _ _ _ => dts_nil) (fun _ _ _ _ _ => (de_call G_like (hr.mono (by first | omega | exact Nat.le_refl _ | (simp only [Nat.add_eq]; omega))) takes0 (da_cons (de_var 2) (da_cons (de_var 3) da_nil)))) sc_like.nd)) da_nil))))))) dss_nil)
    (dss_cons (ds_if (dt_w (dw_or (dt_cmp op_isN opsIsN (de_var 1) de_non) (dw_or1 (dt_cmp op_isN opsIsN (de_var 0) de_non)))) (dss_one (ds_ret (de_and (de_cmp op_isN opsIsN (de_var 1) de_non) (de_one (de_cmp op_isN opsIsN (de_var 0) de_non))))) dss_nil)
    (dss_cons (ds_if (dt_w (dw_or (dt_cmp (op_ne.or (op_neD hr.units)) opsNe (de_isi "bool" (hT := by decide) T.b_isinstance T.b_bool (de_var 0)) (de_isi "bool" (hT := by decide) T.b_isinstance T.b_bool (de_var 1))) (dw_or1 (dt_cmp (op_ne.or (op_neD hr.units)) opsNe (de_isi "int" (hT := by decide) T.b_isinstance T.b_int (de_var 0)) (de_isi "int" (hT := by decide) T.b_isinstance T.b_int (de_var 1)))))) (dss_one (ds_ret de_bl)) dss_nil)
    (dss_one (ds_ret (de_and (de_cmp (op_eq.or (op_eqD hr.units)) opsEq (de_isi "str" (hT := by decide) T.b_isinstance T.b_str (de_var 0)) (de_isi "str" (hT := by decide) T.b_isinstance T.b_str (de_var 1))) (de_one (de_cmp (op_eq.or (op_eqD hr.units)) opsEq (de_var 0) (de_var 1)))))))))
    exact r0
theorem sc_names : FnScope ["_law_bag", "_law_many", "_law_letters", "_law_stem", "_law_k", "_law_at", "_law_first"] ["_law_bag", "_law_many"] (defScope s_names) := ⟨rfl, rfl, rfl, by decide +kernel, rfl, by decide +kernel, by decide +kernel⟩
theorem k_names (T : Txt P wd K mg) {f : Addr} {fd : FuncData} (F : Fun K "_law_names" "_law_names" s_names f fd) : FnOk P wd K mg base (L2.CX P wd) 3 f fd ["_law_bag", "_law_many"] (spD K xr 2 F_names) := by
  refine fn_ok F sc_names (by decide) fun cdv A outer s H E w hr => ?_
  exact (dss_cons (ds_set 2 sc_names.nd de_str)
    (dss_cons (ds_set 3 sc_names.nd (de_join de_str (de_of (do_lc [("_law_k", 4)] (di_range1 T.b_range (da_cons (de_call (d_pull T) (hr.mono (by decide)) (takes_of rfl rfl rfl rfl) (da_cons (de_var 0) (da_cons de_int da_nil))) da_nil)) (fun _ _ _ _ _ => (dg_name 4 sc_names.nd)) (fun _ _ _ _ _ => dts_nil) (fun _ _ _ _ _ => (de_call (d_any T) (hr.mono (by decide)) takes0 (da_cons (de_var 0) (da_cons (de_var 2) da_nil)))) sc_names.nd))))
    (dss_cons (ds_asg (de_tup (da_cons (de_call (d_pull T) (hr.mono (by decide)) (takes_of rfl rfl rfl rfl) (da_cons (de_var 0) (da_cons (de_bin opAdd opsAdd (de_lenV 3 T.b_len) de_int) da_nil))) (da_cons (de_call (d_pull T) (hr.mono (by decide)) (takes_of rfl rfl rfl rfl) (da_cons (de_var 0) (da_cons de_int da_nil))) da_nil))) (dg_tup (dgs_cons 5 sc_names.nd (dgs_cons 6 sc_names.nd dgs_nil))))
    (dss_one (ds_retO (do_lc [("_law_k", 4)] (di_range1 T.b_range (da_cons (de_var 1) da_nil)) (fun _ _ _ _ _ => (dg_name 4 sc_names.nd)) (fun _ _ _ _ _ => dts_nil) (fun _ _ _ _ _ => (de_bin opAdd opsAdd (de_bin opAdd opsAdd (de_slice (de_var 3) dp_none (dp_some (de_var 5))) (de_ixV 2 (de_bin op_mod opsMod (de_callTy call_int1 csIntOf T.b_int (da_cons (de_bin opAdd opsAdd (de_var 6) (de_bin op_mul opsMul de_int (de_var 4))) da_nil)) de_int))) (de_slice (de_var 3) (dp_some (de_var 5)) dp_none))) sc_names.nd))))))
theorem d_names (T : Txt P wd K mg) : DefOk P wd K mg base xr 3 "_law_names" 2 F_names := by
  obtain ⟨f, fd, hm, F, hb⟩ := T.u_names
  exact ⟨f, fd, _, k_names T F, hm, F.kp, hb, rfl⟩
theorem sc_events : FnScope [] [] (defScope s_events) := ⟨rfl, rfl, rfl, by decide +kernel, rfl, by decide +kernel, by decide +kernel⟩
def b_events : MS :=
  (dRetO (dLst (daCons (dC (.str "set")) (daCons (dC (.str "clear")) (daCons (dC (.str "hit")) (daCons (dC (.str "go")) (daCons (dC (.str "loaded")) (daCons (dC (.str "copied")) daNil))))))))
def F_events : Fn := dFn 0 b_events
theorem k_events (T : Txt P wd K mg) {f : Addr} {fd : FuncData} (F : Fun K "_law_events" "_law_events" s_events f fd) : FnOk P wd K mg base (L2.CX P wd) 1 f fd [] (spD K xr 0 F_events) := by
  refine fn_ok F sc_events (by decide) fun cdv A outer s H E w hr => ?_
  exact (dss_one (ds_retO (do_lst (da_cons de_str (da_cons de_str (da_cons de_str (da_cons de_str (da_cons de_str (da_cons de_str da_nil)))))))))
theorem d_events (T : Txt P wd K mg) : DefOk P wd K mg base xr 1 "_law_events" 0 F_events := by
  obtain ⟨f, fd, hm, F, hb⟩ := T.u_events
  exact ⟨f, fd, _, k_events T F, hm, F.kp, hb, rfl⟩
theorem sc_test : FnScope ["_law_bag", "_law_marks_here", "_law_found"] ["_law_bag", "_law_marks_here"] (defScope s_test) := ⟨rfl, rfl, rfl, by decide +kernel, rfl, by decide +kernel, by decide +kernel⟩
def b_test : MS :=
  (dSeq (dSet (.nm 2) (dCallN 2 F_any (daCons (dVar 0) (daCons (dLst (daCons (dTup (daCons (dC (.str "wished")) daNil)) (daCons (dTup (daCons (dC (.str "told")) daNil)) (daCons (dTup (daCons (dC (.str "cell")) (daCons (dCallN 2 F_any (daCons (dVar 0) (daCons (dLst (daCons (dC (.str "own")) (daCons (dC (.str "trap")) (daCons (dC (.str "stale")) daNil)))) daNil))) daNil))) (daCons (dTup (daCons (dC (.str "saved")) (daCons (dCallN 2 F_any (daCons (dVar 0) (daCons (dLst (daCons (dC (.str "none")) (daCons (dC (.str "own")) (daCons (dC (.str "trap")) (daCons (dC (.str "stale")) daNil))))) daNil))) daNil))) daNil))))) daNil))))
    (dSeq (dIfS (dAndT (dTest dNe (dVar 1) (dLst daNil)) (dTest dEq (dCallN 2 F_pull (daCons (dVar 0) (daCons (dC (.int 4)) daNil))) (dC (.int 0)))) (dSet (.nm 2) (dTup (daCons (dC (.str "marked")) (daCons (dCallN 2 F_any (daCons (dVar 0) (daCons (dVar 1) daNil))) daNil)))) dNext)
    (dRet (dIf (dTest dEq (dCallN 2 F_pull (daCons (dVar 0) (daCons (dC (.int 3)) daNil))) (dC (.int 0))) (dTup (daCons (dC (.str "not")) (daCons (dVar 2) daNil))) (dVar 2)))))
def F_test : Fn := dFn 3 b_test
theorem k_test (T : Txt P wd K mg) {f : Addr} {fd : FuncData} (F : Fun K "_law_test" "_law_test" s_test f fd) : FnOk P wd K mg base (L2.CX P wd) 3 f fd ["_law_bag", "_law_marks_here"] (spD K xr 2 F_test) := by
  refine fn_ok F sc_test (by decide) fun cdv A outer s H E w hr => ?_
  exact (dss_cons (ds_set 2 sc_test.nd (de_call (d_any T) (hr.mono (by decide)) (takes_of rfl rfl rfl rfl) (da_cons (de_var 0) (da_cons (de_of (do_lst (da_cons (de_tup (da_cons de_str da_nil)) (da_cons (de_tup (da_cons de_str da_nil)) (da_cons (de_tup (da_cons de_str (da_cons (de_call (d_any T) (hr.mono (by decide)) (takes_of rfl rfl rfl rfl) (da_cons (de_var 0) (da_cons (de_of (do_lst (da_cons de_str (da_cons de_str (da_cons de_str da_nil))))) da_nil))) da_nil))) (da_cons (de_tup (da_cons de_str (da_cons (de_call (d_any T) (hr.mono (by decide)) (takes_of rfl rfl rfl rfl) (da_cons (de_var 0) (da_cons (de_of (do_lst (da_cons de_str (da_cons de_str (da_cons de_str (da_cons de_str da_nil)))))) da_nil))) da_nil))) da_nil)))))) da_nil))))
    (dss_cons (ds_if (dt_w (dw_and (dt_cmp (op_ne.or (op_neD hr.units)) opsNe (de_var 1) (de_of (do_lst da_nil))) (dw_and1 (dt_cmp (op_eq.or (op_eqD hr.units)) opsEq (de_call (d_pull T) (hr.mono (by decide)) (takes_of rfl rfl rfl rfl) (da_cons (de_var 0) (da_cons de_int da_nil))) de_int)))) (dss_one (ds_set 2 sc_test.nd (de_tup (da_cons de_str (da_cons (de_call (d_any T) (hr.mono (by decide)) (takes_of rfl rfl rfl rfl) (da_cons (de_var 0) (da_cons (de_var 1) da_nil))) da_nil))))) dss_nil)
    (dss_one (ds_ret (de_if (dt_cmp (op_eq.or (op_eqD hr.units)) opsEq (de_call (d_pull T) (hr.mono (by decide)) (takes_of rfl rfl rfl rfl) (da_cons (de_var 0) (da_cons de_int da_nil))) de_int) (de_tup (da_cons de_str (da_cons (de_var 2) da_nil))) (de_var 2))))))
theorem d_test (T : Txt P wd K mg) : DefOk P wd K mg base xr 3 "_law_test" 2 F_test := by
  obtain ⟨f, fd, hm, F, hb⟩ := T.u_test
  exact ⟨f, fd, _, k_test T F, hm, F.kp, hb, rfl⟩
theorem sc_simple : FnScope ["_law_bag", "_law_event", "_law_marks_here", "_law_some"] ["_law_bag", "_law_event", "_law_marks_here"] (defScope s_simple) := ⟨rfl, rfl, rfl, by decide +kernel, rfl, by decide +kernel, by decide +kernel⟩
def b_simple : MS :=
  (dSeq (dSet (.nm 3) (dLst (daCons (dC (.str "save")) (daCons (dC (.str "lay")) (daCons (dC (.str "lift")) (daCons (dC (.str "save")) (daCons (dC (.str "lay")) (daCons (dC (.str "lift")) daNil))))))))
    (dSeq (dIfS (dTest dIn (dVar 1) (dTup (daCons (dC (.str "hit")) (daCons (dC (.str "go")) daNil)))) (dSet (.nm 3) (dLst (daCons (dC (.str "tell")) (daCons (dC (.str "tell")) (daCons (dC (.str "back")) (daCons (dC (.str "hold")) (daCons (dC (.str "step")) (daCons (dC (.str "step")) (daCons (dC (.str "aside")) (daCons (dC (.str "lift")) (daCons (dC (.str "lay")) (daCons (dC (.str "save")) daNil)))))))))))) dNext)
    (dSeq (dIfS (dTest dEq (dVar 1) (dC (.str "copied"))) (dSet (.nm 3) (dOp2 dCat (dVar 3) (dLst (daCons (dC (.str "scrub")) (daCons (dC (.str "scrub")) (daCons (dC (.str "scrub")) daNil)))))) dNext)
    (dSeq (dIfS (dAndT (dTest dNe (dVar 2) (dLst daNil)) (dTest dEq (dCallN 2 F_pull (daCons (dVar 0) (daCons (dC (.int 5)) daNil))) (dC (.int 0)))) (dRet (dTup (daCons (dCallN 2 F_any (daCons (dVar 0) (daCons (dLst (daCons (dC (.str "mark")) (daCons (dC (.str "unmark")) daNil))) daNil))) (daCons (dCallN 2 F_any (daCons (dVar 0) (daCons (dVar 2) daNil))) daNil)))) dNext)
    (dRet (dTup (daCons (dCallN 2 F_any (daCons (dVar 0) (daCons (dVar 3) daNil))) daNil)))))))
def F_simple : Fn := dFn 4 b_simple
theorem k_simple (T : Txt P wd K mg) {f : Addr} {fd : FuncData} (F : Fun K "_law_simple" "_law_simple" s_simple f fd) : FnOk P wd K mg base (L2.CX P wd) 3 f fd ["_law_bag", "_law_event", "_law_marks_here"] (spD K xr 3 F_simple) := by
  refine fn_ok F sc_simple (by decide) fun cdv A outer s H E w hr => ?_
  exact (dss_cons (ds_set 3 sc_simple.nd (de_of (do_lst (da_cons de_str (da_cons de_str (da_cons de_str (da_cons de_str (da_cons de_str (da_cons de_str da_nil)))))))))
    (dss_cons (ds_if (dt_cmp (op_in_seq.or op_in_sign) opsIn (de_var 1) (de_tup (da_cons de_str (da_cons de_str da_nil)))) (dss_one (ds_set 3 sc_simple.nd (de_of (do_lst (da_cons de_str (da_cons de_str (da_cons de_str (da_cons de_str (da_cons de_str (da_cons de_str (da_cons de_str (da_cons de_str (da_cons de_str (da_cons de_str da_nil)))))))))))))) dss_nil)
    (dss_cons (ds_if (dt_cmp (op_eq.or (op_eqD hr.units)) opsEq (de_var 1) de_str) (dss_one (ds_set 3 sc_simple.nd (de_of (do_bin op_cat opsCat (de_var 3) (de_of (do_lst (da_cons de_str (da_cons de_str (da_cons de_str da_nil))))))))) dss_nil)
    (dss_cons (ds_if (dt_w (dw_and (dt_cmp (op_ne.or (op_neD hr.units)) opsNe (de_var 2) (de_of (do_lst da_nil))) (dw_and1 (dt_cmp (op_eq.or (op_eqD hr.units)) opsEq (de_call (d_pull T) (hr.mono (by decide)) (takes_of rfl rfl rfl rfl) (da_cons (de_var 0) (da_cons de_int da_nil))) de_int)))) (dss_one (ds_ret (de_tup (da_cons (de_call (d_any T) (hr.mono (by decide)) (takes_of rfl rfl rfl rfl) (da_cons (de_var 0) (da_cons (de_of (do_lst (da_cons de_str (da_cons de_str da_nil)))) da_nil))) (da_cons (de_call (d_any T) (hr.mono (by decide)) (takes_of rfl rfl rfl rfl) (da_cons (de_var 0) (da_cons (de_var 2) da_nil))) da_nil))))) dss_nil)
    (dss_one (ds_ret (de_tup (da_cons (de_call (d_any T) (hr.mono (by decide)) (takes_of rfl rfl rfl rfl) (da_cons (de_var 0) (da_cons (de_var 3) da_nil))) da_nil))))))))
theorem d_simple (T : Txt P wd K mg) : DefOk P wd K mg base xr 3 "_law_simple" 3 F_simple := by
  obtain ⟨f, fd, hm, F, hb⟩ := T.u_simple
  exact ⟨f, fd, _, k_simple T F, hm, F.kp, hb, rfl⟩
theorem sc_commands : FnScope ["_law_bag", "_law_event", "_law_marks_here", "_law_room", "_law_deep", "_law_many", "_law_found", "_law_k"] ["_law_bag", "_law_event", "_law_marks_here", "_law_room", "_law_deep", "_law_many"] (defScope s_commands) := ⟨rfl, rfl, rfl, by decide +kernel, rfl, by decide +kernel, by decide +kernel⟩
theorem sc_command : FnScope ["_law_bag", "_law_event", "_law_marks_here", "_law_room", "_law_deep", "_law_way", "_law_test_here", "_law_first"] ["_law_bag", "_law_event", "_law_marks_here", "_law_room", "_law_deep"] (defScope s_command) := ⟨rfl, rfl, rfl, by decide +kernel, rfl, by decide +kernel, by decide +kernel⟩
def b_commands (Fr_commands Fr_command : Fn) : MS :=
  (dSeq (dSetO 6 (dLst daNil))
    (dSeq (dFor (((daCons (dVar 5) daNil)).bnd dRange1) (.nm 7)
    (dIfS (dTest dGt (dIxV 3 (dC (.int 0))) (dC (.int 0))) (dApp 6 (dCallN 5 Fr_command (daCons (dVar 0) (daCons (dVar 1) (daCons (dVar 2) (daCons (dVar 3) (daCons (dVar 4) daNil))))))) dNext))
    (dRet (dN dTupOf (daCons (dVar 6) daNil)))))
def b_command (Fr_commands Fr_command : Fn) : MS :=
  (dSeq (dSetIx 3 (dOp2 dSub (dIxV 3 (dC (.int 0))) (dC (.int 1))) (dC (.int 0)))
    (dSeq (dSet (.nm 5) (dCallN 2 F_pull (daCons (dVar 0) (daCons (dC (.int 7)) daNil))))
    (dSeq (dIfS (dOrT (dTest dGt (dVar 5) (dC (.int 1))) (dOrT (dTest dLt (dIxV 3 (dC (.int 0))) (dC (.int 1))) (dTest dGt (dVar 4) (dC (.int 3))))) (dRet (dCallN 3 F_simple (daCons (dVar 0) (daCons (dVar 1) (daCons (dVar 2) daNil))))) dNext)
    (dSeq (dIfS (dTest dEq (dVar 5) (dC (.int 0))) (dRet (dTup (daCons (dC (.str "pause")) (daCons (dCallN 6 Fr_commands (daCons (dVar 0) (daCons (dVar 1) (daCons (dVar 2) (daCons (dVar 3) (daCons (dOp2 dAdd (dVar 4) (dC (.int 1))) (daCons (dOp2 dAdd (dC (.int 1)) (dCallN 2 F_pull (daCons (dVar 0) (daCons (dC (.int 3)) daNil)))) daNil))))))) daNil)))) dNext)
    (dSeq (dSet (.nm 6) (dCallN 2 F_test (daCons (dVar 0) (daCons (dVar 2) daNil))))
    (dSeq (dSet (.nm 7) (dCallN 6 Fr_commands (daCons (dVar 0) (daCons (dVar 1) (daCons (dVar 2) (daCons (dVar 3) (daCons (dOp2 dAdd (dVar 4) (dC (.int 1))) (daCons (dCallN 2 F_pull (daCons (dVar 0) (daCons (dC (.int 3)) daNil))) daNil))))))))
    (dRet (dTup (daCons (dC (.str "if")) (daCons (dVar 6) (daCons (dVar 7) (daCons (dCallN 6 Fr_commands (daCons (dVar 0) (daCons (dVar 1) (daCons (dVar 2) (daCons (dVar 3) (daCons (dOp2 dAdd (dVar 4) (dC (.int 1))) (daCons (dCallN 2 F_pull (daCons (dVar 0) (daCons (dC (.int 3)) daNil))) daNil))))))) daNil))))))))))))
mutual
def F_commands : Nat → Fn
  | 0 => fun _ _ _ _ => False
  | j + 1 => dFn 8 (b_commands (F_commands j) (F_command j))
def F_command : Nat → Fn
  | 0 => fun _ _ _ _ => False
  | j + 1 => dFn 8 (b_command (F_commands j) (F_command j))
end
theorem d_commands_group (T : Txt P wd K mg) : ∀ j, DefOk P wd K mg base xr (4 + j) "_law_commands" 6 (F_commands j) ∧ DefOk P wd K mg base xr (4 + j) "_law_command" 5 (F_command j) := by
  obtain ⟨f0, fd0, hm0, F0, hb0⟩ := T.u_commands
  obtain ⟨f1, fd1, hm1, F1, hb1⟩ := T.u_command
  intro j
  induction j with
  | zero => exact ⟨⟨f0, fd0, ["_law_bag", "_law_event", "_law_marks_here", "_law_room", "_law_deep", "_law_many"], fn_never F0 rfl, hm0, F0.kp, hb0, rfl⟩, ⟨f1, fd1, ["_law_bag", "_law_event", "_law_marks_here", "_law_room", "_law_deep"], fn_never F1 rfl, hm1, F1.kp, hb1, rfl⟩⟩
  | succ j ih =>
    obtain ⟨G_commands, G_command⟩ := ih
    have r0 : DefOk P wd K mg base xr (4 + (j + 1)) "_law_commands" 6 (F_commands (j + 1)) := by
      refine ⟨f0, fd0, ["_law_bag", "_law_event", "_law_marks_here", "_law_room", "_law_deep", "_law_many"], fn_ok F0 sc_commands (by decide) fun cdv A outer s H E w hr => ?_, hm0, F0.kp, hb0, rfl⟩
      exact (dss_cons (ds_setO 6 sc_commands.nd (do_lst da_nil))
    (dss_cons (ds_for (passes_of rfl) (di_range1 T.b_range (da_cons (de_var 5) da_nil)) (dg_name 7 sc_commands.nd)
    (dss_one (ds_if (dt_cmp op_gt opsGt (de_ixV 3 de_int) de_int) (dss_one (ds_append 6 (de_call G_command (hr.mono (by first | omega | exact Nat.le_refl _ | (simp only [Nat.add_eq]; omega))) (takes_of rfl rfl rfl rfl) (da_cons (de_var 0) (da_cons (de_var 1) (da_cons (de_var 2) (da_cons (de_var 3) (da_cons (de_var 4) da_nil)))))))) dss_nil)))
    (dss_one (ds_ret (de_callTy call_tuple_of csTupOf T.b_tuple (da_cons (de_var 6) da_nil))))))
    have r1 : DefOk P wd K mg base xr (4 + (j + 1)) "_law_command" 5 (F_command (j + 1)) := by
      refine ⟨f1, fd1, ["_law_bag", "_law_event", "_law_marks_here", "_law_room", "_law_deep"], fn_ok F1 sc_command (by decide) fun cdv A outer s H E w hr => ?_, hm1, F1.kp, hb1, rfl⟩
      exact (dss_cons (ds_setIx 3 (de_bin op_sub opsSub (de_ixV 3 de_int) de_int) de_int)
    (dss_cons (ds_set 5 sc_command.nd (de_call (d_pull T) (hr.mono (by first | omega | exact Nat.le_refl _ | (simp only [Nat.add_eq]; omega))) (takes_of rfl rfl rfl rfl) (da_cons (de_var 0) (da_cons de_int da_nil))))
    (dss_cons (ds_if (dt_w (dw_or (dt_cmp op_gt opsGt (de_var 5) de_int) (dw_or (dt_cmp op_lt opsLt (de_ixV 3 de_int) de_int) (dw_or1 (dt_cmp op_gt opsGt (de_var 4) de_int))))) (dss_one (ds_ret (de_call (d_simple T) (hr.mono (by first | omega | exact Nat.le_refl _ | (simp only [Nat.add_eq]; omega))) (takes_of rfl rfl rfl rfl) (da_cons (de_var 0) (da_cons (de_var 1) (da_cons (de_var 2) da_nil)))))) dss_nil)
    (dss_cons (ds_if (dt_cmp (op_eq.or (op_eqD hr.units)) opsEq (de_var 5) de_int) (dss_one (ds_ret (de_tup (da_cons de_str (da_cons (de_call G_commands (hr.mono (by first | omega | exact Nat.le_refl _ | (simp only [Nat.add_eq]; omega))) (takes_of rfl rfl rfl rfl) (da_cons (de_var 0) (da_cons (de_var 1) (da_cons (de_var 2) (da_cons (de_var 3) (da_cons (de_bin opAdd opsAdd (de_var 4) de_int) (da_cons (de_bin opAdd opsAdd de_int (de_call (d_pull T) (hr.mono (by first | omega | exact Nat.le_refl _ | (simp only [Nat.add_eq]; omega))) (takes_of rfl rfl rfl rfl) (da_cons (de_var 0) (da_cons de_int da_nil)))) da_nil))))))) da_nil))))) dss_nil)
    (dss_cons (ds_set 6 sc_command.nd (de_call (d_test T) (hr.mono (by first | omega | exact Nat.le_refl _ | (simp only [Nat.add_eq]; omega))) (takes_of rfl rfl rfl rfl) (da_cons (de_var 0) (da_cons (de_var 2) da_nil))))
    (dss_cons (ds_set 7 sc_command.nd (de_call G_commands (hr.mono (by first | omega | exact Nat.le_refl _ | (simp only [Nat.add_eq]; omega))) (takes_of rfl rfl rfl rfl) (da_cons (de_var 0) (da_cons (de_var 1) (da_cons (de_var 2) (da_cons (de_var 3) (da_cons (de_bin opAdd opsAdd (de_var 4) de_int) (da_cons (de_call (d_pull T) (hr.mono (by first | omega | exact Nat.le_refl _ | (simp only [Nat.add_eq]; omega))) (takes_of rfl rfl rfl rfl) (da_cons (de_var 0) (da_cons de_int da_nil))) da_nil))))))))
    (dss_one (ds_ret (de_tup (da_cons de_str (da_cons (de_var 6) (da_cons (de_var 7) (da_cons (de_call G_commands (hr.mono (by first | omega | exact Nat.le_refl _ | (simp only [Nat.add_eq]; omega))) (takes_of rfl rfl rfl rfl) (da_cons (de_var 0) (da_cons (de_var 1) (da_cons (de_var 2) (da_cons (de_var 3) (da_cons (de_bin opAdd opsAdd (de_var 4) de_int) (da_cons (de_call (d_pull T) (hr.mono (by first | omega | exact Nat.le_refl _ | (simp only [Nat.add_eq]; omega))) (takes_of rfl rfl rfl rfl) (da_cons (de_var 0) (da_cons de_int da_nil))) da_nil))))))) da_nil)))))))))))))
    exact ⟨r0, r1⟩
theorem d_commands (T : Txt P wd K mg) (j : Nat) : DefOk P wd K mg base xr (4 + j) "_law_commands" 6 (F_commands j) := (d_commands_group T j).1
theorem d_command (T : Txt P wd K mg) (j : Nat) : DefOk P wd K mg base xr (4 + j) "_law_command" 5 (F_command j) := (d_commands_group T j).2
theorem sc_inner : FnScope ["_law_command_here"] ["_law_command_here"] (defScope s_inner) := ⟨rfl, rfl, rfl, by decide +kernel, rfl, by decide +kernel, by decide +kernel⟩
def b_inner : MS :=
  (dSeq (dIfS (dTest dEq (dIxV 0 (dC (.int 0))) (dC (.str "pause"))) (dRetO (dLst (daCons (dIxV 0 (dC (.int 1))) daNil))) dNext)
    (dRetO (dIf (dTest dEq (dIxV 0 (dC (.int 0))) (dC (.str "if"))) (dLst (daCons (dIxV 0 (dC (.int 2))) (daCons (dIxV 0 (dC (.int 3))) daNil))) (dLst daNil))))
def F_inner : Fn := dFn 1 b_inner
theorem k_inner (T : Txt P wd K mg) {f : Addr} {fd : FuncData} (F : Fun K "_law_inner" "_law_inner" s_inner f fd) : FnOk P wd K mg base (L2.CX P wd) 1 f fd ["_law_command_here"] (spD K xr 1 F_inner) := by
  refine fn_ok F sc_inner (by decide) fun cdv A outer s H E w hr => ?_
  exact (dss_cons (ds_if (dt_cmp (op_eq.or (op_eqD hr.units)) opsEq (de_ixV 0 de_int) de_str) (dss_one (ds_retO (do_lst (da_cons (de_ixV 0 de_int) da_nil)))) dss_nil)
    (dss_one (ds_retO (do_if (dt_cmp (op_eq.or (op_eqD hr.units)) opsEq (de_ixV 0 de_int) de_str) (do_lst (da_cons (de_ixV 0 de_int) (da_cons (de_ixV 0 de_int) da_nil))) (do_lst da_nil)))))
theorem d_inner (T : Txt P wd K mg) : DefOk P wd K mg base xr 1 "_law_inner" 1 F_inner := by
  obtain ⟨f, fd, hm, F, hb⟩ := T.u_inner
  exact ⟨f, fd, _, k_inner T F, hm, F.kp, hb, rfl⟩
theorem sc_whole : FnScope ["_law_commands_here", "_law_found", "_law_command_here", "_law_row"] ["_law_commands_here"] (defScope s_whole) := ⟨rfl, rfl, rfl, by decide +kernel, rfl, by decide +kernel, by decide +kernel⟩
def b_whole (Fr_whole : Fn) : MS :=
  (dSeq (dSetO 1 (dLst daNil))
    (dSeq (dFor (((dVar 0)).bnd walkable) (.nm 2)
    (dSeq (dApp 1 (dVar 2))
    (dFor (((dCallNO 1 F_inner (daCons (dVar 2) daNil))).bnd walkable) (.nm 3)
    (dSetO 1 (dOp2 dCat (dVar 1) (dCallNO 1 Fr_whole (daCons (dVar 3) daNil)))))))
    (dRetV 1)))
def F_whole : Nat → Fn
  | 0 => fun _ _ _ _ => False
  | j + 1 => dFn 4 (b_whole (F_whole j))
theorem d_whole (T : Txt P wd K mg) : ∀ j, DefOk P wd K mg base xr (2 + j) "_law_whole" 1 (F_whole j) := by
  obtain ⟨f0, fd0, hm0, F0, hb0⟩ := T.u_whole
  intro j
  induction j with
  | zero => exact ⟨f0, fd0, ["_law_commands_here"], fn_never F0 rfl, hm0, F0.kp, hb0, rfl⟩
  | succ j ih =>
    have G_whole := ih
    have r0 : DefOk P wd K mg base xr (2 + (j + 1)) "_law_whole" 1 (F_whole (j + 1)) := by
      refine ⟨f0, fd0, ["_law_commands_here"], fn_ok F0 sc_whole (by decide) fun cdv A outer s H E w hr => ?_, hm0, F0.kp, hb0, rfl⟩
      exact (dss_cons (ds_setO 1 sc_whole.nd (do_lst da_nil))
    (dss_cons (ds_for (passes_of rfl) (di_seq (de_var 0)) (dg_name 2 sc_whole.nd)
    (dss_cons (ds_append 1 (de_var 2))
    (dss_one (ds_for (passes_of rfl) (di_seq (de_of (do_call (d_inner T) (hr.mono (by first | omega | exact Nat.le_refl _ | (simp only [Nat.add_eq]; omega))) (takes_of rfl rfl rfl rfl) (da_cons (de_var 2) da_nil)))) (dg_name 3 sc_whole.nd)
    (dss_one (ds_setO 1 sc_whole.nd (do_bin op_cat opsCat (de_var 1) (de_of (do_call G_whole (hr.mono (by first | omega | exact Nat.le_refl _ | (simp only [Nat.add_eq]; omega))) (takes_of rfl rfl rfl rfl) (da_cons (de_var 3) da_nil))))))))))
    (dss_one (ds_retV 1))))
    exact r0
theorem sc_all : FnScope ["_law_rows", "_law_found", "_law_event", "_law_commands_here"] ["_law_rows"] (defScope s_all) := ⟨rfl, rfl, rfl, by decide +kernel, rfl, by decide +kernel, by decide +kernel⟩
def b_all : MS :=
  (dSeq (dSetO 1 (dLst daNil))
    (dSeq (dFor (((dVar 0)).bnd walkable) (.tp [2, 3])
    (dSetO 1 (dOp2 dCat (dVar 1) (dCallNO 1 (F_whole 8) (daCons (dVar 3) daNil)))))
    (dRetV 1)))
def F_all : Fn := dFn 4 b_all
theorem k_all (T : Txt P wd K mg) {f : Addr} {fd : FuncData} (F : Fun K "_law_all" "_law_all" s_all f fd) : FnOk P wd K mg base (L2.CX P wd) 11 f fd ["_law_rows"] (spD K xr 1 F_all) := by
  refine fn_ok F sc_all (by decide) fun cdv A outer s H E w hr => ?_
  exact (dss_cons (ds_setO 1 sc_all.nd (do_lst da_nil))
    (dss_cons (ds_for (passes_of rfl) (di_seq (de_var 0)) (dg_tup (dgs_cons 2 sc_all.nd (dgs_cons 3 sc_all.nd dgs_nil)))
    (dss_one (ds_setO 1 sc_all.nd (do_bin op_cat opsCat (de_var 1) (de_of (do_call (d_whole T 8) (hr.mono (by decide)) (takes_of rfl rfl rfl rfl) (da_cons (de_var 3) da_nil)))))))
    (dss_one (ds_retV 1))))
theorem d_all (T : Txt P wd K mg) : DefOk P wd K mg base xr 11 "_law_all" 1 F_all := by
  obtain ⟨f, fd, hm, F, hb⟩ := T.u_all
  exact ⟨f, fd, _, k_all T F, hm, F.kp, hb, rfl⟩
theorem sc_test_words : FnScope ["_law_test_here"] ["_law_test_here"] (defScope s_test_words) := ⟨rfl, rfl, rfl, by decide +kernel, rfl, by decide +kernel, by decide +kernel⟩
def b_test_words : MS :=
  (dRet (dIf (dTest dEq (dIxV 0 (dC (.int 0))) (dC (.str "not"))) (dOp2 dAdd (dC (.str "not ")) (dJoin (dC (.str " ")) (dIxV 0 (dC (.int 1))))) (dJoin (dC (.str " ")) (dVar 0))))
def F_test_words : Fn := dFn 1 b_test_words
theorem k_test_words (T : Txt P wd K mg) {f : Addr} {fd : FuncData} (F : Fun K "_law_test_words" "_law_test_words" s_test_words f fd) : FnOk P wd K mg base (L2.CX P wd) 1 f fd ["_law_test_here"] (spD K xr 1 F_test_words) := by
  refine fn_ok F sc_test_words (by decide) fun cdv A outer s H E w hr => ?_
  exact (dss_one (ds_ret (de_if (dt_cmp (op_eq.or (op_eqD hr.units)) opsEq (de_ixV 0 de_int) de_str) (de_bin opAdd opsAdd de_str (de_join de_str (de_ixV 0 de_int))) (de_join de_str (de_var 0)))))
theorem d_test_words (T : Txt P wd K mg) : DefOk P wd K mg base xr 1 "_law_test_words" 1 F_test_words := by
  obtain ⟨f, fd, hm, F, hb⟩ := T.u_test_words
  exact ⟨f, fd, _, k_test_words T F, hm, F.kp, hb, rfl⟩
theorem sc_all_lines : FnScope ["_law_commands_here", "_law_found", "_law_command_here"] ["_law_commands_here"] (defScope s_all_lines) := ⟨rfl, rfl, rfl, by decide +kernel, rfl, by decide +kernel, by decide +kernel⟩
theorem sc_lines : FnScope ["_law_command_here", "_law_lots", "_law_row", "_law_line"] ["_law_command_here"] (defScope s_lines) := ⟨rfl, rfl, rfl, by decide +kernel, rfl, by decide +kernel, by decide +kernel⟩
def b_all_lines (Fr_all_lines Fr_lines : Fn) : MS :=
  (dSeq (dSetO 1 (dLst daNil))
    (dSeq (dFor (((dVar 0)).bnd walkable) (.nm 2)
    (dSetO 1 (dOp2 dCat (dVar 1) (dCallNO 1 Fr_lines (daCons (dVar 2) daNil)))))
    (dRetV 1)))
def b_lines (Fr_all_lines Fr_lines : Fn) : MS :=
  (dSeq (dIfS (dTest dNotIn (dIxV 0 (dC (.int 0))) (dTup (daCons (dC (.str "pause")) (daCons (dC (.str "if")) daNil)))) (dRetO (dLst (daCons (dJoin (dC (.str " ")) (dVar 0)) daNil))) dNext)
    (dSeq (dSetO 1 (dComp [2] (.nm 2) (((dCallNO 1 F_inner (daCons (dVar 0) daNil))).bnd walkable) mTrue (dComp [3] (.nm 3) (((dCallNO 1 Fr_all_lines (daCons (dVar 2) daNil))).bnd walkable) mTrue (dVar 3))))
    (dSeq (dIfS (dTest dEq (dIxV 0 (dC (.int 0))) (dC (.str "pause"))) (dRetO (dOp2 dCat (dOp2 dCat (dLst (daCons (dC (.str "pause")) daNil)) (dIxV 1 (dC (.int 0)))) (dLst (daCons (dC (.str "end")) daNil)))) dNext)
    (dRetO (dOp2 dCat (dOp2 dCat (dOp2 dCat (dOp2 dCat (dLst (daCons (dOp2 dAdd (dC (.str "if ")) (dCallN 1 F_test_words (daCons (dIxV 0 (dC (.int 1))) daNil))) daNil)) (dIxV 1 (dC (.int 0)))) (dLst (daCons (dC (.str "else")) daNil))) (dIxV 1 (dC (.int 1)))) (dLst (daCons (dC (.str "end")) daNil)))))))
mutual
def F_all_lines : Nat → Fn
  | 0 => fun _ _ _ _ => False
  | j + 1 => dFn 3 (b_all_lines (F_all_lines j) (F_lines j))
def F_lines : Nat → Fn
  | 0 => fun _ _ _ _ => False
  | j + 1 => dFn 4 (b_lines (F_all_lines j) (F_lines j))
end
theorem d_all_lines_group (T : Txt P wd K mg) : ∀ j, DefOk P wd K mg base xr (2 + j) "_law_all_lines" 1 (F_all_lines j) ∧ DefOk P wd K mg base xr (2 + j) "_law_lines" 1 (F_lines j) := by
  obtain ⟨f0, fd0, hm0, F0, hb0⟩ := T.u_all_lines
  obtain ⟨f1, fd1, hm1, F1, hb1⟩ := T.u_lines
  intro j
  induction j with
  | zero => exact ⟨⟨f0, fd0, ["_law_commands_here"], fn_never F0 rfl, hm0, F0.kp, hb0, rfl⟩, ⟨f1, fd1, ["_law_command_here"], fn_never F1 rfl, hm1, F1.kp, hb1, rfl⟩⟩
  | succ j ih =>
    obtain ⟨G_all_lines, G_lines⟩ := ih
    have r0 : DefOk P wd K mg base xr (2 + (j + 1)) "_law_all_lines" 1 (F_all_lines (j + 1)) := by
      refine ⟨f0, fd0, ["_law_commands_here"], fn_ok F0 sc_all_lines (by decide) fun cdv A outer s H E w hr => ?_, hm0, F0.kp, hb0, rfl⟩
      exact (dss_cons (ds_setO 1 sc_all_lines.nd (do_lst da_nil))
    (dss_cons (ds_for (passes_of rfl) (di_seq (de_var 0)) (dg_name 2 sc_all_lines.nd)
    (dss_one (ds_setO 1 sc_all_lines.nd (do_bin op_cat opsCat (de_var 1) (de_of (do_call G_lines (hr.mono (by first | omega | exact Nat.le_refl _ | (simp only [Nat.add_eq]; omega))) (takes_of rfl rfl rfl rfl) (da_cons (de_var 2) da_nil)))))))
    (dss_one (ds_retV 1))))
    have r1 : DefOk P wd K mg base xr (2 + (j + 1)) "_law_lines" 1 (F_lines (j + 1)) := by
      refine ⟨f1, fd1, ["_law_command_here"], fn_ok F1 sc_lines (by decide) fun cdv A outer s H E w hr => ?_, hm1, F1.kp, hb1, rfl⟩
      exact (dss_cons (ds_if (dt_cmp (op_notIn_seq.or op_notIn_sign) opsNotIn (de_ixV 0 de_int) (de_tup (da_cons de_str (da_cons de_str da_nil)))) (dss_one (ds_retO (do_lst (da_cons (de_join de_str (de_var 0)) da_nil)))) dss_nil)
    (dss_cons (ds_setLc 1 [("_law_row", 2)] (di_seq (de_of (do_call (d_inner T) (hr.mono (by first | omega | exact Nat.le_refl _ | (simp only [Nat.add_eq]; omega))) (takes_of rfl rfl rfl rfl) (da_cons (de_var 0) da_nil)))) (fun _ _ _ _ _ => (dg_name 2 sc_lines.nd)) (fun _ _ _ _ _ => dts_nil) (fun _ _ _ _ _ => (de_of (do_lc [("_law_line", 3)] (di_seq (de_of (do_call G_all_lines (hr.mono (by first | omega | exact Nat.le_refl _ | (simp only [Nat.add_eq]; omega))) takes0 (da_cons (de_var 2) da_nil)))) (fun _ _ _ _ _ => (dg_name 3 sc_lines.nd)) (fun _ _ _ _ _ => dts_nil) (fun _ _ _ _ _ => (de_var 3)) sc_lines.nd))) sc_lines.nd)
    (dss_cons (ds_if (dt_cmp (op_eq.or (op_eqD hr.units)) opsEq (de_ixV 0 de_int) de_str) (dss_one (ds_retO (do_bin op_cat opsCat (de_of (do_bin op_cat opsCat (de_of (do_lst (da_cons de_str da_nil))) (de_ixV 1 de_int))) (de_of (do_lst (da_cons de_str da_nil)))))) dss_nil)
    (dss_one (ds_retO (do_bin op_cat opsCat (de_of (do_bin op_cat opsCat (de_of (do_bin op_cat opsCat (de_of (do_bin op_cat opsCat (de_of (do_lst (da_cons (de_bin opAdd opsAdd de_str (de_call (d_test_words T) (hr.mono (by first | omega | exact Nat.le_refl _ | (simp only [Nat.add_eq]; omega))) (takes_of rfl rfl rfl rfl) (da_cons (de_ixV 0 de_int) da_nil))) da_nil))) (de_ixV 1 de_int))) (de_of (do_lst (da_cons de_str da_nil))))) (de_ixV 1 de_int))) (de_of (do_lst (da_cons de_str da_nil)))))))))
    exact ⟨r0, r1⟩
theorem d_all_lines (T : Txt P wd K mg) (j : Nat) : DefOk P wd K mg base xr (2 + j) "_law_all_lines" 1 (F_all_lines j) := (d_all_lines_group T j).1
theorem d_lines (T : Txt P wd K mg) (j : Nat) : DefOk P wd K mg base xr (2 + j) "_law_lines" 1 (F_lines j) := (d_all_lines_group T j).2
theorem sc_marks : FnScope ["_law_rows", "_law_found", "_law_command_here", "_law_test_here"] ["_law_rows"] (defScope s_marks) := ⟨rfl, rfl, rfl, by decide +kernel, rfl, by decide +kernel, by decide +kernel⟩
def b_marks : MS :=
  (dSeq (dSetO 1 (dLst daNil))
    (dSeq (dFor (((dCallNO 1 F_all (daCons (dVar 0) daNil))).bnd walkable) (.nm 2)
    (dSeq (dIfS (dTest dIn (dIxV 2 (dC (.int 0))) (dTup (daCons (dC (.str "mark")) (daCons (dC (.str "unmark")) daNil)))) (dApp 1 (dIxV 2 (dC (.int 1)))) dNext)
    (dIfS (dTest dEq (dIxV 2 (dC (.int 0))) (dC (.str "if"))) (dSeq (dSet (.nm 3) (dIf (dTest dEq (dOp2 dIx (dIxV 2 (dC (.int 1))) (dC (.int 0))) (dC (.str "not"))) (dOp2 dIx (dIxV 2 (dC (.int 1))) (dC (.int 1))) (dIxV 2 (dC (.int 1)))))
    (dIfS (dTest dEq (dIxV 3 (dC (.int 0))) (dC (.str "marked"))) (dApp 1 (dIxV 3 (dC (.int 1)))) dNext)) dNext)))
    (dRetO (dSrt (dVar 1)))))
def F_marks : Fn := dFn 4 b_marks
theorem k_marks (T : Txt P wd K mg) {f : Addr} {fd : FuncData} (F : Fun K "_law_marks" "_law_marks" s_marks f fd) : FnOk P wd K mg base (L2.CX P wd) 12 f fd ["_law_rows"] (spD K xr 1 F_marks) := by
  refine fn_ok F sc_marks (by decide) fun cdv A outer s H E w hr => ?_
  exact (dss_cons (ds_setO 1 sc_marks.nd (do_lst da_nil))
    (dss_cons (ds_for (passes_of rfl) (di_seq (de_of (do_call (d_all T) (hr.mono (by decide)) (takes_of rfl rfl rfl rfl) (da_cons (de_var 0) da_nil)))) (dg_name 2 sc_marks.nd)
    (dss_cons (ds_if (dt_cmp (op_in_seq.or op_in_sign) opsIn (de_ixV 2 de_int) (de_tup (da_cons de_str (da_cons de_str da_nil)))) (dss_one (ds_append 1 (de_ixV 2 de_int))) dss_nil)
    (dss_one (ds_if (dt_cmp (op_eq.or (op_eqD hr.units)) opsEq (de_ixV 2 de_int) de_str) (dss_cons (ds_set 3 sc_marks.nd (de_if (dt_cmp (op_eq.or (op_eqD hr.units)) opsEq (de_ix (de_ixV 2 de_int) de_int) de_str) (de_ix (de_ixV 2 de_int) de_int) (de_ixV 2 de_int)))
    (dss_one (ds_if (dt_cmp (op_eq.or (op_eqD hr.units)) opsEq (de_ixV 3 de_int) de_str) (dss_one (ds_append 1 (de_ixV 3 de_int))) dss_nil))) dss_nil))))
    (dss_one (ds_retO (do_srt T.b_sorted T.b_set (de_var 1))))))
theorem d_marks (T : Txt P wd K mg) : DefOk P wd K mg base xr 12 "_law_marks" 1 F_marks := by
  obtain ⟨f, fd, hm, F, hb⟩ := T.u_marks
  exact ⟨f, fd, _, k_marks T F, hm, F.kp, hb, rfl⟩
theorem sc_law : FnScope ["_law_script", "_law_bag", "_law_marks_here", "_law_turn", "_law_event", "_law_some", "_law_given", "_law_found", "_law_told", "_law_due", "_law_command_here", "_law_shown"] ["_law_script"] (defScope s_law) := ⟨rfl, rfl, rfl, by decide +kernel, rfl, by decide +kernel, by decide +kernel⟩
def b_law : MS :=
  (dSeq (dSet (.nm 1) (dCallN 1 F_draws (daCons (dVar 0) daNil)))
    (dSeq (dSet (.nm 2) (dCallNO 2 F_names (daCons (dVar 1) (daCons (dC (.int 3)) daNil))))
    (dSeq (dFor (((daCons (dC (.int 6)) daNil)).bnd dRange1) (.nm 3)
    (dSeq (dSet (.nm 4) (dCallN 2 F_any (daCons (dVar 1) (daCons (dCallNO 0 F_events dArgs0) daNil))))
    (dSeq (dSet (.nm 5) (dN dLstOf (daCons (dCallN 6 (F_commands 8) (daCons (dVar 1) (daCons (dVar 4) (daCons (dVar 2) (daCons (dCell (dLst (daCons (dC (.int 16)) daNil))) (daCons (dC (.int 1)) (daCons (dOp2 dAdd (dC (.int 1)) (dCallN 2 F_pull (daCons (dVar 1) (daCons (dC (.int 4)) daNil)))) daNil))))))) daNil)))
    (dSeq (dSet (.nm 6) (dN dLstOf (daCons (dVar 5) daNil)))
    (dSeq (dSetO 7 (dComp [10] (.nm 10) (((dVar 6)).bnd walkable) mTrue (dCell (dCallNO 1 (F_command_lines 8) (daCons (dVar 10) daNil)))))
    (dSeq (dIfS (dNotT (dVal (dLend 2 (F_like 8) (daCons (dVar 7) (daCons (dComp [10] (.nm 10) (((dVar 5)).bnd walkable) mTrue (dCallNO 1 (F_lines 8) (daCons (dVar 10) daNil))) daNil))))) (dRet (dC (.bl false))) dNext)
    (dSeq (dAppE (dIxV 7 (dC (.int 0))) (dC (.str "end")))
    (dSeq (dSet (.nm 8) (dLst (daCons (dCallNO 1 (F_command_lines 8) (daCons (dIxV 6 (dC (.int 0))) daNil)) (daCons (dCallNO 1 F_marks_of (daCons (dVar 6) daNil)) (daCons (dCallN 1 F_size_of (daCons (dVar 6) daNil)) (daCons (dCallN 1 F_size_of (daCons (dN dTupOf (daCons (dVar 6) daNil)) daNil)) (daCons (dCallNO 1 F_marks_of (daCons (dLst daNil) daNil)) daNil)))))))
    (dSeq (dSet (.nm 9) (dLst (daCons (dCallNO 1 (F_lines 8) (daCons (dIxV 5 (dC (.int 0))) daNil)) (daCons (dCallNO 1 F_marks (daCons (dLst (daCons (dTup (daCons (dVar 4) (daCons (dVar 5) daNil))) daNil)) daNil)) (daCons (dN dLen (daCons (dCallNO 1 (F_whole 8) (daCons (dVar 5) daNil)) daNil)) (daCons (dN dLen (daCons (dCallNO 1 (F_whole 8) (daCons (dVar 5) daNil)) daNil)) (daCons (dLst daNil) daNil)))))))
    (dIfS (dOrT (dNotT (dVal (dCallN 2 (F_like 8) (daCons (dVar 8) (daCons (dVar 9) daNil))))) (dTest dNe (dVar 6) (dVar 5))) (dRet (dC (.bl false))) dNext))))))))))
    (dSeq (dSet (.nm 11) (dCallNO 1 (F_command_lines 8) (daCons (dTup (daCons (dC (.str "if")) (daCons (dTup (daCons (dC (.str "not")) (daCons (dTup (daCons (dC (.str "cell")) (daCons (dC (.str "trap")) daNil))) daNil))) (daCons (dTup (daCons (dTup (daCons (dC (.str "mark")) (daCons (dC (.str "a")) daNil))) daNil)) (daCons (dTup daNil) daNil))))) daNil)))
    (dRet (dAndV (dCallN 2 (F_like 8) (daCons (dVar 11) (daCons (dLst (daCons (dC (.str "if not cell trap")) (daCons (dC (.str "mark a")) (daCons (dC (.str "else")) (daCons (dC (.str "end")) daNil))))) daNil))) (dOp2 dEq (dCallN 1 F_size_of (daCons (dLst daNil) daNil)) (dC (.int 0)))))))))
def F_law : Fn := dFn 12 b_law
theorem k_law (T : Txt P wd K mg) {f : Addr} {fd : FuncData} (F : Fun K "law" "law" s_law f fd) : FnOk P wd K mg base (L2.CX P wd) 20 f fd ["_law_script"] (spD K xr 1 F_law) := by
  refine fn_ok F sc_law (by decide) fun cdv A outer s H E w hr => ?_
  exact (dss_cons (ds_set 1 sc_law.nd (de_call (d_draws T) (hr.mono (by decide)) (takes_of rfl rfl rfl rfl) (da_cons (de_var 0) da_nil)))
    (dss_cons (ds_set 2 sc_law.nd (de_of (do_call (d_names T) (hr.mono (by decide)) (takes_of rfl rfl rfl rfl) (da_cons (de_var 1) (da_cons de_int da_nil)))))
    (dss_cons (ds_for (passes_of rfl) (di_range1 T.b_range (da_cons de_int da_nil)) (dg_name 3 sc_law.nd)
    (dss_cons (ds_set 4 sc_law.nd (de_call (d_any T) (hr.mono (by decide)) (takes_of rfl rfl rfl rfl) (da_cons (de_var 1) (da_cons (de_of (do_call0 (d_events T) (hr.mono (by decide)) (takes_of rfl rfl rfl rfl))) da_nil))))
    (dss_cons (ds_set 5 sc_law.nd (de_of (do_callTy call_list_of cfLstOf T.b_list (da_cons (de_call (d_commands T 8) (hr.mono (by decide)) (takes_of rfl rfl rfl rfl) (da_cons (de_var 1) (da_cons (de_var 4) (da_cons (de_var 2) (da_cons (de_cell (do_lst (da_cons de_int da_nil))) (da_cons de_int (da_cons (de_bin opAdd opsAdd de_int (de_call (d_pull T) (hr.mono (by decide)) (takes_of rfl rfl rfl rfl) (da_cons (de_var 1) (da_cons de_int da_nil)))) da_nil))))))) da_nil))))
    (dss_cons (ds_set 6 sc_law.nd (de_of (do_callTy call_list_of cfLstOf T.b_list (da_cons (de_var 5) da_nil))))
    (dss_cons (ds_setLc 7 [("_law_command_here", 10)] (di_seq (de_var 6)) (fun _ _ _ _ _ => (dg_name 10 sc_law.nd)) (fun _ _ _ _ _ => dts_nil) (fun _ _ _ _ _ => (de_cell (do_call (d_command_lines T 8) (hr.mono (by decide)) takes0 (da_cons (de_var 10) da_nil)))) sc_law.nd)
    (dss_cons (ds_if (dt_not (dt_val (de_lend (d_like T 8) (hr.mono (by decide)) (takes_of rfl rfl rfl rfl) (da_cons (de_var 7) (da_cons (de_of (do_lc [("_law_command_here", 10)] (di_seq (de_var 5)) (fun _ _ _ _ _ => (dg_name 10 sc_law.nd)) (fun _ _ _ _ _ => dts_nil) (fun _ _ _ _ _ => (de_of (do_call (d_lines T 8) (hr.mono (by decide)) takes0 (da_cons (de_var 10) da_nil)))) sc_law.nd)) da_nil))))) (dss_one (ds_ret de_bl)) dss_nil)
    (dss_cons (ds_appE (de_ixV 7 de_int) de_str)
    (dss_cons (ds_set 8 sc_law.nd (de_of (do_lst (da_cons (de_of (do_call (d_command_lines T 8) (hr.mono (by decide)) (takes_of rfl rfl rfl rfl) (da_cons (de_ixV 6 de_int) da_nil))) (da_cons (de_of (do_call (d_marks_of T) (hr.mono (by decide)) (takes_of rfl rfl rfl rfl) (da_cons (de_var 6) da_nil))) (da_cons (de_call (d_size_of T) (hr.mono (by decide)) (takes_of rfl rfl rfl rfl) (da_cons (de_var 6) da_nil)) (da_cons (de_call (d_size_of T) (hr.mono (by decide)) (takes_of rfl rfl rfl rfl) (da_cons (de_callTy call_tuple_of csTupOf T.b_tuple (da_cons (de_var 6) da_nil)) da_nil)) (da_cons (de_of (do_call (d_marks_of T) (hr.mono (by decide)) (takes_of rfl rfl rfl rfl) (da_cons (de_of (do_lst da_nil)) da_nil))) da_nil))))))))
    (dss_cons (ds_set 9 sc_law.nd (de_of (do_lst (da_cons (de_of (do_call (d_lines T 8) (hr.mono (by decide)) (takes_of rfl rfl rfl rfl) (da_cons (de_ixV 5 de_int) da_nil))) (da_cons (de_of (do_call (d_marks T) (hr.mono (by decide)) (takes_of rfl rfl rfl rfl) (da_cons (de_of (do_lst (da_cons (de_tup (da_cons (de_var 4) (da_cons (de_var 5) da_nil))) da_nil))) da_nil))) (da_cons (de_callB call_len csLen T.b_len (da_cons (de_of (do_call (d_whole T 8) (hr.mono (by decide)) (takes_of rfl rfl rfl rfl) (da_cons (de_var 5) da_nil))) da_nil)) (da_cons (de_callB call_len csLen T.b_len (da_cons (de_of (do_call (d_whole T 8) (hr.mono (by decide)) (takes_of rfl rfl rfl rfl) (da_cons (de_var 5) da_nil))) da_nil)) (da_cons (de_of (do_lst da_nil)) da_nil))))))))
    (dss_one (ds_if (dt_w (dw_or (dt_not (dt_val (de_call (d_like T 8) (hr.mono (by decide)) (takes_of rfl rfl rfl rfl) (da_cons (de_var 8) (da_cons (de_var 9) da_nil))))) (dw_or1 (dt_cmp (op_ne.or (op_neD hr.units)) opsNe (de_var 6) (de_var 5))))) (dss_one (ds_ret de_bl)) dss_nil)))))))))))
    (dss_cons (ds_set 11 sc_law.nd (de_of (do_call (d_command_lines T 8) (hr.mono (by decide)) (takes_of rfl rfl rfl rfl) (da_cons (de_tup (da_cons de_str (da_cons (de_tup (da_cons de_str (da_cons (de_tup (da_cons de_str (da_cons de_str da_nil))) da_nil))) (da_cons (de_tup (da_cons (de_tup (da_cons de_str (da_cons de_str da_nil))) da_nil)) (da_cons (de_tup da_nil) da_nil))))) da_nil))))
    (dss_one (ds_ret (de_and (de_call (d_like T 8) (hr.mono (by decide)) (takes_of rfl rfl rfl rfl) (da_cons (de_var 11) (da_cons (de_of (do_lst (da_cons de_str (da_cons de_str (da_cons de_str (da_cons de_str da_nil)))))) da_nil))) (de_one (de_cmp (op_eq.or (op_eqD hr.units)) opsEq (de_call (d_size_of T) (hr.mono (by decide)) (takes_of rfl rfl rfl rfl) (da_cons (de_of (do_lst da_nil)) da_nil)) de_int)))))))))
theorem d_law (T : Txt P wd K mg) : DefOk P wd K mg base xr 20 "law" 1 F_law := by
  obtain ⟨f, fd, hm, F, hb⟩ := T.u_law
  exact ⟨f, fd, _, k_law T F, hm, F.kp, hb, rfl⟩
end
end K05
namespace K05
open PySem PySem.Spec PyProof.Rows L2 DL
local macro_rules | `(tactic| array_get_dec) => `(tactic| ((try simp (config := {dsimp := false}) only [ne_wished_not, ne_wished_marked, ne_told_not, ne_told_marked, ne_cell_not, ne_cell_marked, ne_saved_not, ne_saved_marked, ne_marked_not, ne_not_marked, ne_save_pause, ne_save_if, ne_save_mark, ne_save_unmark, ne_lay_pause, ne_lay_if, ne_lay_mark, ne_lay_unmark, ne_lift_pause, ne_lift_if, ne_lift_mark, ne_lift_unmark, ne_tell_pause, ne_tell_if, ne_tell_mark, ne_tell_unmark, ne_back_pause, ne_back_if, ne_back_mark, ne_back_unmark, ne_hold_pause, ne_hold_if, ne_hold_mark, ne_hold_unmark, ne_step_pause, ne_step_if, ne_step_mark, ne_step_unmark, ne_aside_pause, ne_aside_if, ne_aside_mark, ne_aside_unmark, ne_scrub_pause, ne_scrub_if, ne_scrub_mark, ne_scrub_unmark, ne_mark_pause, ne_mark_if, ne_mark_unmark, ne_unmark_pause, ne_unmark_if, ne_unmark_mark, ne_pause_if, ne_pause_mark, ne_pause_unmark, ne_if_pause, ne_if_mark, ne_if_unmark, inQ_ss, strsOf_1, strsOf_2, false_or, or_false, true_or, or_true, ↓ev_srtE, ↓ev_srtD, ↓ev_lend, ↓ev_appE, ↓ev_comp2, ↓fold2_T, ↓ev_exn, ↓ev_attE, ↓ev_attX, ↓ev_isE, ↓ev_isX, List.reverse_cons, List.reverse_nil, List.cons_append, ↓ev_fmt, ↓ev_fmtS, ↓ev_fmtI, ↓ev_joined, ↓ev_js0, ↓ev_js1, ↓ev_jsD, ↓ev_cell, ↓ev_celD, Option.isSome_none, Int.natCast_zero, Int.natCast_one, Int.natCast_add, Int.reduceEq, natc_2, natc_3, natc_4, natc_5, natc_6, natc_7, natc_8, natc_9, natc_10, natc_11, natc_12, natc_13, natc_14, natc_15, natc_16, natc_17, natc_18, natc_19, natc_20, natc_21, natc_22, natc_23, natc_24, natc_25, natc_26, natc_27, natc_28, natc_29, natc_30, natc_31, natc_32, natc_33, natc_34, natc_35, natc_36, natc_37, natc_38, natc_39, natc_40, ↓and_T, ↓ev_inG, ↓ev_ixG, ↓ev_inGD, ↓ev_ixGD, ↓onSome_T, ↓ite_T, ↓varK_T, ↓movK_T, ↓retK_T, ↓loop_T, ↓fold_T, ↓while_T, le_line, Int.reducePow, Int.reduceNeg, Int.reduceLE, Int.reduceLT, Nat.reduceMul, Nat.reduceLeDiff, Int.reduceAdd, ev_lenS, List.map_cons, List.map_nil, inQ_sign, blsIn_L, intsIn_L, strsIn_L, strsIn_T, blsOf_map, intsOf_map, strsOf_map, List.nil_append, isNon_bl, isNon_int, isNon_str, isNon_tup, isNon_lst, isNon_dct, isNon_ref, isNon_non, eq_self, isT_NoneType_bool, isT_NoneType_int, isT_NoneType_str, isT_NoneType_tuple, isT_NoneType_list, isT_NoneType_dict, isT_bool_bool, isT_bool_int, isT_bool_str, isT_bool_tuple, isT_bool_list, isT_bool_dict, isT_int_bool, isT_int_int, isT_int_str, isT_int_tuple, isT_int_list, isT_int_dict, isT_str_bool, isT_str_int, isT_str_str, isT_str_tuple, isT_str_list, isT_str_dict, isT_tuple_bool, isT_tuple_int, isT_tuple_str, isT_tuple_tuple, isT_tuple_list, isT_tuple_dict, isT_list_bool, isT_list_int, isT_list_str, isT_list_tuple, isT_list_list, isT_list_dict, isT_dict_bool, isT_dict_int, isT_dict_str, isT_dict_tuple, isT_dict_list, isT_dict_dict, isQ_NoneType, isQ_bool, isQ_int, isQ_str, isQ_tuple, isQ_list, isQ_dict, List.any_cons, List.any_nil, ↓ev_callG, ↓ev_callGO, ↓noOwn_iff, nob0, nob1, nob2, nob3, ↓ev_wipe, wipe0, wipe1, rest0, rest1, Option.getD_some, Int.reduceToNat, ixN5_0, ixN5_1, ixN5_2, ixN5_3, ixN5_4, ev_eqQI, ev_eqQS, ev_eqQB, ev_lenL, ev_lenT, List.set_set, ↓ev_ret, ↓ev_stuck, ↓ev_bnd, ↓ev_var, ↓ev_move, ↓ev_C, ↓ev_op2, ↓ev_addI, ↓ev_addS, ↓ev_addT, ↓ev_sub, ↓ev_mul, ↓ev_mod, ↓ev_div, ↓ev_divW, ↓ev_pow, ↓ev_lt, ↓ev_le, ↓ev_gt, ↓ev_ge, ↓ev_cat, ↓ev_rep, ↓ev_isN, ↓ev_notN, ↓ev_eqI, ↓ev_eqS, ↓ev_eqB, ↓ev_neI, ↓ev_neS, ↓ev_neB, ↓ev_eq, ↓ev_ne, ↓ev_in, ↓ev_notin, ↓ev_truth, ↓ev_val, ↓ev_test, ↓ev_andT, ↓ev_orT, ↓ev_notT, ↓ev_andV, ↓ev_orV, ↓ev_notV, ↓ev_if, ↓ev_chain, ↓ev_nil, ↓ev_cons, ↓ev_args0, ↓ev_itemsL, ↓ev_itemsT, ↓ev_star, ↓ev_tup, ↓ev_lst, ↓ev_ixL, ↓ev_ixT, ↓ev_ixS, ↓ev_part, ↓ev_slT, ↓ev_slL, ↓ev_slT1, ↓ev_slL1, ↓ev_N, ↓ev_len, ↓ev_tupT, ↓ev_tupL, ↓ev_lstT, ↓ev_lstL, ↓ev_isi, ↓ev_walkL, ↓ev_walkT, ↓ev_walkS, ↓ev_range1, ↓ev_range2, ↓ev_zipL, ↓ev_zipT, ↓ev_enum, ↓ev_putN, ↓ev_putT, ↓ev_sets0, ↓ev_sets1, ↓ev_comp, ↓ev_true, ↓ev_next, ↓ev_seq, ↓ev_brk, ↓ev_cnt, ↓ev_drop, ↓ev_retS, ↓ev_retO, ↓ev_retN, ↓ev_retV, ↓ev_ifS, ↓ev_set, ↓ev_setO, ↓ev_for, ↓ev_call, ↓ev_callO, ↓ev_callN, ↓ev_callNO, ↓ev_app, ↓ev_ext, ↓ev_extD, ↓ev_lstAt, ev_lstK, ↓ev_look, ev_lookK, ↓ev_lenV, ↓ev_ixV, ↓ev_inV, ↓ev_ixQL, ↓ev_ixQT, ↓ev_ixQS, ↓ev_ixQR, ev_ixR, ↓ev_join, ↓ev_joinD, ↓ev_all, ↓ev_any, ↓ev_sum, ↓ev_intI, ↓ev_intB, ↓ev_celAt, ev_celL, ev_celK, ↓ev_place, ↓ev_setIx, ↓ev_par, ↓ev_parNx, ↓ev_neg, ↓ev_negD, ↓ev_fn, ↓st1, ↓st2, ↓st3, ↓st4, ↓st5, ↓st6, ↓atI_0, ↓atI_1, ↓atI_2, ↓atI_3, ↓atI_4, List.getElem?_cons_zero, List.getElem?_cons_succ, List.getElem?_nil, List.set_cons_zero, List.set_cons_succ, List.replicate_succ, List.replicate_zero, Option.map_some, Option.isSome_some, true_and, and_true, List.length_cons, List.length_nil, Nat.reduceAdd, Bool.false_eq_true, if_true, if_false, beq_self_eq_true, Bool.true_or, Bool.or_true, Bool.false_or, Bool.or_false, Bool.not_true, Bool.not_false, Bool.and_true, Bool.true_and, decide_true, decide_false, decide_eq_true_eq, onSomeT_some, onSomeT_none, ifT_true, ifT_false, loopT_nil, ev_varF, ev_varT, ev_moveT, ev_retVF, ev_retVT, andT_true, andT_false]); (try simp only [onSomeT_b, ifT_b, varKT_b, movKT_b, retKT_b, loopT_b, fold2T_b, foldT_b, whileT_b, andT_b])))
local macro_rules | `(tactic| array_mem_dec) => `(tactic| ((try simp (config := {dsimp := false}) only [ne_wished_not, ne_wished_marked, ne_told_not, ne_told_marked, ne_cell_not, ne_cell_marked, ne_saved_not, ne_saved_marked, ne_marked_not, ne_not_marked, ne_save_pause, ne_save_if, ne_save_mark, ne_save_unmark, ne_lay_pause, ne_lay_if, ne_lay_mark, ne_lay_unmark, ne_lift_pause, ne_lift_if, ne_lift_mark, ne_lift_unmark, ne_tell_pause, ne_tell_if, ne_tell_mark, ne_tell_unmark, ne_back_pause, ne_back_if, ne_back_mark, ne_back_unmark, ne_hold_pause, ne_hold_if, ne_hold_mark, ne_hold_unmark, ne_step_pause, ne_step_if, ne_step_mark, ne_step_unmark, ne_aside_pause, ne_aside_if, ne_aside_mark, ne_aside_unmark, ne_scrub_pause, ne_scrub_if, ne_scrub_mark, ne_scrub_unmark, ne_mark_pause, ne_mark_if, ne_mark_unmark, ne_unmark_pause, ne_unmark_if, ne_unmark_mark, ne_pause_if, ne_pause_mark, ne_pause_unmark, ne_if_pause, ne_if_mark, ne_if_unmark, inQ_ss, strsOf_1, strsOf_2, false_or, or_false, true_or, or_true, ↓ev_srtE, ↓ev_srtD, ↓ev_lend, ↓ev_appE, ↓ev_comp2, ↓fold2_T, ↓ev_exn, ↓ev_attE, ↓ev_attX, ↓ev_isE, ↓ev_isX, List.reverse_cons, List.reverse_nil, List.cons_append, ↓ev_fmt, ↓ev_fmtS, ↓ev_fmtI, ↓ev_joined, ↓ev_js0, ↓ev_js1, ↓ev_jsD, ↓ev_cell, ↓ev_celD, Option.isSome_none, Int.natCast_zero, Int.natCast_one, Int.natCast_add, Int.reduceEq, natc_2, natc_3, natc_4, natc_5, natc_6, natc_7, natc_8, natc_9, natc_10, natc_11, natc_12, natc_13, natc_14, natc_15, natc_16, natc_17, natc_18, natc_19, natc_20, natc_21, natc_22, natc_23, natc_24, natc_25, natc_26, natc_27, natc_28, natc_29, natc_30, natc_31, natc_32, natc_33, natc_34, natc_35, natc_36, natc_37, natc_38, natc_39, natc_40, ↓and_T, ↓ev_inG, ↓ev_ixG, ↓ev_inGD, ↓ev_ixGD, ↓onSome_T, ↓ite_T, ↓varK_T, ↓movK_T, ↓retK_T, ↓loop_T, ↓fold_T, ↓while_T, le_line, Int.reducePow, Int.reduceNeg, Int.reduceLE, Int.reduceLT, Nat.reduceMul, Nat.reduceLeDiff, Int.reduceAdd, ev_lenS, List.map_cons, List.map_nil, inQ_sign, blsIn_L, intsIn_L, strsIn_L, strsIn_T, blsOf_map, intsOf_map, strsOf_map, List.nil_append, isNon_bl, isNon_int, isNon_str, isNon_tup, isNon_lst, isNon_dct, isNon_ref, isNon_non, eq_self, isT_NoneType_bool, isT_NoneType_int, isT_NoneType_str, isT_NoneType_tuple, isT_NoneType_list, isT_NoneType_dict, isT_bool_bool, isT_bool_int, isT_bool_str, isT_bool_tuple, isT_bool_list, isT_bool_dict, isT_int_bool, isT_int_int, isT_int_str, isT_int_tuple, isT_int_list, isT_int_dict, isT_str_bool, isT_str_int, isT_str_str, isT_str_tuple, isT_str_list, isT_str_dict, isT_tuple_bool, isT_tuple_int, isT_tuple_str, isT_tuple_tuple, isT_tuple_list, isT_tuple_dict, isT_list_bool, isT_list_int, isT_list_str, isT_list_tuple, isT_list_list, isT_list_dict, isT_dict_bool, isT_dict_int, isT_dict_str, isT_dict_tuple, isT_dict_list, isT_dict_dict, isQ_NoneType, isQ_bool, isQ_int, isQ_str, isQ_tuple, isQ_list, isQ_dict, List.any_cons, List.any_nil, ↓ev_callG, ↓ev_callGO, ↓noOwn_iff, nob0, nob1, nob2, nob3, ↓ev_wipe, wipe0, wipe1, rest0, rest1, Option.getD_some, Int.reduceToNat, ixN5_0, ixN5_1, ixN5_2, ixN5_3, ixN5_4, ev_eqQI, ev_eqQS, ev_eqQB, ev_lenL, ev_lenT, List.set_set, ↓ev_ret, ↓ev_stuck, ↓ev_bnd, ↓ev_var, ↓ev_move, ↓ev_C, ↓ev_op2, ↓ev_addI, ↓ev_addS, ↓ev_addT, ↓ev_sub, ↓ev_mul, ↓ev_mod, ↓ev_div, ↓ev_divW, ↓ev_pow, ↓ev_lt, ↓ev_le, ↓ev_gt, ↓ev_ge, ↓ev_cat, ↓ev_rep, ↓ev_isN, ↓ev_notN, ↓ev_eqI, ↓ev_eqS, ↓ev_eqB, ↓ev_neI, ↓ev_neS, ↓ev_neB, ↓ev_eq, ↓ev_ne, ↓ev_in, ↓ev_notin, ↓ev_truth, ↓ev_val, ↓ev_test, ↓ev_andT, ↓ev_orT, ↓ev_notT, ↓ev_andV, ↓ev_orV, ↓ev_notV, ↓ev_if, ↓ev_chain, ↓ev_nil, ↓ev_cons, ↓ev_args0, ↓ev_itemsL, ↓ev_itemsT, ↓ev_star, ↓ev_tup, ↓ev_lst, ↓ev_ixL, ↓ev_ixT, ↓ev_ixS, ↓ev_part, ↓ev_slT, ↓ev_slL, ↓ev_slT1, ↓ev_slL1, ↓ev_N, ↓ev_len, ↓ev_tupT, ↓ev_tupL, ↓ev_lstT, ↓ev_lstL, ↓ev_isi, ↓ev_walkL, ↓ev_walkT, ↓ev_walkS, ↓ev_range1, ↓ev_range2, ↓ev_zipL, ↓ev_zipT, ↓ev_enum, ↓ev_putN, ↓ev_putT, ↓ev_sets0, ↓ev_sets1, ↓ev_comp, ↓ev_true, ↓ev_next, ↓ev_seq, ↓ev_brk, ↓ev_cnt, ↓ev_drop, ↓ev_retS, ↓ev_retO, ↓ev_retN, ↓ev_retV, ↓ev_ifS, ↓ev_set, ↓ev_setO, ↓ev_for, ↓ev_call, ↓ev_callO, ↓ev_callN, ↓ev_callNO, ↓ev_app, ↓ev_ext, ↓ev_extD, ↓ev_lstAt, ev_lstK, ↓ev_look, ev_lookK, ↓ev_lenV, ↓ev_ixV, ↓ev_inV, ↓ev_ixQL, ↓ev_ixQT, ↓ev_ixQS, ↓ev_ixQR, ev_ixR, ↓ev_join, ↓ev_joinD, ↓ev_all, ↓ev_any, ↓ev_sum, ↓ev_intI, ↓ev_intB, ↓ev_celAt, ev_celL, ev_celK, ↓ev_place, ↓ev_setIx, ↓ev_par, ↓ev_parNx, ↓ev_neg, ↓ev_negD, ↓ev_fn, ↓st1, ↓st2, ↓st3, ↓st4, ↓st5, ↓st6, ↓atI_0, ↓atI_1, ↓atI_2, ↓atI_3, ↓atI_4, List.getElem?_cons_zero, List.getElem?_cons_succ, List.getElem?_nil, List.set_cons_zero, List.set_cons_succ, List.replicate_succ, List.replicate_zero, Option.map_some, Option.isSome_some, true_and, and_true, List.length_cons, List.length_nil, Nat.reduceAdd, Bool.false_eq_true, if_true, if_false, beq_self_eq_true, Bool.true_or, Bool.or_true, Bool.false_or, Bool.or_false, Bool.not_true, Bool.not_false, Bool.and_true, Bool.true_and, decide_true, decide_false, decide_eq_true_eq, onSomeT_some, onSomeT_none, ifT_true, ifT_false, loopT_nil, ev_varF, ev_varT, ev_moveT, ev_retVF, ev_retVT, andT_true, andT_false, *]); (try simp only [onSomeT_b, ifT_b, varKT_b, movKT_b, retKT_b, loopT_b, fold2T_b, foldT_b, whileT_b, andT_b])))

structure Out where
  n : Nat
  ls : List Str
  ms : List Str
  ws : List D
def Out.add (a b : Out) : Out := ⟨a.n + b.n, a.ls ++ b.ls, a.ms ++ b.ms, a.ws ++ b.ws⟩
def Sh (x : Str) : Prop := x.length ≤ 8 ∧ PyData.strOk x = true
def SIMP : List Str := ["save", "lay", "lift", "tell", "back", "hold", "step", "aside", "scrub"]
inductive PT : D → Str → List Str → Prop where
  | one {a : Str} (h : a = "wished" ∨ a = "told") : PT (.tup [.str a]) (Txt.join " " [a]) []
  | two {a y : Str} (h : a = "cell" ∨ a = "saved") (hy : Sh y) : PT (.tup [.str a, .str y]) (Txt.join " " [a, y]) []
  | mk {y : Str} (hy : markB y = true) : PT (.tup [.str "marked", .str y]) (Txt.join " " ["marked", y]) [y]
inductive Tst : D → Str → List Str → Prop where
  | pl {t : D} {x : Str} {ms : List Str} (h : PT t x ms) : Tst t x ms
  | nt {t : D} {x : Str} {ms : List Str} (h : PT t x ms) : Tst (.tup [.str "not", t]) ("not " ++ x) ms
inductive Si : D → Str → List Str → Prop where
  | one {a : Str} (h : a ∈ SIMP) : Si (.tup [.str a]) (Txt.join " " [a]) []
  | mk {a y : Str} (h : a = "mark" ∨ a = "unmark") (hy : markB y = true) : Si (.tup [.str a, .str y]) (Txt.join " " [a, y]) [y]
def Css (P : D → Out → Prop) : List D → Out → Prop
  | [], o => o = ⟨0, [], [], []⟩
  | d :: ds, o => ∃ o1 o2, P d o1 ∧ Css P ds o2 ∧ o = o1.add o2
def Cm : Nat → D → Out → Prop
  | 0, _, _ => False
  | j + 1, d, o => (∃ x ms, Si d x ms ∧ o = ⟨1, [x], ms, [d]⟩) ∨ (∃ l o1, Css (Cm j) l o1 ∧ d = .tup [.str "pause", .tup l] ∧ o = ⟨o1.n + 1, "pause" :: (o1.ls ++ ([("end" : Str)] : List Str)), o1.ms, d :: o1.ws⟩)
    ∨ ∃ t x tm l o1 l2 o2, Tst t x tm ∧ Css (Cm j) l o1 ∧ Css (Cm j) l2 o2 ∧ d = .tup [.str "if", t, .tup l, .tup l2] ∧ o = ⟨o1.n + o2.n + 1, ("if " ++ x) :: (o1.ls ++ ((("else" : Str) :: (o2.ls ++ ([("end" : Str)] : List Str))) : List Str)), tm ++ (o1.ms ++ o2.ms), d :: (o1.ws ++ o2.ws)⟩
section
variable {m : List SO} {Q : D → Bool → List SO → Prop} {E : Ex → List SO → Prop}
theorem PT.len {t : D} {x : Str} {ms : List Str} (h : PT t x ms) : x.length ≤ 17 ∧ ms.length ≤ 1 := by
  cases h with
  | one h => exact ⟨jn1_len (by rcases h with rfl | rfl <;> decide +kernel), Nat.zero_le _⟩
  | two h hy => exact ⟨jn2_len (by rcases h with rfl | rfl <;> decide +kernel) hy.1, Nat.zero_le _⟩
  | mk hy => exact ⟨jn2_len (by decide +kernel) (Nat.le_trans (mark_len hy).2 (by decide)), Nat.le_refl _⟩
theorem not_len : ("not " : Str).length = 4 := by decide +kernel
theorem if_len : ("if " : Str).length = 3 := by decide +kernel
theorem Tst.len {t : D} {x : Str} {ms : List Str} (h : Tst t x ms) : x.length ≤ 21 ∧ ms.length ≤ 1 := by
  cases h with
  | pl h => exact ⟨Nat.le_trans h.len.1 (by decide), h.len.2⟩
  | nt h => rw [app_len, not_len]; have := h.len; exact ⟨by omega, h.len.2⟩
theorem pt_text {j : Nat} {t : D} {x : Str} {ms : List Str} (h : PT t x ms) (q : Q (.str x) false m) : F_test_text (j + 1) [t] m Q E := by
  unfold F_test_text b_test_text
  cases h with
  | one h =>
    rcases h with rfl | rfl
    all_goals
      array_get_dec
      exact ⟨join1 (by decide +kernel), q⟩
  | two h hy =>
    rcases h with rfl | rfl
    all_goals
      array_get_dec
      exact ⟨join2 (by decide +kernel) hy.1, q⟩
  | mk hy =>
    array_get_dec
    exact ⟨join2 (by decide +kernel) (Nat.le_trans (mark_len hy).2 (by decide)), q⟩
theorem tst_text {j : Nat} {t : D} {x : Str} {ms : List Str} (h : Tst t x ms) (q : Q (.str x) false m) : F_test_text (j + 2) [t] m Q E := by
  cases h with
  | pl h => exact pt_text h q
  | nt h =>
    have hl := h.len.1
    rw [F_test_text.eq_2]
    unfold b_test_text
    array_get_dec
    rw [emp_app]
    refine ⟨by decide +kernel, ?_⟩
    array_get_dec
    refine pt_text h ?_
    array_get_dec
    refine ⟨small (by omega), ?_⟩
    array_get_dec
    exact ⟨small (by rw [app_len, not_len]; omega), q⟩
theorem pt_words {t : D} {x : Str} {ms : List Str} (h : PT t x ms) (q : Q (.str x) false m) : F_test_words [t] m Q E := by
  unfold F_test_words b_test_words
  cases h with
  | one h =>
    rcases h with rfl | rfl
    all_goals
      array_get_dec
      exact ⟨join1 (by decide +kernel), q⟩
  | two h hy =>
    rcases h with rfl | rfl
    all_goals
      array_get_dec
      exact ⟨join2 (by decide +kernel) hy.1, q⟩
  | mk hy =>
    array_get_dec
    exact ⟨join2 (by decide +kernel) (Nat.le_trans (mark_len hy).2 (by decide)), q⟩
theorem tst_words {t : D} {x : Str} {ms : List Str} (h : Tst t x ms) (q : Q (.str x) false m) : F_test_words [t] m Q E := by
  cases h with
  | pl h => exact pt_words h q
  | nt h =>
    have hl := h.len.1
    unfold F_test_words b_test_words
    cases h with
    | one h =>
      rcases h with rfl | rfl
      all_goals
        array_get_dec
        refine ⟨join1 (by decide +kernel), ?_⟩
        array_get_dec
        exact ⟨small (by rw [not_len]; omega), q⟩
    | two h hy =>
      rcases h with rfl | rfl
      all_goals
        array_get_dec
        refine ⟨join2 (by decide +kernel) hy.1, ?_⟩
        array_get_dec
        exact ⟨small (by rw [not_len]; omega), q⟩
    | mk hy =>
      array_get_dec
      refine ⟨join2 (by decide +kernel) (Nat.le_trans (mark_len hy).2 (by decide)), ?_⟩
      array_get_dec
      exact ⟨small (by rw [not_len]; omega), q⟩
theorem pt_marks {j : Nat} {t : D} {x : Str} {ms : List Str} (h : PT t x ms) (q : Q (.lst (ms.map .str)) true m) : F_test_marks (j + 1) [t] m Q E := by
  unfold F_test_marks b_test_marks
  cases h with
  | one h =>
    rcases h with rfl | rfl
    all_goals
      array_get_dec
      exact q
  | two h hy =>
    rcases h with rfl | rfl
    all_goals
      array_get_dec
      exact q
  | mk hy =>
    array_get_dec
    exact q
theorem tst_marks {j : Nat} {t : D} {x : Str} {ms : List Str} (h : Tst t x ms) (q : ∀ b, Q (.lst (ms.map .str)) b m) : F_test_marks (j + 2) [t] m Q E := by
  cases h with
  | pl h => exact pt_marks h (q _)
  | nt h =>
    rw [F_test_marks.eq_2]
    unfold b_test_marks
    array_get_dec
    refine pt_marks h ?_
    array_get_dec
    exact q _
theorem Out.b {j : Nat} : (∀ d o, Cm j d o → 1 ≤ o.n ∧ o.ls.length ≤ 3 * o.n ∧ o.ms.length ≤ o.n ∧ o.ws.length = o.n) ∧ ∀ l o, Css (Cm j) l o → l.length ≤ o.n ∧ o.ls.length ≤ 3 * o.n ∧ o.ms.length ≤ o.n ∧ o.ws.length = o.n := by
  induction j with
  | zero =>
    refine ⟨fun d o h => h.elim, fun l o h => ?_⟩
    cases l with
    | nil => have h : o = _ := h; subst h; simp
    | cons d ds => obtain ⟨o1, o2, h, _⟩ := h; exact h.elim
  | succ j ih =>
    have key : ∀ d o, Cm (j + 1) d o → 1 ≤ o.n ∧ o.ls.length ≤ 3 * o.n ∧ o.ms.length ≤ o.n ∧ o.ws.length = o.n := by
      intro d o h
      rcases h with ⟨x, ms, h, rfl⟩ | ⟨l, o1, h, rfl, rfl⟩ | ⟨t, x, tm, l, o1, l2, o2, ht, h, h2, rfl, rfl⟩
      · cases h <;> simp
      · have := ih.2 _ _ h
        simp only [List.length_cons, List.length_append, List.length_nil]
        omega
      · have := ih.2 _ _ h
        have := ih.2 _ _ h2
        have := ht.len.2
        simp only [List.length_cons, List.length_append, List.length_nil]
        omega
    refine ⟨key, fun l => ?_⟩
    induction l with
    | nil => intro o h; have h : o = _ := h; subst h; simp
    | cons d ds ihl =>
      intro o h
      obtain ⟨o1, o2, h1, h2, rfl⟩ := h
      have := key _ _ h1
      have := ihl _ h2
      simp only [Out.add, List.length_cons, List.length_append]
      omega
theorem fold2_lines {i N : Nat} {A : Option (D × Bool)} {P : D → Out → Prop} {E' : Ex → S → Prop} : ∀ (l : List D) (o : Out) (acc : List D) (QA : List D → S → Prop), Css P l o → o.n ≤ N → acc.length + o.ls.length ≤ sizeLine →
    (∀ d o1, P d o1 → o1.n ≤ N → ∀ (Q : D → Bool → List SO → Prop) E, Q (.lst (o1.ls.map .str)) true m → F_command_lines i [d] m Q E) → QA (acc ++ o.ls.map .str) ⟨[A, none, none], m⟩ →
    dFold2 [1, 2] [2] (Tg.nm 1) mTrue ((dCallNO 1 (F_command_lines i) (daCons (dVar 1) daNil)).bnd walkable) (Tg.nm 2) mTrue (dVar 2) l acc ⟨[A, none, none], m⟩ QA E' := by
  intro l
  induction l with
  | nil =>
    intro o acc QA h _ _ _ q
    have h : o = _ := h
    subst h
    rw [List.map_nil, List.append_nil] at q
    exact q
  | cons d ds ih =>
    intro o acc QA h hN hl hc q
    obtain ⟨o1, o2, h1, h2, rfl⟩ := h
    have hN : o1.n + o2.n ≤ N := hN
    have hl : acc.length + (o1.ls ++ o2.ls).length ≤ sizeLine := hl
    rw [List.length_append] at hl
    unfold dFold2
    array_get_dec
    refine hc d o1 h1 (by omega) _ _ ?_
    array_get_dec
    refine fold_map D.str D.str (fun z hz => ⟨_, rfl, rfl, fun _ h => h, fun Q' hQ => hQ⟩) (by omega) ?_
    array_get_dec
    refine ih o2 _ QA h2 (by omega) (by rw [List.length_append, List.length_map]; omega) hc ?_
    have e : acc ++ List.map D.str (o1.ls ++ o2.ls) = acc ++ List.map D.str o1.ls ++ List.map D.str o2.ls := by rw [List.map_append, List.append_assoc]
    rw [← e]
    exact q
theorem lines_step {i : Nat} {x : D} {l : List D} {o : Out} {P : D → Out → Prop} (hx : x = .tup l ∨ x = .lst l) (hl : Css P l o) (hn : o.ls.length ≤ 300) (q : Q (.lst (o.ls.map .str)) true m)
    (hc : ∀ d o1, P d o1 → o1.n ≤ o.n → ∀ (Q : D → Bool → List SO → Prop) E, Q (.lst (o1.ls.map .str)) true m → F_command_lines i [d] m Q E) : F_lines_of (i + 1) [x] m Q E := by
  rw [F_lines_of.eq_2]
  unfold b_lines_of
  rcases hx with rfl | rfl
  all_goals
    array_get_dec
    refine fold2_lines (N := o.n) l o [] _ hl (Nat.le_refl _) (by rw [List.length_nil]; exact small (by omega)) hc ?_
    exact q
theorem cmd_step {i j : Nat} {d : D} {o : Out} (hd : Cm (j + 1) d o) (hn : o.n ≤ 100) (q : Q (.lst (o.ls.map .str)) true m)
    (hc : ∀ l o1 (Q : D → Bool → List SO → Prop) E, Css (Cm j) l o1 → o1.n ≤ 100 → Q (.lst (o1.ls.map .str)) true m → F_lines_of i [.tup l] m Q E) : F_command_lines (i + 1) [d] m Q E := by
  rw [F_command_lines.eq_2]
  unfold b_command_lines
  rcases hd with ⟨x, ms, h, rfl⟩ | ⟨l, o1, h, rfl, rfl⟩ | ⟨t, x, tm, l, o1, l2, o2, ht, h, h2, rfl, rfl⟩
  · cases h with
    | one h =>
      simp only [SIMP, List.mem_cons, List.not_mem_nil, or_false] at h
      rcases h with rfl | rfl | rfl | rfl | rfl | rfl | rfl | rfl | rfl
      all_goals
        array_get_dec
        refine ⟨join1 (by decide +kernel), ?_⟩
        array_get_dec
        exact q
    | mk h hy =>
      rcases h with rfl | rfl
      all_goals
        array_get_dec
        refine ⟨join2 (by decide +kernel) (Nat.le_trans (mark_len hy).2 (by decide)), ?_⟩
        array_get_dec
        exact q
  · have hb := Out.b.2 _ _ h
    have hn : o1.n + 1 ≤ 100 := hn
    array_get_dec
    refine hc l o1 _ _ h (by omega) ?_
    array_get_dec
    refine ⟨small (by rw [List.length_append, List.length_map]; simp only [List.length_cons, List.length_nil]; omega), ?_⟩
    have e : List.map D.str ("pause" :: (o1.ls ++ [("end" : Str)])) = D.str "pause" :: (List.map D.str o1.ls ++ [D.str "end"]) := by rw [List.map_cons, List.map_append]; rfl
    rw [← e]
    exact q
  · have hb := Out.b.2 _ _ h
    have hb2 := Out.b.2 _ _ h2
    have hn : o1.n + o2.n + 1 ≤ 100 := hn
    have htl := ht.len
    array_get_dec
    rw [emp_app]
    refine ⟨by decide +kernel, ?_⟩
    array_get_dec
    refine tst_text (j := 6) ht ?_
    array_get_dec
    refine ⟨small (by omega), ?_⟩
    array_get_dec
    refine ⟨small (by rw [app_len, if_len]; omega), ?_⟩
    array_get_dec
    refine hc l o1 _ _ h (by omega) ?_
    array_get_dec
    refine hc l2 o2 _ _ h2 (by omega) ?_
    array_get_dec
    refine ⟨small (by simp only [List.length_append, List.length_map, List.length_cons, List.length_nil]; omega), ?_⟩
    dsimp only at q
    simp only [List.map_cons, List.map_append, List.map_nil] at q
    exact q
theorem lines_ok : ∀ j, (∀ i d o (Q : D → Bool → List SO → Prop) E, 2 * j ≤ i → Cm j d o → o.n ≤ 100 → Q (.lst (o.ls.map .str)) true m → F_command_lines i [d] m Q E) ∧
    (∀ i l o x (Q : D → Bool → List SO → Prop) E, 2 * j + 1 ≤ i → Css (Cm j) l o → o.n ≤ 100 → (x = .tup l ∨ x = .lst l) → Q (.lst (o.ls.map .str)) true m → F_lines_of i [x] m Q E) := by
  intro j
  induction j with
  | zero =>
    refine ⟨fun i d o Q E _ h => h.elim, fun i l o x Q E hi h hn hx q => ?_⟩
    match i, hi with
    | i + 1, _ => exact lines_step hx h (by have := Out.b.2 _ _ h; omega) q fun d o1 h => h.elim
  | succ j ih =>
    have key : ∀ i d o (Q : D → Bool → List SO → Prop) E, 2 * (j + 1) ≤ i → Cm (j + 1) d o → o.n ≤ 100 → Q (.lst (o.ls.map .str)) true m → F_command_lines i [d] m Q E := by
      intro i d o Q E hi h hn q
      match i, hi with
      | i + 1, hi => exact cmd_step h hn q fun l o1 Q E h1 hn1 q1 => ih.2 i l o1 _ Q E (by omega) h1 hn1 (.inl rfl) q1
    refine ⟨key, fun i l o x Q E hi h hn hx q => ?_⟩
    match i, hi with
    | i + 1, hi =>
      exact lines_step hx h (by have := Out.b.2 _ _ h; omega) q fun d o1 h1 hn1 Q E q1 => key i d o1 Q E (by omega) h1 (by omega) q1
theorem loop_lines {i N : Nat} {A : Option (D × Bool)} {P : D → Out → Prop} {nx bk ct : S → Prop} {rt : D → Bool → S → Prop} {ex : Ex → S → Prop} : ∀ (l : List D) (o : Out) (acc : List D) (c : Option (D × Bool)), Css P l o → o.n ≤ N → acc.length + o.ls.length ≤ sizeLine →
    (∀ d o1, P d o1 → o1.n ≤ N → ∀ (Q : D → Bool → List SO → Prop) E, Q (.lst (o1.ls.map .str)) true m → F_lines i [d] m Q E) → (∀ c, nx ⟨[A, some (.lst (acc ++ o.ls.map .str), true), c], m⟩) →
    dLoop (.nm 2) (dSetO 1 (dOp2 dCat (dVar 1) (dCallNO 1 (F_lines i) (daCons (dVar 2) daNil)))) l ⟨nx, rt, bk, ct, ex⟩ ⟨[A, some (.lst acc, true), c], m⟩ := by
  intro l
  induction l with
  | nil =>
    intro o acc c h _ _ _ q
    have h : o = _ := h
    subst h
    have q := q c
    rw [List.map_nil, List.append_nil] at q
    exact q
  | cons d ds ih =>
    intro o acc c h hN hl hc q
    obtain ⟨o1, o2, h1, h2, rfl⟩ := h
    have hN : o1.n + o2.n ≤ N := hN
    have hl : acc.length + (o1.ls ++ o2.ls).length ≤ sizeLine := hl
    rw [List.length_append] at hl
    unfold dLoop
    array_get_dec
    refine hc d o1 h1 (by omega) _ _ ?_
    array_get_dec
    refine ⟨by rw [List.length_map]; omega, ?_⟩
    array_get_dec
    refine ih o2 _ _ h2 (by omega) (by rw [List.length_append, List.length_map]; omega) hc fun c => ?_
    have e : acc ++ List.map D.str (o1.ls ++ o2.ls) = acc ++ List.map D.str o1.ls ++ List.map D.str o2.ls := by rw [List.map_append, List.append_assoc]
    rw [← e]
    exact q c
theorem all_lines_step {i : Nat} {x : D} {l : List D} {o : Out} {P : D → Out → Prop} (hx : x = .tup l ∨ x = .lst l) (hl : Css P l o) (hn : o.ls.length ≤ 300) (q : Q (.lst (o.ls.map .str)) true m)
    (hc : ∀ d o1, P d o1 → o1.n ≤ o.n → ∀ (Q : D → Bool → List SO → Prop) E, Q (.lst (o1.ls.map .str)) true m → F_lines i [d] m Q E) : F_all_lines (i + 1) [x] m Q E := by
  rw [F_all_lines.eq_2]
  unfold b_all_lines
  rcases hx with rfl | rfl
  all_goals
    array_get_dec
    refine loop_lines (N := o.n) l o [] _ hl (Nat.le_refl _) (by rw [List.length_nil]; exact small (by omega)) hc fun c => ?_
    array_get_dec
    exact q
theorem inner_pause {l : D} (q : Q (.lst [l]) true m) : F_inner [.tup [.str "pause", l]] m Q E := by
  unfold F_inner b_inner
  iterate 2 array_get_dec
  exact q
theorem inner_if {t l l2 : D} (q : Q (.lst [l, l2]) true m) : F_inner [.tup [.str "if", t, l, l2]] m Q E := by
  unfold F_inner b_inner
  iterate 2 array_get_dec
  exact q
theorem inner_si {d : D} {x : Str} {ms : List Str} (h : Si d x ms) (q : Q (.lst []) true m) : F_inner [d] m Q E := by
  unfold F_inner b_inner
  cases h with
  | one h =>
    simp only [SIMP, List.mem_cons, List.not_mem_nil, or_false] at h
    rcases h with rfl | rfl | rfl | rfl | rfl | rfl | rfl | rfl | rfl
    all_goals
      iterate 2 array_get_dec
      exact q
  | mk h hy =>
    rcases h with rfl | rfl
    all_goals
      iterate 2 array_get_dec
      exact q
theorem rows_pause {l : D} (q : Q (.lst [l]) true m) : F_inner_rows [.tup [.str "pause", l]] m Q E := by
  unfold F_inner_rows b_inner_rows
  iterate 2 array_get_dec
  exact q
theorem rows_if {t l l2 : D} (q : Q (.lst [l, l2]) true m) : F_inner_rows [.tup [.str "if", t, l, l2]] m Q E := by
  unfold F_inner_rows b_inner_rows
  iterate 2 array_get_dec
  exact q
theorem rows_si {d : D} {x : Str} {ms : List Str} (h : Si d x ms) (q : Q (.lst []) true m) : F_inner_rows [d] m Q E := by
  unfold F_inner_rows b_inner_rows
  cases h with
  | one h =>
    simp only [SIMP, List.mem_cons, List.not_mem_nil, or_false] at h
    rcases h with rfl | rfl | rfl | rfl | rfl | rfl | rfl | rfl | rfl
    all_goals
      iterate 2 array_get_dec
      exact q
  | mk h hy =>
    rcases h with rfl | rfl
    all_goals
      iterate 2 array_get_dec
      exact q
theorem lawcmd_step {i j : Nat} {d : D} {o : Out} (hd : Cm (j + 1) d o) (hn : o.n ≤ 100) (q : Q (.lst (o.ls.map .str)) true m)
    (hc : ∀ l o1 (Q : D → Bool → List SO → Prop) E, Css (Cm j) l o1 → o1.n ≤ 100 → Q (.lst (o1.ls.map .str)) true m → F_all_lines i [.tup l] m Q E) : F_lines (i + 1) [d] m Q E := by
  rw [F_lines.eq_2]
  unfold b_lines
  rcases hd with ⟨x, ms, h, rfl⟩ | ⟨l, o1, h, rfl, rfl⟩ | ⟨t, x, tm, l, o1, l2, o2, ht, h, h2, rfl, rfl⟩
  · cases h with
    | one h =>
      simp only [SIMP, List.mem_cons, List.not_mem_nil, or_false] at h
      rcases h with rfl | rfl | rfl | rfl | rfl | rfl | rfl | rfl | rfl
      all_goals
        array_get_dec
        refine ⟨join1 (by decide +kernel), ?_⟩
        array_get_dec
        exact q
    | mk h hy =>
      rcases h with rfl | rfl
      all_goals
        array_get_dec
        refine ⟨join2 (by decide +kernel) (Nat.le_trans (mark_len hy).2 (by decide)), ?_⟩
        array_get_dec
        exact q
  · have hb := Out.b.2 _ _ h
    have hn : o1.n + 1 ≤ 100 := hn
    array_get_dec
    refine inner_pause ?_
    array_get_dec
    unfold dFold
    array_get_dec
    refine hc l o1 _ _ h (by omega) ?_
    array_get_dec
    refine fold_map D.str D.str (fun z hz => ⟨_, rfl, rfl, fun _ h => h, fun Q' hQ => hQ⟩) (small (by rw [List.length_nil]; omega)) ?_
    array_get_dec
    refine ⟨by decide, ?_⟩
    unfold dFold
    array_get_dec
    refine ⟨small (by rw [List.length_map]; omega), ?_⟩
    array_get_dec
    refine ⟨small (by simp only [List.length_append, List.length_map, List.length_cons, List.length_nil]; omega), ?_⟩
    dsimp only at q
    simp only [List.map_cons, List.map_append, List.map_nil] at q
    exact q
  · have hb := Out.b.2 _ _ h
    have hb2 := Out.b.2 _ _ h2
    have hn : o1.n + o2.n + 1 ≤ 100 := hn
    array_get_dec
    refine inner_if ?_
    array_get_dec
    unfold dFold
    array_get_dec
    refine hc l o1 _ _ h (by omega) ?_
    array_get_dec
    refine fold_map D.str D.str (fun z hz => ⟨_, rfl, rfl, fun _ h => h, fun Q' hQ => hQ⟩) (small (by rw [List.length_nil]; omega)) ?_
    array_get_dec
    refine ⟨by decide, ?_⟩
    unfold dFold
    array_get_dec
    refine hc l2 o2 _ _ h2 (by omega) ?_
    array_get_dec
    refine fold_map D.str D.str (fun z hz => ⟨_, rfl, rfl, fun _ h => h, fun Q' hQ => hQ⟩) (small (by rw [List.length_nil]; omega)) ?_
    array_get_dec
    refine ⟨by decide, ?_⟩
    unfold dFold
    array_get_dec
    refine tst_words ht ?_
    have htl := ht.len.1
    array_get_dec
    refine ⟨small (by rw [if_len]; omega), ?_⟩
    array_get_dec
    refine ⟨small (by simp only [List.length_map]; omega), ?_⟩
    array_get_dec
    refine ⟨small (by simp only [List.length_append, List.length_map, List.length_cons, List.length_nil]; omega), ?_⟩
    array_get_dec
    refine ⟨small (by simp only [List.length_append, List.length_map, List.length_cons, List.length_nil]; omega), ?_⟩
    array_get_dec
    refine ⟨small (by simp only [List.length_append, List.length_map, List.length_cons, List.length_nil]; omega), ?_⟩
    dsimp only at q
    simp only [List.map_cons, List.map_append, List.map_nil] at q
    simp only [List.append_assoc, List.cons_append, List.nil_append]
    exact q
theorem law_lines_ok : ∀ j, (∀ i d o (Q : D → Bool → List SO → Prop) E, 2 * j ≤ i → Cm j d o → o.n ≤ 100 → Q (.lst (o.ls.map .str)) true m → F_lines i [d] m Q E) ∧
    (∀ i l o x (Q : D → Bool → List SO → Prop) E, 2 * j + 1 ≤ i → Css (Cm j) l o → o.n ≤ 100 → (x = .tup l ∨ x = .lst l) → Q (.lst (o.ls.map .str)) true m → F_all_lines i [x] m Q E) := by
  intro j
  induction j with
  | zero =>
    refine ⟨fun i d o Q E _ h => h.elim, fun i l o x Q E hi h hn hx q => ?_⟩
    match i, hi with
    | i + 1, _ => exact all_lines_step hx h (by have := Out.b.2 _ _ h; omega) q fun d o1 h => h.elim
  | succ j ih =>
    have key : ∀ i d o (Q : D → Bool → List SO → Prop) E, 2 * (j + 1) ≤ i → Cm (j + 1) d o → o.n ≤ 100 → Q (.lst (o.ls.map .str)) true m → F_lines i [d] m Q E := by
      intro i d o Q E hi h hn q
      match i, hi with
      | i + 1, hi => exact lawcmd_step h hn q fun l o1 Q E h1 hn1 q1 => ih.2 i l o1 _ Q E (by omega) h1 hn1 (.inl rfl) q1
    refine ⟨key, fun i l o x Q E hi h hn hx q => ?_⟩
    match i, hi with
    | i + 1, hi => exact all_lines_step hx h (by have := Out.b.2 _ _ h; omega) q fun d o1 h1 hn1 Q E q1 => key i d o1 Q E (by omega) h1 (by omega) q1
end

section
variable {m : List SO} {Q : D → Bool → List SO → Prop} {E : Ex → List SO → Prop}
theorem loop_css {A : Option (D × Bool)} {P : D → Out → Prop} {N : Nat} {body : MS} {sel : Out → List D} (h0 : sel ⟨0, [], [], []⟩ = []) (ha : ∀ a b, sel (a.add b) = sel a ++ sel b)
    (step : ∀ d o1 acc e, P d o1 → o1.n ≤ N → acc.length + (sel o1).length ≤ 1000 → ∀ (nx bk ct : S → Prop) (rt : D → Bool → S → Prop) (ex : Ex → S → Prop), (∀ c e, nx ⟨[A, some (.lst (acc ++ sel o1), true), c, e], m⟩) → body ⟨nx, rt, bk, ct, ex⟩ ⟨[A, some (.lst acc, true), some (d, false), e], m⟩)
    {nx bk ct : S → Prop} {rt : D → Bool → S → Prop} {ex : Ex → S → Prop} :
    ∀ (l : List D) (o : Out) (acc : List D) (c e : Option (D × Bool)), Css P l o → o.n ≤ N → acc.length + (sel o).length ≤ 1000 → (∀ c e, nx ⟨[A, some (.lst (acc ++ sel o), true), c, e], m⟩) →
    dLoop (.nm 2) body l ⟨nx, rt, bk, ct, ex⟩ ⟨[A, some (.lst acc, true), c, e], m⟩ := by
  intro l
  induction l with
  | nil =>
    intro o acc c e h _ _ q
    have h : o = _ := h
    subst h
    have q := q c e
    rw [h0, List.append_nil] at q
    exact q
  | cons d ds ih =>
    intro o acc c e h hN hl q
    obtain ⟨o1, o2, h1, h2, rfl⟩ := h
    have hN : o1.n + o2.n ≤ N := hN
    rw [ha, List.length_append] at hl
    unfold dLoop
    refine step d o1 acc e h1 (by omega) (by omega) _ _ _ _ _ fun c e => ?_
    refine ih o2 _ c e h2 (by omega) (by rw [List.length_append]; omega) fun c e => ?_
    have := q c e
    rw [ha, ← List.append_assoc] at this
    exact this
theorem F_whole_step {i j : Nat} {x : D} {l : List D} {o : Out} (hx : x = .tup l ∨ x = .lst l) (hl : Css (Cm j) l o) (hn : o.n ≤ 100) (q : Q (.lst (o.ws)) true m)
    (hc : ∀ k l o1 (Q : D → Bool → List SO → Prop) E, j = k + 1 → Css (Cm k) l o1 → o1.n ≤ 100 → Q (.lst (o1.ws)) true m → F_whole i [.tup l] m Q E) : F_whole (i + 1) [x] m Q E := by
  have hb := Out.b.2 _ _ hl
  rw [F_whole.eq_2]
  unfold b_whole
  rcases hx with rfl | rfl
  all_goals
    array_get_dec
    refine loop_css (N := 100) (P := Cm j) (sel := fun o => o.ws) rfl (fun _ _ => by simp [Out.add]) (fun d o1 acc e h1 hn1 ha nx bk ct rt ex qn => ?_) l o [] _ _ hl hn (by simp only [List.length_nil, List.length_map]; omega) fun c e => ?_
    · have hb1 := Out.b.1 _ _ h1
      try simp only [List.length_map] at ha
      have hs : acc.length < sizeLine := Nat.lt_of_lt_of_le (Nat.lt_succ_of_le (show acc.length ≤ 1000 by omega)) (by decide)
      cases j with
      | zero => exact h1.elim
      | succ k =>
        rcases h1 with ⟨x, ms, h, rfl⟩ | ⟨l1, o2, h, rfl, rfl⟩ | ⟨t, x, tm, l1, o2, l2, o3, ht, h, h2, rfl, rfl⟩
        · have qn := fun c => qn c e
          array_get_dec
          refine ⟨hs, ?_⟩
          array_get_dec
          refine inner_si h ?_
          array_get_dec
          exact qn _
        · have hn2 : o2.n + 1 ≤ 100 := hn1
          have hb2 := Out.b.2 _ _ h
          dsimp only at ha
          simp only [List.length_cons, List.length_append] at ha
          array_get_dec
          refine ⟨hs, ?_⟩
          array_get_dec
          refine inner_pause ?_
          array_get_dec
          unfold dLoop
          array_get_dec
          refine hc k l1 o2 _ _ rfl h (by omega) ?_
          array_get_dec
          refine ⟨small (by simp only [List.length_append, List.length_map, List.length_cons, List.length_nil]; omega), ?_⟩
          array_get_dec
          dsimp only at qn
          simp only [List.map_cons, List.map_append, List.append_assoc, List.cons_append, List.nil_append] at qn ⊢
          exact qn _ _
        · have hn2 : o2.n + o3.n + 1 ≤ 100 := hn1
          have hb2 := Out.b.2 _ _ h
          have hb3 := Out.b.2 _ _ h2
          have htl := ht.len.2
          dsimp only at ha
          simp only [List.length_cons, List.length_append] at ha
          array_get_dec
          refine ⟨hs, ?_⟩
          array_get_dec
          refine inner_if ?_
          array_get_dec
          unfold dLoop
          array_get_dec
          refine hc k l1 o2 _ _ rfl h (by omega) ?_
          array_get_dec
          refine ⟨small (by simp only [List.length_append, List.length_map, List.length_cons, List.length_nil]; omega), ?_⟩
          array_get_dec
          unfold dLoop
          array_get_dec
          refine hc k l2 o3 _ _ rfl h2 (by omega) ?_
          array_get_dec
          refine ⟨small (by simp only [List.length_append, List.length_map, List.length_cons, List.length_nil]; omega), ?_⟩
          array_get_dec
          dsimp only at qn
          simp only [List.map_cons, List.map_append, List.append_assoc, List.cons_append, List.nil_append] at qn ⊢
          exact qn _ _
    · array_get_dec
      exact q
theorem F_whole_ok : ∀ j i l o x (Q : D → Bool → List SO → Prop) E, j < i → Css (Cm j) l o → o.n ≤ 100 → (x = .tup l ∨ x = .lst l) → Q (.lst (o.ws)) true m → F_whole i [x] m Q E := by
  intro j
  induction j with
  | zero =>
    intro i l o x Q E hi h hn hx q
    match i, hi with
    | i + 1, _ => exact F_whole_step hx h hn q fun k l o1 Q E e => by cases e
  | succ j ih =>
    intro i l o x Q E hi h hn hx q
    match i, hi with
    | i + 1, hi => exact F_whole_step hx h hn q fun k l o1 Q E e h1 hn1 q1 => ih i l o1 _ Q E (by omega) (by cases e; exact h1) hn1 (.inl rfl) q1
theorem F_all_commands_step {i j : Nat} {x : D} {l : List D} {o : Out} (hx : x = .tup l ∨ x = .lst l) (hl : Css (Cm j) l o) (hn : o.n ≤ 100) (q : Q (.lst (o.ws)) true m)
    (hc : ∀ k l o1 (Q : D → Bool → List SO → Prop) E, j = k + 1 → Css (Cm k) l o1 → o1.n ≤ 100 → Q (.lst (o1.ws)) true m → F_all_commands i [.tup l] m Q E) : F_all_commands (i + 1) [x] m Q E := by
  have hb := Out.b.2 _ _ hl
  rw [F_all_commands.eq_2]
  unfold b_all_commands
  rcases hx with rfl | rfl
  all_goals
    array_get_dec
    refine loop_css (N := 100) (P := Cm j) (sel := fun o => o.ws) rfl (fun _ _ => by simp [Out.add]) (fun d o1 acc e h1 hn1 ha nx bk ct rt ex qn => ?_) l o [] _ _ hl hn (by simp only [List.length_nil, List.length_map]; omega) fun c e => ?_
    · have hb1 := Out.b.1 _ _ h1
      try simp only [List.length_map] at ha
      have hs : acc.length < sizeLine := Nat.lt_of_lt_of_le (Nat.lt_succ_of_le (show acc.length ≤ 1000 by omega)) (by decide)
      cases j with
      | zero => exact h1.elim
      | succ k =>
        rcases h1 with ⟨x, ms, h, rfl⟩ | ⟨l1, o2, h, rfl, rfl⟩ | ⟨t, x, tm, l1, o2, l2, o3, ht, h, h2, rfl, rfl⟩
        · have qn := fun c => qn c e
          array_get_dec
          refine ⟨small (by simp only [List.length_append, List.length_map, List.length_cons, List.length_nil] at ha ⊢; omega), ?_⟩
          array_get_dec
          refine rows_si h ?_
          array_get_dec
          exact qn _
        · have hn2 : o2.n + 1 ≤ 100 := hn1
          have hb2 := Out.b.2 _ _ h
          dsimp only at ha
          simp only [List.length_cons, List.length_append] at ha
          array_get_dec
          refine ⟨small (by simp only [List.length_append, List.length_map, List.length_cons, List.length_nil]; omega), ?_⟩
          array_get_dec
          refine rows_pause ?_
          array_get_dec
          unfold dLoop
          array_get_dec
          refine hc k l1 o2 _ _ rfl h (by omega) ?_
          array_get_dec
          refine ⟨small (by simp only [List.length_append, List.length_map, List.length_cons, List.length_nil]; omega), ?_⟩
          array_get_dec
          dsimp only at qn
          simp only [List.map_cons, List.map_append, List.append_assoc, List.cons_append, List.nil_append] at qn ⊢
          exact qn _ _
        · have hn2 : o2.n + o3.n + 1 ≤ 100 := hn1
          have hb2 := Out.b.2 _ _ h
          have hb3 := Out.b.2 _ _ h2
          have htl := ht.len.2
          dsimp only at ha
          simp only [List.length_cons, List.length_append] at ha
          array_get_dec
          refine ⟨small (by simp only [List.length_append, List.length_map, List.length_cons, List.length_nil]; omega), ?_⟩
          array_get_dec
          refine rows_if ?_
          array_get_dec
          unfold dLoop
          array_get_dec
          refine hc k l1 o2 _ _ rfl h (by omega) ?_
          array_get_dec
          refine ⟨small (by simp only [List.length_append, List.length_map, List.length_cons, List.length_nil]; omega), ?_⟩
          array_get_dec
          unfold dLoop
          array_get_dec
          refine hc k l2 o3 _ _ rfl h2 (by omega) ?_
          array_get_dec
          refine ⟨small (by simp only [List.length_append, List.length_map, List.length_cons, List.length_nil]; omega), ?_⟩
          array_get_dec
          dsimp only at qn
          simp only [List.map_cons, List.map_append, List.append_assoc, List.cons_append, List.nil_append] at qn ⊢
          exact qn _ _
    · array_get_dec
      exact q
theorem F_all_commands_ok : ∀ j i l o x (Q : D → Bool → List SO → Prop) E, j < i → Css (Cm j) l o → o.n ≤ 100 → (x = .tup l ∨ x = .lst l) → Q (.lst (o.ws)) true m → F_all_commands i [x] m Q E := by
  intro j
  induction j with
  | zero =>
    intro i l o x Q E hi h hn hx q
    match i, hi with
    | i + 1, _ => exact F_all_commands_step hx h hn q fun k l o1 Q E e => by cases e
  | succ j ih =>
    intro i l o x Q E hi h hn hx q
    match i, hi with
    | i + 1, hi => exact F_all_commands_step hx h hn q fun k l o1 Q E e h1 hn1 q1 => ih i l o1 _ Q E (by omega) (by cases e; exact h1) hn1 (.inl rfl) q1
end

section
variable {m : List SO} {Q : D → Bool → List SO → Prop} {E : Ex → List SO → Prop}
theorem F_all_marks_step {i j : Nat} {x : D} {l : List D} {o : Out} (hx : x = .tup l ∨ x = .lst l) (hl : Css (Cm j) l o) (hn : o.n ≤ 100) (q : Q (.lst (o.ms.map .str)) true m)
    (hc : ∀ k l o1 (Q : D → Bool → List SO → Prop) E, j = k + 1 → Css (Cm k) l o1 → o1.n ≤ 100 → Q (.lst (o1.ms.map .str)) true m → F_all_marks i [.tup l] m Q E) : F_all_marks (i + 1) [x] m Q E := by
  have hb := Out.b.2 _ _ hl
  rw [F_all_marks.eq_2]
  unfold b_all_marks
  have eM : c_MARKING = .tup [.str "mark", .str "unmark"] := rfl
  rcases hx with rfl | rfl
  all_goals
    array_get_dec
    refine loop_css (N := 100) (P := Cm j) (sel := fun o => o.ms.map .str) rfl (fun _ _ => by simp [Out.add]) (fun d o1 acc e h1 hn1 ha nx bk ct rt ex qn => ?_) l o [] _ _ hl hn (by simp only [List.length_nil, List.length_map]; omega) fun c e => ?_
    · have hb1 := Out.b.1 _ _ h1
      try simp only [List.length_map] at ha
      have hs : acc.length < sizeLine := Nat.lt_of_lt_of_le (Nat.lt_succ_of_le (show acc.length ≤ 1000 by omega)) (by decide)
      cases j with
      | zero => exact h1.elim
      | succ k =>
        rcases h1 with ⟨x, ms, h, rfl⟩ | ⟨l1, o2, h, rfl, rfl⟩ | ⟨t, x, tm, l1, o2, l2, o3, ht, h, h2, rfl, rfl⟩
        · have qn1 := fun c => qn c e
          have hr := h
          cases h with
          | one h =>
            simp only [SIMP, List.mem_cons, List.not_mem_nil, or_false] at h
            simp only [List.map_nil, List.append_nil] at qn1
            rcases h with rfl | rfl | rfl | rfl | rfl | rfl | rfl | rfl | rfl
            all_goals
              array_get_dec
              rw [eM]
              array_get_dec
              refine rows_si hr ?_
              array_get_dec
              exact qn1 _
          | mk h hy =>
            dsimp only at qn
            rcases h with rfl | rfl
            all_goals
              array_get_dec
              rw [eM]
              array_get_dec
              refine ⟨hs, ?_⟩
              array_get_dec
              refine rows_si hr ?_
              array_get_dec
              exact qn1 _
        · have hn2 : o2.n + 1 ≤ 100 := hn1
          have hb2 := Out.b.2 _ _ h
          dsimp only at ha
          try simp only [List.length_cons, List.length_append] at ha
          array_get_dec
          rw [eM]
          array_get_dec
          refine rows_pause ?_
          array_get_dec
          unfold dLoop
          array_get_dec
          refine hc k l1 o2 _ _ rfl h (by omega) ?_
          array_get_dec
          refine ⟨small (by simp only [List.length_append, List.length_map, List.length_cons, List.length_nil]; omega), ?_⟩
          array_get_dec
          dsimp only at qn
          exact qn _ _
        · have hn2 : o2.n + o3.n + 1 ≤ 100 := hn1
          have hb2 := Out.b.2 _ _ h
          have hb3 := Out.b.2 _ _ h2
          have htl := ht.len.2
          dsimp only at ha
          simp only [List.length_cons, List.length_append] at ha
          array_get_dec
          rw [eM]
          array_get_dec
          refine tst_marks (j := 6) ht fun b => ?_
          array_get_dec
          refine ⟨small (by simp only [List.length_append, List.length_map, List.length_cons, List.length_nil]; omega), ?_⟩
          array_get_dec
          refine rows_if ?_
          array_get_dec
          unfold dLoop
          array_get_dec
          refine hc k l1 o2 _ _ rfl h (by omega) ?_
          array_get_dec
          refine ⟨small (by simp only [List.length_append, List.length_map, List.length_cons, List.length_nil]; omega), ?_⟩
          array_get_dec
          unfold dLoop
          array_get_dec
          refine hc k l2 o3 _ _ rfl h2 (by omega) ?_
          array_get_dec
          refine ⟨small (by simp only [List.length_append, List.length_map, List.length_cons, List.length_nil]; omega), ?_⟩
          array_get_dec
          dsimp only at qn
          simp only [List.map_cons, List.map_append, List.append_assoc, List.cons_append, List.nil_append] at qn ⊢
          exact qn _ _
    · array_get_dec
      exact q
theorem F_all_marks_ok : ∀ j i l o x (Q : D → Bool → List SO → Prop) E, j < i → Css (Cm j) l o → o.n ≤ 100 → (x = .tup l ∨ x = .lst l) → Q (.lst (o.ms.map .str)) true m → F_all_marks i [x] m Q E := by
  intro j
  induction j with
  | zero =>
    intro i l o x Q E hi h hn hx q
    match i, hi with
    | i + 1, _ => exact F_all_marks_step hx h hn q fun k l o1 Q E e => by cases e
  | succ j ih =>
    intro i l o x Q E hi h hn hx q
    match i, hi with
    | i + 1, hi => exact F_all_marks_step hx h hn q fun k l o1 Q E e h1 hn1 q1 => ih i l o1 _ Q E (by omega) (by cases e; exact h1) hn1 (.inl rfl) q1
end

inductive OwR : D → List Str → Prop where
  | si {d : D} {x : Str} {ms : List Str} (h : Si d x ms) : OwR d ms
  | pa {y : D} : OwR (.tup [.str "pause", y]) []
  | fi {t y z : D} {x : Str} {tm : List Str} (h : Tst t x tm) : OwR (.tup [.str "if", t, y, z]) tm
def Ow (d : D) (o : Out) : Prop := OwR d o.ms ∧ o.n = 1 ∧ o.ms.length ≤ 1
theorem Css.append {P : D → Out → Prop} : ∀ {l1 l2 : List D} {o1 o2 : Out}, Css P l1 o1 → Css P l2 o2 → Css P (l1 ++ l2) (o1.add o2)
  | [], l2, o1, o2, h1, h2 => by
    have h1 : o1 = _ := h1
    subst h1
    have : Out.add ⟨0, [], [], []⟩ o2 = o2 := by simp [Out.add]
    rw [this]
    exact h2
  | d :: ds, l2, o1, o2, h1, h2 => by
    obtain ⟨a, b, p, q, rfl⟩ := h1
    refine ⟨a, b.add o2, p, Css.append q h2, ?_⟩
    simp [Out.add, Nat.add_assoc, List.append_assoc]
theorem ows {j : Nat} : (∀ d o, Cm j d o → ∃ o', Css Ow o.ws o' ∧ o'.ms = o.ms ∧ o'.n = o.n) ∧ ∀ l o, Css (Cm j) l o → ∃ o', Css Ow o.ws o' ∧ o'.ms = o.ms ∧ o'.n = o.n := by
  induction j with
  | zero =>
    refine ⟨fun d o h => h.elim, fun l o h => ?_⟩
    cases l with
    | nil => have h : o = _ := h; subst h; exact ⟨⟨0, [], [], []⟩, rfl, rfl, rfl⟩
    | cons d ds => obtain ⟨o1, o2, h, _⟩ := h; exact h.elim
  | succ j ih =>
    have key : ∀ d o, Cm (j + 1) d o → ∃ o', Css Ow o.ws o' ∧ o'.ms = o.ms ∧ o'.n = o.n := by
      intro d o h
      rcases h with ⟨x, ms, h, rfl⟩ | ⟨l, o1, h, rfl, rfl⟩ | ⟨t, x, tm, l, o1, l2, o2, ht, h, h2, rfl, rfl⟩
      · have hm : ms.length ≤ 1 := by cases h <;> simp
        exact ⟨⟨1, [], ms, []⟩, ⟨⟨1, [], ms, []⟩, ⟨0, [], [], []⟩, ⟨.si h, rfl, hm⟩, rfl, by simp [Out.add]⟩, rfl, rfl⟩
      · obtain ⟨o', a, b, c⟩ := ih.2 _ _ h
        exact ⟨Out.add ⟨1, [], [], []⟩ o', ⟨_, _, ⟨.pa, rfl, Nat.zero_le _⟩, a, rfl⟩, by simp [Out.add, b], by simp [Out.add, c]; omega⟩
      · obtain ⟨o', a, b, c⟩ := ih.2 _ _ h
        obtain ⟨o'', a2, b2, c2⟩ := ih.2 _ _ h2
        refine ⟨Out.add ⟨1, [], tm, []⟩ (o'.add o''), ⟨_, _, ⟨.fi ht, rfl, ht.len.2⟩, a.append a2, rfl⟩, by simp [Out.add, b, b2], by simp [Out.add, c, c2]; omega⟩
    refine ⟨key, fun l => ?_⟩
    induction l with
    | nil => intro o h; have h : o = _ := h; subst h; exact ⟨⟨0, [], [], []⟩, rfl, rfl, rfl⟩
    | cons d ds ihl =>
      intro o h
      obtain ⟨o1, o2, h1, h2, rfl⟩ := h
      obtain ⟨p, a, b, c⟩ := key _ _ h1
      obtain ⟨p', a', b', c'⟩ := ihl _ h2
      exact ⟨p.add p', a.append a', by simp [Out.add, b, b'], by simp [Out.add, c, c']⟩
section
variable {m : List SO} {Q : D → Bool → List SO → Prop} {E : Ex → List SO → Prop}
theorem size_ok {j : Nat} {l : List D} {o : Out} {x : D} (hj : j < 8) (h : Css (Cm j) l o) (hn : o.n ≤ 100) (hx : x = .tup l ∨ x = .lst l) (q : Q (.int o.ws.length) false m) : F_size_of [x] m Q E := by
  unfold F_size_of b_size_of
  array_get_dec
  refine F_all_commands_ok j 8 l o x _ _ hj h hn hx ?_
  array_get_dec
  exact q
theorem marks_of_ok {j : Nat} {l : List D} {o : Out} {x : D} (hj : j < 8) (h : Css (Cm j) l o) (hn : o.n ≤ 60) (hx : x = .tup l ∨ x = .lst l) (q : Q (.lst ((srt o.ms).map .str)) true m) : F_marks_of [x] m Q E := by
  have hb := Out.b.2 _ _ h
  unfold F_marks_of b_marks_of
  array_get_dec
  refine F_all_marks_ok j 8 l o x _ _ hj h (by omega) hx ?_
  array_get_dec
  rw [show strsOf (o.ms.map D.str) = some (o.ms.map id) from strsOf_map id o.ms, List.map_id]
  array_get_dec
  exact ⟨by omega, q⟩
theorem all_ok {j : Nat} {l : List D} {o : Out} {ev : D} (hj : j < 8) (h : Css (Cm j) l o) (hn : o.n ≤ 100) (q : Q (.lst o.ws) true m) : F_all [.lst [.tup [ev, .lst l]]] m Q E := by
  have hb := Out.b.2 _ _ h
  unfold F_all b_all
  array_get_dec
  unfold dLoop
  array_get_dec
  refine F_whole_ok j 8 l o _ _ _ hj h hn (.inr rfl) ?_
  array_get_dec
  refine ⟨small (by omega), ?_⟩
  unfold dLoop
  array_get_dec
  exact q
theorem law_marks_ok {j : Nat} {l : List D} {o : Out} {ev : D} (hj : j < 8) (h : Css (Cm j) l o) (hn : o.n ≤ 60) (q : Q (.lst ((srt o.ms).map .str)) true m) : F_marks [.lst [.tup [ev, .lst l]]] m Q E := by
  have hb := Out.b.2 _ _ h
  obtain ⟨o', hw, hm, hn'⟩ := ows.2 _ _ h
  unfold F_marks b_marks
  array_get_dec
  refine all_ok hj h (by omega) ?_
  array_get_dec
  refine loop_css (N := 100) (P := Ow) (sel := fun o => o.ms.map .str) rfl (fun _ _ => by simp [Out.add]) (fun d o1 acc e h1 hn1 ha nx bk ct rt ex qn => ?_) o.ws o' [] _ _ hw (by omega) (by rw [hm]; simp only [List.length_nil, List.length_map]; omega) fun c e => ?_
  · obtain ⟨hd, _, hlen⟩ := h1
    simp only [List.length_map] at ha
    have hs : acc.length < sizeLine := Nat.lt_of_lt_of_le (Nat.lt_succ_of_le (show acc.length ≤ 1000 by omega)) (by decide)
    generalize hom : o1.ms = oms at hd qn
    cases hd with
    | si h =>
      cases h with
      | one h =>
        simp only [SIMP, List.mem_cons, List.not_mem_nil, or_false] at h
        simp only [List.map_nil, List.append_nil] at qn
        rcases h with rfl | rfl | rfl | rfl | rfl | rfl | rfl | rfl | rfl
        all_goals
          array_get_dec
          exact qn _ _
      | mk h hy =>
        rcases h with rfl | rfl
        all_goals
          array_get_dec
          refine ⟨hs, ?_⟩
          array_get_dec
          exact qn _ _
    | pa =>
      simp only [List.map_nil, List.append_nil] at qn
      array_get_dec
      exact qn _ _
    | fi h =>
      cases h with
      | pl h =>
        cases h with
        | one h =>
          simp only [List.map_nil, List.append_nil] at qn
          rcases h with rfl | rfl
          all_goals
            array_get_dec
            exact qn _ _
        | two h hy =>
          simp only [List.map_nil, List.append_nil] at qn
          rcases h with rfl | rfl
          all_goals
            array_get_dec
            exact qn _ _
        | mk hy =>
          array_get_dec
          refine ⟨hs, ?_⟩
          array_get_dec
          exact qn _ _
      | nt h =>
        cases h with
        | one h =>
          simp only [List.map_nil, List.append_nil] at qn
          rcases h with rfl | rfl
          all_goals
            array_get_dec
            exact qn _ _
        | two h hy =>
          simp only [List.map_nil, List.append_nil] at qn
          rcases h with rfl | rfl
          all_goals
            array_get_dec
            exact qn _ _
        | mk hy =>
          array_get_dec
          refine ⟨hs, ?_⟩
          array_get_dec
          exact qn _ _
  · rw [hm]
    array_get_dec
    rw [show strsOf (o.ms.map D.str) = some (o.ms.map id) from strsOf_map id o.ms, List.map_id]
    array_get_dec
    exact ⟨by omega, q⟩
end

theorem datas_strs : ∀ zs : List Str, D.datas (zs.map .str) = some (zs.map .str)
  | [] => rfl
  | z :: zs => by
    rw [List.map_cons, D.datas, datas_strs zs]
    rfl
theorem lay_strs : ∀ zs : List Str, (∀ z ∈ zs, PyData.strOk z = true) → PyData.canLayAll0 (zs.map .str) = true ∧ PyData.depthAll (zs.map .str) = 0
  | [], _ => ⟨rfl, rfl⟩
  | z :: zs, h => by
    have ih := lay_strs zs fun y hy => h y (List.mem_cons_of_mem _ hy)
    have hz := h z List.mem_cons_self
    rw [List.map_cons]
    simp only [PyData.canLayAll0, PyData.canLay0, PyData.depthAll, PyData.depth, ih.1, ih.2, hz]
    exact ⟨rfl, rfl⟩
theorem eqQ_marks {zs : List Str} (h : ∀ z ∈ zs, markB z = true) (hn : zs ≠ []) : eqQ (.lst (zs.map .str)) (.lst []) = some false := by
  obtain ⟨a, b⟩ := lay_strs zs fun z hz => strOk_mark (h z hz)
  cases zs with
  | nil => exact absurd rfl hn
  | cons z r =>
    have e0 : D.data (.lst (List.map D.str (z :: r))) = some (.list (List.map PyData.str (z :: r))) := by simp only [D.data, datas_strs, Option.map_some]
    have e1 : D.data (.lst []) = some (.list []) := rfl
    have s1 : SeqAt.shaped (.list (List.map PyData.str (z :: r))) = true := by simp only [SeqAt.shaped, PyData.canLay0, PyData.depth, a, b]; rfl
    show (match D.data (.lst (List.map D.str (z :: r))), D.data (.lst []) with
      | some a, some b => if SeqAt.shaped a = true ∧ SeqAt.shaped b = true then some (PyData.eqv a b) else none
      | _, _ => none) = some false
    rw [e0, e1]
    show (if SeqAt.shaped (.list (List.map PyData.str (z :: r))) = true ∧ SeqAt.shaped (.list []) = true then some (PyData.eqv (.list (List.map PyData.str (z :: r))) (.list [])) else none) = some false
    rw [if_pos ⟨s1, rfl⟩]
    rfl
theorem sh_word {y : Str} (h : (decide (y.length ≤ 8) && PyData.strOk y) = true) : Sh y := by
  rw [Bool.and_eq_true, decide_eq_true_eq] at h
  exact h
section
variable {m : List SO} {Q : D → Bool → List SO → Prop} {E : Ex → List SO → Prop} {n : Nat} {zs : List Str}
theorem test_draw (hm : m[n]? = some .bag) (hz : ∀ z ∈ zs, markB z = true) (hne : zs ≠ []) (hl : zs.length ≤ 10) (q : ∀ t x tm, Tst t x tm → Q t false m) : F_test [.ref n, .lst (zs.map .str)] m Q E := by
  unfold F_test b_test
  array_get_dec
  refine any_of hm (.inl rfl) (by simp) (by decide) fun w hw => ?_
  array_get_dec
  refine any_of hm (.inl rfl) (by simp) (by decide) fun v hv => ?_
  array_get_dec
  refine any_of hm (.inl rfl) (by simp) (show 4 ≤ sizeLine by decide) fun d hd => ?_
  have hP : ∃ x tm, PT d x tm := by
    simp only [List.mem_cons, List.not_mem_nil, or_false] at hd hw hv
    rcases hd with rfl | rfl | rfl | rfl
    · exact ⟨_, _, .one (.inl rfl)⟩
    · exact ⟨_, _, .one (.inr rfl)⟩
    · rcases hw with rfl | rfl | rfl <;> exact ⟨_, _, .two (.inl rfl) (sh_word (by decide +kernel))⟩
    · rcases hv with rfl | rfl | rfl | rfl <;> exact ⟨_, _, .two (.inr rfl) (sh_word (by decide +kernel))⟩
  clear hd hw hv
  have last : ∀ d, (∃ x tm, PT d x tm) → Q d false m ∧ Q (.tup [.str "not", d]) false m := fun d ⟨x, tm, h⟩ => ⟨q _ _ _ (.pl h), q _ _ _ (.nt h)⟩
  array_get_dec
  have e := eqQ_marks hz hne
  rw [e]
  array_get_dec
  refine ⟨n, 4, rfl, hm, by decide, by decide, fun a ha ha2 => ?_⟩
  array_get_dec
  by_cases h : a = 0
  · rw [if_pos h]
    array_get_dec
    refine any_of hm (.inl rfl) (by simpa using hne) (small (by rw [List.length_map]; omega)) fun y hy => ?_
    obtain ⟨z, hz1, rfl⟩ := List.mem_map.mp hy
    array_get_dec
    refine ⟨n, 3, rfl, hm, by decide, by decide, fun b hb hb2 => ?_⟩
    array_get_dec
    have L := last _ ⟨_, _, .mk (hz z hz1)⟩
    by_cases h' : b = 0
    · rw [if_pos h']
      array_get_dec
      exact L.2
    · rw [if_neg h']
      array_get_dec
      exact L.1
  · rw [if_neg h]
    array_get_dec
    refine ⟨n, 3, rfl, hm, by decide, by decide, fun b hb hb2 => ?_⟩
    array_get_dec
    have L := last _ hP
    by_cases h' : b = 0
    · rw [if_pos h']
      array_get_dec
      exact L.2
    · rw [if_neg h']
      array_get_dec
      exact L.1
def simB : D → Bool
  | .str a => decide (a ∈ SIMP)
  | _ => false
theorem sim_of {l : List D} (h : l.all simB = true) {y : D} (hy : y ∈ l) : ∃ a ∈ SIMP, y = .str a := by
  have := List.all_eq_true.mp h y hy
  cases y <;> first | (cases this; done) | skip
  exact ⟨_, of_decide_eq_true this, rfl⟩
theorem simple_draw {ev : Str} (hm : m[n]? = some .bag) (hz : ∀ z ∈ zs, markB z = true) (hne : zs ≠ []) (hl : zs.length ≤ 10) (q : ∀ d x ms, Si d x ms → Q d false m) : F_simple [.ref n, .str ev, .lst (zs.map .str)] m Q E := by
  unfold F_simple b_simple
  have e := eqQ_marks hz hne
  array_get_dec
  by_cases h1 : ev = Str.ofString "hit" ∨ ev = Str.ofString "go"
  all_goals first | rw [if_pos h1] | rw [if_neg h1]
  all_goals
    array_get_dec
    by_cases h2 : ev = Str.ofString "copied"
  all_goals first | rw [if_pos h2] | rw [if_neg h2]
  all_goals
    array_get_dec
    try refine ⟨by decide, ?_⟩
    array_get_dec
    rw [e]
    array_get_dec
    refine ⟨n, 5, rfl, hm, by decide, by decide, fun a ha ha2 => ?_⟩
    array_get_dec
    by_cases h : a = 0
    · rw [if_pos h]
      array_get_dec
      refine any_of hm (.inl rfl) (by simp) (by decide) fun w hw => ?_
      array_get_dec
      refine any_of hm (.inl rfl) (by simpa using hne) (small (by rw [List.length_map]; omega)) fun y hy => ?_
      obtain ⟨z, hz1, rfl⟩ := List.mem_map.mp hy
      simp only [List.mem_cons, List.not_mem_nil, or_false] at hw
      array_get_dec
      rcases hw with rfl | rfl
      · exact q _ _ _ (.mk (.inl rfl) (hz z hz1))
      · exact q _ _ _ (.mk (.inr rfl) (hz z hz1))
    · rw [if_neg h]
      array_get_dec
      refine any_of hm (.inl rfl) (by simp) (by decide) fun y hy => ?_
      obtain ⟨a, ha, rfl⟩ := sim_of (by decide +kernel) hy
      array_get_dec
      exact q _ _ _ (.one ha)
end

section
variable {n r : Nat} {zs : List Str} {ev : Str}
/-- the state: a bag, a room -/
structure Rm (m : List SO) (n r : Nat) (k : Int) : Prop where
  bag : m[n]? = some .bag
  room : m[r]? = some (.cel [.int k])
theorem Rm.ne {m : List SO} {k : Int} (h : Rm m n r k) : r ≠ n := fun e => by
  have a := h.bag
  rw [← e, h.room] at a
  cases a
theorem Rm.set {m : List SO} {k : Int} (h : Rm m n r k) (k' : Int) : Rm (m.set r (.cel [.int k'])) n r k' :=
  ⟨by rw [List.getElem?_set_ne h.ne]; exact h.bag, by rw [List.getElem?_set_self (List.getElem?_eq_some_iff.mp h.room).1]⟩
theorem Rm.same {m : List SO} {k : Int} (h : Rm m n r k) : m.set r (.cel [.int k]) = m := by
  apply List.ext_getElem?
  intro i
  by_cases hi : r = i
  · subst hi
    rw [List.getElem?_set_self (List.getElem?_eq_some_iff.mp h.room).1, h.room]
  · rw [List.getElem?_set_ne hi]
theorem Css.snoc {P : D → Out → Prop} {l : List D} {d : D} {o o1 : Out} (h : Css P l o) (h1 : P d o1) : Css P (l ++ [d]) (o.add o1) := by
  have e : Css P [d] o1 := ⟨o1, ⟨0, [], [], []⟩, h1, rfl, by simp [Out.add]⟩
  exact h.append e
def CmdOk (n r : Nat) (zs : List Str) (ev : Str) (j i : Nat) : Prop := ∀ (m : List SO) (k e : Int) (Q : D → Bool → List SO → Prop) (E : Ex → List SO → Prop), Rm m n r k → 1 ≤ k → k ≤ 100 → e + j = 5 →
  (∀ d o, Cm j d o → (o.n : Int) ≤ k → Q d false (m.set r (.cel [.int (k - o.n)]))) → F_command i [.ref n, .str ev, .lst (zs.map .str), .ref r, .int e] m Q E
def CmdsOk (n r : Nat) (zs : List Str) (ev : Str) (j i : Nat) : Prop := ∀ (m : List SO) (k e c : Int) (Q : D → Bool → List SO → Prop) (E : Ex → List SO → Prop), Rm m n r k → 0 ≤ k → k ≤ 100 → e + j = 5 → 0 ≤ c → c ≤ 1000 →
  (∀ l o, Css (Cm j) l o → (o.n : Int) ≤ k → (1 ≤ c → 1 ≤ k → l ≠ []) → Q (.tup l) false (m.set r (.cel [.int (k - o.n)]))) → F_commands i [.ref n, .str ev, .lst (zs.map .str), .ref r, .int e, .int c] m Q E
theorem loop_inv1 {α : Type} (f : α → D) (I I1 : S → Prop) (sub : ∀ s, I1 s → I s) {t : Tg} {body : MS} {nx bk ct : S → Prop} {rt : D → Bool → S → Prop} {ex : Ex → S → Prop} : ∀ {l : List α} {s : S}, l ≠ [] →
    (∀ a ∈ l, ∀ s, I s → ∃ s1, t.put (f a) s = some s1 ∧ ∀ K : S → Prop, (∀ s', I1 s' → K s') → body ⟨K, rt, nx, K, ex⟩ s1) → I s → (∀ s', I1 s' → nx s') → dLoop t body (l.map f) ⟨nx, rt, bk, ct, ex⟩ s
  | [], s, hn, _, _, _ => absurd rfl hn
  | a :: r, s, _, hb, h, k => by
    obtain ⟨s1, e, b⟩ := hb a List.mem_cons_self s h
    rw [List.map_cons]
    unfold dLoop
    rw [e, onSome_some]
    exact b _ fun s' h' => loop_inv f I1 (fun a ha s hs => hb a (List.mem_cons_of_mem _ ha) s (sub s hs)) h' k
theorem cmds_step {j i : Nat} (hc : CmdOk n r zs ev j i) : CmdsOk n r zs ev j (i + 1) := by
  intro m k e c Q E hm h0 h1 he hc0 hc1 q
  rw [F_commands.eq_2]
  unfold b_commands
  array_get_dec
  refine ⟨⟨by omega, by omega⟩, ?_⟩
  array_get_dec
  unfold rangeD
  have start : (⟨List.set (startD 8 [D.ref n, D.str ev, D.lst (List.map D.str zs), D.ref r, D.int e, D.int c]) 6 (some (D.lst [], true)), m⟩ : S) = ⟨[some (D.ref n, false), some (D.str ev, false), some (D.lst (zs.map .str), false), some (D.ref r, false), some (D.int e, false), some (D.int c, false), some (D.lst [], true), none], m.set r (.cel [.int (k - (((⟨0, [], [], []⟩ : Out).n : Nat) : Int))])⟩ := by
    have e0 : k - (((⟨0, [], [], []⟩ : Out).n : Nat) : Int) = k := by show k - ((0 : Nat) : Int) = k; omega
    rw [e0, hm.same]
    rfl
  by_cases hc1' : 1 ≤ c
  case neg =>
    have : c.toNat = 0 := by omega
    rw [this]
    rw [List.range_zero, List.map_nil]
    unfold dLoop
    array_get_dec
    have := q [] ⟨0, [], [], []⟩ rfl h0 (fun h => absurd h hc1')
    rw [show k - (((⟨0, [], [], []⟩ : Out).n : Nat) : Int) = k from by show k - ((0 : Nat) : Int) = k; omega, hm.same] at this
    exact this
  refine loop_inv1 _ (fun s => ∃ l o x7, Css (Cm j) l o ∧ (o.n : Int) ≤ k ∧ s = ⟨[some (D.ref n, false), some (D.str ev, false), some (D.lst (zs.map .str), false), some (D.ref r, false), some (D.int e, false), some (D.int c, false), some (D.lst l, true), x7], m.set r (.cel [.int (k - o.n)])⟩) (fun s => ∃ l o x7, (1 ≤ k → l ≠ []) ∧ Css (Cm j) l o ∧ (o.n : Int) ≤ k ∧ s = ⟨[some (D.ref n, false), some (D.str ev, false), some (D.lst (zs.map .str), false), some (D.ref r, false), some (D.int e, false), some (D.int c, false), some (D.lst l, true), x7], m.set r (.cel [.int (k - o.n)])⟩) (fun s ⟨l, o, x7, _, h⟩ => ⟨l, o, x7, h⟩) (fun e => by
    have := congrArg List.length e
    rw [List.length_range, List.length_nil] at this
    omega) ?_ ⟨[], ⟨0, [], [], []⟩, none, rfl, h0, start⟩ ?_
  · rintro a _ s ⟨l, o, x7, hl, hn, rfl⟩
    have hm' := hm.set (k - o.n)
    have hb := Out.b.2 _ _ hl
    refine ⟨_, rfl, fun K hK => ?_⟩
    array_get_dec
    rw [hm'.room]
    array_get_dec
    by_cases hp : 0 < k - (o.n : Int)
    · rw [if_pos hp]
      array_get_dec
      refine hc _ (k - o.n) e _ _ hm' (by omega) (by omega) he fun d o1 hd hn1 => ?_
      have hlen : l.length < sizeLine := Nat.lt_of_lt_of_le (Nat.lt_succ_of_le (show l.length ≤ 1000 by omega)) (by decide)
      array_get_dec
      refine ⟨hlen, ?_⟩
      refine hK _ ⟨l ++ [d], o.add o1, some (.int (0 + (a : Int)), false), fun _ h => by simp at h, hl.snoc hd, ?_, ?_⟩
      · show ((o.n + o1.n : Nat) : Int) ≤ k
        omega
      · have e1 : k - (o.n : Int) - (o1.n : Int) = k - ((o.add o1).n : Int) := by
          show _ = k - ((o.n + o1.n : Nat) : Int)
          omega
        rw [← e1, List.set_set]
        rfl
    · rw [if_neg hp]
      array_get_dec
      refine hK _ ⟨l, o, some (.int (0 + (a : Int)), false), fun h e => ?_, hl, hn, rfl⟩
      subst e
      have hl : o = _ := hl
      subst hl
      exact hp (by show 0 < k - ((0 : Nat) : Int); omega)
  · rintro s ⟨l, o, x7, hne, hl, hn, rfl⟩
    array_get_dec
    exact q l o hl hn fun _ => hne
theorem cmd_draw {j i : Nat} (hz : ∀ z ∈ zs, markB z = true) (hne : zs ≠ []) (hl : zs.length ≤ 10) (hj : 1 ≤ j) (hc : 2 ≤ j → CmdsOk n r zs ev (j - 1) i) : CmdOk n r zs ev j (i + 1) := by
  intro m k e Q E hm h1 h2 he q
  obtain ⟨j, rfl⟩ : ∃ j', j = j' + 1 := ⟨j - 1, by omega⟩
  have hm' := hm.set (k - 1)
  have hs : ∀ d x ms, Si d x ms → Q d false (m.set r (.cel [.int (k - 1)])) := fun d x ms h => q d ⟨1, [x], ms, [d]⟩ (.inl ⟨x, ms, h, rfl⟩) h1
  rw [F_command.eq_2]
  unfold b_command
  iterate 2 array_get_dec
  rw [hm.room]
  iterate 2 array_get_dec
  rw [hm.room]
  iterate 2 array_get_dec
  rw [show ixN 1 0 = some 0 from rfl]
  iterate 2 array_get_dec
  refine ⟨n, 7, rfl, hm'.bag, by decide, by decide, fun a ha ha2 => ?_⟩
  iterate 2 array_get_dec
  by_cases c1 : 1 < a
  · rw [if_pos c1]
    iterate 2 array_get_dec
    refine simple_draw hm'.bag hz hne hl fun d x ms h => ?_
    iterate 2 array_get_dec
    exact hs d x ms h
  rw [if_neg c1]
  iterate 2 array_get_dec
  rw [hm'.room]
  iterate 2 array_get_dec
  by_cases c2 : k - 1 < 1
  · rw [if_pos c2]
    iterate 2 array_get_dec
    refine simple_draw hm'.bag hz hne hl fun d x ms h => ?_
    iterate 2 array_get_dec
    exact hs d x ms h
  rw [if_neg c2]
  iterate 2 array_get_dec
  by_cases c3 : 3 < e
  · rw [if_pos c3]
    iterate 2 array_get_dec
    refine simple_draw hm'.bag hz hne hl fun d x ms h => ?_
    iterate 2 array_get_dec
    exact hs d x ms h
  rw [if_neg c3]
  have hc := hc (by omega)
  rw [show j + 1 - 1 = j from rfl] at hc
  iterate 2 array_get_dec
  by_cases c4 : a = 0
  · rw [if_pos c4]
    iterate 2 array_get_dec
    refine ⟨n, 3, rfl, hm'.bag, by decide, by decide, fun b hb hb2 => ?_⟩
    iterate 2 array_get_dec
    refine hc _ (k - 1) (e + 1) (1 + b) _ _ hm' (by omega) (by omega) (by omega) (by omega) (by omega) fun l o hl' hn _ => ?_
    iterate 2 array_get_dec
    have e1 : k - 1 - (o.n : Int) = k - ((o.n + 1 : Nat) : Int) := by omega
    rw [e1]
    exact q _ ⟨o.n + 1, _, _, _⟩ (.inr (.inl ⟨l, o, hl', rfl, rfl⟩)) (by show ((o.n + 1 : Nat) : Int) ≤ k; omega)
  rw [if_neg c4]
  iterate 2 array_get_dec
  refine test_draw hm'.bag hz hne hl fun t x tm ht => ?_
  iterate 2 array_get_dec
  refine ⟨n, 3, rfl, hm'.bag, by decide, by decide, fun b hb hb2 => ?_⟩
  iterate 2 array_get_dec
  refine hc _ (k - 1) (e + 1) b _ _ hm' (by omega) (by omega) (by omega) (by omega) (by omega) fun l o hl' hn _ => ?_
  have hm2 := hm.set (k - 1 - o.n)
  iterate 2 array_get_dec
  refine ⟨n, 3, rfl, hm2.bag, by decide, by decide, fun b2 hb hb2 => ?_⟩
  iterate 2 array_get_dec
  refine hc _ (k - 1 - o.n) (e + 1) b2 _ _ hm2 (by omega) (by omega) (by omega) (by omega) (by omega) fun l2 o2 hl2 hn2 _ => ?_
  iterate 2 array_get_dec
  have e1 : k - 1 - (o.n : Int) - (o2.n : Int) = k - ((o.n + o2.n + 1 : Nat) : Int) := by omega
  rw [e1]
  exact q _ ⟨o.n + o2.n + 1, _, _, _⟩ (.inr (.inr ⟨t, x, tm, l, o, l2, o2, ht, hl', hl2, rfl, rfl⟩)) (by show ((o.n + o2.n + 1 : Nat) : Int) ≤ k; omega)
theorem cmds_ok (hz : ∀ z ∈ zs, markB z = true) (hne : zs ≠ []) (hl : zs.length ≤ 10) : ∀ j i, 1 ≤ j → 2 * j ≤ i → CmdsOk n r zs ev j i := by
  intro j
  induction j with
  | zero => intro i h; exact absurd h (by decide)
  | succ j ih =>
    intro i _ hi
    match i, hi with
    | i + 2, hi =>
      refine cmds_step (cmd_draw hz hne hl (by omega) fun h => ih i (by omega) (by omega))
end

theorem css_os {P : D → Out → Prop} : ∀ {l : List D} {o : Out}, Css P l o → ∃ os, All2 P l os ∧ ∀ p ∈ os, p.n ≤ o.n
  | [], o, h => ⟨[], .nil, by simp⟩
  | d :: ds, o, h => by
    obtain ⟨o1, o2, h1, h2, rfl⟩ := h
    obtain ⟨os, a, b⟩ := css_os h2
    refine ⟨o1 :: os, .cons h1 a, fun p hp => ?_⟩
    show p.n ≤ o1.n + o2.n
    rcases List.mem_cons.mp hp with rfl | hp
    · omega
    · have := b p hp; omega
def linesD (o : Out) : D := .lst (o.ls.map .str)
def linesC (o : Out) : SO := .cel (o.ls.map .str)
def refsF : Nat → Nat → List D
  | _, 0 => []
  | a, k + 1 => .ref a :: refsF (a + 1) k
theorem refsF_snoc : ∀ (k a : Nat), refsF a (k + 1) = refsF a k ++ [.ref (a + k)]
  | 0, a => rfl
  | k + 1, a => by
    show .ref a :: refsF (a + 1) (k + 1) = .ref a :: (refsF (a + 1) k ++ [.ref (a + (k + 1))])
    rw [refsF_snoc k (a + 1), show a + 1 + k = a + (k + 1) from by omega]
theorem refsF_len : ∀ (k a : Nat), (refsF a k).length = k
  | 0, a => rfl
  | k + 1, a => by show (refsF (a + 1) k).length + 1 = k + 1; rw [refsF_len]
theorem noRefs_strs : ∀ ls : List Str, noRefs (ls.map .str) = true
  | [] => rfl
  | _ :: ls => by rw [List.map_cons]; simp only [noRefs, noRef, noRefs_strs ls]; rfl
theorem ress_strs (m : List SO) : ∀ ls : List Str, ress m (ls.map .str) = some (ls.map .str)
  | [] => rfl
  | _ :: ls => by rw [List.map_cons]; simp only [ress, res, ress_strs m ls, Option.bind_some, Option.map_some]
theorem ress_lines (m : List SO) : ∀ os : List Out, ress m (os.map linesD) = some (os.map linesD)
  | [] => rfl
  | o :: os => by
    have h1 : res m (linesD o) = some (linesD o) := by simp only [linesD, res, ress_strs, Option.map_some]
    rw [List.map_cons]
    simp only [ress, h1, ress_lines m os, Option.bind_some, Option.map_some]
theorem ress_refs (m : List SO) : ∀ (os : List Out) (a : Nat), (∀ i o, os[i]? = some o → m[a + i]? = some (linesC o)) → ress m (refsF a os.length) = some (os.map linesD)
  | [], a, _ => rfl
  | o :: os, a, h => by
    have h0 := h 0 o rfl
    rw [Nat.add_zero] at h0
    have ih := ress_refs m os (a + 1) fun i p hp => by
      have := h (i + 1) p (by simpa using hp)
      rw [show a + 1 + i = a + (i + 1) from by omega]
      exact this
    show ress m (.ref a :: refsF (a + 1) os.length) = _
    simp only [ress, res, h0, linesC, noRefs_strs, if_true, Option.bind_some, ih, Option.map_some]
    rfl
theorem pl_lines {os : List Out} (h : os.length ≤ 1000) (hs : ∀ o ∈ os, o.ls.length ≤ 1000) : Pl 8 (.lst (os.map linesD)) := by
  refine ⟨small (by rw [List.length_map]; exact h), fun d hd => ?_⟩
  obtain ⟨o, ho, rfl⟩ := List.mem_map.mp hd
  refine ⟨small (by rw [List.length_map]; exact hs o ho), fun d hd => ?_⟩
  obtain ⟨x, _, rfl⟩ := List.mem_map.mp hd
  trivial
section
variable {A0 A1 A2 A3 A4 A5 A6 A7 A8 A9 A11 : Option (D × Bool)} {E' : Ex → S → Prop}
theorem fold_cells : ∀ (l : List D) (os : List Out) (acc : List D) (mm : List SO) (QA : List D → S → Prop), All2 (Cm 4) l os → (∀ p ∈ os, p.n ≤ 100) → acc.length + os.length ≤ 1000 →
    QA (acc ++ refsF mm.length os.length) ⟨[A0, A1, A2, A3, A4, A5, A6, A7, A8, A9, none, A11], mm ++ os.map linesC⟩ →
    dFold [10] (.nm 10) mTrue (dCell (dCallNO 1 (F_command_lines 8) (daCons (dVar 10) daNil))) l acc ⟨[A0, A1, A2, A3, A4, A5, A6, A7, A8, A9, none, A11], mm⟩ QA E' := by
  intro l
  induction l with
  | nil =>
    intro os acc mm QA h _ _ q
    cases h
    rw [List.map_nil, List.append_nil] at q
    have q : QA (acc ++ []) _ := q
    rw [List.append_nil] at q
    exact q
  | cons d ds ih =>
    intro os acc mm QA h hb hl q
    cases h with
    | cons h1 h2 =>
      rename_i o os
      rw [List.length_cons] at hl
      unfold dFold
      array_get_dec
      refine (lines_ok 4).1 8 d o _ _ (by omega) h1 (hb o List.mem_cons_self) ?_
      array_get_dec
      refine ⟨Nat.lt_of_lt_of_le (Nat.lt_succ_of_le (show acc.length ≤ 1000 by omega)) (by decide), ?_⟩
      refine ih os _ _ QA h2 (fun p hp => hb p (List.mem_cons_of_mem _ hp)) (by rw [List.length_append]; simp only [List.length_cons, List.length_nil]; omega) ?_
      rw [List.append_assoc, List.append_assoc, List.length_append]
      exact q
theorem fold_lines : ∀ (l : List D) (os : List Out) (acc : List D) (mm : List SO) (QA : List D → S → Prop), All2 (Cm 4) l os → (∀ p ∈ os, p.n ≤ 100) → acc.length + os.length ≤ 1000 →
    QA (acc ++ os.map linesD) ⟨[A0, A1, A2, A3, A4, A5, A6, A7, A8, A9, none, A11], mm⟩ →
    dFold [10] (.nm 10) mTrue (dCallNO 1 (F_lines 8) (daCons (dVar 10) daNil)) l acc ⟨[A0, A1, A2, A3, A4, A5, A6, A7, A8, A9, none, A11], mm⟩ QA E' := by
  intro l
  induction l with
  | nil =>
    intro os acc mm QA h _ _ q
    cases h
    rw [List.map_nil, List.append_nil] at q
    exact q
  | cons d ds ih =>
    intro os acc mm QA h hb hl q
    cases h with
    | cons h1 h2 =>
      rename_i o os
      rw [List.length_cons] at hl
      unfold dFold
      array_get_dec
      refine (law_lines_ok 4).1 8 d o _ _ (by omega) h1 (hb o List.mem_cons_self) ?_
      array_get_dec
      refine ⟨Nat.lt_of_lt_of_le (Nat.lt_succ_of_le (show acc.length ≤ 1000 by omega)) (by decide), ?_⟩
      refine ih os _ _ QA h2 (fun p hp => hb p (List.mem_cons_of_mem _ hp)) (by rw [List.length_append]; simp only [List.length_cons, List.length_nil]; omega) ?_
      rw [List.append_assoc]
      exact q
end
theorem ev_celN {s : S} {n : Nat} {l : List D} (h : s.m[n]? = some (.cel l)) : celN s n = some l := by
  unfold celN
  rw [h]
theorem ev_celR {s : S} {n : Nat} {l : List D} (h : s.m[n]? = some (.cel l)) : celR s (.ref n) = some n := by
  show (if (celN s n).isSome = true then some n else none) = some n
  rw [ev_celN h]
  rfl
/-- plain data of small depth -/
def Dt (N : Nat) (d : D) : Prop := ∃ p, d.data = some p ∧ p.canLay0 = true ∧ p.depth ≤ N
def Dts (N : Nat) (l : List D) : Prop := ∃ p, D.datas l = some p ∧ PyData.canLayAll0 p = true ∧ PyData.depthAll p ≤ N
theorem Dts.of {N : Nat} : ∀ {l : List D}, (∀ d ∈ l, Dt N d) → Dts N l
  | [], _ => ⟨[], rfl, rfl, Nat.zero_le _⟩
  | d :: ds, h => by
    obtain ⟨p, a, b, c⟩ := h d List.mem_cons_self
    obtain ⟨ps, a', b', c'⟩ := Dts.of fun x hx => h x (List.mem_cons_of_mem _ hx)
    refine ⟨p :: ps, by simp only [D.datas, a, a', Option.bind_some, Option.map_some], by simp only [PyData.canLayAll0, b, b']; rfl, ?_⟩
    simp only [PyData.depthAll]
    omega
theorem Dt.tup {N : Nat} {l : List D} (h : ∀ d ∈ l, Dt N d) : Dt (N + 1) (.tup l) := by
  obtain ⟨p, a, b, c⟩ := Dts.of h
  exact ⟨.tuple p, by simp only [D.data, a, Option.map_some], by simp only [PyData.canLay0, b], by simp only [PyData.depth]; omega⟩
theorem Dt.lst {N : Nat} {l : List D} (h : ∀ d ∈ l, Dt N d) : Dt (N + 1) (.lst l) := by
  obtain ⟨p, a, b, c⟩ := Dts.of h
  exact ⟨.list p, by simp only [D.data, a, Option.map_some], by simp only [PyData.canLay0, b], by simp only [PyData.depth]; omega⟩
theorem Dt.str {N : Nat} {x : Str} (h : PyData.strOk x = true) : Dt N (.str x) := ⟨.str x, rfl, by simp only [PyData.canLay0, h], Nat.zero_le _⟩
theorem Dt.mono {N M : Nat} {d : D} (h : Dt N d) (k : N ≤ M) : Dt M d := let ⟨p, a, b, c⟩ := h; ⟨p, a, b, Nat.le_trans c k⟩
theorem Dt.eq {N : Nat} {d : D} (h : Dt N d) (k : N ≤ 64) (hs : ∃ l, d = .lst l) : eqQ d d = some true := by
  obtain ⟨l, rfl⟩ := hs
  obtain ⟨p, a, b, c⟩ := h
  have s : SeqAt.shaped p = true := by
    unfold SeqAt.shaped
    rw [b, decide_eq_true (show p.depth ≤ 64 by omega)]
    rfl
  show (match D.data (.lst l), D.data (.lst l) with
    | some a, some b => if SeqAt.shaped a = true ∧ SeqAt.shaped b = true then some (PyData.eqv a b) else none
    | _, _ => none) = some true
  rw [a]
  show (if SeqAt.shaped p = true ∧ SeqAt.shaped p = true then some (PyData.eqv p p) else none) = some true
  rw [if_pos ⟨s, s⟩, PySem.SeqAt.eqv_refl p b]
theorem PT.dt {t : D} {x : Str} {ms : List Str} (h : PT t x ms) : Dt 1 t := by
  cases h with
  | one h =>
      refine .tup fun d hd => ?_
      simp only [List.mem_cons, List.not_mem_nil, or_false] at hd
      subst hd
      exact .str (by rcases h with rfl | rfl <;> decide +kernel)
  | two h hy =>
      refine .tup fun d hd => ?_
      simp only [List.mem_cons, List.not_mem_nil, or_false] at hd
      rcases hd with rfl | rfl
      · exact .str (by rcases h with rfl | rfl <;> decide +kernel)
      · exact .str hy.2
  | mk hy =>
      refine .tup fun d hd => ?_
      simp only [List.mem_cons, List.not_mem_nil, or_false] at hd
      rcases hd with rfl | rfl
      · exact .str (by decide +kernel)
      · exact .str (strOk_mark hy)
theorem Tst.dt {t : D} {x : Str} {ms : List Str} (h : Tst t x ms) : Dt 2 t := by
  cases h with
  | pl h => exact h.dt.mono (by decide)
  | nt h =>
      refine .tup fun d hd => ?_
      simp only [List.mem_cons, List.not_mem_nil, or_false] at hd
      rcases hd with rfl | rfl
      · exact .str (by decide +kernel)
      · exact h.dt
theorem Si.dt {t : D} {x : Str} {ms : List Str} (h : Si t x ms) : Dt 1 t := by
  cases h with
  | one h =>
      refine .tup fun d hd => ?_
      simp only [List.mem_cons, List.not_mem_nil, or_false] at hd
      subst hd
      have : SIMP.all PyData.strOk = true := by decide +kernel
      exact .str (List.all_eq_true.mp this _ h)
  | mk h hy =>
      refine .tup fun d hd => ?_
      simp only [List.mem_cons, List.not_mem_nil, or_false] at hd
      rcases hd with rfl | rfl
      · exact .str (by rcases h with rfl | rfl <;> decide +kernel)
      · exact .str (strOk_mark hy)
theorem Css.each {P : D → Out → Prop} : ∀ {l : List D} {o : Out}, Css P l o → ∀ d ∈ l, ∃ o', P d o'
  | d :: ds, o, h, x, hx => by
    obtain ⟨o1, o2, h1, h2, _⟩ := h
    rcases List.mem_cons.mp hx with rfl | hx
    · exact ⟨o1, h1⟩
    · exact Css.each h2 x hx
theorem Cm.dt : ∀ {j : Nat} {d : D} {o : Out}, Cm j d o → Dt (2 * j + 2) d
  | j + 1, d, o, h => by
    have inner : ∀ {l : List D} {o : Out}, Css (Cm j) l o → Dt (2 * j + 3) (.tup l) := fun h => .tup fun d hd => let ⟨_, h'⟩ := h.each d hd; Cm.dt h'
    rcases h with ⟨x, ms, h, rfl⟩ | ⟨l, o1, h, rfl, rfl⟩ | ⟨t, x, tm, l, o1, l2, o2, ht, h, h2, rfl, rfl⟩
    · exact h.dt.mono (by omega)
    · refine Dt.mono (N := 2 * j + 3 + 1) (.tup fun d hd => ?_) (by omega)
      simp only [List.mem_cons, List.not_mem_nil, or_false] at hd
      rcases hd with rfl | rfl
      · exact .str (by decide +kernel)
      · exact inner h
    · refine Dt.mono (N := 2 * j + 3 + 1) (.tup fun d hd => ?_) (by omega)
      simp only [List.mem_cons, List.not_mem_nil, or_false] at hd
      rcases hd with rfl | rfl | rfl | rfl
      · exact .str (by decide +kernel)
      · exact ht.dt.mono (by omega)
      · exact inner h
      · exact inner h2
theorem eq_self_l {l : List D} {o : Out} (h : Css (Cm 4) l o) : eqQ (.lst l) (.lst l) = some true :=
  Dt.eq (N := 11) (.lst fun d hd => let ⟨_, h'⟩ := h.each d hd; Cm.dt h') (by decide) ⟨_, rfl⟩
theorem lsb {j : Nat} {d : D} {p : Out} (h : Cm j d p) (hn : p.n ≤ 100) : p.ls.length ≤ 1000 := by have := Out.b.1 _ _ h; omega
theorem all2_snd {α β : Type} {P : α → β → Prop} : ∀ {xs : List α} {ys : List β}, All2 P xs ys → ∀ y ∈ ys, ∃ x, P x y
  | _, _, .cons h t, y, hy => by
    rcases List.mem_cons.mp hy with rfl | hy
    · exact ⟨_, h⟩
    · exact all2_snd t y hy
theorem srt_len (xs : List Str) : (srt xs).length ≤ xs.length := by
  unfold srt
  split
  · rename_i h
    exact (Classical.choose_spec h).len
  · exact Nat.zero_le _
theorem shown5 : ∃ o, Cm 4 (.tup [.str "if", .tup [.str "not", .tup [.str "cell", .str "trap"]], .tup [.tup [.str "mark", .str "a"]], .tup []]) o ∧ o.n ≤ 100 ∧ o.ls = ([("if not cell trap" : Str), ("mark a" : Str), ("else" : Str), ("end" : Str)] : List Str) := by
  have h1 : Css (Cm 3) [.tup [.str "mark", .str "a"]] ⟨1, [Txt.join " " ["mark", "a"]], ["a"], [.tup [.str "mark", .str "a"]]⟩ :=
    ⟨⟨1, [Txt.join " " ["mark", "a"]], ["a"], [.tup [.str "mark", .str "a"]]⟩, ⟨0, [], [], []⟩, .inl ⟨_, _, .mk (.inl rfl) (by decide +kernel), rfl⟩, rfl, rfl⟩
  have h2 : Css (Cm 3) [] ⟨0, [], [], []⟩ := rfl
  have h3 : Tst (.tup [.str "not", .tup [.str "cell", .str "trap"]]) ("not " ++ Txt.join " " ["cell", "trap"]) [] := .nt (.two (.inl rfl) (sh_word (by decide +kernel)))
  exact ⟨_, .inr (.inr ⟨_, _, _, _, _, _, _, h3, h1, h2, rfl, rfl⟩), show 1 + 0 + 1 ≤ 100 by decide, by decide +kernel⟩
theorem law_true {Q : D → Bool → List SO → Prop} {E : Ex → List SO → Prop} (q : ∀ m, Q (.bl true) false m) : F_law [.scr] [] Q E := by
  unfold F_law b_law
  array_get_dec
  refine ⟨rfl, ?_⟩
  array_get_dec
  refine names_of rfl (by decide) fun zs hl hz hn => ?_
  have hne : zs ≠ [] := fun e => by rw [e] at hl; cases hl
  iterate 2 array_get_dec
  unfold rangeD
  refine loop_inv _ (fun s => ∃ x3 x4 x5 x6 x7 x8 x9 m', s = ⟨[some (D.scr, false), some (D.ref 0, false), some (D.lst (zs.map .str), false), x3, x4, x5, x6, x7, x8, x9, none, none], .bag :: m'⟩) ?_ ⟨_, _, _, _, _, _, _, [], rfl⟩ ?_
  · rintro a _ s ⟨x3, x4, x5, x6, x7, x8, x9, m', rfl⟩
    refine ⟨_, rfl, fun K hK => ?_⟩
    unfold F_events b_events
    iterate 3 array_get_dec
    refine any_of rfl (.inl rfl) (by simp) (by decide) fun d hd => ?_
    obtain ⟨ev, rfl⟩ : ∃ ev, d = .str ev := by
      simp only [List.mem_cons, List.not_mem_nil, or_false] at hd
      rcases hd with rfl | rfl | rfl | rfl | rfl | rfl <;> exact ⟨_, rfl⟩
    iterate 2 array_get_dec
    refine ⟨0, 4, rfl, rfl, by decide, by decide, fun b hb hb2 => ?_⟩
    iterate 2 array_get_dec
    refine cmds_ok hz hne (by rw [hl]; decide) 4 8 (by decide) (by decide) _ 16 1 (1 + b) _ _ ⟨rfl, ?_⟩ (by decide) (by decide) (by decide) (by omega) (by omega) fun l o hl' hn hln => ?_
    · rw [List.getElem?_cons_succ, List.getElem?_append_right (Nat.le_refl _), Nat.sub_self]
      rfl
    have hln := hln (by omega) (by decide)
    obtain ⟨os, hA, hbs⟩ := css_os hl'
    have hlo : l.length = os.length := hA.length
    have hbo := Out.b.2 _ _ hl'
    have hon : o.n ≤ 16 := by omega
    have hb1 : ∀ p ∈ os, p.n ≤ 100 := fun p hp => by have := hbs p hp; omega
    iterate 2 array_get_dec
    generalize List.set (m' ++ [SO.cel [D.int 16]]) m'.length (SO.cel [D.int (16 - (o.n : Int))]) = M1
    refine fold_cells l os [] (.bag :: M1) _ hA hb1 (by rw [List.length_nil]; omega) ?_
    iterate 2 array_get_dec
    refine fold_lines l os [] _ _ hA hb1 (by rw [List.length_nil]; omega) ?_
    iterate 2 array_get_dec
    have hat : ∀ i p, os[i]? = some p → (SO.bag :: (M1 ++ List.map linesC os))[M1.length + 1 + i]? = some (linesC p) := fun i p hp => by
      rw [show M1.length + 1 + i = (M1.length + i) + 1 from by omega, List.getElem?_cons_succ, List.getElem?_append_right (by omega), show M1.length + i - M1.length = i from by omega, List.getElem?_map, hp]
      rfl
    have hr : ress (SO.bag :: (M1 ++ List.map linesC os)) [D.lst (refsF (M1.length + 1) os.length), D.lst (List.map linesD os)] = some [.lst (os.map linesD), .lst (os.map linesD)] := by
      simp only [ress, res, ress_refs _ os _ hat, ress_lines, Option.map_some, Option.bind_some]
    rw [hr]
    iterate 2 array_get_dec
    refine like_refl (pl_lines (by omega) fun p hp => let ⟨_, h⟩ := all2_snd hA p hp; lsb h (hb1 p hp)) ?_
    refine ⟨rfl, rfl, ?_⟩
    iterate 2 array_get_dec
    obtain ⟨d0, ds0, rfl⟩ : ∃ d0 ds0, l = d0 :: ds0 := by
      cases l with
      | nil => exact absurd rfl hln
      | cons d0 ds0 => exact ⟨_, _, rfl⟩
    obtain ⟨p0, os0, rfl⟩ : ∃ p0 os0, os = p0 :: os0 := by cases hA; exact ⟨_, _, rfl⟩
    have hd0 : Cm 4 d0 p0 := by cases hA; assumption
    have hat0 := hat 0 p0 rfl
    rw [Nat.add_zero, List.map_cons] at hat0
    rw [List.length_cons, show refsF (M1.length + 1) (os0.length + 1) = .ref (M1.length + 1) :: refsF (M1.length + 2) os0.length from rfl]
    iterate 2 array_get_dec
    rw [ev_celR hat0]
    iterate 2 array_get_dec
    rw [ev_celN hat0]
    iterate 2 array_get_dec
    have hl0 := lsb hd0 (hb1 p0 List.mem_cons_self)
    refine ⟨by rw [List.length_map]; exact Nat.lt_of_lt_of_le (Nat.lt_succ_of_le hl0) (by decide), ?_⟩
    iterate 2 array_get_dec
    generalize List.set (M1 ++ linesC p0 :: List.map linesC os0) M1.length (SO.cel (List.map D.str p0.ls ++ [D.str "end"])) = M2
    refine (lines_ok 4).1 8 d0 p0 _ _ (by omega) hd0 (hb1 p0 List.mem_cons_self) ?_
    iterate 2 array_get_dec
    refine marks_of_ok (by decide) hl' (by omega) (.inr rfl) ?_
    iterate 2 array_get_dec
    refine size_ok (by decide) hl' (by omega) (.inr rfl) ?_
    iterate 2 array_get_dec
    refine size_ok (by decide) hl' (by omega) (.inl rfl) ?_
    iterate 2 array_get_dec
    refine marks_of_ok (j := 4) (l := []) (o := ⟨0, [], [], []⟩) (by decide) rfl (by decide) (.inr rfl) ?_
    iterate 2 array_get_dec
    refine (law_lines_ok 4).1 8 d0 p0 _ _ (by omega) hd0 (hb1 p0 List.mem_cons_self) ?_
    iterate 2 array_get_dec
    refine law_marks_ok (j := 4) (by decide) hl' (by omega) ?_
    iterate 2 array_get_dec
    refine F_whole_ok 4 8 _ o _ _ _ (by decide) hl' (by omega) (.inr rfl) ?_
    iterate 2 array_get_dec
    refine F_whole_ok 4 8 _ o _ _ _ (by decide) hl' (by omega) (.inr rfl) ?_
    iterate 2 array_get_dec
    rw [srt_nil, List.map_nil]
    refine like_refl ?_ ?_
    · refine ⟨show 5 ≤ sizeLine by decide, fun d hd => ?_⟩
      simp only [List.mem_cons, List.not_mem_nil, or_false] at hd
      rcases hd with rfl | rfl | rfl | rfl | rfl
      · refine ⟨small (by rw [List.length_map]; exact hl0), fun d hd => ?_⟩
        obtain ⟨x, _, rfl⟩ := List.mem_map.mp hd
        trivial
      · refine ⟨small (by rw [List.length_map]; have := srt_len o.ms; omega), fun d hd => ?_⟩
        obtain ⟨x, _, rfl⟩ := List.mem_map.mp hd
        trivial
      · trivial
      · trivial
      · exact ⟨by decide, fun d hd => absurd hd (by simp)⟩
    iterate 2 array_get_dec
    rw [eq_self_l hl']
    iterate 2 array_get_dec
    exact hK _ ⟨_, _, _, _, _, _, _, _, rfl⟩
  · rintro s ⟨x3, x4, x5, x6, x7, x8, x9, m', rfl⟩
    iterate 2 array_get_dec
    obtain ⟨o, ho, hn, hls⟩ := shown5
    refine (lines_ok 4).1 8 _ o _ _ (by omega) ho hn ?_
    rw [hls]
    iterate 2 array_get_dec
    refine like_refl ?_ ?_
    · exact plB_ok (by decide +kernel)
    iterate 2 array_get_dec
    refine size_ok (j := 4) (l := []) (o := ⟨0, [], [], []⟩) (by decide) rfl (by decide) (.inr rfl) ?_
    iterate 2 array_get_dec
    exact q _
end K05

namespace K05
open PySem PySem.Spec PyProof.Rows L2 DL
theorem all_mk {l : PySem.W.OpenLaw} {w : World} {K : PySem.W.Frag} {h : Heap} {mg : Str → Option Value} {fa : Addr} (X : K.In h) (G : h.Ns mainGlobals mg) (hfa : mg "law" = some (.ref fa))
    {f0 : Addr} {od0 an0 : Option Addr} {sl0 : Array (Option Value)} {oc0 kV0 dc0 pm0 cd0 ct0 : Value}
    (a0 : PySem.W.nsIn K mainGlobals "inner_rows" = some (some (.ref f0))) (l0 : K.lookup f0 = some ⟨oc0, od0, .func (PySem.W.fnOf "inner_rows" "inner_rows" (defArgs s_inner_rows) (defBody s_inner_rows) (defScope s_inner_rows) .none kV0 dc0 pm0 an0 cd0 ct0), sl0⟩) (c0 : PySem.W.codeIn K cd0 "inner_rows" = true) (k0 : PySem.W.keepIn K (.ref f0) = true)
    {f1 : Addr} {od1 an1 : Option Addr} {sl1 : Array (Option Value)} {oc1 kV1 dc1 pm1 cd1 ct1 : Value}
    (a1 : PySem.W.nsIn K mainGlobals "test_text" = some (some (.ref f1))) (l1 : K.lookup f1 = some ⟨oc1, od1, .func (PySem.W.fnOf "test_text" "test_text" (defArgs s_test_text) (defBody s_test_text) (defScope s_test_text) .none kV1 dc1 pm1 an1 cd1 ct1), sl1⟩) (c1 : PySem.W.codeIn K cd1 "test_text" = true) (k1 : PySem.W.keepIn K (.ref f1) = true)
    {f2 : Addr} {od2 an2 : Option Addr} {sl2 : Array (Option Value)} {oc2 kV2 dc2 pm2 cd2 ct2 : Value}
    (a2 : PySem.W.nsIn K mainGlobals "command_lines" = some (some (.ref f2))) (l2 : K.lookup f2 = some ⟨oc2, od2, .func (PySem.W.fnOf "command_lines" "command_lines" (defArgs s_command_lines) (defBody s_command_lines) (defScope s_command_lines) .none kV2 dc2 pm2 an2 cd2 ct2), sl2⟩) (c2 : PySem.W.codeIn K cd2 "command_lines" = true) (k2 : PySem.W.keepIn K (.ref f2) = true)
    {f3 : Addr} {od3 an3 : Option Addr} {sl3 : Array (Option Value)} {oc3 kV3 dc3 pm3 cd3 ct3 : Value}
    (a3 : PySem.W.nsIn K mainGlobals "lines_of" = some (some (.ref f3))) (l3 : K.lookup f3 = some ⟨oc3, od3, .func (PySem.W.fnOf "lines_of" "lines_of" (defArgs s_lines_of) (defBody s_lines_of) (defScope s_lines_of) .none kV3 dc3 pm3 an3 cd3 ct3), sl3⟩) (c3 : PySem.W.codeIn K cd3 "lines_of" = true) (k3 : PySem.W.keepIn K (.ref f3) = true)
    {f4 : Addr} {od4 an4 : Option Addr} {sl4 : Array (Option Value)} {oc4 kV4 dc4 pm4 cd4 ct4 : Value}
    (a4 : PySem.W.nsIn K mainGlobals "test_marks" = some (some (.ref f4))) (l4 : K.lookup f4 = some ⟨oc4, od4, .func (PySem.W.fnOf "test_marks" "test_marks" (defArgs s_test_marks) (defBody s_test_marks) (defScope s_test_marks) .none kV4 dc4 pm4 an4 cd4 ct4), sl4⟩) (c4 : PySem.W.codeIn K cd4 "test_marks" = true) (k4 : PySem.W.keepIn K (.ref f4) = true)
    {f5 : Addr} {od5 an5 : Option Addr} {sl5 : Array (Option Value)} {oc5 kV5 dc5 pm5 cd5 ct5 : Value}
    (a5 : PySem.W.nsIn K mainGlobals "all_marks" = some (some (.ref f5))) (l5 : K.lookup f5 = some ⟨oc5, od5, .func (PySem.W.fnOf "all_marks" "all_marks" (defArgs s_all_marks) (defBody s_all_marks) (defScope s_all_marks) .none kV5 dc5 pm5 an5 cd5 ct5), sl5⟩) (c5 : PySem.W.codeIn K cd5 "all_marks" = true) (k5 : PySem.W.keepIn K (.ref f5) = true)
    {f6 : Addr} {od6 an6 : Option Addr} {sl6 : Array (Option Value)} {oc6 kV6 dc6 pm6 cd6 ct6 : Value}
    (a6 : PySem.W.nsIn K mainGlobals "marks_of" = some (some (.ref f6))) (l6 : K.lookup f6 = some ⟨oc6, od6, .func (PySem.W.fnOf "marks_of" "marks_of" (defArgs s_marks_of) (defBody s_marks_of) (defScope s_marks_of) .none kV6 dc6 pm6 an6 cd6 ct6), sl6⟩) (c6 : PySem.W.codeIn K cd6 "marks_of" = true) (k6 : PySem.W.keepIn K (.ref f6) = true)
    {f7 : Addr} {od7 an7 : Option Addr} {sl7 : Array (Option Value)} {oc7 kV7 dc7 pm7 cd7 ct7 : Value}
    (a7 : PySem.W.nsIn K mainGlobals "all_commands" = some (some (.ref f7))) (l7 : K.lookup f7 = some ⟨oc7, od7, .func (PySem.W.fnOf "all_commands" "all_commands" (defArgs s_all_commands) (defBody s_all_commands) (defScope s_all_commands) .none kV7 dc7 pm7 an7 cd7 ct7), sl7⟩) (c7 : PySem.W.codeIn K cd7 "all_commands" = true) (k7 : PySem.W.keepIn K (.ref f7) = true)
    {f8 : Addr} {od8 an8 : Option Addr} {sl8 : Array (Option Value)} {oc8 kV8 dc8 pm8 cd8 ct8 : Value}
    (a8 : PySem.W.nsIn K mainGlobals "size_of" = some (some (.ref f8))) (l8 : K.lookup f8 = some ⟨oc8, od8, .func (PySem.W.fnOf "size_of" "size_of" (defArgs s_size_of) (defBody s_size_of) (defScope s_size_of) .none kV8 dc8 pm8 an8 cd8 ct8), sl8⟩) (c8 : PySem.W.codeIn K cd8 "size_of" = true) (k8 : PySem.W.keepIn K (.ref f8) = true)
    {f9 : Addr} {od9 an9 : Option Addr} {sl9 : Array (Option Value)} {oc9 kV9 dc9 pm9 cd9 ct9 : Value}
    (a9 : PySem.W.nsIn K mainGlobals "_law_draws" = some (some (.ref f9))) (l9 : K.lookup f9 = some ⟨oc9, od9, .func (PySem.W.fnOf "_law_draws" "_law_draws" (defArgs s_draws) (defBody s_draws) (defScope s_draws) .none kV9 dc9 pm9 an9 cd9 ct9), sl9⟩) (c9 : PySem.W.codeIn K cd9 "_law_draws" = true) (k9 : PySem.W.keepIn K (.ref f9) = true)
    {f10 : Addr} {od10 an10 : Option Addr} {sl10 : Array (Option Value)} {oc10 kV10 dc10 pm10 cd10 ct10 : Value}
    (a10 : PySem.W.nsIn K mainGlobals "_law_pull" = some (some (.ref f10))) (l10 : K.lookup f10 = some ⟨oc10, od10, .func (PySem.W.fnOf "_law_pull" "_law_pull" (defArgs s_pull) (defBody s_pull) (defScope s_pull) .none kV10 dc10 pm10 an10 cd10 ct10), sl10⟩) (c10 : PySem.W.codeIn K cd10 "_law_pull" = true) (k10 : PySem.W.keepIn K (.ref f10) = true)
    {f11 : Addr} {od11 an11 : Option Addr} {sl11 : Array (Option Value)} {oc11 kV11 dc11 pm11 cd11 ct11 : Value}
    (a11 : PySem.W.nsIn K mainGlobals "_law_any" = some (some (.ref f11))) (l11 : K.lookup f11 = some ⟨oc11, od11, .func (PySem.W.fnOf "_law_any" "_law_any" (defArgs s_any) (defBody s_any) (defScope s_any) .none kV11 dc11 pm11 an11 cd11 ct11), sl11⟩) (c11 : PySem.W.codeIn K cd11 "_law_any" = true) (k11 : PySem.W.keepIn K (.ref f11) = true)
    {f12 : Addr} {od12 an12 : Option Addr} {sl12 : Array (Option Value)} {oc12 kV12 dc12 pm12 cd12 ct12 : Value}
    (a12 : PySem.W.nsIn K mainGlobals "_law_like" = some (some (.ref f12))) (l12 : K.lookup f12 = some ⟨oc12, od12, .func (PySem.W.fnOf "_law_like" "_law_like" (defArgs s_like) (defBody s_like) (defScope s_like) .none kV12 dc12 pm12 an12 cd12 ct12), sl12⟩) (c12 : PySem.W.codeIn K cd12 "_law_like" = true) (k12 : PySem.W.keepIn K (.ref f12) = true)
    {f13 : Addr} {od13 an13 : Option Addr} {sl13 : Array (Option Value)} {oc13 kV13 dc13 pm13 cd13 ct13 : Value}
    (a13 : PySem.W.nsIn K mainGlobals "_law_names" = some (some (.ref f13))) (l13 : K.lookup f13 = some ⟨oc13, od13, .func (PySem.W.fnOf "_law_names" "_law_names" (defArgs s_names) (defBody s_names) (defScope s_names) .none kV13 dc13 pm13 an13 cd13 ct13), sl13⟩) (c13 : PySem.W.codeIn K cd13 "_law_names" = true) (k13 : PySem.W.keepIn K (.ref f13) = true)
    {f14 : Addr} {od14 an14 : Option Addr} {sl14 : Array (Option Value)} {oc14 kV14 dc14 pm14 cd14 ct14 : Value}
    (a14 : PySem.W.nsIn K mainGlobals "_law_events" = some (some (.ref f14))) (l14 : K.lookup f14 = some ⟨oc14, od14, .func (PySem.W.fnOf "_law_events" "_law_events" (defArgs s_events) (defBody s_events) (defScope s_events) .none kV14 dc14 pm14 an14 cd14 ct14), sl14⟩) (c14 : PySem.W.codeIn K cd14 "_law_events" = true) (k14 : PySem.W.keepIn K (.ref f14) = true)
    {f15 : Addr} {od15 an15 : Option Addr} {sl15 : Array (Option Value)} {oc15 kV15 dc15 pm15 cd15 ct15 : Value}
    (a15 : PySem.W.nsIn K mainGlobals "_law_test" = some (some (.ref f15))) (l15 : K.lookup f15 = some ⟨oc15, od15, .func (PySem.W.fnOf "_law_test" "_law_test" (defArgs s_test) (defBody s_test) (defScope s_test) .none kV15 dc15 pm15 an15 cd15 ct15), sl15⟩) (c15 : PySem.W.codeIn K cd15 "_law_test" = true) (k15 : PySem.W.keepIn K (.ref f15) = true)
    {f16 : Addr} {od16 an16 : Option Addr} {sl16 : Array (Option Value)} {oc16 kV16 dc16 pm16 cd16 ct16 : Value}
    (a16 : PySem.W.nsIn K mainGlobals "_law_simple" = some (some (.ref f16))) (l16 : K.lookup f16 = some ⟨oc16, od16, .func (PySem.W.fnOf "_law_simple" "_law_simple" (defArgs s_simple) (defBody s_simple) (defScope s_simple) .none kV16 dc16 pm16 an16 cd16 ct16), sl16⟩) (c16 : PySem.W.codeIn K cd16 "_law_simple" = true) (k16 : PySem.W.keepIn K (.ref f16) = true)
    {f17 : Addr} {od17 an17 : Option Addr} {sl17 : Array (Option Value)} {oc17 kV17 dc17 pm17 cd17 ct17 : Value}
    (a17 : PySem.W.nsIn K mainGlobals "_law_command" = some (some (.ref f17))) (l17 : K.lookup f17 = some ⟨oc17, od17, .func (PySem.W.fnOf "_law_command" "_law_command" (defArgs s_command) (defBody s_command) (defScope s_command) .none kV17 dc17 pm17 an17 cd17 ct17), sl17⟩) (c17 : PySem.W.codeIn K cd17 "_law_command" = true) (k17 : PySem.W.keepIn K (.ref f17) = true)
    {f18 : Addr} {od18 an18 : Option Addr} {sl18 : Array (Option Value)} {oc18 kV18 dc18 pm18 cd18 ct18 : Value}
    (a18 : PySem.W.nsIn K mainGlobals "_law_commands" = some (some (.ref f18))) (l18 : K.lookup f18 = some ⟨oc18, od18, .func (PySem.W.fnOf "_law_commands" "_law_commands" (defArgs s_commands) (defBody s_commands) (defScope s_commands) .none kV18 dc18 pm18 an18 cd18 ct18), sl18⟩) (c18 : PySem.W.codeIn K cd18 "_law_commands" = true) (k18 : PySem.W.keepIn K (.ref f18) = true)
    {f19 : Addr} {od19 an19 : Option Addr} {sl19 : Array (Option Value)} {oc19 kV19 dc19 pm19 cd19 ct19 : Value}
    (a19 : PySem.W.nsIn K mainGlobals "_law_inner" = some (some (.ref f19))) (l19 : K.lookup f19 = some ⟨oc19, od19, .func (PySem.W.fnOf "_law_inner" "_law_inner" (defArgs s_inner) (defBody s_inner) (defScope s_inner) .none kV19 dc19 pm19 an19 cd19 ct19), sl19⟩) (c19 : PySem.W.codeIn K cd19 "_law_inner" = true) (k19 : PySem.W.keepIn K (.ref f19) = true)
    {f20 : Addr} {od20 an20 : Option Addr} {sl20 : Array (Option Value)} {oc20 kV20 dc20 pm20 cd20 ct20 : Value}
    (a20 : PySem.W.nsIn K mainGlobals "_law_whole" = some (some (.ref f20))) (l20 : K.lookup f20 = some ⟨oc20, od20, .func (PySem.W.fnOf "_law_whole" "_law_whole" (defArgs s_whole) (defBody s_whole) (defScope s_whole) .none kV20 dc20 pm20 an20 cd20 ct20), sl20⟩) (c20 : PySem.W.codeIn K cd20 "_law_whole" = true) (k20 : PySem.W.keepIn K (.ref f20) = true)
    {f21 : Addr} {od21 an21 : Option Addr} {sl21 : Array (Option Value)} {oc21 kV21 dc21 pm21 cd21 ct21 : Value}
    (a21 : PySem.W.nsIn K mainGlobals "_law_all" = some (some (.ref f21))) (l21 : K.lookup f21 = some ⟨oc21, od21, .func (PySem.W.fnOf "_law_all" "_law_all" (defArgs s_all) (defBody s_all) (defScope s_all) .none kV21 dc21 pm21 an21 cd21 ct21), sl21⟩) (c21 : PySem.W.codeIn K cd21 "_law_all" = true) (k21 : PySem.W.keepIn K (.ref f21) = true)
    {f22 : Addr} {od22 an22 : Option Addr} {sl22 : Array (Option Value)} {oc22 kV22 dc22 pm22 cd22 ct22 : Value}
    (a22 : PySem.W.nsIn K mainGlobals "_law_test_words" = some (some (.ref f22))) (l22 : K.lookup f22 = some ⟨oc22, od22, .func (PySem.W.fnOf "_law_test_words" "_law_test_words" (defArgs s_test_words) (defBody s_test_words) (defScope s_test_words) .none kV22 dc22 pm22 an22 cd22 ct22), sl22⟩) (c22 : PySem.W.codeIn K cd22 "_law_test_words" = true) (k22 : PySem.W.keepIn K (.ref f22) = true)
    {f23 : Addr} {od23 an23 : Option Addr} {sl23 : Array (Option Value)} {oc23 kV23 dc23 pm23 cd23 ct23 : Value}
    (a23 : PySem.W.nsIn K mainGlobals "_law_lines" = some (some (.ref f23))) (l23 : K.lookup f23 = some ⟨oc23, od23, .func (PySem.W.fnOf "_law_lines" "_law_lines" (defArgs s_lines) (defBody s_lines) (defScope s_lines) .none kV23 dc23 pm23 an23 cd23 ct23), sl23⟩) (c23 : PySem.W.codeIn K cd23 "_law_lines" = true) (k23 : PySem.W.keepIn K (.ref f23) = true)
    {f24 : Addr} {od24 an24 : Option Addr} {sl24 : Array (Option Value)} {oc24 kV24 dc24 pm24 cd24 ct24 : Value}
    (a24 : PySem.W.nsIn K mainGlobals "_law_all_lines" = some (some (.ref f24))) (l24 : K.lookup f24 = some ⟨oc24, od24, .func (PySem.W.fnOf "_law_all_lines" "_law_all_lines" (defArgs s_all_lines) (defBody s_all_lines) (defScope s_all_lines) .none kV24 dc24 pm24 an24 cd24 ct24), sl24⟩) (c24 : PySem.W.codeIn K cd24 "_law_all_lines" = true) (k24 : PySem.W.keepIn K (.ref f24) = true)
    {f25 : Addr} {od25 an25 : Option Addr} {sl25 : Array (Option Value)} {oc25 kV25 dc25 pm25 cd25 ct25 : Value}
    (a25 : PySem.W.nsIn K mainGlobals "_law_marks" = some (some (.ref f25))) (l25 : K.lookup f25 = some ⟨oc25, od25, .func (PySem.W.fnOf "_law_marks" "_law_marks" (defArgs s_marks) (defBody s_marks) (defScope s_marks) .none kV25 dc25 pm25 an25 cd25 ct25), sl25⟩) (c25 : PySem.W.codeIn K cd25 "_law_marks" = true) (k25 : PySem.W.keepIn K (.ref f25) = true)
    {f26 : Addr} {od26 an26 : Option Addr} {sl26 : Array (Option Value)} {oc26 kV26 dc26 pm26 cd26 ct26 : Value}
    (a26 : PySem.W.nsIn K mainGlobals "law" = some (some (.ref f26))) (l26 : K.lookup f26 = some ⟨oc26, od26, .func (PySem.W.fnOf "law" "law" (defArgs s_law) (defBody s_law) (defScope s_law) .none kV26 dc26 pm26 an26 cd26 ct26), sl26⟩) (c26 : PySem.W.codeIn K cd26 "law" = true) (k26 : PySem.W.keepIn K (.ref f26) = true)
    (z0 : PySem.W.nsIn K mainGlobals "all" = some none)
    (z1 : PySem.W.nsIn K mainGlobals "bool" = some none)
    (z2 : PySem.W.nsIn K mainGlobals "int" = some none)
    (z3 : PySem.W.nsIn K mainGlobals "isinstance" = some none)
    (z4 : PySem.W.nsIn K mainGlobals "len" = some none)
    (z5 : PySem.W.nsIn K mainGlobals "list" = some none)
    (z6 : PySem.W.nsIn K mainGlobals "range" = some none)
    (z7 : PySem.W.nsIn K mainGlobals "set" = some none)
    (z8 : PySem.W.nsIn K mainGlobals "sorted" = some none)
    (z9 : PySem.W.nsIn K mainGlobals "str" = some none)
    (z10 : PySem.W.nsIn K mainGlobals "tuple" = some none)
    (z11 : PySem.W.nsIn K mainGlobals "zip" = some none)
    {pa0 : Addr} {pd0 : Option Addr} {pn0 : Nat} {ps0 : Array (Option Value)} {t0_0 t0_1 : Tok}
    (p0 : PySem.W.nsIn K mainGlobals "MARKING" = some (some (.ref pa0))) (q0 : K.lookup pa0 = some ⟨.type "tuple", pd0, .seq #[.str "mark" t0_0, .str "unmark" t0_1] pn0, ps0⟩)
    : ∃ fd : FuncData, (∀ (s : Shared) (v : Value), BindsTo s fd ⟨[v], []⟩ [("_law_script", v)]) ∧ ∀ base : Heap, K.In base → base.Ns mainGlobals mg → FnOk l.prog w K mg base (L2.CX l.prog w) 20 fa fd ["_law_script"] (spD K xr0 1 F_law) := by
  have e := hfa.symm.trans (PySem.W.mg_of X G a26)
  cases e
  have F0 := fun_mk (st := s_inner_rows) l0 c0 k0
  have b0 := F0.binds (ps := ["command"]) fun _ _ _ _ _ _ us hl => match us, hl with | [_], _ => rfl
  have F1 := fun_mk (st := s_test_text) l1 c1 k1
  have b1 := F1.binds (ps := ["test"]) fun _ _ _ _ _ _ us hl => match us, hl with | [_], _ => rfl
  have F2 := fun_mk (st := s_command_lines) l2 c2 k2
  have b2 := F2.binds (ps := ["command"]) fun _ _ _ _ _ _ us hl => match us, hl with | [_], _ => rfl
  have F3 := fun_mk (st := s_lines_of) l3 c3 k3
  have b3 := F3.binds (ps := ["commands"]) fun _ _ _ _ _ _ us hl => match us, hl with | [_], _ => rfl
  have F4 := fun_mk (st := s_test_marks) l4 c4 k4
  have b4 := F4.binds (ps := ["test"]) fun _ _ _ _ _ _ us hl => match us, hl with | [_], _ => rfl
  have F5 := fun_mk (st := s_all_marks) l5 c5 k5
  have b5 := F5.binds (ps := ["commands"]) fun _ _ _ _ _ _ us hl => match us, hl with | [_], _ => rfl
  have F6 := fun_mk (st := s_marks_of) l6 c6 k6
  have b6 := F6.binds (ps := ["commands"]) fun _ _ _ _ _ _ us hl => match us, hl with | [_], _ => rfl
  have F7 := fun_mk (st := s_all_commands) l7 c7 k7
  have b7 := F7.binds (ps := ["commands"]) fun _ _ _ _ _ _ us hl => match us, hl with | [_], _ => rfl
  have F8 := fun_mk (st := s_size_of) l8 c8 k8
  have b8 := F8.binds (ps := ["commands"]) fun _ _ _ _ _ _ us hl => match us, hl with | [_], _ => rfl
  have F9 := fun_mk (st := s_draws) l9 c9 k9
  have b9 := F9.binds (ps := ["_law_script"]) fun _ _ _ _ _ _ us hl => match us, hl with | [_], _ => rfl
  have F10 := fun_mk (st := s_pull) l10 c10 k10
  have b10 := F10.binds (ps := ["_law_bag", "_law_many"]) fun _ _ _ _ _ _ us hl => match us, hl with | [_, _], _ => rfl
  have F11 := fun_mk (st := s_any) l11 c11 k11
  have b11 := F11.binds (ps := ["_law_bag", "_law_things"]) fun _ _ _ _ _ _ us hl => match us, hl with | [_, _], _ => rfl
  have F12 := fun_mk (st := s_like) l12 c12 k12
  have b12 := F12.binds (ps := ["_law_found", "_law_due"]) fun _ _ _ _ _ _ us hl => match us, hl with | [_, _], _ => rfl
  have F13 := fun_mk (st := s_names) l13 c13 k13
  have b13 := F13.binds (ps := ["_law_bag", "_law_many"]) fun _ _ _ _ _ _ us hl => match us, hl with | [_, _], _ => rfl
  have F14 := fun_mk (st := s_events) l14 c14 k14
  have b14 := F14.binds (ps := []) fun _ _ _ _ _ _ us hl => match us, hl with | [], _ => rfl
  have F15 := fun_mk (st := s_test) l15 c15 k15
  have b15 := F15.binds (ps := ["_law_bag", "_law_marks_here"]) fun _ _ _ _ _ _ us hl => match us, hl with | [_, _], _ => rfl
  have F16 := fun_mk (st := s_simple) l16 c16 k16
  have b16 := F16.binds (ps := ["_law_bag", "_law_event", "_law_marks_here"]) fun _ _ _ _ _ _ us hl => match us, hl with | [_, _, _], _ => rfl
  have F17 := fun_mk (st := s_command) l17 c17 k17
  have b17 := F17.binds (ps := ["_law_bag", "_law_event", "_law_marks_here", "_law_room", "_law_deep"]) fun _ _ _ _ _ _ us hl => match us, hl with | [_, _, _, _, _], _ => rfl
  have F18 := fun_mk (st := s_commands) l18 c18 k18
  have b18 := F18.binds (ps := ["_law_bag", "_law_event", "_law_marks_here", "_law_room", "_law_deep", "_law_many"]) fun _ _ _ _ _ _ us hl => match us, hl with | [_, _, _, _, _, _], _ => rfl
  have F19 := fun_mk (st := s_inner) l19 c19 k19
  have b19 := F19.binds (ps := ["_law_command_here"]) fun _ _ _ _ _ _ us hl => match us, hl with | [_], _ => rfl
  have F20 := fun_mk (st := s_whole) l20 c20 k20
  have b20 := F20.binds (ps := ["_law_commands_here"]) fun _ _ _ _ _ _ us hl => match us, hl with | [_], _ => rfl
  have F21 := fun_mk (st := s_all) l21 c21 k21
  have b21 := F21.binds (ps := ["_law_rows"]) fun _ _ _ _ _ _ us hl => match us, hl with | [_], _ => rfl
  have F22 := fun_mk (st := s_test_words) l22 c22 k22
  have b22 := F22.binds (ps := ["_law_test_here"]) fun _ _ _ _ _ _ us hl => match us, hl with | [_], _ => rfl
  have F23 := fun_mk (st := s_lines) l23 c23 k23
  have b23 := F23.binds (ps := ["_law_command_here"]) fun _ _ _ _ _ _ us hl => match us, hl with | [_], _ => rfl
  have F24 := fun_mk (st := s_all_lines) l24 c24 k24
  have b24 := F24.binds (ps := ["_law_commands_here"]) fun _ _ _ _ _ _ us hl => match us, hl with | [_], _ => rfl
  have F25 := fun_mk (st := s_marks) l25 c25 k25
  have b25 := F25.binds (ps := ["_law_rows"]) fun _ _ _ _ _ _ us hl => match us, hl with | [_], _ => rfl
  have F26 := fun_mk (st := s_law) l26 c26 k26
  have b26 := F26.binds (ps := ["_law_script"]) fun _ _ _ _ _ _ us hl => match us, hl with | [_], _ => rfl
  have T : Txt l.prog w K mg := ⟨PySem.W.mg_none_of X G z0,
    PySem.W.mg_none_of X G z1,
    PySem.W.mg_none_of X G z2,
    PySem.W.mg_none_of X G z3,
    PySem.W.mg_none_of X G z4,
    PySem.W.mg_none_of X G z5,
    PySem.W.mg_none_of X G z6,
    PySem.W.mg_none_of X G z7,
    PySem.W.mg_none_of X G z8,
    PySem.W.mg_none_of X G z9,
    PySem.W.mg_none_of X G z10,
    PySem.W.mg_none_of X G z11,
    glb_tup (List.map V.str (["mark", "unmark"] : List Str)) (PySem.W.mg_of X G p0) q0 rfl rfl (show 2 ≤ sizeLine by decide) (.cons ⟨_, rfl⟩ (.cons ⟨_, rfl⟩ .nil)) fun _ => reps_strs (["mark", "unmark"] : List Str),
    ⟨_, _, PySem.W.mg_of X G a0, F0, b0⟩,
    ⟨_, _, PySem.W.mg_of X G a1, F1, b1⟩,
    ⟨_, _, PySem.W.mg_of X G a2, F2, b2⟩,
    ⟨_, _, PySem.W.mg_of X G a3, F3, b3⟩,
    ⟨_, _, PySem.W.mg_of X G a4, F4, b4⟩,
    ⟨_, _, PySem.W.mg_of X G a5, F5, b5⟩,
    ⟨_, _, PySem.W.mg_of X G a6, F6, b6⟩,
    ⟨_, _, PySem.W.mg_of X G a7, F7, b7⟩,
    ⟨_, _, PySem.W.mg_of X G a8, F8, b8⟩,
    ⟨_, _, PySem.W.mg_of X G a9, F9, b9⟩,
    ⟨_, _, PySem.W.mg_of X G a10, F10, b10⟩,
    ⟨_, _, PySem.W.mg_of X G a11, F11, b11⟩,
    ⟨_, _, PySem.W.mg_of X G a12, F12, b12⟩,
    ⟨_, _, PySem.W.mg_of X G a13, F13, b13⟩,
    ⟨_, _, PySem.W.mg_of X G a14, F14, b14⟩,
    ⟨_, _, PySem.W.mg_of X G a15, F15, b15⟩,
    ⟨_, _, PySem.W.mg_of X G a16, F16, b16⟩,
    ⟨_, _, PySem.W.mg_of X G a17, F17, b17⟩,
    ⟨_, _, PySem.W.mg_of X G a18, F18, b18⟩,
    ⟨_, _, PySem.W.mg_of X G a19, F19, b19⟩,
    ⟨_, _, PySem.W.mg_of X G a20, F20, b20⟩,
    ⟨_, _, PySem.W.mg_of X G a21, F21, b21⟩,
    ⟨_, _, PySem.W.mg_of X G a22, F22, b22⟩,
    ⟨_, _, PySem.W.mg_of X G a23, F23, b23⟩,
    ⟨_, _, PySem.W.mg_of X G a24, F24, b24⟩,
    ⟨_, _, PySem.W.mg_of X G a25, F25, b25⟩,
    ⟨_, _, PySem.W.mg_of X G a26, F26, b26⟩⟩
  exact ⟨_, fun s v => .of_eq rfl, fun base _ _ => k_law T F26⟩
end K05
open PySem PySem.W PyProof.Rows
set_option maxHeartbeats 0 in
theorem PySem.Challenge.cw_laidstops_k05_lines_marks_and_sizes_holds : PySem.Challenge.rw_laidstops_k05_lines_marks_and_sizes.Holds := by
  w_on; o_law; k_head; (case hw => w_witness2)
  k_fill
  refine L2.walk_of (l := PySem.Challenge.rw_laidstops_k05_lines_marks_and_sizes) (n := 63) (k := 20) (x := "_law_script") (CX := fun w => L2.CX (PySem.Challenge.rw_laidstops_k05_lines_marks_and_sizes).prog w) (sp := fun w => DL.spD _ DL.xr0 1 K05.F_law) rfl (by decide) rfl ⟨rfl, by decide, by decide⟩ (fun w h Y => PySem.W.kIn_of Y) ?F (fun _ _ _ _ hl _ hS => DL.entry (fun _ _ q => K05.law_true q) hl hS) (fun _ _ _ _ _ h => DL.cx_none h)
  case F =>
    intro w mg fa h KX G hmg
    refine' K05.all_mk KX G hmg ?a0 ?l0 ?c0 ?k0 ?a1 ?l1 ?c1 ?k1 ?a2 ?l2 ?c2 ?k2 ?a3 ?l3 ?c3 ?k3 ?a4 ?l4 ?c4 ?k4 ?a5 ?l5 ?c5 ?k5 ?a6 ?l6 ?c6 ?k6 ?a7 ?l7 ?c7 ?k7 ?a8 ?l8 ?c8 ?k8 ?a9 ?l9 ?c9 ?k9 ?a10 ?l10 ?c10 ?k10 ?a11 ?l11 ?c11 ?k11 ?a12 ?l12 ?c12 ?k12 ?a13 ?l13 ?c13 ?k13 ?a14 ?l14 ?c14 ?k14 ?a15 ?l15 ?c15 ?k15 ?a16 ?l16 ?c16 ?k16 ?a17 ?l17 ?c17 ?k17 ?a18 ?l18 ?c18 ?k18 ?a19 ?l19 ?c19 ?k19 ?a20 ?l20 ?c20 ?k20 ?a21 ?l21 ?c21 ?k21 ?a22 ?l22 ?c22 ?k22 ?a23 ?l23 ?c23 ?k23 ?a24 ?l24 ?c24 ?k24 ?a25 ?l25 ?c25 ?k25 ?a26 ?l26 ?c26 ?k26 ?z0 ?z1 ?z2 ?z3 ?z4 ?z5 ?z6 ?z7 ?z8 ?z9 ?z10 ?z11 ?p0 ?q0
    (case a0 => k_is); (case l0 => k_is); (case c0 => k_is); (case k0 => k_is); (case a1 => k_is); (case l1 => k_is); (case c1 => k_is); (case k1 => k_is); (case a2 => k_is); (case l2 => k_is); (case c2 => k_is); (case k2 => k_is); (case a3 => k_is); (case l3 => k_is); (case c3 => k_is); (case k3 => k_is); (case a4 => k_is); (case l4 => k_is); (case c4 => k_is); (case k4 => k_is); (case a5 => k_is); (case l5 => k_is); (case c5 => k_is); (case k5 => k_is); (case a6 => k_is); (case l6 => k_is); (case c6 => k_is); (case k6 => k_is); (case a7 => k_is); (case l7 => k_is); (case c7 => k_is); (case k7 => k_is); (case a8 => k_is); (case l8 => k_is); (case c8 => k_is); (case k8 => k_is); (case a9 => k_is); (case l9 => k_is); (case c9 => k_is); (case k9 => k_is); (case a10 => k_is); (case l10 => k_is); (case c10 => k_is); (case k10 => k_is); (case a11 => k_is); (case l11 => k_is); (case c11 => k_is); (case k11 => k_is); (case a12 => k_is); (case l12 => k_is); (case c12 => k_is); (case k12 => k_is); (case a13 => k_is); (case l13 => k_is); (case c13 => k_is); (case k13 => k_is); (case a14 => k_is); (case l14 => k_is); (case c14 => k_is); (case k14 => k_is); (case a15 => k_is); (case l15 => k_is); (case c15 => k_is); (case k15 => k_is); (case a16 => k_is); (case l16 => k_is); (case c16 => k_is); (case k16 => k_is); (case a17 => k_is); (case l17 => k_is); (case c17 => k_is); (case k17 => k_is); (case a18 => k_is); (case l18 => k_is); (case c18 => k_is); (case k18 => k_is); (case a19 => k_is); (case l19 => k_is); (case c19 => k_is); (case k19 => k_is); (case a20 => k_is); (case l20 => k_is); (case c20 => k_is); (case k20 => k_is); (case a21 => k_is); (case l21 => k_is); (case c21 => k_is); (case k21 => k_is); (case a22 => k_is); (case l22 => k_is); (case c22 => k_is); (case k22 => k_is); (case a23 => k_is); (case l23 => k_is); (case c23 => k_is); (case k23 => k_is); (case a24 => k_is); (case l24 => k_is); (case c24 => k_is); (case k24 => k_is); (case a25 => k_is); (case l25 => k_is); (case c25 => k_is); (case k25 => k_is); (case a26 => k_is); (case l26 => k_is); (case c26 => k_is); (case k26 => k_is); (case z0 => k_is); (case z1 => k_is); (case z2 => k_is); (case z3 => k_is); (case z4 => k_is); (case z5 => k_is); (case z6 => k_is); (case z7 => k_is); (case z8 => k_is); (case z9 => k_is); (case z10 => k_is); (case z11 => k_is); (case p0 => k_is); (case q0 => k_is)
