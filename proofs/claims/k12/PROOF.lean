import PyProof.Rows.All
import Wide.All
import OpenK.AllK
import Wide.FinOn
import HandS.ForMost
import HandS.ForExc
import HandS.Defaults
import HandS.HeadHook1
import HandS.HeadHook2
import HandS.TupAny
import HandS.TupMul
import HandS.Wide
import HandS.WideBits
import HandS.IsInst
import HandS.Style
import HandS.Conv
import HandS.Rev
import HandS.Zip
import HandS.Text
import HandS.SortRule
import HandS.SortInts
import HandS.More
import HandS.Small
import PyProof.WalkInts
import KE.DataMinMax
import KE.GoesZip
import KE.GoesMore
import KE.GoesEnum
import KE.KIsAll
import HandS.TryOnly
import HandS.TryMany
import HandS.ExcIs
import HandS.SetFor
import HandS.Strs
import KE.DataCmp
import HandS.HotCalls
import PyProof.StrLawsIn
import KE.SortKeyHeap
import HandS.Lambda
import HandS.HeadEnd
import HandS.EndBits
import KE.KNestM
import HandS.EndTab
import HandS.Head0
import HandS.Head1
import HandS.Head2
import PySem.Challenge.RW_turnnest_k12_nests_seen
set_option Elab.async false
set_option linter.all false
section
set_option Elab.async false
set_option linter.all false
set_option maxRecDepth 100000
namespace Ab
open PySem PySem.Spec PyProof.Rows L2

/-- data: obj i is the i-th thing of the store; lst f: a list that nobody changes (f: made since the entry) -/
inductive D where
  | non | bl (b : Bool) | int (i : Int) | str (x : Str) | tup (xs : List D) | lst (f : Bool) (xs : List D) | emp (f : Bool) | obj (i : Nat)
/-- what the store holds: a list, a dict of ints, a dict of texts; a code object's table (empty as yet?), a tuple whose object is known, an instance of the class c -/
inductive O where
  | lst (xs : List D) | dct (kvs : List (Int × D)) | dcs (kvs : List (Str × D))
  | tbl (b : Bool) | tpx (xs : List D) | ins (c : Str) (fs : List (Str × D))
abbrev Gam := List (Option D)
abbrev Sto := List O

/-- a list that is read at a and that no step changes -/
def FL (K : PySem.W.Frag) (H : Hp) (rho : List Addr) (a : Addr) (vs : List V) : Prop := (Rd H a (.lst vs) ∧ a ∉ rho) ∨ SqL K (fun _ => none) a vs
mutual
def Rep (K : PySem.W.Frag) (H0 H : Hp) (rho : List Addr) : D → V → Prop
  | .non, v => v = .non
  | .bl b, v => v = .bl b
  | .int i, v => v = .int i
  | .str x, v => v = .str x
  | .tup xs, v => ∃ a vs, v = .ref a ∧ SqT K H a vs ∧ Reps K H0 H rho xs vs
  | .lst f xs, v => ∃ a vs, v = .ref a ∧ FL K H rho a vs ∧ (f = true → H0 a = none ∧ a ∉ rho ∧ H a = some (.lst vs)) ∧ Reps K H0 H rho xs vs
  | .emp f, v => ∃ a, v = .ref a ∧ H a = some (.dK []) ∧ a ∉ rho ∧ (f = true → H0 a = none)
  | .obj i, v => ∃ a, v = .ref a ∧ rho[i]? = some a
def Reps (K : PySem.W.Frag) (H0 H : Hp) (rho : List Addr) : List D → List V → Prop
  | [], vs => vs = []
  | d :: ds, vs => ∃ v r, vs = v :: r ∧ Rep K H0 H rho d v ∧ Reps K H0 H rho ds r
end

/-- the law's own code object, its table -/
def lawCode (K : PySem.W.Frag) : Addr := match K.lookup (He.ga K "law") with
  | some ⟨_, _, .func fd, _⟩ => (match fd.code with
    | .ref c => c
    | _ => 0)
  | _ => 0
def tabA (K : PySem.W.Frag) : Addr := match K.lookup (lawCode K) with
  | some ⟨_, _, .fields vs, _⟩ => (match (vs[11]? : Option Value) with
    | some (.ref P) => P
    | _ => 0)
  | _ => 0
/-- what stands at a for a thing of the store -/
def OAt (K : PySem.W.Frag) (H0 H : Hp) (rho : List Addr) (a : Addr) : O → Prop
  | .lst xs => ∃ vs, H a = some (.lst vs) ∧ Reps K H0 H rho xs vs
  | .dct kvs => ∃ ws : List (Key × V), H a = some (.dK ws) ∧ ws.map (·.1) = kvs.map (fun p => Sum.inl p.1) ∧ Reps K H0 H rho (kvs.map (·.2)) (ws.map (·.2))
  | .dcs kvs => ∃ ws : List (Key × V), H a = some (.dK ws) ∧ ws.map (·.1) = kvs.map (fun p => Sum.inr p.1) ∧ Reps K H0 H rho (kvs.map (·.2)) (ws.map (·.2))
  | .tbl b => a = tabA K ∧ ∃ ps, H a = some (.tbl ps) ∧ (b = true → ps = #[])
  | .tpx xs => ∃ ob vs, H a = some (.frz ob (.tup vs)) ∧ ob.cls = .type "tuple" ∧ ob.dict = none ∧ Reps K H0 H rho xs vs
  | .ins c fs => ∃ (dx : Addr) (ws : List (Str × V)), H a = some (.ins (He.ga K c) dx ws) ∧ ws.map (·.1) = fs.map (·.1) ∧ Reps K H0 H rho (fs.map (·.2)) (ws.map (·.2))

structure SOk (K : PySem.W.Frag) (H0 H : Hp) (rho : List Addr) (S : Sto) : Prop where
  len : rho.length = S.length
  nd : rho.Nodup
  new : ∀ a ∈ rho, H0 a = none
  ext : ∀ a o, H0 a = some o → H a = some o
  at_ : ∀ (i : Nat) (o : O), S[i]? = some o → ∃ a, rho[i]? = some a ∧ OAt K H0 H rho a o

/-- a step: the objects in rho may change, all else that is tracked stays, the new ones in rho' are new -/
structure Stp (H : Hp) (rho : List Addr) (H' : Hp) (rho' : List Addr) : Prop where
  pre : ∃ r, rho' = rho ++ r ∧ ∀ a ∈ r, H a = none
  keep : ∀ a o, H a = some o → a ∉ rho → H' a = some o
  obj : ∀ a ∈ rho, ∃ o, H' a = some o
  frz : ∀ a ob u, H a = some (.frz ob u) → H' a = some (.frz ob u)

/-- what an object of ours may be -/
def muo : HO → Bool
  | .lst _ => true
  | .dK _ => true
  | .tbl _ => true
  | .ins _ _ _ => true
  | .frz _ (.tup _) => true
  | _ => false
theorem SOk.mu {K : PySem.W.Frag} {H0 H : Hp} {rho : List Addr} {S : Sto} (s : SOk K H0 H rho S) {a : Addr} (h : a ∈ rho) : ∃ o, H a = some o ∧ muo o = true := by
  obtain ⟨i, hi, e⟩ := List.mem_iff_getElem.mp h
  have hi2 : i < S.length := by rw [← s.len]; exact hi
  obtain ⟨b, hb, q⟩ := s.at_ i _ (List.getElem?_eq_getElem hi2)
  have eb : b = a := by
    rw [List.getElem?_eq_getElem hi] at hb
    exact (Option.some.inj hb).symm.trans e
  subst eb
  generalize hS : S[i] = o at q
  cases o with
  | lst xs => obtain ⟨vs, e, _⟩ := q; exact ⟨_, e, rfl⟩
  | dct kvs => obtain ⟨ws, e, _⟩ := q; exact ⟨_, e, rfl⟩
  | dcs kvs => obtain ⟨ws, e, _⟩ := q; exact ⟨_, e, rfl⟩
  | tbl b => obtain ⟨_, ps, e, _⟩ := q; exact ⟨_, e, rfl⟩
  | tpx xs => obtain ⟨ob, vs, e, _⟩ := q; exact ⟨_, e, rfl⟩
  | ins c fs => obtain ⟨dx, ws, e, _⟩ := q; exact ⟨_, e, rfl⟩
theorem SOk.outO {K : PySem.W.Frag} {H0 H : Hp} {rho : List Addr} {S : Sto} (s : SOk K H0 H rho S) {a : Addr} {o : HO} (h : H a = some o) (n : muo o = false) : a ∉ rho := fun m => by
  obtain ⟨u, e, q⟩ := s.mu m
  rw [h] at e
  cases e
  rw [n] at q
  cases q
theorem SOk.has {K : PySem.W.Frag} {H0 H : Hp} {rho : List Addr} {S : Sto} (s : SOk K H0 H rho S) {a : Addr} (h : a ∈ rho) : ∃ o, H a = some o :=
  let ⟨o, e, _⟩ := s.mu h; ⟨o, e⟩
theorem Stp.refl {K : PySem.W.Frag} {H0 H : Hp} {rho : List Addr} {S : Sto} (s : SOk K H0 H rho S) : Stp H rho H rho :=
  ⟨⟨[], by simp, by simp⟩, fun _ _ h _ => h, fun _ h => s.has h, fun _ _ _ h => h⟩
theorem Stp.trans {H H1 H2 : Hp} {r r1 r2 : List Addr} (a : Stp H r H1 r1) (b : Stp H1 r1 H2 r2) : Stp H r H2 r2 := by
  obtain ⟨⟨x, rfl, hx⟩, ka, oa, fa⟩ := a
  obtain ⟨⟨y, rfl, hy⟩, kb, ob, fb⟩ := b
  refine ⟨⟨x ++ y, by rw [List.append_assoc], fun c hc => ?_⟩, fun c o hc nc => ?_, fun c hc => ob c (List.mem_append_left _ hc), fun c o u h => fb c o u (fa c o u h)⟩
  · rcases List.mem_append.mp hc with h | h
    · exact hx c h
    · have h1 := hy c h
      cases e : H c with
      | none => rfl
      | some o =>
        by_cases m : c ∈ r
        · obtain ⟨o', e'⟩ := oa c m
          rw [h1] at e'; cases e'
        · rw [ka c o e m] at h1; cases h1
  · refine kb c o (ka c o hc nc) fun m => ?_
    rcases List.mem_append.mp m with h | h
    · exact nc h
    · rw [hx c h] at hc; cases hc

section
variable {K : PySem.W.Frag} {H0 H H' : Hp} {rho rho' : List Addr} {S : Sto}
theorem rd_keep (s : SOk K H0 H rho S) (t : Stp H rho H' rho') {a : Addr} {u : HO} (h : Rd H a u) (n : a ∉ rho) : Rd H' a u := by
  rcases h with h | ⟨o, h⟩
  · exact .inl (t.keep _ _ h n)
  · exact .inr ⟨o, t.keep _ _ h n⟩
theorem sqT_keep (s : SOk K H0 H rho S) (t : Stp H rho H' rho') {a : Addr} {vs : List V} (h : SqT K H a vs) : SqT K H' a vs := by
  rcases h with (h | ⟨o, h⟩) | h
  · exact .inl (.inl (t.keep _ _ h (s.outO h rfl)))
  · exact .inl (.inr ⟨o, t.frz _ _ _ h⟩)
  · exact .inr h
theorem out_keep (t : Stp H rho H' rho') {a : Addr} {o : HO} (n : a ∉ rho) (h : H a = some o) : a ∉ rho' := fun m => by
  obtain ⟨⟨r, rfl, hr⟩, _, _, _⟩ := t
  rcases List.mem_append.mp m with q | q
  · exact n q
  · rw [hr a q] at h; cases h
theorem FL.keep (s : SOk K H0 H rho S) (t : Stp H rho H' rho') {a : Addr} {vs : List V} (h : FL K H rho a vs) : FL K H' rho' a vs := by
  rcases h with ⟨h, n⟩ | h
  · refine .inl ⟨rd_keep s t h n, ?_⟩
    rcases h with h | ⟨o, h⟩ <;> exact out_keep t n h
  · exact .inr h
theorem FL.sq {a : Addr} {vs : List V} (h : FL K H rho a vs) : SqL K H a vs := by
  rcases h with ⟨h, _⟩ | h
  · exact .inl h
  · rcases h with (h | ⟨o, h⟩) | h
    · cases h
    · cases h
    · exact .inr h
mutual
theorem Rep.keep (s : SOk K H0 H rho S) (t : Stp H rho H' rho') : ∀ (d : D) (v : V), Rep K H0 H rho d v → Rep K H0 H' rho' d v
  | .non, _, h => by simpa [Rep] using h
  | .bl _, _, h => by simpa [Rep] using h
  | .int _, _, h => by simpa [Rep] using h
  | .str _, _, h => by simpa [Rep] using h
  | .tup xs, v, h => by
    simp only [Rep] at h ⊢
    obtain ⟨a, vs, e, q, r⟩ := h
    exact ⟨a, vs, e, sqT_keep s t q, Reps.keep s t xs vs r⟩
  | .lst f xs, v, h => by
    simp only [Rep] at h ⊢
    obtain ⟨a, vs, e, q, g, r⟩ := h
    exact ⟨a, vs, e, q.keep s t, fun z => ⟨(g z).1, out_keep t (g z).2.1 (g z).2.2, t.keep _ _ (g z).2.2 (g z).2.1⟩, Reps.keep s t xs vs r⟩
  | .emp f, v, h => by
    simp only [Rep] at h ⊢
    obtain ⟨a, e, q, n, g⟩ := h
    exact ⟨a, e, t.keep _ _ q n, out_keep t n q, g⟩
  | .obj i, v, h => by
    simp only [Rep] at h ⊢
    obtain ⟨a, e, q⟩ := h
    obtain ⟨⟨r, rfl, _⟩, _, _, _⟩ := t
    refine ⟨a, e, ?_⟩
    rw [List.getElem?_append_left (List.getElem?_eq_some_iff.mp q).1]
    exact q
theorem Reps.keep (s : SOk K H0 H rho S) (t : Stp H rho H' rho') : ∀ (ds : List D) (vs : List V), Reps K H0 H rho ds vs → Reps K H0 H' rho' ds vs
  | [], _, h => by simpa [Reps] using h
  | d :: ds, vs, h => by
    simp only [Reps] at h ⊢
    obtain ⟨v, r, e, h1, h2⟩ := h
    exact ⟨v, r, e, Rep.keep s t d v h1, Reps.keep s t ds r h2⟩
end
theorem Reps.length : ∀ {ds : List D} {vs : List V}, Reps K H0 H rho ds vs → ds.length = vs.length
  | [], vs, h => by simp only [Reps] at h; subst h; rfl
  | d :: ds, vs, h => by
    simp only [Reps] at h
    obtain ⟨v, r, rfl, _, h2⟩ := h
    simp [Reps.length h2]
theorem Reps.get : ∀ {ds : List D} {vs : List V} {i : Nat} {d : D}, Reps K H0 H rho ds vs → ds[i]? = some d → ∃ v, vs[i]? = some v ∧ Rep K H0 H rho d v
  | [], _, i, d, _, e => by simp at e
  | x :: ds, vs, 0, d, h, e => by
    simp only [Reps] at h
    obtain ⟨v, r, rfl, h1, _⟩ := h
    simp at e; subst e
    exact ⟨v, rfl, h1⟩
  | x :: ds, vs, i + 1, d, h, e => by
    simp only [Reps] at h
    obtain ⟨v, r, rfl, _, h2⟩ := h
    obtain ⟨w, e1, e2⟩ := Reps.get (i := i) h2 (by simpa using e)
    exact ⟨w, by simpa using e1, e2⟩
theorem Reps.nil : Reps K H0 H rho [] [] := by simp [Reps]
theorem Reps.cons {d : D} {v : V} {ds : List D} {vs : List V} (h : Rep K H0 H rho d v) (t : Reps K H0 H rho ds vs) : Reps K H0 H rho (d :: ds) (v :: vs) := by
  simp only [Reps]; exact ⟨v, vs, rfl, h, t⟩
theorem Reps.append : ∀ {ds es : List D} {vs ws : List V}, Reps K H0 H rho ds vs → Reps K H0 H rho es ws → Reps K H0 H rho (ds ++ es) (vs ++ ws)
  | [], es, vs, ws, h, q => by simp only [Reps] at h; subst h; exact q
  | d :: ds, es, vs, ws, h, q => by
    simp only [Reps] at h
    obtain ⟨v, r, rfl, h1, h2⟩ := h
    exact Reps.cons h1 (Reps.append h2 q)
theorem Reps.one {d : D} {v : V} (h : Rep K H0 H rho d v) : Reps K H0 H rho [d] [v] := .cons h .nil
theorem Reps.take : ∀ (n : Nat) {ds : List D} {vs : List V}, Reps K H0 H rho ds vs → Reps K H0 H rho (ds.take n) (vs.take n)
  | 0, ds, vs, h => by simp [Reps]
  | n + 1, [], vs, h => by simp only [Reps] at h; subst h; simp [Reps]
  | n + 1, d :: ds, vs, h => by
    simp only [Reps] at h
    obtain ⟨v, r, rfl, h1, h2⟩ := h
    exact Reps.cons h1 (Reps.take n h2)
theorem Reps.drop : ∀ (n : Nat) {ds : List D} {vs : List V}, Reps K H0 H rho ds vs → Reps K H0 H rho (ds.drop n) (vs.drop n)
  | 0, ds, vs, h => h
  | n + 1, [], vs, h => by simp only [Reps] at h; subst h; simp [Reps]
  | n + 1, d :: ds, vs, h => by
    simp only [Reps] at h
    obtain ⟨v, r, rfl, h1, h2⟩ := h
    exact Reps.drop n h2
theorem Reps.set : ∀ {ds : List D} {vs : List V} (i : Nat) {d : D} {v : V}, Reps K H0 H rho ds vs → Rep K H0 H rho d v → Reps K H0 H rho (ds.set i d) (vs.set i v)
  | [], vs, i, d, v, h, q => by simp only [Reps] at h; subst h; simp [Reps]
  | x :: ds, vs, 0, d, v, h, q => by
    simp only [Reps] at h
    obtain ⟨w, r, rfl, h1, h2⟩ := h
    exact Reps.cons q h2
  | x :: ds, vs, i + 1, d, v, h, q => by
    simp only [Reps] at h
    obtain ⟨w, r, rfl, h1, h2⟩ := h
    exact Reps.cons h1 (Reps.set i h2 q)
theorem Reps.eraseIdx : ∀ {ds : List D} {vs : List V} (i : Nat), Reps K H0 H rho ds vs → Reps K H0 H rho (ds.eraseIdx i) (vs.eraseIdx i)
  | [], vs, i, h => by simp only [Reps] at h; subst h; simp [Reps]
  | x :: ds, vs, 0, h => by
    simp only [Reps] at h
    obtain ⟨w, r, rfl, h1, h2⟩ := h
    exact h2
  | x :: ds, vs, i + 1, h => by
    simp only [Reps] at h
    obtain ⟨w, r, rfl, h1, h2⟩ := h
    exact Reps.cons h1 (Reps.eraseIdx i h2)
theorem Reps.reverse : ∀ {ds : List D} {vs : List V}, Reps K H0 H rho ds vs → Reps K H0 H rho ds.reverse vs.reverse
  | [], vs, h => by simp only [Reps] at h; subst h; simp [Reps]
  | x :: ds, vs, h => by
    simp only [Reps] at h
    obtain ⟨w, r, rfl, h1, h2⟩ := h
    rw [List.reverse_cons, List.reverse_cons]
    exact (Reps.reverse h2).append (.one h1)
theorem Reps.dropLast {ds : List D} {vs : List V} (h : Reps K H0 H rho ds vs) : Reps K H0 H rho ds.dropLast vs.dropLast := by
  rw [List.dropLast_eq_take, List.dropLast_eq_take, h.length]
  exact h.take _
theorem Reps.ints : ∀ {ns : List Int} {vs : List V}, Reps K H0 H rho (ns.map D.int) vs → vs = ns.map V.int
  | [], vs, h => by simpa [Reps] using h
  | n :: ns, vs, h => by
    simp only [List.map_cons, Reps] at h
    obtain ⟨w, r, rfl, h1, h2⟩ := h
    simp only [Rep] at h1
    rw [h1, Reps.ints h2]; rfl
theorem Reps.ofInts : ∀ (ns : List Int), Reps K H0 H rho (ns.map D.int) (ns.map V.int)
  | [] => .nil
  | n :: ns => .cons (by simp [Rep]) (Reps.ofInts ns)

theorem OAt.keep (s : SOk K H0 H rho S) (t : Stp H rho H' rho') {a : Addr} {o : O} (e : ∀ u, H a = some u → H' a = some u) (h : OAt K H0 H rho a o) : OAt K H0 H' rho' a o := by
  cases o with
  | lst xs => obtain ⟨vs, e1, r⟩ := h; exact ⟨vs, e _ e1, Reps.keep s t _ _ r⟩
  | dct kvs => obtain ⟨ws, e1, e2, r⟩ := h; exact ⟨ws, e _ e1, e2, Reps.keep s t _ _ r⟩
  | dcs kvs => obtain ⟨ws, e1, e2, r⟩ := h; exact ⟨ws, e _ e1, e2, Reps.keep s t _ _ r⟩
  | tbl b => obtain ⟨e0, ps, e1, e2⟩ := h; exact ⟨e0, ps, e _ e1, e2⟩
  | tpx xs => obtain ⟨ob, vs, e1, e2, e3, r⟩ := h; exact ⟨ob, vs, e _ e1, e2, e3, Reps.keep s t _ _ r⟩
  | ins c fs => obtain ⟨dx, ws, e1, e2, r⟩ := h; exact ⟨dx, ws, e _ e1, e2, Reps.keep s t _ _ r⟩
/-- a new thing that is no object of ours -/
theorem Stp.new (s : SOk K H0 H rho S) {p : Addr} (hp : H p = none) (o : HO) : Stp H rho (upd H p o) rho :=
  ⟨⟨[], by simp, by simp⟩, fun a u h _ => by rw [upd_ne (ne_of_none h hp)]; exact h, fun a h => by
    obtain ⟨u, e⟩ := s.has h
    exact ⟨u, by rw [upd_ne (ne_of_none e hp)]; exact e⟩, fun a ob u h => by rw [upd_ne (ne_of_none h hp)]; exact h⟩
theorem SOk.laid (s : SOk K H0 H rho S) {p : Addr} (hp : H p = none) (o : HO) : SOk K H0 (upd H p o) rho S := by
  refine ⟨s.len, s.nd, s.new, fun a u h => ?_, fun i x h => ?_⟩
  · have := s.ext a u h
    rw [upd_ne (ne_of_none this hp)]; exact this
  · obtain ⟨a, e, q⟩ := s.at_ i x h
    exact ⟨a, e, q.keep s (.new s hp o) fun u e => by rw [upd_ne (ne_of_none e hp)]; exact e⟩
/-- a new object of ours -/
theorem Stp.newObj (s : SOk K H0 H rho S) {p : Addr} (hp : H p = none) (o : HO) : Stp H rho (upd H p o) (rho ++ [p]) :=
  ⟨⟨[p], rfl, by simpa using hp⟩, (Stp.new s hp o).keep, (Stp.new s hp o).obj, (Stp.new s hp o).frz⟩
theorem SOk.base (s : SOk K H0 H rho S) {p : Addr} (hp : H p = none) : H0 p = none := by
  cases e : H0 p with
  | none => rfl
  | some o => rw [s.ext p o e] at hp; cases hp
theorem SOk.newObj (s : SOk K H0 H rho S) {p : Addr} (hp : H p = none) {o : HO} {x : O} (q : OAt K H0 (upd H p o) (rho ++ [p]) p x) : SOk K H0 (upd H p o) (rho ++ [p]) (S ++ [x]) := by
  have np : p ∉ rho := fun m => by
    obtain ⟨u, e⟩ := s.has m
    rw [hp] at e; cases e
  refine ⟨by simp [s.len], ?_, fun a h => ?_, (s.laid hp o).ext, fun i y h => ?_⟩
  · rw [List.nodup_append]
    exact ⟨s.nd, by simp, fun a ha b hb e => by simp at hb; subst hb; subst e; exact np ha⟩
  · rcases List.mem_append.mp h with h | h
    · exact s.new a h
    · simp at h; subst h; exact s.base hp
  · by_cases hi : i < S.length
    · rw [List.getElem?_append_left hi] at h
      obtain ⟨a, e, q⟩ := s.at_ i y h
      refine ⟨a, by rw [List.getElem?_append_left (by rw [s.len]; exact hi)]; exact e, q.keep s (.newObj s hp o) fun u e => by rw [upd_ne (ne_of_none e hp)]; exact e⟩
    · have hi2 : i = S.length := by
        have := (List.getElem?_eq_some_iff.mp h).1
        simp at this; omega
      subst hi2
      simp at h; subst h
      refine ⟨p, ?_, q⟩
      rw [← s.len]; simp
/-- an object of ours is written -/
theorem Stp.write (s : SOk K H0 H rho S) {a : Addr} (ha : a ∈ rho) (o : HO) (nf : ∀ ob u, H a ≠ some (.frz ob u)) : Stp H rho (upd H a o) rho :=
  ⟨⟨[], by simp, by simp⟩, fun b u h n => by rw [upd_ne fun e => n (by rw [e]; exact ha)]; exact h, fun b h => by
    by_cases e : b = a
    · subst e; exact ⟨o, upd_same⟩
    · obtain ⟨u, q⟩ := s.has h
      exact ⟨u, by rw [upd_ne e]; exact q⟩, fun b ob u h => by
    rw [upd_ne fun e => nf ob u (by rw [← e]; exact h)]; exact h⟩
theorem SOk.write (s : SOk K H0 H rho S) {i : Nat} {a : Addr} (hi : rho[i]? = some a) (nf : ∀ ob u, H a ≠ some (.frz ob u)) {o : HO} {x : O} (q : OAt K H0 (upd H a o) rho a x) : SOk K H0 (upd H a o) rho (S.set i x) := by
  have ha : a ∈ rho := List.mem_of_getElem? hi
  refine ⟨by simp [s.len], s.nd, s.new, fun b u h => ?_, fun j y h => ?_⟩
  · have nb : b ≠ a := fun e => by
      have := s.new a ha
      rw [← e, h] at this; cases this
    rw [upd_ne nb]; exact s.ext b u h
  · by_cases e : i = j
    · subst e
      have hl : i < S.length := by
        rw [← s.len]; exact (List.getElem?_eq_some_iff.mp hi).1
      rw [List.getElem?_set_self hl] at h
      cases h
      exact ⟨a, hi, q⟩
    · rw [List.getElem?_set_ne e] at h
      obtain ⟨b, eb, qb⟩ := s.at_ j y h
      have nb : b ≠ a := fun z => e (nd_ix s.nd hi (by rw [← z]; exact eb))
      exact ⟨b, eb, qb.keep s (.write s ha o nf) fun u hu => by rw [upd_ne nb]; exact hu⟩
end
end Ab

end
section
set_option Elab.async false
set_option linter.all false
set_option maxRecDepth 100000
namespace Ab
open PySem PySem.Spec PyProof.Rows L2

inductive ER where
  | ok (d : D) (S : Sto) | ex (c : Str) (S : Sto) | err
abbrev EM := Gam → Sto → ER
def ER.bind (r : ER) (k : D → Sto → ER) : ER := match r with
  | .ok d S => k d S
  | .ex c S => .ex c S
  | .err => .err

structure Sat (K : PySem.W.Frag) (H0 : Hp) (G : Gam) (S : Sto) (sg : L2.St) (H : Hp) (rho : List Addr) : Prop where
  s : SOk K H0 H rho S
  len : G.length = sg.length
  sl : ∀ (i : Nat) (d : D), G[i]? = some (some d) → ∃ v, sg[i]? = some (some v) ∧ Rep K H0 H rho d v

def EPost (K : PySem.W.Frag) (H0 H : Hp) (rho : List Addr) (W : Value → Option Addr → Hp → Prop) (r : ER) (Q : VK) : Prop := match r with
  | .ok d S' => ∀ v H' rho', SOk K H0 H' rho' S' → Stp H rho H' rho' → Rep K H0 H' rho' d v → Q v H'
  | .ex c S' => ∀ H' rho', SOk K H0 H' rho' S' → Stp H rho H' rho' → W (.ref (He.ga K c)) none H'
  | .err => False
/-- the reading te does what m says -/
def SimE (K : PySem.W.Frag) (W : WX) (te : TE) (m : EM) : Prop := ∀ H0 G S sg H rho, Sat K H0 G S sg H rho → ∀ Q : VK, EPost K H0 H rho (fun c d h => W c d sg h) (m G S) Q → te sg H Q
/-- the expression e does what m says -/
def JE (X : Cx) (W : WX) (e : Expr) (m : EM) : Prop := ∃ te, PE X e te ∧ SimE X.K W te m

section
variable {K : PySem.W.Frag} {H0 H H1 H2 : Hp} {rho rho1 rho2 : List Addr} {S S1 : Sto} {W : Value → Option Addr → Hp → Prop}
theorem EPost.step {r : ER} {Q : VK} (t : Stp H rho H1 rho1) (h : EPost K H0 H rho W r Q) : EPost K H0 H1 rho1 W r Q := by
  cases r with
  | ok d S' => exact fun v H' rho' s t' r => h v H' rho' s (t.trans t') r
  | ex c S' => exact fun H' rho' s t' => h H' rho' s (t.trans t')
  | err => exact h
theorem EPost.imp {r : ER} {Q Q' : VK} (h : EPost K H0 H rho W r Q) (q : ∀ v H', Q v H' → Q' v H') : EPost K H0 H rho W r Q' := by
  cases r with
  | ok d S' => exact fun v H' rho' s t' r => q _ _ (h v H' rho' s t' r)
  | ex c S' => exact h
  | err => exact h
theorem bindE {r : ER} {k : D → Sto → ER} {Q R : VK} (h : EPost K H0 H rho W (r.bind k) Q)
    (g : ∀ d S1 v H1 rho1, SOk K H0 H1 rho1 S1 → Stp H rho H1 rho1 → Rep K H0 H1 rho1 d v → EPost K H0 H1 rho1 W (k d S1) Q → R v H1) : EPost K H0 H rho W r R := by
  cases r with
  | ok d S' => exact fun v H' rho' s t r => g d S' v H' rho' s t r (EPost.step t h)
  | ex c S' => exact h
  | err => exact h
theorem EPost.done {d : D} {v : V} {Q : VK} (s : SOk K H0 H rho S) (r : Rep K H0 H rho d v) (h : EPost K H0 H rho W (.ok d S) Q) : Q v H := h v H rho s (Stp.refl s) r
theorem Sat.step {G : Gam} {sg : L2.St} (a : Sat K H0 G S sg H rho) (s : SOk K H0 H1 rho1 S1) (t : Stp H rho H1 rho1) : Sat K H0 G S1 sg H1 rho1 :=
  ⟨s, a.len, fun i d e => let ⟨v, q, r⟩ := a.sl i d e; ⟨v, q, Rep.keep a.s t d v r⟩⟩
theorem Sat.set {G : Gam} {sg : L2.St} (a : Sat K H0 G S sg H rho) (i : Nat) {d : D} {v : V} (r : Rep K H0 H rho d v) : Sat K H0 (G.set i (some d)) S (sg.set i (some v)) H rho := by
  refine ⟨a.s, by simp [a.len], fun j e h => ?_⟩
  by_cases q : i = j
  · subst q
    have hl : i < G.length := by
      have := (List.getElem?_eq_some_iff.mp h).1
      simpa using this
    rw [List.getElem?_set_self hl] at h
    cases h
    exact ⟨v, by rw [List.getElem?_set_self (by rw [← a.len]; exact hl)], r⟩
  · rw [List.getElem?_set_ne q] at h
    obtain ⟨w, e1, e2⟩ := a.sl j e h
    exact ⟨w, by rw [List.getElem?_set_ne q]; exact e1, e2⟩
end

def mVar (i : Nat) : EM := fun G S => match G[i]? with
  | some (some d) => .ok d S
  | _ => .err
def mC (d : D) : EM := fun _ S => .ok d S
section
variable {X : Cx} {W : WX}
theorem sim_var {K : PySem.W.Frag} {W : WX} (i : Nat) : SimE K W (tVar i) (mVar i) := fun H0 G S sg H rho a Q h => by
  unfold mVar at h
  cases e : G[i]? with
  | none => rw [e] at h; exact h.elim
  | some o =>
    cases o with
    | none => rw [e] at h; exact h.elim
    | some d =>
      rw [e] at h
      obtain ⟨v, q, r⟩ := a.sl i d e
      exact ⟨v, q, EPost.done a.s r h⟩
theorem je_var (i : Nat) {x : Str} {pos : Pos} (hN : X.N[i]? = some x := by rfl) (hv : Vis X.env.scope x := by first | exact Or.inl rfl | exact Or.inr (Or.inl rfl) | exact Or.inr (Or.inr rfl)) (hd : (x == ("__debug__" : Str)) = false := by decide)
    (hcd : (x == ("__classdict__" : Str)) = false := by decide) : JE X W (.Name x pos) (mVar i) := ⟨_, pe_var hN hv hd hcd, sim_var i⟩
theorem je_int {i j pos} : JE X W (.Constant (.int i) j pos) (mC (.int i)) := ⟨_, pe_int, fun H0 G S sg H rho a Q h => EPost.done (d := .int i) a.s (by simp [Rep]) h⟩
theorem je_bl {i j pos} : JE X W (.Constant (.bool i) j pos) (mC (.bl i)) := ⟨_, pe_bl, fun H0 G S sg H rho a Q h => EPost.done (d := .bl i) a.s (by simp [Rep]) h⟩
theorem je_str {i j pos} : JE X W (.Constant (.str i) j pos) (mC (.str i)) := ⟨_, pe_str, fun H0 G S sg H rho a Q h => EPost.done (d := .str i) a.s (by simp [Rep]) h⟩
theorem je_non {j pos} : JE X W (.Constant .none j pos) (mC .non) := ⟨_, pe_non, fun H0 G S sg H rho a Q h => EPost.done (d := .non) a.s (by simp [Rep]) h⟩
/-- a module's constant: an int, a text -/
theorem je_globI {x : Str} {i : Int} {pos : Pos} (hg : Gl X x) (hm : ∃ t, X.mg x = some (.int i t)) (hd : (x == ("__debug__" : Str)) = false := by decide) : JE X W (.Name x pos) (mC (.int i)) := by
  obtain ⟨t, hm⟩ := hm
  exact ⟨_, pe_glob (v := .int i) hg hm ⟨t, rfl⟩ hd, fun H0 G S sg H rho a Q h => EPost.done (d := .int i) a.s (by simp [Rep]) h⟩
theorem je_globS {x i : Str} {pos : Pos} (hg : Gl X x) (hm : ∃ t, X.mg x = some (.str i t)) (hd : (x == ("__debug__" : Str)) = false := by decide) : JE X W (.Name x pos) (mC (.str i)) := by
  obtain ⟨t, hm⟩ := hm
  exact ⟨_, pe_glob (v := .str i) hg hm ⟨t, rfl⟩ hd, fun H0 G S sg H rho a Q h => EPost.done (d := .str i) a.s (by simp [Rep]) h⟩
end

/-- the values' rule r does what f says -/
def SimR (K : PySem.W.Frag) (r : R2) (f : D → D → Sto → ER) : Prop := ∀ H0 H rho S W d e x y, SOk K H0 H rho S → Rep K H0 H rho d x → Rep K H0 H rho e y → ∀ Q : VK, EPost K H0 H rho W (f d e S) Q → r x y H Q
def mBin (f : D → D → Sto → ER) (ma mb : EM) : EM := fun G S => (ma G S).bind fun d S1 => (mb G S1).bind fun e S2 => f d e S2
theorem sim_op {K : PySem.W.Frag} {W : WX} {r : R2} {f : D → D → Sto → ER} {ta tb : TE} {ma mb : EM} (ha : SimE K W ta ma) (hb : SimE K W tb mb) (hr : SimR K r f) : SimE K W (tOp r ta tb) (mBin f ma mb) := fun H0 G S sg H rho a Q h =>
  ha H0 G S sg H rho a _ (bindE h fun d S1 v H1 rho1 s1 t1 r1 h1 => hb H0 G S1 sg H1 rho1 (a.step s1 t1) _ (bindE h1 fun e S2 w H2 rho2 s2 t2 r2 h2 =>
    hr H0 H2 rho2 S2 _ d e v w s2 (Rep.keep s1 t2 d v r1) r2 Q h2))
/-- f, then g where f has no answer -/
def orR (f g : D → D → Sto → ER) : D → D → Sto → ER := fun d e S => match f d e S with
  | .err => g d e S
  | r => r
theorem SimR.or {K : PySem.W.Frag} {r r' : R2} {f g : D → D → Sto → ER} (h : SimR K r f) (h' : SimR K r' g) : SimR K (fun x y H Q => r x y H Q ∨ r' x y H Q) (orR f g) := fun H0 H rho S W d e x y s rd re Q q => by
  unfold orR at q
  generalize hf : f d e S = z at q
  cases z with
  | err => exact .inr (h' H0 H rho S W d e x y s rd re Q q)
  | ok d' S' => exact .inl (h H0 H rho S W d e x y s rd re Q (by rw [hf]; exact q))
  | ex c S' => exact .inl (h H0 H rho S W d e x y s rd re Q (by rw [hf]; exact q))
section
variable {X : Cx} {W : WX} {a b : Expr} {ma mb : EM} {pos : Pos}
theorem je_op {op : Operator} {r : R2} {f : D → D → Sto → ER} (ho : OpR X (binaryOp op) r) (hr : SimR X.K r f) (ha : JE X W a ma) (hb : JE X W b mb) : JE X W (.BinOp a op b pos) (mBin f ma mb) := by
  obtain ⟨ta, pa, sa⟩ := ha
  obtain ⟨tb, pb, sb⟩ := hb
  exact ⟨_, pe_op ho pa pb, sim_op sa sb hr⟩
theorem je_cmp {op : CmpOp} {r : R2} {f : D → D → Sto → ER} (ho : OpR X (compareOp op) r) (hr : SimR X.K r f) (ha : JE X W a ma) (hb : JE X W b mb) (hm : behindInMarks op b = false) : JE X W (.Compare a [op] [b] pos) (mBin f ma mb) := by
  obtain ⟨ta, pa, sa⟩ := ha
  obtain ⟨tb, pb, sb⟩ := hb
  exact ⟨_, pe_cmpR ho pa pb hm, sim_op sa sb hr⟩
end
/-- ints in, a scalar out, under a condition -/
def fI (C : Int → Int → Bool) (g : Int → Int → D) : D → D → Sto → ER := fun d e S => match d, e with
  | .int i, .int j => if C i j then .ok (g i j) S else .err
  | _, _ => .err
def scalD : D → V
  | .int i => .int i
  | .bl b => .bl b
  | .str x => .str x
  | _ => .non
def isScal : D → Bool
  | .int _ => true
  | .bl _ => true
  | .str _ => true
  | .non => true
  | _ => false
theorem rep_scal {K : PySem.W.Frag} {H0 H : Hp} {rho : List Addr} : ∀ {d : D}, isScal d = true → Rep K H0 H rho d (scalD d)
  | .int _, _ => by simp [Rep, scalD]
  | .bl _, _ => by simp [Rep, scalD]
  | .str _, _ => by simp [Rep, scalD]
  | .non, _ => by simp [Rep, scalD]
theorem sim_I {K : PySem.W.Frag} {C : Int → Int → Prop} {Cb : Int → Int → Bool} {g : Int → Int → V} {gD : Int → Int → D} (hC : ∀ i j, Cb i j = true → C i j) (hs : ∀ i j, isScal (gD i j) = true) (hg : ∀ i j, g i j = scalD (gD i j)) : SimR K (rI C g) (fI Cb gD) := fun H0 H rho S W d e x y s rd re Q q => by
  unfold fI at q
  split at q
  · rename_i i j
    split at q
    · rename_i hc
      simp only [Rep] at rd re
      refine ⟨i, j, rd, re, hC i j hc, ?_⟩
      rw [hg]
      exact EPost.done s (rep_scal (hs i j)) q
    · exact q.elim
  · exact q.elim
theorem sim_I0 {K : PySem.W.Frag} {g : Int → Int → V} {gD : Int → Int → D} (hs : ∀ i j, isScal (gD i j) = true) (hg : ∀ i j, g i j = scalD (gD i j)) : SimR K (rI0 g) (fI (fun _ _ => true) gD) := fun H0 H rho S W d e x y s rd re Q q => by
  obtain ⟨i, j, h1, h2, _, h3⟩ := sim_I (K := K) (C := fun _ _ => True) (g := g) (fun _ _ _ => trivial) hs hg H0 H rho S W d e x y s rd re Q q
  exact ⟨i, j, h1, h2, h3⟩
end Ab

end
section
set_option Elab.async false
set_option linter.all false
set_option maxRecDepth 100000
namespace Ab
open PySem PySem.Spec PyProof.Rows L2

/-- the bound on lengths that the layer asks -/
def big : Nat := 100000
theorem big_le {n : Nat} (h : n ≤ big) : n ≤ sizeLine := Nat.le_trans h (by decide)
theorem big_lt {n : Nat} (h : n < big) : n < sizeLine := Nat.lt_of_lt_of_le h (by decide)
/-- a new list: one of ours (o), or one that nobody changes -/
def nw (o : Bool) (xs : List D) (S : Sto) : ER := if o then .ok (.obj S.length) (S ++ [.lst xs]) else .ok (.lst true xs) S
section
variable {K : PySem.W.Frag} {H0 H : Hp} {rho : List Addr} {S : Sto} {W : Value → Option Addr → Hp → Prop} {Q : VK} {p : Addr}
theorem new_tup {xs : List D} {vs : List V} (s : SOk K H0 H rho S) (hp : H p = none) (r : Reps K H0 H rho xs vs) (h : EPost K H0 H rho W (.ok (.tup xs) S) Q) : Q (.ref p) (upd H p (.tup vs)) := by
  refine h _ _ rho (s.laid hp _) (.new s hp _) ?_
  simp only [Rep]
  exact ⟨p, vs, rfl, .inl (.inl upd_same), Reps.keep s (.new s hp _) _ _ r⟩
theorem new_lst {o : Bool} {xs : List D} {vs : List V} (s : SOk K H0 H rho S) (hp : H p = none) (r : Reps K H0 H rho xs vs) (h : EPost K H0 H rho W (nw o xs S) Q) : Q (.ref p) (upd H p (.lst vs)) := by
  cases o with
  | false =>
    refine h _ _ rho (s.laid hp _) (.new s hp _) ?_
    simp only [Rep]
    have np : p ∉ rho := fun m => by
      obtain ⟨u, e⟩ := s.has m
      rw [hp] at e; cases e
    exact ⟨p, vs, rfl, .inl ⟨.inl upd_same, np⟩, fun _ => ⟨s.base hp, np, upd_same⟩, Reps.keep s (.new s hp _) _ _ r⟩
  | true =>
    have t := Stp.newObj s hp (.lst vs)
    refine h _ _ (rho ++ [p]) (s.newObj hp ⟨vs, upd_same, Reps.keep s t _ _ r⟩) t ?_
    simp only [Rep]
    exact ⟨p, rfl, by rw [← s.len]; simp⟩
end

inductive AR where
  | ok (ds : List D) (S : Sto) | ex (c : Str) (S : Sto) | err
abbrev AM := Gam → Sto → AR
def AR.bind (r : AR) (k : List D → Sto → ER) : ER := match r with
  | .ok d S => k d S
  | .ex c S => .ex c S
  | .err => .err
def APost (K : PySem.W.Frag) (H0 H : Hp) (rho : List Addr) (W : Value → Option Addr → Hp → Prop) (r : AR) (Q : List V → Hp → Prop) : Prop := match r with
  | .ok ds S' => ∀ vs H' rho', SOk K H0 H' rho' S' → Stp H rho H' rho' → Reps K H0 H' rho' ds vs → Q vs H'
  | .ex c S' => ∀ H' rho', SOk K H0 H' rho' S' → Stp H rho H' rho' → W (.ref (He.ga K c)) none H'
  | .err => False
def SimA (K : PySem.W.Frag) (W : WX) (ta : TA) (m : AM) : Prop := ∀ H0 G S sg H rho, Sat K H0 G S sg H rho → ∀ Q : List V → Hp → Prop, APost K H0 H rho (fun c d h => W c d sg h) (m G S) Q → ta sg H Q
def JA (X : Cx) (W : WX) (es : List Expr) (m : AM) : Prop := ∃ ta, PA X es ta ∧ SimA X.K W ta m
def aNil : AM := fun _ S => .ok [] S
def aCons (m : EM) (a : AM) : AM := fun G S => match m G S with
  | .ok d S1 => (match a G S1 with
    | .ok ds S2 => .ok (d :: ds) S2
    | r => r)
  | .ex c S1 => .ex c S1
  | .err => .err
section
variable {K : PySem.W.Frag} {H0 H H1 : Hp} {rho rho1 : List Addr} {S : Sto} {W : Value → Option Addr → Hp → Prop}
theorem APost.step {r : AR} {Q : List V → Hp → Prop} (t : Stp H rho H1 rho1) (h : APost K H0 H rho W r Q) : APost K H0 H1 rho1 W r Q := by
  cases r with
  | ok d S' => exact fun v H' rho' s t' r => h v H' rho' s (t.trans t') r
  | ex c S' => exact fun H' rho' s t' => h H' rho' s (t.trans t')
  | err => exact h
theorem bindA {r : AR} {k : List D → Sto → ER} {Q : VK} {R : List V → Hp → Prop} (h : EPost K H0 H rho W (r.bind k) Q)
    (g : ∀ ds S1 vs H1 rho1, SOk K H0 H1 rho1 S1 → Stp H rho H1 rho1 → Reps K H0 H1 rho1 ds vs → EPost K H0 H1 rho1 W (k ds S1) Q → R vs H1) : APost K H0 H rho W r R := by
  cases r with
  | ok d S' => exact fun v H' rho' s t r => g d S' v H' rho' s t r (EPost.step t h)
  | ex c S' => exact h
  | err => exact h
end
section
variable {X : Cx} {W : WX}
theorem ja_nil : JA X W [] aNil := ⟨_, pa_nil, fun H0 G S sg H rho a Q h => h [] H rho a.s (Stp.refl a.s) .nil⟩
theorem ja_cons {e : Expr} {es : List Expr} {m : EM} {a : AM} (he : JE X W e m) (ha : JA X W es a) (hs : starEach (e :: es) X.env = (false, eval e X.env) :: starEach es X.env := by rfl) : JA X W (e :: es) (aCons m a) := by
  obtain ⟨te, pe, se⟩ := he
  obtain ⟨ta, pa, sa⟩ := ha
  refine ⟨_, pa_cons pe pa hs, fun H0 G S sg H rho st Q h => ?_⟩
  refine se H0 G S sg H rho st _ ?_
  show EPost _ _ _ _ _ (m G S) _
  unfold aCons at h
  cases e1 : m G S with
  | err => rw [e1] at h; exact h
  | ex c S1 => rw [e1] at h; exact h
  | ok d S1 =>
    rw [e1] at h
    intro v H1 rho1 s1 t1 r1
    refine sa H0 G S1 sg H1 rho1 (st.step s1 t1) _ ?_
    have h := APost.step t1 h
    dsimp only at h
    cases e2 : a G S1 with
    | err => rw [e2] at h; exact h
    | ex c S2 => rw [e2] at h; exact h
    | ok ds S2 =>
      rw [e2] at h
      exact fun vs H2 rho2 s2 t2 r2 => h _ _ _ s2 t2 (.cons (Rep.keep s1 t2 _ _ r1) r2)
def mTup (a : AM) : EM := fun G S => (a G S).bind fun ds S1 => if ds.length ≤ big then .ok (.tup ds) S1 else .err
def mLst (o : Bool) (a : AM) : EM := fun G S => (a G S).bind fun ds S1 => if ds.length ≤ big then nw o ds S1 else .err
theorem je_tup {es : List Expr} {m : AM} {x1 pos} (h : JA X W es m) : JE X W (.Tuple es x1 pos) (mTup m) := by
  obtain ⟨ta, pa, sa⟩ := h
  refine ⟨_, pe_tup pa, fun H0 G S sg H rho st Q h => sa H0 G S sg H rho st _ (bindA h fun ds S1 vs H1 rho1 s1 t1 r1 h1 => ?_)⟩
  split at h1
  · rename_i hz
    exact ⟨big_le (by rw [← r1.length]; exact hz), fun p hp => new_tup s1 hp r1 h1⟩
  · exact h1.elim
theorem je_lst (o : Bool) {es : List Expr} {m : AM} {pos} (h : JA X W es m) : JE X W (.List es pos) (mLst o m) := by
  obtain ⟨ta, pa, sa⟩ := h
  refine ⟨_, pe_lst pa, fun H0 G S sg H rho st Q h => sa H0 G S sg H rho st _ (bindA h fun ds S1 vs H1 rho1 s1 t1 r1 h1 => ?_)⟩
  split at h1
  · rename_i hz
    exact ⟨big_le (by rw [← r1.length]; exact hz), fun p hp => new_lst s1 hp r1 h1⟩
  · exact h1.elim
/-- an empty dict: of ours, or one that nobody changes -/
def mEmp (o : Bool) : EM := fun _ S => if o then .ok (.obj S.length) (S ++ [.dct []]) else .ok (.emp true) S
theorem je_emp (o : Bool) {pos} : JE X W (.Dict [] [] pos) (mEmp o) := by
  refine ⟨_, pe_dnewK, fun H0 G S sg H rho st Q h => fun p hp => ?_⟩
  have s := st.s
  cases o with
  | false =>
    have np : p ∉ rho := fun m => by
      obtain ⟨u, e⟩ := s.has m
      rw [hp] at e; cases e
    refine h _ _ rho (s.laid hp _) (.new s hp _) ?_
    simp only [Rep]
    exact ⟨p, rfl, upd_same, np, fun _ => s.base hp⟩
  | true =>
    have t := Stp.newObj s hp (.dK [])
    refine h _ _ (rho ++ [p]) (s.newObj hp ⟨[], upd_same, rfl, by simp [Reps]⟩) t ?_
    simp only [Rep]
    exact ⟨p, rfl, by rw [← s.len]; simp⟩
end

/-- what stands in a list that is told: the items -/
def seqL (S : Sto) : D → Option (List D)
  | .lst _ xs => some xs
  | .obj i => match S[i]? with
    | some (.lst xs) => some xs
    | _ => none
  | _ => none
/-- .. where it is a list made by this program -/
def seqM (S : Sto) : D → Option (List D)
  | .lst true xs => some xs
  | .obj i => match S[i]? with
    | some (.lst xs) => some xs
    | _ => none
  | _ => none
section
variable {K : PySem.W.Frag} {H0 H : Hp} {rho : List Addr} {S : Sto}
theorem seqM_at (s : SOk K H0 H rho S) {d : D} {v : V} {xs : List D} (h : seqM S d = some xs) (r : Rep K H0 H rho d v) : ∃ a vs, v = .ref a ∧ H a = some (.lst vs) ∧ Reps K H0 H rho xs vs := by
  unfold seqM at h
  split at h
  · cases h
    simp only [Rep] at r
    obtain ⟨a, vs, e, _, g, r⟩ := r
    exact ⟨a, vs, e, (g trivial).2.2, r⟩
  · rename_i i
    simp only [Rep] at r
    obtain ⟨a, e, q⟩ := r
    split at h
    · rename_i ys hS
      cases h
      obtain ⟨b, e1, vs, e2, r⟩ := s.at_ i _ hS
      rw [q] at e1; cases e1
      exact ⟨a, vs, e, e2, r⟩
    · cases h
  · cases h
theorem seqL_at (s : SOk K H0 H rho S) {d : D} {v : V} {xs : List D} (h : seqL S d = some xs) (r : Rep K H0 H rho d v) : ∃ a vs, v = .ref a ∧ SqL K H a vs ∧ Reps K H0 H rho xs vs := by
  unfold seqL at h
  split at h
  · cases h
    simp only [Rep] at r
    obtain ⟨a, vs, e, q, g, r⟩ := r
    exact ⟨a, vs, e, q.sq, r⟩
  · rename_i i
    simp only [Rep] at r
    obtain ⟨a, e, q⟩ := r
    split at h
    · rename_i ys hS
      cases h
      obtain ⟨b, e1, vs, e2, r⟩ := s.at_ i _ hS
      rw [q] at e1; cases e1
      exact ⟨a, vs, e, .of e2, r⟩
    · cases h
  · cases h
theorem tup_at {xs : List D} {v : V} (r : Rep K H0 H rho (.tup xs) v) : ∃ a vs, v = .ref a ∧ SqT K H a vs ∧ Reps K H0 H rho xs vs := by
  simpa only [Rep] using r
end
def fAddS : D → D → Sto → ER := fun d e S => match d, e with
  | .str i, .str j => if i.length + j.length ≤ big then .ok (.str (i ++ j)) S else .err
  | _, _ => .err
def fCat (o : Bool) : D → D → Sto → ER := fun d e S => match seqM S d, seqM S e with
  | some xs, some ys => if xs.length + ys.length ≤ big then nw o (xs ++ ys) S else .err
  | _, _ => .err
def fCatT : D → D → Sto → ER := fun d e S => match d, e with
  | .tup xs, .tup ys => if xs.length + ys.length ≤ big then .ok (.tup (xs ++ ys)) S else .err
  | _, _ => .err
section
variable {K : PySem.W.Frag}
theorem sim_addS : SimR K (fun x y H Q => ∃ i j, x = .str i ∧ y = .str j ∧ i.length + j.length ≤ sizeLine ∧ Q (.str (i ++ j)) H) fAddS := fun H0 H rho S W d e x y s rd re Q q => by
  unfold fAddS at q
  split at q
  · rename_i i j
    split at q
    · rename_i hc
      simp only [Rep] at rd re
      exact ⟨i, j, rd, re, big_le hc, EPost.done s (rep_scal (d := .str (i ++ j)) rfl) q⟩
    · exact q.elim
  · exact q.elim
theorem sim_cat (o : Bool) : SimR K rCat (fCat o) := fun H0 H rho S W d e x y s rd re Q q => by
  unfold fCat at q
  split at q
  · rename_i xs ys h1 h2
    split at q
    · rename_i hc
      obtain ⟨a, vs, rfl, ha, ra⟩ := seqM_at s h1 rd
      obtain ⟨b, ws, rfl, hb, rb⟩ := seqM_at s h2 re
      exact ⟨a, b, vs, ws, rfl, rfl, ha, hb, big_le (by rw [← ra.length, ← rb.length]; exact hc), fun p hp => new_lst s hp (ra.append rb) q⟩
    · exact q.elim
  · exact q.elim
theorem sim_catT : SimR K (rCatA K) fCatT := fun H0 H rho S W d e x y s rd re Q q => by
  unfold fCatT at q
  split at q
  · rename_i xs ys
    split at q
    · rename_i hc
      obtain ⟨a, vs, rfl, ha, ra⟩ := tup_at rd
      obtain ⟨b, ws, rfl, hb, rb⟩ := tup_at re
      refine ⟨a, b, vs, ws, rfl, rfl, ha, hb, big_le (by rw [← ra.length, ← rb.length]; exact hc), fun h0 => ?_, fun h0 h1 => ?_, fun h0 h1 p hp => new_tup s hp (ra.append rb) q⟩
      · subst h0
        have e0 : xs = [] := List.eq_nil_of_length_eq_zero (by rw [ra.length]; rfl)
        subst e0
        exact EPost.done s (by simp only [Rep, List.nil_append]; exact ⟨b, ws, rfl, hb, rb⟩) q
      · subst h1
        have e0 : ys = [] := List.eq_nil_of_length_eq_zero (by rw [rb.length]; rfl)
        subst e0
        exact EPost.done s (by simp only [Rep, List.append_nil]; exact ⟨a, vs, rfl, ha, ra⟩) q
    · exact q.elim
  · exact q.elim
end
/-- + of ints, texts, lists, tuples -/
def fAdd (o : Bool) : D → D → Sto → ER := orR (fI (fun _ _ => true) fun i j => .int (i + j)) (orR fAddS (orR (fCat o) fCatT))
def fSub : D → D → Sto → ER := fI (fun _ _ => true) fun i j => .int (i - j)
def fRep (o : Bool) : D → D → Sto → ER := fun d e S => match seqM S d, e with
  | some xs, .int k => if decide (-1000000 ≤ k) && decide (k ≤ 1000000) && decide (xs.length * k.toNat ≤ big) then nw o (List.replicate k.toNat xs).flatten S else .err
  | _, _ => .err
def fRepT : D → D → Sto → ER := fun d e S => match d, e with
  | .tup xs, .int k => if !xs.isEmpty && decide (2 ≤ k) && decide (k ≤ 1000) && decide (xs.length ≤ 1000) then .ok (.tup (List.replicate k.toNat xs).flatten) S else .err
  | _, _ => .err
def w64 (i : Int) : Bool := decide (-(2 ^ 64) < i) && decide (i < 2 ^ 64)
/-- times: ints (one of them below 2 ^ 64), a list or a tuple by an int -/
def bitsD (i : Int) : Nat := Builtin.Int.intBits i
def fMul (o : Bool) : D → D → Sto → ER := orR (fI (fun i j => w64 i || w64 j || decide (bitsD i + bitsD j ≤ 134217728)) fun i j => .int (i * j)) (orR (fRep o) fRepT)
def fDiv : D → D → Sto → ER := fI (fun _ j => decide (0 < j) && decide (j.natAbs.log2 < 9000)) fun i j => .int (i / j)
def CMulZ (i j : Int) : Prop := CMul i j ∨ CMulX i j
theorem op_mulZ {X : Cx} : OpR X (binaryOp .Mult) (rI CMulZ fun i j => .int (i * j)) := by
  intro pins s σ H x y v u Q I rx ry h
  obtain ⟨i, j, rfl, rfl, c, q⟩ := h
  rcases c with c | c
  · exact op_mul pins s σ H _ _ v u Q I rx ry ⟨_, _, rfl, rfl, c, q⟩
  · exact op_mulX pins s σ H _ _ v u Q I rx ry ⟨_, _, rfl, rfl, c, q⟩
def fMod : D → D → Sto → ER := fI (fun _ j => decide (0 < j)) fun i j => .int (i % j)
def fPow : D → D → Sto → ER := fI (fun i j => decide (0 ≤ j) && decide (j ≤ 1000000) && decide (i.natAbs < 2 ^ 64)) fun i j => .int (i ^ j.toNat)
def fShl : D → D → Sto → ER := fI (fun i j => decide (0 ≤ j) && decide (j ≤ 1000000) && decide (i.natAbs < 2 ^ 64)) fun i j => .int (i * 2 ^ j.toNat)
def fShr : D → D → Sto → ER := fI (fun _ j => decide (0 ≤ j)) fun i j => .int (i / 2 ^ j.toNat)
def fAnd : D → D → Sto → ER := fI (fun _ _ => true) fun i j => .int (Builtin.bitAnd i j)
section
variable {K : PySem.W.Frag}
theorem Reps.rep {H0 H : Hp} {rho : List Addr} {xs : List D} {vs : List V} (h : Reps K H0 H rho xs vs) : ∀ n : Nat, Reps K H0 H rho (List.replicate n xs).flatten (List.replicate n vs).flatten
  | 0 => by simp [Reps]
  | n + 1 => by
    rw [List.replicate_succ, List.replicate_succ, List.flatten_cons, List.flatten_cons]
    exact h.append (Reps.rep h n)
theorem sim_rep (o : Bool) : SimR K rRep (fRep o) := fun H0 H rho S W d e x y s rd re Q q => by
  unfold fRep at q
  split at q
  · rename_i xs k h1
    split at q
    · rename_i hc
      simp only [Bool.and_eq_true, decide_eq_true_eq] at hc
      obtain ⟨a, vs, rfl, ha, ra⟩ := seqM_at s h1 rd
      simp only [Rep] at re
      exact ⟨a, k, vs, rfl, re, ha, by omega, by omega, big_le (by rw [← ra.length]; exact hc.2), fun p hp => new_lst s hp (ra.rep _) q⟩
    · exact q.elim
  · exact q.elim
theorem sim_repT : SimR K (rRepT K) fRepT := fun H0 H rho S W d e x y s rd re Q q => by
  unfold fRepT at q
  split at q
  · rename_i xs k
    split at q
    · rename_i hc
      simp only [Bool.and_eq_true, decide_eq_true_eq] at hc
      obtain ⟨a, vs, rfl, ha, ra⟩ := tup_at rd
      simp only [Rep] at re
      refine ⟨a, k, vs, rfl, re, ha, fun e => ?_, hc.1.1.2, hc.1.2, by rw [← ra.length]; exact hc.2, fun p hp => new_tup s hp (ra.rep _) q⟩
      subst e
      have e0 : xs = [] := List.eq_nil_of_length_eq_zero (by rw [ra.length]; rfl)
      rw [e0] at hc
      simp at hc
    · exact q.elim
  · exact q.elim
end
section
variable {X : Cx} {W : WX} {a b : Expr} {ma mb : EM} {pos : Pos}
theorem je_add (o : Bool) (ha : JE X W a ma) (hb : JE X W b mb) : JE X W (.BinOp a .Add b pos) (mBin (fAdd o) ma mb) :=
  je_op (op_add.or (op_add_str.or (op_cat.or op_catA))) ((sim_I0 (fun _ _ => rfl) (fun _ _ => rfl)).or (sim_addS.or ((sim_cat o).or sim_catT))) ha hb
theorem je_sub (ha : JE X W a ma) (hb : JE X W b mb) : JE X W (.BinOp a .Sub b pos) (mBin fSub ma mb) := je_op op_sub (sim_I0 (fun _ _ => rfl) (fun _ _ => rfl)) ha hb
theorem je_mul (o : Bool) (ha : JE X W a ma) (hb : JE X W b mb) : JE X W (.BinOp a .Mult b pos) (mBin (fMul o) ma mb) :=
  je_op (op_mulZ.or (op_rep.or op_repT)) ((sim_I (fun i j h => by
    simp only [w64, Bool.or_eq_true, Bool.and_eq_true, decide_eq_true_eq] at h
    rcases h with h | h
    · exact .inl h
    · exact .inr (by unfold CMulX; unfold bitsD at h; omega)) (fun _ _ => rfl) (fun _ _ => rfl)).or ((sim_rep o).or sim_repT)) ha hb
theorem je_div (ha : JE X W a ma) (hb : JE X W b mb) : JE X W (.BinOp a .FloorDiv b pos) (mBin fDiv ma mb) := je_op op_fdivW (sim_I (fun i j h => by simpa [CDivW] using h) (fun _ _ => rfl) (fun _ _ => rfl)) ha hb
theorem je_mod (ha : JE X W a ma) (hb : JE X W b mb) : JE X W (.BinOp a .Mod b pos) (mBin fMod ma mb) := je_op op_mod (sim_I (fun i j h => by simpa using h) (fun _ _ => rfl) (fun _ _ => rfl)) ha hb
theorem je_pow (ha : JE X W a ma) (hb : JE X W b mb) : JE X W (.BinOp a .Pow b pos) (mBin fPow ma mb) := je_op op_pow (sim_I (fun i j h => by simp only [Bool.and_eq_true, decide_eq_true_eq] at h; exact ⟨h.1.1, h.1.2, h.2⟩) (fun _ _ => rfl) (fun _ _ => rfl)) ha hb
theorem je_shl (ha : JE X W a ma) (hb : JE X W b mb) : JE X W (.BinOp a .LShift b pos) (mBin fShl ma mb) := je_op op_shl (sim_I (fun i j h => by simp only [Bool.and_eq_true, decide_eq_true_eq] at h; exact ⟨h.1.1, h.1.2, h.2⟩) (fun _ _ => rfl) (fun _ _ => rfl)) ha hb
theorem je_shr (ha : JE X W a ma) (hb : JE X W b mb) : JE X W (.BinOp a .RShift b pos) (mBin fShr ma mb) := je_op op_shr (sim_I (fun i j h => by simpa using h) (fun _ _ => rfl) (fun _ _ => rfl)) ha hb
theorem je_and_ (ha : JE X W a ma) (hb : JE X W b mb) : JE X W (.BinOp a .BitAnd b pos) (mBin fAnd ma mb) := je_op op_and (sim_I0 (fun _ _ => rfl) (fun _ _ => rfl)) ha hb
def mNeg (m : EM) : EM := fun G S => (m G S).bind fun d S1 => match d with
  | .int i => .ok (.int (-i)) S1
  | _ => .err
theorem je_neg (ha : JE X W a ma) : JE X W (.UnaryOp .USub a pos) (mNeg ma) := by
  obtain ⟨ta, pa, sa⟩ := ha
  refine ⟨_, pe_un un_neg pa, fun H0 G S sg H rho st Q h => sa H0 G S sg H rho st _ (bindE h fun d S1 v H1 rho1 s1 t1 r1 h1 => ?_)⟩
  split at h1
  · rename_i i
    simp only [Rep] at r1
    exact ⟨i, r1, EPost.done s1 (rep_scal (d := .int (-i)) rfl) h1⟩
  · exact h1.elim
end
end Ab

end
section
set_option Elab.async false
set_option linter.all false
set_option maxRecDepth 100000
namespace Ab
open PySem PySem.Spec PyProof.Rows L2

mutual
def sub (g : Bool → Option Bool) (f : Nat → Option D) : D → Option D
  | .non => some .non
  | .bl b => some (.bl b)
  | .int i => some (.int i)
  | .str x => some (.str x)
  | .tup xs => (subs g f xs).map .tup
  | .lst b xs => match g b with
    | some c => (subs g f xs).map (.lst c)
    | none => none
  | .emp b => (g b).map .emp
  | .obj i => f i
def subs (g : Bool → Option Bool) (f : Nat → Option D) : List D → Option (List D)
  | [] => some []
  | d :: ds => match sub g f d, subs g f ds with
    | some e, some es => some (e :: es)
    | _, _ => none
end
/-- the store's things, told as data, to a depth -/
def frz (g : Bool → Option Bool) (t : Bool) (S : Sto) : Nat → Nat → Option D
  | 0, _ => none
  | k + 1, i => match S[i]? with
    | some (.lst xs) => (subs g (frz g t S k) xs).map (.lst t)
    | some (.dct []) => some (.emp t)
    | some (.tpx xs) => (subs g (frz g t S k) xs).map .tup
    | _ => none
def gArg : Bool → Option Bool := fun _ => some false
def gRes : Bool → Option Bool := fun b => if b then some true else none
/-- as an argument; as a result -/
def argD (S : Sto) (d : D) : Option D := sub gArg (frz gArg false S 4) d
def argDs (S : Sto) (ds : List D) : Option (List D) := subs gArg (frz gArg false S 4) ds
def resD (S : Sto) (d : D) : Option D := sub gRes (frz gRes true S 4) d
section
variable {K : PySem.W.Frag} {H0 H B : Hp} {rho : List Addr} {S : Sto} {g : Bool → Option Bool}
mutual
theorem sub_ok {f : Nat → Option D} (hg : ∀ b, g b = some true → b = true ∧ B = H0) (hf : ∀ i e, f i = some e → ∀ v, Rep K H0 H rho (.obj i) v → Rep K B H [] e v) :
    ∀ (d e : D) (v : V), sub g f d = some e → Rep K H0 H rho d v → Rep K B H [] e v
  | .non, e, v, h, r => by simp only [sub, Option.some.injEq] at h; subst h; simpa [Rep] using r
  | .bl b, e, v, h, r => by simp only [sub, Option.some.injEq] at h; subst h; simpa [Rep] using r
  | .int i, e, v, h, r => by simp only [sub, Option.some.injEq] at h; subst h; simpa [Rep] using r
  | .str x, e, v, h, r => by simp only [sub, Option.some.injEq] at h; subst h; simpa [Rep] using r
  | .tup xs, e, v, h, r => by
    simp only [sub, Option.map_eq_some_iff] at h
    obtain ⟨ys, h, rfl⟩ := h
    simp only [Rep] at r ⊢
    obtain ⟨a, vs, e, q, r⟩ := r
    exact ⟨a, vs, e, q, subs_ok hg hf xs ys vs h r⟩
  | .lst b xs, e, v, h, r => by
    simp only [sub] at h
    split at h
    · rename_i c hc
      rw [Option.map_eq_some_iff] at h
      obtain ⟨ys, h, rfl⟩ := h
      simp only [Rep] at r ⊢
      obtain ⟨a, vs, e, q, z, r⟩ := r
      refine ⟨a, vs, e, ?_, fun ct => ?_, subs_ok hg hf xs ys vs h r⟩
      · rcases q with ⟨q, _⟩ | q
        · exact .inl ⟨q, by simp⟩
        · exact .inr q
      · subst ct
        obtain ⟨z1, z2⟩ := hg b hc
        obtain ⟨y1, _, y3⟩ := z z1
        exact ⟨by rw [z2]; exact y1, by simp, y3⟩
    · cases h
  | .emp b, e, v, h, r => by
    simp only [sub, Option.map_eq_some_iff] at h
    obtain ⟨c, hc, rfl⟩ := h
    simp only [Rep] at r ⊢
    obtain ⟨a, e, q, _, z⟩ := r
    refine ⟨a, e, q, by simp, fun ct => ?_⟩
    subst ct
    obtain ⟨z1, z2⟩ := hg b hc
    rw [z2]; exact z z1
  | .obj i, e, v, h, r => hf i e (by simpa only [sub] using h) v r
theorem subs_ok {f : Nat → Option D} (hg : ∀ b, g b = some true → b = true ∧ B = H0) (hf : ∀ i e, f i = some e → ∀ v, Rep K H0 H rho (.obj i) v → Rep K B H [] e v) :
    ∀ (ds es : List D) (vs : List V), subs g f ds = some es → Reps K H0 H rho ds vs → Reps K B H [] es vs
  | [], es, vs, h, r => by simp only [subs, Option.some.injEq] at h; subst h; simpa [Reps] using r
  | d :: ds, es, vs, h, r => by
    simp only [subs] at h
    split at h
    · rename_i e es' h1 h2
      cases h
      simp only [Reps] at r ⊢
      obtain ⟨v, w, e, r1, r2⟩ := r
      exact ⟨v, w, e, sub_ok hg hf d _ v h1 r1, subs_ok hg hf ds _ w h2 r2⟩
    · cases h
end
theorem frz_ok {t : Bool} (s : SOk K H0 H rho S) (hg : ∀ b, g b = some true → b = true ∧ B = H0) (ht : t = true → B = H0) : ∀ (k i : Nat) (e : D), frz g t S k i = some e → ∀ v, Rep K H0 H rho (.obj i) v → Rep K B H [] e v
  | 0, i, e, h, v, r => by simp [frz] at h
  | k + 1, i, e, h, v, r => by
    simp only [frz] at h
    simp only [Rep] at r
    obtain ⟨a, rfl, q⟩ := r
    split at h
    · rename_i xs hS
      rw [Option.map_eq_some_iff] at h
      obtain ⟨ys, h, rfl⟩ := h
      obtain ⟨b, e1, vs, e2, r⟩ := s.at_ i _ hS
      rw [q] at e1; cases e1
      simp only [Rep]
      refine ⟨a, vs, rfl, .inl ⟨.inl e2, by simp⟩, fun z => ⟨?_, by simp, e2⟩, subs_ok hg (frz_ok s hg ht k) xs ys vs h r⟩
      rw [ht z]; exact s.new a (List.mem_of_getElem? q)
    · rename_i hS
      cases h
      obtain ⟨b, e1, ws, e2, e3, r⟩ := s.at_ i _ hS
      rw [q] at e1; cases e1
      have e0 : ws = [] := by
        cases ws with
        | nil => rfl
        | cons _ _ => simp at e3
      subst e0
      simp only [Rep]
      refine ⟨a, rfl, e2, by simp, fun z => ?_⟩
      rw [ht z]; exact s.new a (List.mem_of_getElem? q)
    · rename_i xs hS
      rw [Option.map_eq_some_iff] at h
      obtain ⟨ys, h, rfl⟩ := h
      obtain ⟨b, e1, ob, vs, e2, _, _, r⟩ := s.at_ i _ hS
      rw [q] at e1; cases e1
      simp only [Rep]
      exact ⟨a, vs, rfl, .inl (.inr ⟨ob, e2⟩), subs_ok hg (frz_ok s hg ht k) xs ys vs h r⟩
    · cases h
theorem argD_ok (s : SOk K H0 H rho S) {d e : D} {v : V} (h : argD S d = some e) (r : Rep K H0 H rho d v) : Rep K H H [] e v :=
  sub_ok (fun b z => by simp [gArg] at z) (frz_ok s (fun b z => by simp [gArg] at z) (fun z => by cases z) 4) d e v h r
theorem argDs_ok (s : SOk K H0 H rho S) {ds es : List D} {vs : List V} (h : argDs S ds = some es) (r : Reps K H0 H rho ds vs) : Reps K H H [] es vs :=
  subs_ok (fun b z => by simp [gArg] at z) (frz_ok s (fun b z => by simp [gArg] at z) (fun z => by cases z) 4) ds es vs h r
theorem resD_ok (s : SOk K H0 H rho S) {d e : D} {v : V} (h : resD S d = some e) (r : Rep K H0 H rho d v) : Rep K H0 H [] e v :=
  sub_ok (fun b z => by cases b <;> simp [gRes] at z ⊢) (frz_ok s (fun b z => by cases b <;> simp [gRes] at z ⊢) (fun _ => rfl) 4) d e v h r
end
mutual
def allT : D → Bool
  | .tup xs => allTs xs
  | .lst b xs => b && allTs xs
  | .emp b => b
  | .obj _ => false
  | _ => true
def allTs : List D → Bool
  | [] => true
  | d :: ds => allT d && allTs ds
end
mutual
def imm : D → Bool
  | .tup xs => imms xs
  | .lst _ _ => false
  | .emp _ => false
  | .obj _ => false
  | _ => true
def imms : List D → Bool
  | [] => true
  | d :: ds => imm d && imms ds
end
mutual
theorem sub_imm (g : Bool → Option Bool) (f : Nat → Option D) : ∀ d : D, imm d = true → sub g f d = some d
  | .non, _ => by simp [sub]
  | .bl _, _ => by simp [sub]
  | .int _, _ => by simp [sub]
  | .str _, _ => by simp [sub]
  | .tup xs, h => by
    simp only [imm] at h
    simp [sub, subs_imm g f xs h]
  | .lst _ _, h => by simp [imm] at h
  | .emp _, h => by simp [imm] at h
  | .obj _, h => by simp [imm] at h
theorem subs_imm (g : Bool → Option Bool) (f : Nat → Option D) : ∀ ds : List D, imms ds = true → subs g f ds = some ds
  | [], _ => by simp [subs]
  | d :: ds, h => by
    simp only [imms, Bool.and_eq_true] at h
    simp [subs, sub_imm g f d h.1, subs_imm g f ds h.2]
end
section
variable {K : PySem.W.Frag} {H0 H0' H H' B : Hp} {rho rho' : List Addr} {S : Sto}
mutual
theorem imm_any : ∀ (d : D) (v : V), imm d = true → Rep K H0 H rho d v → Rep K H0' H rho' d v
  | .non, v, _, r => by simpa [Rep] using r
  | .bl _, v, _, r => by simpa [Rep] using r
  | .int _, v, _, r => by simpa [Rep] using r
  | .str _, v, _, r => by simpa [Rep] using r
  | .tup xs, v, h, r => by
    simp only [imm] at h
    simp only [Rep] at r ⊢
    obtain ⟨a, vs, e, q, r⟩ := r
    exact ⟨a, vs, e, q, imms_any xs vs h r⟩
  | .lst _ _, _, h, _ => by simp [imm] at h
  | .emp _, _, h, _ => by simp [imm] at h
  | .obj _, _, h, _ => by simp [imm] at h
theorem imms_any : ∀ (ds : List D) (vs : List V), imms ds = true → Reps K H0 H rho ds vs → Reps K H0' H rho' ds vs
  | [], vs, _, r => by simpa [Reps] using r
  | d :: ds, vs, h, r => by
    simp only [imms, Bool.and_eq_true] at h
    simp only [Reps] at r ⊢
    obtain ⟨v, w, e, r1, r2⟩ := r
    exact ⟨v, w, e, imm_any d v h.1 r1, imms_any ds w h.2 r2⟩
end
mutual
theorem back_ok (hb : ∀ a, B a = none → H0 a = none ∧ a ∉ rho) : ∀ (d : D) (v : V), allT d = true → Rep K B H [] d v → Rep K H0 H rho d v
  | .non, v, _, r => by simpa [Rep] using r
  | .bl _, v, _, r => by simpa [Rep] using r
  | .int _, v, _, r => by simpa [Rep] using r
  | .str _, v, _, r => by simpa [Rep] using r
  | .tup xs, v, h, r => by
    simp only [allT] at h
    simp only [Rep] at r ⊢
    obtain ⟨a, vs, e, q, r⟩ := r
    exact ⟨a, vs, e, q, backs_ok hb xs vs h r⟩
  | .lst b xs, v, h, r => by
    simp only [allT, Bool.and_eq_true] at h
    simp only [Rep] at r ⊢
    obtain ⟨a, vs, e, q, z, r⟩ := r
    obtain ⟨z1, _, z3⟩ := z h.1
    obtain ⟨y1, y2⟩ := hb a z1
    exact ⟨a, vs, e, .inl ⟨.inl z3, y2⟩, fun _ => ⟨y1, y2, z3⟩, backs_ok hb xs vs h.2 r⟩
  | .emp b, v, h, r => by
    simp only [allT] at h
    simp only [Rep] at r ⊢
    obtain ⟨a, e, q, _, z⟩ := r
    obtain ⟨y1, y2⟩ := hb a (z h)
    exact ⟨a, e, q, y2, fun _ => y1⟩
  | .obj _, _, h, _ => by simp [allT] at h
theorem backs_ok (hb : ∀ a, B a = none → H0 a = none ∧ a ∉ rho) : ∀ (ds : List D) (vs : List V), allTs ds = true → Reps K B H [] ds vs → Reps K H0 H rho ds vs
  | [], vs, _, r => by simpa [Reps] using r
  | d :: ds, vs, h, r => by
    simp only [allTs, Bool.and_eq_true] at h
    simp only [Reps] at r ⊢
    obtain ⟨v, w, e, r1, r2⟩ := r
    exact ⟨v, w, e, back_ok hb d v h.1 r1, backs_ok hb ds w h.2 r2⟩
end
theorem SOk.out (s : SOk K H0 H rho S) : ∀ a, H a = none → H0 a = none ∧ a ∉ rho := fun a h => ⟨s.base h, fun m => by
  obtain ⟨o, e⟩ := s.has m
  rw [h] at e; cases e⟩
/-- behind a pure call -/
theorem Stp.grow (s : SOk K H0 H rho S) (e : ∀ a o, H a = some o → H' a = some o) : Stp H rho H' rho :=
  ⟨⟨[], by simp, by simp⟩, fun a o h _ => e a o h, fun a h => let ⟨o, q⟩ := s.has h; ⟨o, e a o q⟩, fun a ob u h => e a _ h⟩
theorem SOk.grow (s : SOk K H0 H rho S) (e : ∀ a o, H a = some o → H' a = some o) : SOk K H0 H' rho S :=
  ⟨s.len, s.nd, s.new, fun a o h => e a o (s.ext a o h), fun i o h => let ⟨a, q, r⟩ := s.at_ i o h; ⟨a, q, r.keep s (.grow s e) fun u hu => e a u hu⟩⟩
end
mutual
theorem allT_imm : ∀ d : D, imm d = true → allT d = true
  | .non, _ => rfl
  | .bl _, _ => rfl
  | .int _, _ => rfl
  | .str _, _ => rfl
  | .tup xs, h => by simp only [imm] at h; simp only [allT]; exact allTs_imms xs h
  | .lst _ _, h => by simp [imm] at h
  | .emp _, h => by simp [imm] at h
  | .obj _, h => by simp [imm] at h
theorem allTs_imms : ∀ ds : List D, imms ds = true → allTs ds = true
  | [], _ => rfl
  | d :: ds, h => by
    simp only [imms, Bool.and_eq_true] at h
    simp [allTs, allT_imm d h.1, allTs_imms ds h.2]
end

inductive FR where
  | rt (d : D) (S : Sto) | ex (c : Str) | err
abbrev Fn := List D → Sto → FR
def FPost (K : PySem.W.Frag) (H0 H : Hp) (rho : List Addr) (r : FR) (Q : VK) (E : XK) : Prop := match r with
  | .rt d S' => ∀ v H' rho', SOk K H0 H' rho' S' → Stp H rho H' rho' → Rep K H0 H' rho' d v → Q v H'
  | .ex c => ∀ H' rho' S', SOk K H0 H' rho' S' → Stp H rho H' rho' → E (.ref (He.ga K c)) none H'
  | .err => False
/-- the promise of a def that does what F says -/
def spS (K : PySem.W.Frag) (F : Fn) : Sp := fun vs H Q E => ∃ H0 rho S ds, SOk K H0 H rho S ∧ Reps K H0 H rho ds vs ∧ FPost K H0 H rho (F ds S) Q E
/-- a call that changes nothing of ours -/
def callP (F : Fn) (ds : List D) (S : Sto) : ER := match argDs S ds with
  | some as => (match F as [] with
    | .rt d S' => (match resD S' d with
      | some e => if allT e then .ok e S else .err
      | none => .err)
    | .ex c => .ex c S
    | .err => .err)
  | none => .err
/-- .. that gives a new list, from then on one of ours -/
def callO (F : Fn) (ds : List D) (S : Sto) : ER := match argDs S ds with
  | some as => (match F as [] with
    | .rt d S' => (match resD S' d with
      | some (.lst true xs) => if imms xs then .ok (.obj S.length) (S ++ [.lst xs]) else .err
      | _ => .err)
    | .ex c => .ex c S
    | .err => .err)
  | none => .err
/-- a call that works on our things -/
def callS (F : Fn) (ds : List D) (S : Sto) : ER := match F ds S with
  | .rt d S' => .ok d S'
  | .ex _ => .err
  | .err => .err
section
variable {K : PySem.W.Frag} {H0 H : Hp} {rho : List Addr} {S : Sto} {W : Value → Option Addr → Hp → Prop} {Q : VK} {E : XK} {F : Fn} {ds : List D} {vs : List V}
theorem base0 (H : Hp) : SOk K H H [] [] := ⟨rfl, by simp, by simp, fun _ _ h => h, by simp⟩
theorem callP_ok (s : SOk K H0 H rho S) (r : Reps K H0 H rho ds vs) (h : EPost K H0 H rho W (callP F ds S) Q) : spS K F vs H Q W := by
  unfold callP at h
  split at h
  · rename_i as has
    refine ⟨H, [], [], as, base0 H, argDs_ok s has r, ?_⟩
    cases hF : F as [] with
    | rt d S' =>
      rw [hF] at h
      dsimp only at h
      intro v H' rho' s' t' r'
      cases he : resD S' d with
      | none => rw [he] at h; exact h.elim
      | some e =>
        rw [he] at h
        dsimp only at h
        split at h
        · rename_i ht
          have g := s'.ext
          exact h v H' rho (s.grow g) (.grow s g) (back_ok s.out e v ht (resD_ok s' he r'))
        · exact h.elim
    | ex c =>
      rw [hF] at h
      intro H' rho' S' s' t'
      exact h H' rho (s.grow s'.ext) (.grow s s'.ext)
    | err => rw [hF] at h; exact h.elim
  · exact h.elim
theorem callO_ok (s : SOk K H0 H rho S) (r : Reps K H0 H rho ds vs) (h : EPost K H0 H rho W (callO F ds S) Q) : spS K F vs H Q W := by
  unfold callO at h
  split at h
  · rename_i as has
    refine ⟨H, [], [], as, base0 H, argDs_ok s has r, ?_⟩
    cases hF : F as [] with
    | rt d S' =>
      rw [hF] at h
      dsimp only at h
      intro v H' rho' s' t' r'
      split at h
      · rename_i xs he
        split at h
        · rename_i hi
          have g := s'.ext
          have q := resD_ok s' he r'
          simp only [Rep] at q
          obtain ⟨a, ws, rfl, _, z, q⟩ := q
          obtain ⟨z1, _, z3⟩ := z trivial
          obtain ⟨y1, y2⟩ := s.out a z1
          have s2 := s.grow g
          have t2 := Stp.grow s g
          -- the new list joins ours
          have s3 : SOk K H0 H' (rho ++ [a]) (S ++ [.lst xs]) := by
            have t3 : Stp H rho H' (rho ++ [a]) := ⟨⟨[a], rfl, by simpa using z1⟩, t2.keep, t2.obj, t2.frz⟩
            refine ⟨by simp [s.len], ?_, fun b hb => ?_, s2.ext, fun i o ho => ?_⟩
            · rw [List.nodup_append]
              exact ⟨s.nd, by simp, fun b hb c hc e => by simp at hc; subst hc; subst e; exact y2 hb⟩
            · rcases List.mem_append.mp hb with hb | hb
              · exact s.new b hb
              · simp at hb; subst hb; exact y1
            · by_cases hl : i < S.length
              · rw [List.getElem?_append_left hl] at ho
                obtain ⟨b, e, q⟩ := s.at_ i o ho
                exact ⟨b, by rw [List.getElem?_append_left (by rw [s.len]; exact hl)]; exact e, q.keep s t3 fun u hu => g b u hu⟩
              · have hi2 : i = S.length := by
                  have := (List.getElem?_eq_some_iff.mp ho).1
                  simp at this; omega
                subst hi2
                simp at ho; subst ho
                exact ⟨a, by rw [← s.len]; simp, ws, z3, imms_any xs ws hi q⟩
          refine h _ H' (rho ++ [a]) s3 ⟨⟨[a], rfl, by simpa using z1⟩, t2.keep, t2.obj, t2.frz⟩ ?_
          simp only [Rep]
          exact ⟨a, rfl, by rw [← s.len]; simp⟩
        · exact h.elim
      · exact h.elim
    | ex c =>
      rw [hF] at h
      intro H' rho' S' s' t'
      exact h H' rho (s.grow s'.ext) (.grow s s'.ext)
    | err => rw [hF] at h; exact h.elim
  · exact h.elim
theorem callS_ok (s : SOk K H0 H rho S) (r : Reps K H0 H rho ds vs) (h : EPost K H0 H rho W (callS F ds S) Q) : spS K F vs H Q W := by
  refine ⟨H0, rho, S, ds, s, r, ?_⟩
  unfold callS at h
  cases hF : F ds S with
  | rt d S' => rw [hF] at h; exact h
  | ex c => rw [hF] at h; exact h.elim
  | err => rw [hF] at h; exact h.elim
end
def mCall (f : List D → Sto → ER) (a : AM) : EM := fun G S => (a G S).bind f
/-- what is known of a def that is called: it stands at its name, does what F says, there is room -/
structure Cal (X : Cx) (x : Str) (F : Fn) : Prop where
  ex : ∃ (k : Nat) (fd : FuncData) (ps : List Str), FnOk X.prog X.w X.K X.mg X.base (L2.CX X.prog X.w) k (He.ga X.K x) fd ps (spS X.K F) ∧ Room k X.A ∧ Binds X.K fd ps []
  mg : X.mg x = some (.ref (He.ga X.K x))
  kp : PySem.W.keepIn X.K (.ref (He.ga X.K x)) = true
section
variable {X : Cx} {W : WX}
theorem je_callG {x : Str} {F : Fn} {f : List D → Sto → ER} {p pos : Pos} {e : Expr} {es : List Expr} {m : AM} (hf : ∀ {H0 H rho S ds vs Q W}, SOk X.K H0 H rho S → Reps X.K H0 H rho ds vs → EPost X.K H0 H rho W (f ds S) Q → spS X.K F vs H Q W)
    (c : Cal X x F) (tk : Takes X W) (hg : Gl X x) (ha : JA X W (e :: es) m)
    (hdb : (x == ("__debug__" : Str)) = false := by decide) (he : starEach (e :: es) X.env = (false, eval e X.env) :: starEach es X.env := by rfl) (hpl : (backTo pos (starEach es X.env)).any (·.1) = false := by rfl) : JE X W (.Call (.Name x p) (e :: es) [] pos) (mCall f m) := by
  obtain ⟨⟨k, fd, ps, hF, hr, hb⟩, hm, hk⟩ := c
  obtain ⟨ta, pa, sa⟩ := ha
  refine ⟨_, pe_callS hF hr hg hm hk hb (fun σ => passAt tk σ) pa hdb he hpl, fun H0 G S sg H rho st Q h => ?_⟩
  exact sa H0 G S sg H rho st _ (bindA h fun ds S1 vs H1 rho1 s1 t1 r1 h1 => hf s1 r1 h1)
theorem je_call {x : Str} {F : Fn} {p pos : Pos} {e : Expr} {es : List Expr} {m : AM} (c : Cal X x F) (tk : Takes X W) (hg : Gl X x) (ha : JA X W (e :: es) m)
    (hdb : (x == ("__debug__" : Str)) = false := by decide) (he : starEach (e :: es) X.env = (false, eval e X.env) :: starEach es X.env := by rfl) (hpl : (backTo pos (starEach es X.env)).any (·.1) = false := by rfl) : JE X W (.Call (.Name x p) (e :: es) [] pos) (mCall (callP F) m) :=
  je_callG callP_ok c tk hg ha hdb he hpl
theorem je_callO {x : Str} {F : Fn} {p pos : Pos} {e : Expr} {es : List Expr} {m : AM} (c : Cal X x F) (tk : Takes X W) (hg : Gl X x) (ha : JA X W (e :: es) m)
    (hdb : (x == ("__debug__" : Str)) = false := by decide) (he : starEach (e :: es) X.env = (false, eval e X.env) :: starEach es X.env := by rfl) (hpl : (backTo pos (starEach es X.env)).any (·.1) = false := by rfl) : JE X W (.Call (.Name x p) (e :: es) [] pos) (mCall (callO F) m) :=
  je_callG callO_ok c tk hg ha hdb he hpl
theorem je_callSt {x : Str} {F : Fn} {p pos : Pos} {e : Expr} {es : List Expr} {m : AM} (c : Cal X x F) (tk : Takes X W) (hg : Gl X x) (ha : JA X W (e :: es) m)
    (hdb : (x == ("__debug__" : Str)) = false := by decide) (he : starEach (e :: es) X.env = (false, eval e X.env) :: starEach es X.env := by rfl) (hpl : (backTo pos (starEach es X.env)).any (·.1) = false := by rfl) : JE X W (.Call (.Name x p) (e :: es) [] pos) (mCall (callS F) m) :=
  je_callG callS_ok c tk hg ha hdb he hpl
end
end Ab

end
section
set_option Elab.async false
set_option linter.all false
set_option maxRecDepth 100000
namespace Ab
open PySem PySem.Spec PyProof.Rows L2

section
variable {K : PySem.W.Frag} {H0 H : Hp} {rho : List Addr} {S : Sto}
theorem Reps.atI {ds : List D} {vs : List V} {i : Int} {d : D} (h : Reps K H0 H rho ds vs) (e : L2.atI ds i = some d) : ∃ v, L2.atI vs i = some v ∧ Rep K H0 H rho d v := by
  unfold L2.atI at e ⊢
  rw [← h.length]
  cases q : ixN ds.length i with
  | none => rw [q] at e; cases e
  | some j =>
    rw [q] at e
    exact h.get (i := j) e
theorem Reps.cut {ds : List D} {vs : List V} (h : Reps K H0 H rho ds vs) (lo hi : Option Int) :
    Reps K H0 H rho ((ds.drop (HT.sIx ds.length 0 lo)).take (HT.sIx ds.length ds.length hi - HT.sIx ds.length 0 lo)) (cutV vs lo hi) := by
  unfold cutV
  rw [h.length]
  exact (h.drop _).take _
end
/-- d[i] of a tuple, a text, a list -/
def fIx : D → D → Sto → ER := fun d e S => match e with
  | .int i => (match d with
    | .tup xs => (match L2.atI xs i with
      | some y => .ok y S
      | none => .err)
    | .str x => if x.length ≤ big then (match L2.atI x.cps.toList i with
      | some c => .ok (.str ⟨#[c]⟩) S
      | none => .err) else .err
    | d => (match seqL S d with
      | some xs => (match L2.atI xs i with
        | some y => .ok y S
        | none => .err)
      | none => .err))
  | _ => .err
theorem sim_ix {K : PySem.W.Frag} : SimR K (rIx K) fIx := fun H0 H rho S W d e x y s rd re Q q => by
  unfold fIx at q
  split at q
  · rename_i i
    simp only [Rep] at re
    split at q
    · rename_i xs
      split at q
      · rename_i z hz
        obtain ⟨a, vs, rfl, ha, ra⟩ := tup_at rd
        obtain ⟨v, hv, rv⟩ := ra.atI hz
        exact .inr (.inl ⟨a, vs, i, v, rfl, re, ha, hv, EPost.done s rv q⟩)
      · exact q.elim
    · rename_i z
      split at q
      · rename_i hl
        split at q
        · rename_i c hc
          simp only [Rep] at rd
          exact .inr (.inr ⟨z, i, c, rd, re, big_le hl, hc, EPost.done s (rep_scal (d := .str ⟨#[c]⟩) rfl) q⟩)
        · exact q.elim
      · exact q.elim
    · split at q
      · rename_i xs hx
        split at q
        · rename_i z hz
          obtain ⟨a, vs, rfl, ha, ra⟩ := seqL_at s hx rd
          obtain ⟨v, hv, rv⟩ := ra.atI hz
          exact .inl ⟨a, vs, i, v, rfl, re, ha, hv, EPost.done s rv q⟩
        · exact q.elim
      · exact q.elim
  · exact q.elim
section
variable {X : Cx} {W : WX} {a b : Expr} {ma mb : EM} {pos : Pos}
theorem je_ix (ha : JE X W a ma) (hb : JE X W b mb) (hs : PlainIx b) : JE X W (.Subscript a b pos) (mBin fIx ma mb) := by
  obtain ⟨ta, pa, sa⟩ := ha
  obtain ⟨tb, pb, sb⟩ := hb
  exact ⟨_, pe_ix ix_seq pa pb hs, sim_op sa sb sim_ix⟩
end

inductive OR where
  | ok (o : Option Int) (S : Sto) | ex (c : Str) (S : Sto) | err
abbrev OM := Gam → Sto → OR
def oNone : OM := fun _ S => .ok none S
def oSome (m : EM) : OM := fun G S => match m G S with
  | .ok (.int i) S1 => .ok (some i) S1
  | .ok _ _ => .err
  | .ex c S1 => .ex c S1
  | .err => .err
def OPost (K : PySem.W.Frag) (H0 H : Hp) (rho : List Addr) (W : Value → Option Addr → Hp → Prop) (r : OR) (Q : Option Int → Hp → Prop) : Prop := match r with
  | .ok o S' => ∀ H' rho', SOk K H0 H' rho' S' → Stp H rho H' rho' → Q o H'
  | .ex c S' => ∀ H' rho', SOk K H0 H' rho' S' → Stp H rho H' rho' → W (.ref (He.ga K c)) none H'
  | .err => False
def JO (X : Cx) (W : WX) (e : Option Expr) (m : OM) : Prop := ∃ to, PO X e to ∧ ∀ H0 G S sg H rho, Sat X.K H0 G S sg H rho → ∀ Q : Option Int → Hp → Prop, OPost X.K H0 H rho (fun c d h => W c d sg h) (m G S) Q → to sg H Q
def OR.bind (r : OR) (k : Option Int → Sto → ER) : ER := match r with
  | .ok o S => k o S
  | .ex c S => .ex c S
  | .err => .err
theorem bindO {K : PySem.W.Frag} {H0 H : Hp} {rho : List Addr} {W : Value → Option Addr → Hp → Prop} {r : OR} {k : Option Int → Sto → ER} {Q : VK} {R : Option Int → Hp → Prop} (h : EPost K H0 H rho W (r.bind k) Q)
    (g : ∀ o S1 H1 rho1, SOk K H0 H1 rho1 S1 → Stp H rho H1 rho1 → EPost K H0 H1 rho1 W (k o S1) Q → R o H1) : OPost K H0 H rho W r R := by
  cases r with
  | ok d S' => exact fun H' rho' s t => g d S' H' rho' s t (EPost.step t h)
  | ex c S' => exact h
  | err => exact h
/-- the items of xs[lo:hi] -/
def cutD {α : Type} (xs : List α) (lo hi : Option Int) : List α := (xs.drop (HT.sIx xs.length 0 lo)).take (HT.sIx xs.length xs.length hi - HT.sIx xs.length 0 lo)
def fSl (o : Bool) : D → Option Int → Option Int → Sto → ER := fun d lo hi S => match d with
  | .tup xs => .ok (.tup (cutD xs lo hi)) S
  | .str z => if z.length ≤ big then .ok (.str (cutS z lo hi)) S else .err
  | d => (match seqL S d with
    | some xs => nw o (cutD xs lo hi) S
    | none => .err)
def mSl (o : Bool) (m : EM) (ml mh : OM) : EM := fun G S => (m G S).bind fun d S1 => (ml G S1).bind fun lo S2 => (mh G S2).bind fun hi S3 => fSl o d lo hi S3
section
variable {X : Cx} {W : WX} {a b : Expr} {ma mb : EM} {pos : Pos}
theorem jo_none : JO X W none oNone := ⟨_, po_none, fun H0 G S sg H rho st Q h => h H rho st.s (Stp.refl st.s)⟩
theorem jo_some (ha : JE X W a ma) : JO X W (some a) (oSome ma) := by
  obtain ⟨ta, pa, sa⟩ := ha
  refine ⟨_, po_some pa, fun H0 G S sg H rho st Q h => sa H0 G S sg H rho st _ ?_⟩
  show EPost _ _ _ _ _ (ma G S) _
  unfold oSome at h
  cases e : ma G S with
  | err => rw [e] at h; exact h
  | ex c S1 => rw [e] at h; exact h
  | ok d S1 =>
    rw [e] at h
    intro v H1 rho1 s1 t1 r1
    cases d with
    | int i =>
      simp only [Rep] at r1
      exact ⟨i, r1, h H1 rho1 s1 t1⟩
    | _ => exact h.elim
theorem sim_sl {K : PySem.W.Frag} {H0 H : Hp} {rho : List Addr} {S : Sto} {W : Value → Option Addr → Hp → Prop} {o : Bool} {d : D} {lo hi : Option Int} {x : V} {Q : VK} (s : SOk K H0 H rho S) (rd : Rep K H0 H rho d x) (q : EPost K H0 H rho W (fSl o d lo hi S) Q) :
    rSlL K x lo hi H Q ∨ rSlA K x lo hi H Q ∨ ∃ z, x = .str z ∧ z.length ≤ sizeLine ∧ Q (.str (cutS z lo hi)) H := by
  unfold fSl at q
  split at q
  · rename_i xs
    obtain ⟨a, vs, rfl, ha, ra⟩ := tup_at rd
    refine .inr (.inl ⟨a, vs, rfl, ha, fun h0 => ?_, fun h0 p hp => new_tup s hp (ra.cut lo hi) q⟩)
    have e0 : cutD xs lo hi = xs := by
      unfold cutD
      rw [ra.length, h0.1, h0.2, List.drop_zero, ← ra.length]
      simp
    rw [e0] at q
    exact EPost.done s (by simp only [Rep]; exact ⟨a, vs, rfl, ha, ra⟩) q
  · rename_i z
    split at q
    · rename_i hl
      simp only [Rep] at rd
      exact .inr (.inr ⟨z, rd, big_le hl, EPost.done s (rep_scal (d := .str (cutS z lo hi)) rfl) q⟩)
    · exact q.elim
  · split at q
    · rename_i xs hx
      obtain ⟨a, vs, rfl, ha, ra⟩ := seqL_at s hx rd
      exact .inl ⟨a, vs, rfl, ha, fun p hp => new_lst s hp (ra.cut lo hi) q⟩
    · exact q.elim
theorem je_sl (o : Bool) {lo hi : Option Expr} {ml mh : OM} {p2 : Pos} (ha : JE X W a ma) (hl : JO X W lo ml) (hh : JO X W hi mh) : JE X W (.Subscript a (.Slice lo hi none p2) pos) (mSl o ma ml mh) := by
  obtain ⟨ta, pa, sa⟩ := ha
  obtain ⟨tl, pl, sl⟩ := hl
  obtain ⟨th, ph, sh⟩ := hh
  refine ⟨_, pe_slice (sl_list.or (sl_tupA.or sl_str)) pa pl ph, fun H0 G S sg H rho st Q h => sa H0 G S sg H rho st _ (bindE h fun d S1 v H1 rho1 s1 t1 r1 h1 => ?_)⟩
  refine sl H0 G S1 sg H1 rho1 (st.step s1 t1) _ (bindO h1 fun l S2 H2 rho2 s2 t2 h2 => ?_)
  refine sh H0 G S2 sg H2 rho2 ((st.step s1 t1).step s2 t2) _ (bindO h2 fun u S3 H3 rho3 s3 t3 h3 => ?_)
  exact sim_sl s3 (Rep.keep s2 t3 _ _ (Rep.keep s1 t2 _ _ r1)) h3
end
end Ab

end
section
set_option Elab.async false
set_option linter.all false
set_option maxRecDepth 100000
namespace Ab
open PySem PySem.Spec PyProof.Rows L2

mutual
def eqd : D → D → Bool
  | .non, .non => true
  | .bl a, .bl b => a == b
  | .bl a, .int j => (if a then 1 else 0) == j
  | .int i, .bl b => i == (if b then 1 else 0)
  | .int i, .int j => i == j
  | .str x, .str y => x == y
  | .tup xs, .tup ys => eqds xs ys
  | .lst _ xs, .lst _ ys => eqds xs ys
  | _, _ => false
def eqds : List D → List D → Bool
  | [], [] => true
  | x :: xs, y :: ys => eqd x y && eqds xs ys
  | _, _ => false
end
mutual
def okE : D → Bool
  | .str x => PyData.strOk x
  | .tup xs => okEs xs
  | .lst _ xs => okEs xs
  | .emp _ => false
  | .obj _ => false
  | _ => true
def okEs : List D → Bool
  | [] => true
  | x :: xs => okE x && okEs xs
end
mutual
def dep : D → Nat
  | .tup xs => deps xs + 1
  | .lst _ xs => deps xs + 1
  | _ => 0
def deps : List D → Nat
  | [] => 0
  | x :: xs => max (dep x) (deps xs)
end
mutual
def pyd : D → PyData
  | .non => .none
  | .bl b => .bool b
  | .int i => .int i
  | .str x => .str x
  | .tup xs => .tuple (pyds xs)
  | .lst _ xs => .list (pyds xs)
  | .emp _ => .none
  | .obj _ => .none
def pyds : List D → List PyData
  | [] => []
  | x :: xs => pyd x :: pyds xs
end
section
variable {K : PySem.W.Frag} {H0 H : Hp} {rho : List Addr}
mutual
theorem pyd_rep : ∀ (d : D) (v : V), okE d = true → Rep K H0 H rho d v → Dp K H v (pyd d)
  | .non, v, _, r => by simp only [Rep] at r; subst r; exact .non
  | .bl b, v, _, r => by simp only [Rep] at r; subst r; exact .bl b
  | .int i, v, _, r => by simp only [Rep] at r; subst r; exact .int i
  | .str x, v, _, r => by simp only [Rep] at r; subst r; exact .str x
  | .tup xs, v, h, r => by
    simp only [okE] at h
    simp only [Rep] at r
    obtain ⟨a, vs, rfl, q, r⟩ := r
    simp only [pyd]
    exact .tup q (pyds_rep xs vs h r)
  | .lst f xs, v, h, r => by
    simp only [okE] at h
    simp only [Rep] at r
    obtain ⟨a, vs, rfl, q, _, r⟩ := r
    simp only [pyd]
    exact .lst q.sq (pyds_rep xs vs h r)
  | .emp _, _, h, _ => by simp [okE] at h
  | .obj _, _, h, _ => by simp [okE] at h
theorem pyds_rep : ∀ (ds : List D) (vs : List V), okEs ds = true → Reps K H0 H rho ds vs → DpAll K H vs (pyds ds)
  | [], vs, _, r => by simp only [Reps] at r; subst r; simp only [pyds]; exact .nil
  | d :: ds, vs, h, r => by
    simp only [okEs, Bool.and_eq_true] at h
    simp only [Reps] at r
    obtain ⟨v, w, rfl, r1, r2⟩ := r
    simp only [pyds]
    exact .cons (pyd_rep d v h.1 r1) (pyds_rep ds w h.2 r2)
end
end
mutual
theorem pyd_lay : ∀ d : D, okE d = true → (pyd d).canLay0 = true
  | .non, _ => rfl
  | .bl _, _ => rfl
  | .int _, _ => rfl
  | .str x, h => by simpa [okE, pyd, PyData.canLay0] using h
  | .tup xs, h => by simp only [okE] at h; simp only [pyd, PyData.canLay0]; exact pyds_lay xs h
  | .lst _ xs, h => by simp only [okE] at h; simp only [pyd, PyData.canLay0]; exact pyds_lay xs h
  | .emp _, h => by simp [okE] at h
  | .obj _, h => by simp [okE] at h
theorem pyds_lay : ∀ ds : List D, okEs ds = true → PyData.canLayAll0 (pyds ds) = true
  | [], _ => rfl
  | d :: ds, h => by
    simp only [okEs, Bool.and_eq_true] at h
    simp [pyds, PyData.canLayAll0, pyd_lay d h.1, pyds_lay ds h.2]
end
mutual
theorem pyd_dep : ∀ d : D, (pyd d).depth = dep d
  | .non => rfl
  | .bl _ => rfl
  | .int _ => rfl
  | .str _ => rfl
  | .tup xs => by simp [pyd, PyData.depth, dep, pyds_dep xs]
  | .lst _ xs => by simp [pyd, PyData.depth, dep, pyds_dep xs]
  | .emp _ => rfl
  | .obj _ => rfl
theorem pyds_dep : ∀ ds : List D, PyData.depthAll (pyds ds) = deps ds
  | [] => rfl
  | d :: ds => by simp [pyds, PyData.depthAll, deps, pyd_dep d, pyds_dep ds]
end
mutual
theorem pyd_eqv : ∀ d e : D, okE d = true → okE e = true → PyData.eqv (pyd d) (pyd e) = eqd d e
  | .non, e, _, h => by cases e <;> simp [pyd, PyData.eqv, eqd, okE] at h ⊢
  | .bl _, e, _, h => by cases e <;> simp [pyd, PyData.eqv, eqd, okE] at h ⊢
  | .int _, e, _, h => by cases e <;> simp [pyd, PyData.eqv, eqd, okE] at h ⊢
  | .str _, e, _, h => by cases e <;> simp [pyd, PyData.eqv, eqd, okE] at h ⊢
  | .tup xs, e, h1, h => by
    cases e with
    | tup ys =>
      simp only [okE] at h1 h
      simp only [pyd, PyData.eqv, eqd]
      exact pyds_eqv xs ys h1 h
    | _ => simp [pyd, PyData.eqv, eqd, okE] at h ⊢
  | .lst _ xs, e, h1, h => by
    cases e with
    | lst _ ys =>
      simp only [okE] at h1 h
      simp only [pyd, PyData.eqv, eqd]
      exact pyds_eqv xs ys h1 h
    | _ => simp [pyd, PyData.eqv, eqd, okE] at h ⊢
  | .emp _, _, h, _ => by simp [okE] at h
  | .obj _, _, h, _ => by simp [okE] at h
theorem pyds_eqv : ∀ ds es : List D, okEs ds = true → okEs es = true → PyData.eqvAll (pyds ds) (pyds es) = eqds ds es
  | [], [], _, _ => rfl
  | [], _ :: _, _, _ => rfl
  | _ :: _, [], _, _ => rfl
  | d :: ds, e :: es, h, h' => by
    simp only [okEs, Bool.and_eq_true] at h h'
    simp [pyds, PyData.eqvAll, eqds, pyd_eqv d e h.1 h'.1, pyds_eqv ds es h.2 h'.2]
end
/-- data at any depth to 190 of one side -/
def rEqA (K : PySem.W.Frag) : R2 := fun x y H Q => ∃ d e, Dp K H x d ∧ Dp K H y e ∧ d.canLay0 = true ∧ e.canLay0 = true ∧ min d.depth e.depth ≤ 190 ∧ Q (.bl (PyData.eqv d e)) H
def rNeA (K : PySem.W.Frag) : R2 := fun x y H Q => ∃ d e, Dp K H x d ∧ Dp K H y e ∧ d.canLay0 = true ∧ e.canLay0 = true ∧ min d.depth e.depth ≤ 190 ∧ Q (.bl (!PyData.eqv d e)) H
section
variable {X : Cx}
theorem op_eqA (hu : X.A.units + 190 < cLine) : OpR X (compareOp .Eq) (rEqA X.K) := by
  intro pins s σ H x y v u Q I rx ry h
  obtain ⟨d, e, hd, he, sd, se, hz, q⟩ := h
  obtain ⟨as, r1⟩ := Dp.reads I d x v hd rx
  obtain ⟨bs, r2⟩ := Dp.reads I e y u he ry
  exact SeqAt.compareEq_reads r1 r2 sd se (by omega) ⟨.bl _, H, I, rfl, q⟩
theorem op_neA (hu : X.A.units + 190 < cLine) : OpR X (compareOp .NotEq) (rNeA X.K) := by
  intro pins s σ H x y v u Q I rx ry h
  obtain ⟨d, e, hd, he, sd, se, hz, q⟩ := h
  obtain ⟨as, r1⟩ := Dp.reads I d x v hd rx
  obtain ⟨bs, r2⟩ := Dp.reads I e y u he ry
  exact SeqAt.compareNe_reads r1 r2 sd se (by omega) ⟨.bl _, H, I, rfl, q⟩
end
theorem room_hu {k : Nat} {A : Around} (r : Room k A) : A.units + 190 < cLine := by have := r.un; omega
/-- e is dispatched on first: scalars of one kind, then data -/
def fEq (neg : Bool) : D → D → Sto → ER := fun d e S => match d, e with
  | .int i, .int j => .ok (.bl (if neg then !decide (i = j) else decide (i = j))) S
  | .str i, .str j => .ok (.bl (if neg then !decide (i = j) else decide (i = j))) S
  | .bl i, .bl j => .ok (.bl (if neg then !decide (i = j) else decide (i = j))) S
  | d, e => (match argD S d, argD S e with
    | some d', some e' => if okE d' && okE e' && decide (min (dep d') (dep e') ≤ 190) then .ok (.bl (if neg then !eqd d' e' else eqd d' e')) S else .err
    | _, _ => .err)
theorem v_int {i j : Int} : decide (V.int i = V.int j) = decide (i = j) := by
  by_cases h : i = j
  · simp [h]
  · have : ¬ V.int i = V.int j := fun q => h (V.int.inj q)
    simp [h, this]
theorem v_str {i j : Str} : decide (V.str i = V.str j) = decide (i = j) := by
  by_cases h : i = j
  · simp [h]
  · have : ¬ V.str i = V.str j := fun q => h (V.str.inj q)
    simp [h, this]
theorem v_bl {i j : Bool} : decide (V.bl i = V.bl j) = decide (i = j) := by
  by_cases h : i = j
  · simp [h]
  · have : ¬ V.bl i = V.bl j := fun q => h (V.bl.inj q)
    simp [h, this]
section
variable {K : PySem.W.Frag}
theorem sim_eq : SimR K (fun x y H Q => rEq x y H Q ∨ rEqA K x y H Q) (fEq false) := fun H0 H rho S W d e x y s rd re Q q => by
  unfold fEq at q
  split at q
  · rename_i i j
    simp only [Rep] at rd re
    subst rd re
    refine .inl ⟨rfl, ?_⟩
    rw [v_int]
    exact EPost.done s (rep_scal (d := .bl _) rfl) q
  · rename_i i j
    simp only [Rep] at rd re
    subst rd re
    refine .inl ⟨rfl, ?_⟩
    rw [v_str]
    exact EPost.done s (rep_scal (d := .bl _) rfl) q
  · rename_i i j
    simp only [Rep] at rd re
    subst rd re
    refine .inl ⟨rfl, ?_⟩
    rw [v_bl]
    exact EPost.done s (rep_scal (d := .bl _) rfl) q
  · split at q
    · rename_i d' e' h1 h2
      split at q
      · rename_i hc
        simp only [Bool.and_eq_true, decide_eq_true_eq] at hc
        refine .inr ⟨_, _, pyd_rep d' x hc.1.1 (argD_ok s h1 rd), pyd_rep e' y hc.1.2 (argD_ok s h2 re), pyd_lay _ hc.1.1, pyd_lay _ hc.1.2, by rw [pyd_dep, pyd_dep]; exact hc.2, ?_⟩
        rw [pyd_eqv _ _ hc.1.1 hc.1.2]
        exact EPost.done s (rep_scal (d := .bl _) rfl) q
      · exact q.elim
    · exact q.elim
theorem sim_ne : SimR K (fun x y H Q => rNe x y H Q ∨ rNeA K x y H Q) (fEq true) := fun H0 H rho S W d e x y s rd re Q q => by
  unfold fEq at q
  split at q
  · rename_i i j
    simp only [Rep] at rd re
    subst rd re
    refine .inl ⟨rfl, ?_⟩
    rw [v_int]
    exact EPost.done s (rep_scal (d := .bl _) rfl) q
  · rename_i i j
    simp only [Rep] at rd re
    subst rd re
    refine .inl ⟨rfl, ?_⟩
    rw [v_str]
    exact EPost.done s (rep_scal (d := .bl _) rfl) q
  · rename_i i j
    simp only [Rep] at rd re
    subst rd re
    refine .inl ⟨rfl, ?_⟩
    rw [v_bl]
    exact EPost.done s (rep_scal (d := .bl _) rfl) q
  · split at q
    · rename_i d' e' h1 h2
      split at q
      · rename_i hc
        simp only [Bool.and_eq_true, decide_eq_true_eq] at hc
        refine .inr ⟨_, _, pyd_rep d' x hc.1.1 (argD_ok s h1 rd), pyd_rep e' y hc.1.2 (argD_ok s h2 re), pyd_lay _ hc.1.1, pyd_lay _ hc.1.2, by rw [pyd_dep, pyd_dep]; exact hc.2, ?_⟩
        rw [pyd_eqv _ _ hc.1.1 hc.1.2]
        exact EPost.done s (rep_scal (d := .bl _) rfl) q
      · exact q.elim
    · exact q.elim
end
/-- the orders of ints -/
def fLt : D → D → Sto → ER := fI (fun _ _ => true) fun i j => .bl (decide (i < j))
def fLe : D → D → Sto → ER := fI (fun _ _ => true) fun i j => .bl (decide (i ≤ j))
def fGt : D → D → Sto → ER := fI (fun _ _ => true) fun i j => .bl (decide (j < i))
def fGe : D → D → Sto → ER := fI (fun _ _ => true) fun i j => .bl (decide (j ≤ i))
def isNon : D → Bool
  | .non => true
  | _ => false
def fIsN (neg : Bool) : D → D → Sto → ER := fun d e S => match e with
  | .non => .ok (.bl (if neg then !isNon d else isNon d)) S
  | _ => .err
def fIsB (neg : Bool) : D → D → Sto → ER := fun d e S => match d, e with
  | .bl a, .bl b => .ok (.bl (if neg then !decide (a = b) else decide (a = b))) S
  | _, _ => .err
theorem isNon_rep {K : PySem.W.Frag} {H0 H : Hp} {rho : List Addr} {d : D} {v : V} (r : Rep K H0 H rho d v) : decide (v = .non) = isNon d := by
  cases d with
  | non => simp only [Rep] at r; simp [r, isNon]
  | bl b => simp only [Rep] at r; simp [r, isNon]
  | int b => simp only [Rep] at r; simp [r, isNon]
  | str b => simp only [Rep] at r; simp [r, isNon]
  | tup xs => simp only [Rep] at r; obtain ⟨a, _, rfl, _⟩ := r; simp [isNon]
  | lst f xs => simp only [Rep] at r; obtain ⟨a, _, rfl, _⟩ := r; simp [isNon]
  | emp f => simp only [Rep] at r; obtain ⟨a, rfl, _⟩ := r; simp [isNon]
  | obj i => simp only [Rep] at r; obtain ⟨a, rfl, _⟩ := r; simp [isNon]
/-- the items of a list or tuple -/
def seqA (S : Sto) : D → Option (List D)
  | .tup xs => some xs
  | d => seqL S d
def eqF (a b : D) : Bool := eqV (scalD a) (scalD b)
/-- x in a list or tuple of scalars -/
def fIn (neg : Bool) : D → D → Sto → ER := fun d e S => match seqA S e with
  | some ys => if isScal d && ys.all isScal then .ok (.bl (if neg then !ys.any (fun y => eqF y d) else ys.any (fun y => eqF y d))) S else .err
  | none => .err
def fInS (neg : Bool) : D → D → Sto → ER := fun d e S => match d, e with
  | .str x, .str z => (match x.cps.toList with
    | [c] => .ok (.bl (if neg then !decide (c ∈ z.cps.toList) else decide (c ∈ z.cps.toList))) S
    | _ => .err)
  | _, _ => .err
theorem scal_eq {K : PySem.W.Frag} {H0 H : Hp} {rho : List Addr} {d : D} {v : V} (h : isScal d = true) (r : Rep K H0 H rho d v) : v = scalD d := by
  cases d <;> simp [isScal] at h <;> simpa [Rep, scalD] using r
theorem scal_flat {d : D} (h : isScal d = true) : flatV (scalD d) = true := by
  cases d <;> simp [isScal] at h <;> rfl
theorem scals_eq {K : PySem.W.Frag} {H0 H : Hp} {rho : List Addr} : ∀ {ds : List D} {vs : List V}, ds.all isScal = true → Reps K H0 H rho ds vs → vs = ds.map scalD
  | [], vs, _, r => by simpa [Reps] using r
  | d :: ds, vs, h, r => by
    simp only [List.all_cons, Bool.and_eq_true] at h
    simp only [Reps] at r
    obtain ⟨v, w, rfl, r1, r2⟩ := r
    rw [scal_eq h.1 r1, scals_eq h.2 r2]; rfl
theorem sim_in {K : PySem.W.Frag} (neg : Bool) : SimR K (rIn K neg) (fIn neg) := fun H0 H rho S W d e x y s rd re Q q => by
  unfold fIn at q
  split at q
  · rename_i ys hy
    split at q
    · rename_i hc
      simp only [Bool.and_eq_true] at hc
      have ex := scal_eq hc.1 rd
      have fin : ∀ {vs : List V}, Reps K H0 H rho ys vs → flatV x = true ∧ vs.all flatV = true ∧ Q (.bl (if neg then !inV x vs else inV x vs)) H := fun {vs} r => by
        have ev := scals_eq hc.2 r
        subst ev ex
        refine ⟨scal_flat hc.1, ?_, ?_⟩
        · rw [List.all_map, List.all_eq_true]
          exact fun z hz => scal_flat (List.all_eq_true.mp hc.2 z hz)
        · have e1 : inV (scalD d) (ys.map scalD) = ys.any (fun y => eqF y d) := by
            unfold inV
            rw [List.any_map]; rfl
          rw [e1]
          exact EPost.done s (rep_scal (d := .bl _) rfl) q
      unfold seqA at hy
      split at hy
      · cases hy
        obtain ⟨a, vs, rfl, ha, ra⟩ := tup_at re
        exact ⟨a, vs, rfl, .inr ha, fin ra⟩
      · obtain ⟨a, vs, rfl, ha, ra⟩ := seqL_at s hy re
        exact ⟨a, vs, rfl, .inl ha, fin ra⟩
    · exact q.elim
  · exact q.elim
section
variable {X : Cx} {W : WX} {a b c : Expr} {ma mb mc : EM} {pos : Pos}
theorem je_eq (hu : X.A.units + 190 < cLine) (ha : JE X W a ma) (hb : JE X W b mb) : JE X W (.Compare a [.Eq] [b] pos) (mBin (fEq false) ma mb) := je_cmp (op_eq.or (op_eqA hu)) sim_eq ha hb (nomark _)
theorem je_ne (hu : X.A.units + 190 < cLine) (ha : JE X W a ma) (hb : JE X W b mb) : JE X W (.Compare a [.NotEq] [b] pos) (mBin (fEq true) ma mb) := je_cmp (op_ne.or (op_neA hu)) sim_ne ha hb (nomark _)
/-- a comparison's rule and what it says -/
def CmpR (X : Cx) (op : CmpOp) (f : D → D → Sto → ER) : Prop := ∃ r, OpR X (compareOp op) r ∧ SimR X.K r f
theorem cr_eq (hu : X.A.units + 190 < cLine) : CmpR X .Eq (fEq false) := ⟨_, op_eq.or (op_eqA hu), sim_eq⟩
theorem cr_ne (hu : X.A.units + 190 < cLine) : CmpR X .NotEq (fEq true) := ⟨_, op_ne.or (op_neA hu), sim_ne⟩
theorem cr_lt : CmpR X .Lt fLt := ⟨_, op_lt, sim_I0 (fun _ _ => rfl) (fun _ _ => rfl)⟩
theorem cr_le : CmpR X .LtE fLe := ⟨_, op_le, sim_I0 (fun _ _ => rfl) (fun _ _ => rfl)⟩
theorem cr_gt : CmpR X .Gt fGt := ⟨_, op_gt, sim_I0 (fun _ _ => rfl) (fun _ _ => rfl)⟩
theorem cr_ge : CmpR X .GtE fGe := ⟨_, op_ge, sim_I0 (fun _ _ => rfl) (fun _ _ => rfl)⟩
theorem sim_isN {K : PySem.W.Frag} (H0 H : Hp) (rho : List Addr) (S : Sto) (W : Value → Option Addr → Hp → Prop) (d e : D) (x y : V) (neg : Bool) (s : SOk K H0 H rho S) (rd : Rep K H0 H rho d x) (re : Rep K H0 H rho e y) (Q : VK) (q : EPost K H0 H rho W (fIsN neg d e S) Q) :
    y = .non ∧ Q (.bl (if neg then !decide (x = .non) else decide (x = .non))) H := by
  unfold fIsN at q
  split at q
  · simp only [Rep] at re
    rw [isNon_rep rd]
    exact ⟨re, EPost.done s (rep_scal (d := .bl _) rfl) q⟩
  · exact q.elim
theorem cr_isN : CmpR X .Is (fIsN false) := ⟨_, op_isN, fun H0 H rho S W d e x y s rd re Q q => sim_isN H0 H rho S W d e x y false s rd re Q q⟩
theorem cr_notN : CmpR X .IsNot (fIsN true) := ⟨_, op_notN, fun H0 H rho S W d e x y s rd re Q q => sim_isN H0 H rho S W d e x y true s rd re Q q⟩
theorem cr_isB : CmpR X .Is (fIsB false) := ⟨_, op_isBl, fun H0 H rho S W d e x y s rd re Q q => by
  unfold fIsB at q
  split at q
  · rename_i i j
    simp only [Rep] at rd re
    exact ⟨i, j, rd, re, EPost.done s (rep_scal (d := .bl _) rfl) q⟩
  · exact q.elim⟩
theorem cr_notB : CmpR X .IsNot (fIsB true) := ⟨_, op_notBl, fun H0 H rho S W d e x y s rd re Q q => by
  unfold fIsB at q
  split at q
  · rename_i i j
    simp only [Rep] at rd re
    exact ⟨i, j, rd, re, EPost.done s (rep_scal (d := .bl _) rfl) q⟩
  · exact q.elim⟩
theorem cr_in : CmpR X .In (fIn false) := ⟨_, op_in_seq, sim_in false⟩
theorem cr_notIn : CmpR X .NotIn (fIn true) := ⟨_, op_notIn_seq, sim_in true⟩
theorem sgn_eq {x : Str} {c : Nat} (h : x.cps.toList = [c]) : x = ⟨#[c]⟩ := by
  obtain ⟨⟨l⟩⟩ := x
  simp only at h
  rw [h]
theorem cr_inS : CmpR X .In (fInS false) := ⟨_, op_in_sign, fun H0 H rho S W d e x y s rd re Q q => by
  unfold fInS at q
  split at q
  · rename_i u z
    split at q
    · rename_i c hc
      simp only [Rep] at rd re
      rw [sgn_eq hc] at rd
      exact ⟨c, z, rd, re, EPost.done s (rep_scal (d := .bl _) rfl) q⟩
    · exact q.elim
  · exact q.elim⟩
theorem cr_notInS : CmpR X .NotIn (fInS true) := ⟨_, op_notIn_sign, fun H0 H rho S W d e x y s rd re Q q => by
  unfold fInS at q
  split at q
  · rename_i u z
    split at q
    · rename_i c hc
      simp only [Rep] at rd re
      rw [sgn_eq hc] at rd
      exact ⟨c, z, rd, re, EPost.done s (rep_scal (d := .bl _) rfl) q⟩
    · exact q.elim
  · exact q.elim⟩
theorem je_cmpR {op : CmpOp} {f : D → D → Sto → ER} (h : CmpR X op f) (ha : JE X W a ma) (hb : JE X W b mb) (hm : behindInMarks op b = false) : JE X W (.Compare a [op] [b] pos) (mBin f ma mb) := by
  obtain ⟨r, ho, hr⟩ := h
  exact je_cmp ho hr ha hb hm
end

def TPost (K : PySem.W.Frag) (H0 H : Hp) (rho : List Addr) (W : Value → Option Addr → Hp → Prop) (r : ER) (Q : Bool → Hp → Prop) : Prop := match r with
  | .ok (.bl k) S' => ∀ H' rho', SOk K H0 H' rho' S' → Stp H rho H' rho' → Q k H'
  | .ok _ _ => False
  | .ex c S' => ∀ H' rho', SOk K H0 H' rho' S' → Stp H rho H' rho' → W (.ref (He.ga K c)) none H'
  | .err => False
def SimT (K : PySem.W.Frag) (W : WX) (tt : TT) (m : EM) : Prop := ∀ H0 G S sg H rho, Sat K H0 G S sg H rho → ∀ Q : Bool → Hp → Prop, TPost K H0 H rho (fun c d h => W c d sg h) (m G S) Q → tt sg H Q
/-- the test e: m gives a truth -/
def JT (X : Cx) (W : WX) (e : Expr) (m : EM) : Prop := ∃ tt, PT X e tt ∧ SimT X.K W tt m
/-- what a test goes on with -/
def ER.bindT (r : ER) (k : Bool → Sto → ER) : ER := match r with
  | .ok (.bl b) S => k b S
  | .ok _ _ => .err
  | .ex c S => .ex c S
  | .err => .err
section
variable {K : PySem.W.Frag} {H0 H H1 : Hp} {rho rho1 : List Addr} {W : Value → Option Addr → Hp → Prop}
theorem TPost.ev {r : ER} {Q : Bool → Hp → Prop} (h : TPost K H0 H rho W r Q) : EPost K H0 H rho W r (fun v H' => ∃ k, v = .bl k ∧ Q k H') := by
  cases r with
  | ok d S' =>
    cases d with
    | bl k =>
      intro v H' rho' s t r
      simp only [Rep] at r
      exact ⟨k, r, h H' rho' s t⟩
    | _ => exact h.elim
  | ex c S' => exact h
  | err => exact h
theorem TPost.step {r : ER} {Q : Bool → Hp → Prop} (t : Stp H rho H1 rho1) (h : TPost K H0 H rho W r Q) : TPost K H0 H1 rho1 W r Q := by
  cases r with
  | ok d S' =>
    cases d with
    | bl k => exact fun H' rho' s t' => h H' rho' s (t.trans t')
    | _ => exact h.elim
  | ex c S' => exact fun H' rho' s t' => h H' rho' s (t.trans t')
  | err => exact h
/-- a test, then an expression -/
theorem bindTE {r : ER} {k : Bool → Sto → ER} {Q : VK} {R : Bool → Hp → Prop} (h : EPost K H0 H rho W (r.bindT k) Q)
    (g : ∀ b S1 H1 rho1, SOk K H0 H1 rho1 S1 → Stp H rho H1 rho1 → EPost K H0 H1 rho1 W (k b S1) Q → R b H1) : TPost K H0 H rho W r R := by
  cases r with
  | ok d S' =>
    cases d with
    | bl b => exact fun H' rho' s t => g b S' H' rho' s t (EPost.step t h)
    | _ => exact h.elim
  | ex c S' => exact h
  | err => exact h
/-- a test, then a test -/
theorem bindTT {r : ER} {k : Bool → Sto → ER} {Q R : Bool → Hp → Prop} (h : TPost K H0 H rho W (r.bindT k) Q)
    (g : ∀ b S1 H1 rho1, SOk K H0 H1 rho1 S1 → Stp H rho H1 rho1 → TPost K H0 H1 rho1 W (k b S1) Q → R b H1) : TPost K H0 H rho W r R := by
  cases r with
  | ok d S' =>
    cases d with
    | bl b => exact fun H' rho' s t => g b S' H' rho' s t (TPost.step t h)
    | _ => exact h.elim
  | ex c S' => exact h
  | err => exact h
theorem bindEE {r : ER} {k : Bool → Sto → ER} {Q R : VK} (h : EPost K H0 H rho W (r.bindT k) Q)
    (g : ∀ b S1 H1 rho1, SOk K H0 H1 rho1 S1 → Stp H rho H1 rho1 → EPost K H0 H1 rho1 W (k b S1) Q → R (.bl b) H1) : EPost K H0 H rho W r R := by
  cases r with
  | ok d S' =>
    cases d with
    | bl b =>
      intro v H' rho' s t r
      simp only [Rep] at r
      subst r
      exact g b S' H' rho' s t (EPost.step t h)
    | _ => exact h.elim
  | ex c S' => exact h
  | err => exact h
end
def mAnd (m n : EM) : EM := fun G S => (m G S).bindT fun b S1 => if b then n G S1 else .ok (.bl false) S1
def mOr (m n : EM) : EM := fun G S => (m G S).bindT fun b S1 => if b then .ok (.bl true) S1 else n G S1
def mNot (m : EM) : EM := fun G S => (m G S).bindT fun b S1 => .ok (.bl (!b)) S1
def mIfE (c m n : EM) : EM := fun G S => (c G S).bindT fun b S1 => if b then m G S1 else n G S1
/-- tests joined by and, or -/
def JW (X : Cx) (W : WX) (e : Expr) (m : EM) : Prop := ∃ tt, PW X e tt ∧ SimT X.K W tt m
section
variable {X : Cx} {W : WX} {a b c : Expr} {ma mb mc : EM} {pos : Pos} {rest : List Expr}
/-- an expression that is a truth, as a test -/
theorem jt_val (ha : JE X W a ma) (he : ∀ whole, isTrue a X.env whole = (do let v ← whole; standAt a.pos; holding [v] (truthy v)) := by intro _; rfl) : JT X W a ma := by
  obtain ⟨ta, pa, sa⟩ := ha
  exact ⟨_, pt_val pa he, fun H0 G S sg H rho st Q h => sa H0 G S sg H rho st _ h.ev⟩
theorem jt_cmpR {op : CmpOp} {f : D → D → Sto → ER} (h : CmpR X op f) (ha : JE X W a ma) (hb : JE X W b mb) (hm : behindInMarks op b = false) : JT X W (.Compare a [op] [b] pos) (mBin f ma mb) := by
  obtain ⟨r, ho, hr⟩ := h
  obtain ⟨ta, pa, sa⟩ := ha
  obtain ⟨tb, pb, sb⟩ := hb
  exact ⟨_, pt_cmpR ho pa pb hm, fun H0 G S sg H rho st Q h => sim_op sa sb hr H0 G S sg H rho st _ h.ev⟩
theorem jt_not (ha : JT X W a ma) : JT X W (.UnaryOp .Not a pos) (mNot ma) := by
  obtain ⟨ta, pa, sa⟩ := ha
  exact ⟨_, pt_not pa, fun H0 G S sg H rho st Q h => sa H0 G S sg H rho st _ (bindTT h fun b S1 H1 rho1 s1 t1 h1 => h1 H1 rho1 s1 (Stp.refl s1))⟩
theorem jt_w (h : JW X W a ma) : JT X W a ma := let ⟨t, p, s⟩ := h; ⟨t, p.pt, s⟩
theorem jw_and1 (h : JT X W a ma) : JW X W (.BoolOp .And [a] pos) ma := let ⟨t, p, s⟩ := h; ⟨t, pw_and1 p, s⟩
theorem jw_or1 (h : JT X W a ma) : JW X W (.BoolOp .Or [a] pos) ma := let ⟨t, p, s⟩ := h; ⟨t, pw_or1 p, s⟩
theorem jw_and (ha : JT X W a ma) (hb : JW X W (.BoolOp .And (b :: rest) pos) mb) : JW X W (.BoolOp .And (a :: b :: rest) pos) (mAnd ma mb) := by
  obtain ⟨ta, pa, sa⟩ := ha
  obtain ⟨tb, pb, sb⟩ := hb
  refine ⟨_, pw_and pa pb, fun H0 G S sg H rho st Q h => sa H0 G S sg H rho st _ (bindTT h fun b S1 H1 rho1 s1 t1 h1 => ?_)⟩
  cases b with
  | true => exact iteT (sb H0 G S1 sg H1 rho1 (st.step s1 t1) _ h1)
  | false => exact iteF (h1 H1 rho1 s1 (Stp.refl s1))
theorem jw_or (ha : JT X W a ma) (hb : JW X W (.BoolOp .Or (b :: rest) pos) mb) : JW X W (.BoolOp .Or (a :: b :: rest) pos) (mOr ma mb) := by
  obtain ⟨ta, pa, sa⟩ := ha
  obtain ⟨tb, pb, sb⟩ := hb
  refine ⟨_, pw_or pa pb, fun H0 G S sg H rho st Q h => sa H0 G S sg H rho st _ (bindTT h fun b S1 H1 rho1 s1 t1 h1 => ?_)⟩
  cases b with
  | true => exact iteT (h1 H1 rho1 s1 (Stp.refl s1))
  | false => exact iteF (sb H0 G S1 sg H1 rho1 (st.step s1 t1) _ h1)
theorem je_one {op} (h : JE X W a ma) : JE X W (.BoolOp op [a] pos) ma := let ⟨t, p, s⟩ := h; ⟨t, pe_one p, s⟩
theorem je_and (ha : JE X W a ma) (hb : JE X W (.BoolOp .And (b :: rest) pos) mb) : JE X W (.BoolOp .And (a :: b :: rest) pos) (mAnd ma mb) := by
  obtain ⟨ta, pa, sa⟩ := ha
  obtain ⟨tb, pb, sb⟩ := hb
  refine ⟨_, pe_and pa pb, fun H0 G S sg H rho st Q h => sa H0 G S sg H rho st _ (bindEE h fun b S1 H1 rho1 s1 t1 h1 => ⟨b, rfl, ?_⟩)⟩
  cases b with
  | true => exact iteT (sb H0 G S1 sg H1 rho1 (st.step s1 t1) _ h1)
  | false => exact iteF (EPost.done s1 (rep_scal (d := .bl false) rfl) h1)
theorem je_or (ha : JE X W a ma) (hb : JE X W (.BoolOp .Or (b :: rest) pos) mb) : JE X W (.BoolOp .Or (a :: b :: rest) pos) (mOr ma mb) := by
  obtain ⟨ta, pa, sa⟩ := ha
  obtain ⟨tb, pb, sb⟩ := hb
  refine ⟨_, pe_or pa pb, fun H0 G S sg H rho st Q h => sa H0 G S sg H rho st _ (bindEE h fun b S1 H1 rho1 s1 t1 h1 => ⟨b, rfl, ?_⟩)⟩
  cases b with
  | true => exact iteT (EPost.done s1 (rep_scal (d := .bl true) rfl) h1)
  | false => exact iteF (sb H0 G S1 sg H1 rho1 (st.step s1 t1) _ h1)
theorem je_not (ha : JE X W a ma) : JE X W (.UnaryOp .Not a pos) (mNot ma) := by
  obtain ⟨ta, pa, sa⟩ := ha
  exact ⟨_, pe_not pa, fun H0 G S sg H rho st Q h => sa H0 G S sg H rho st _ (bindEE h fun b S1 H1 rho1 s1 t1 h1 => ⟨b, rfl, EPost.done s1 (rep_scal (d := .bl (!b)) rfl) h1⟩)⟩
theorem je_ifE (hc : JT X W c mc) (ha : JE X W a ma) (hb : JE X W b mb) : JE X W (.IfExp c a b pos) (mIfE mc ma mb) := by
  obtain ⟨tc, pc, sc⟩ := hc
  obtain ⟨ta, pa, sa⟩ := ha
  obtain ⟨tb, pb, sb⟩ := hb
  refine ⟨_, pe_ifExp pc pa pb, fun H0 G S sg H rho st Q h => sc H0 G S sg H rho st _ (bindTE h fun b S1 H1 rho1 s1 t1 h1 => ?_)⟩
  cases b with
  | true => exact iteT (sa H0 G S1 sg H1 rho1 (st.step s1 t1) _ h1)
  | false => exact iteF (sb H0 G S1 sg H1 rho1 (st.step s1 t1) _ h1)
end

/-- behind a value: op b .. -/
def JC (X : Cx) (W : WX) (ops : List CmpOp) (es : List Expr) (m : D → EM) : Prop := ∃ t : V → TE,
  (∀ (pins : List (Addr × Obj)) (s : Shared) (σ : L2.St) (H : Hp) (x : V) (v : Value) (Q : VK) (pos : Pos), Inv X pins σ H s → RelV x v → t x σ H Q → wpAny (model X.prog X.w) X.A (compareChain pos v ops (evalEach es X.env)) (EP X pins σ Q) X.xe s) ∧
  (∀ H0 G S sg H rho d x, Sat X.K H0 G S sg H rho → Rep X.K H0 H rho d x → ∀ Q : VK, EPost X.K H0 H rho (fun c d h => W c d sg h) (m d G S) Q → t x sg H Q)
def cLast (f : D → D → Sto → ER) (mb : EM) : D → EM := fun d G S => (mb G S).bind fun e S1 => f d e S1
def cLink (f : D → D → Sto → ER) (mb : EM) (k : D → EM) : D → EM := fun d G S => (mb G S).bind fun e S1 => (f d e S1).bindT fun b S2 => if b then k e G S2 else .ok (.bl false) S2
def mChain (ma : EM) (k : D → EM) : EM := fun G S => (ma G S).bind fun d S1 => k d G S1
section
variable {X : Cx} {W : WX} {a b c : Expr} {ma mb mc : EM} {pos : Pos} {op op' : CmpOp} {ops : List CmpOp} {es : List Expr} {f : D → D → Sto → ER} {k : D → EM}
theorem jc_last (h : CmpR X op f) (hb : JE X W b mb) : JC X W [op] [b] (cLast f mb) := by
  obtain ⟨r, ho, hr⟩ := h
  obtain ⟨tb, pb, sb⟩ := hb
  refine ⟨fun x σ H Q => tb σ H fun y H1 => r x y H1 Q, fun pins s σ H x v Q pos I rx h => ?_, fun H0 G S sg H rho d x st rd Q h => ?_⟩
  · exact chain_last (thn (pb.run pins s σ H _ I h) fun u s2 ⟨y, H2, I2, r2, q2⟩ => ho pins s2 σ H2 x y v u Q I2 rx r2 q2)
  · exact sb H0 G S sg H rho st _ (bindE h fun e S1 w H1 rho1 s1 t1 r1 h1 => hr H0 H1 rho1 S1 _ d e x w s1 (Rep.keep st.s t1 d x rd) r1 Q h1)
theorem jc_link (h : CmpR X op f) (hb : JE X W b mb) (hk : JC X W (op' :: ops) (c :: es) k) : JC X W (op :: op' :: ops) (b :: c :: es) (cLink f mb k) := by
  obtain ⟨r, ho, hr⟩ := h
  obtain ⟨tb, pb, sb⟩ := hb
  obtain ⟨t, hp, hs⟩ := hk
  refine ⟨fun x σ H Q => tb σ H fun y H1 => r x y H1 fun z H2 => ∃ q, z = .bl q ∧ if q = true then t y σ H2 Q else Q (.bl false) H2, fun pins s σ H x v Q pos I rx h => ?_, fun H0 G S sg H rho d x st rd Q h => ?_⟩
  · refine chain_link (thn (pb.run pins s σ H _ I h) fun u s2 ⟨y, H2, I2, r2, q2⟩ => thn (ho pins s2 σ H2 x y v u _ I2 rx r2 q2) fun d s3 ⟨z, H3, I3, r3, q, e, q3⟩ => ?_)
    subst e
    cases r3
    refine wpAny_truthy_bool ?_
    cases q with
    | false => exact ite_ff ⟨.bl false, H3, I3, rfl, q3⟩
    | true => exact ite_tt (hp pins s3 σ H3 y u Q pos I3 r2 q3)
  · refine sb H0 G S sg H rho st _ (bindE h fun e S1 w H1 rho1 s1 t1 r1 h1 => ?_)
    refine hr H0 H1 rho1 S1 (fun c d h => W c d sg h) d e x w s1 (Rep.keep st.s t1 d x rd) r1 _ ?_
    have st1 := st.step s1 t1
    generalize f d e S1 = z at h1
    cases z with
    | ok d' S2 =>
      cases d' with
      | bl q =>
        intro v H2 rho2 s2 t2 r2
        simp only [Rep] at r2
        have h2 := EPost.step t2 h1
        refine ⟨q, r2, ?_⟩
        cases q with
        | true => exact iteT (hs H0 G S2 sg H2 rho2 e w (st1.step s2 t2) (Rep.keep s1 t2 e w r1) Q h2)
        | false => exact iteF (EPost.done s2 (rep_scal (d := .bl false) rfl) h2)
      | _ => exact h1.elim
    | ex c S2 => exact h1
    | err => exact h1
theorem je_chain (ha : JE X W a ma) (hk : JC X W (op :: op' :: ops) (b :: c :: es) k) (hm : lastMarks (op :: op' :: ops) (b :: c :: es) = false := by with_unfolding_all rfl) : JE X W (.Compare a (op :: op' :: ops) (b :: c :: es) pos) (mChain ma k) := by
  obtain ⟨ta, pa, sa⟩ := ha
  obtain ⟨t, hp, hs⟩ := hk
  refine ⟨fun σ H Q => ta σ H fun x H1 => t x σ H1 Q, ⟨fun pins s σ H Q I h => ?_⟩, fun H0 G S sg H rho st Q h => ?_⟩
  · exact Compare_chain (thn (pa.run pins s σ H _ I h) fun v s1 ⟨x, H1, I1, r1, q1⟩ => hp pins s1 σ H1 x v Q pos I1 r1 q1) hm
  · exact sa H0 G S sg H rho st _ (bindE h fun d S1 w H1 rho1 s1 t1 r1 h1 => hs H0 G S1 sg H1 rho1 d w (st.step s1 t1) r1 Q h1)
end
/-- .. as a test -/
def JCt (X : Cx) (W : WX) (ops : List CmpOp) (es : List Expr) (m : D → EM) : Prop := ∃ t : V → TT,
  (∀ (pins : List (Addr × Obj)) (s : Shared) (σ : L2.St) (H : Hp) (x : V) (v : Value) (Q : Bool → Hp → Prop) (pos : Pos), Inv X pins σ H s → RelV x v → t x σ H Q → wpAny (model X.prog X.w) X.A (testChain pos v ops (evalEach es X.env)) (TP X pins σ Q) X.xe s) ∧
  (∀ H0 G S sg H rho d x, Sat X.K H0 G S sg H rho → Rep X.K H0 H rho d x → ∀ Q : Bool → Hp → Prop, TPost X.K H0 H rho (fun c d h => W c d sg h) (m d G S) Q → t x sg H Q)
section
variable {X : Cx} {W : WX} {a b c : Expr} {ma mb mc : EM} {pos : Pos} {op op' : CmpOp} {ops : List CmpOp} {es : List Expr} {f : D → D → Sto → ER} {k : D → EM}
theorem bindET {K : PySem.W.Frag} {H0 H : Hp} {rho : List Addr} {W : Value → Option Addr → Hp → Prop} {r : ER} {k : D → Sto → ER} {Q : Bool → Hp → Prop} {R : VK} (h : TPost K H0 H rho W (r.bind k) Q)
    (g : ∀ d S1 v H1 rho1, SOk K H0 H1 rho1 S1 → Stp H rho H1 rho1 → Rep K H0 H1 rho1 d v → TPost K H0 H1 rho1 W (k d S1) Q → R v H1) : EPost K H0 H rho W r R := by
  cases r with
  | ok d S' => exact fun v H' rho' s t r => g d S' v H' rho' s t r (TPost.step t h)
  | ex c S' => exact h
  | err => exact h
theorem jct_last (h : CmpR X op f) (hb : JE X W b mb) : JCt X W [op] [b] (cLast f mb) := by
  obtain ⟨r, ho, hr⟩ := h
  obtain ⟨tb, pb, sb⟩ := hb
  refine ⟨fun x σ H Q => tb σ H fun y H1 => r x y H1 fun z H2 => ∃ q, z = .bl q ∧ Q q H2, fun pins s σ H x v Q pos I rx h => ?_, fun H0 G S sg H rho d x st rd Q h => ?_⟩
  · refine test_last (thn (pb.run pins s σ H _ I h) fun u s2 ⟨y, H2, I2, r2, q2⟩ => thn (ho pins s2 σ H2 x y v u _ I2 rx r2 q2) fun d s3 ⟨z, H3, I3, r3, q, e, q3⟩ => ?_)
    subst e
    cases r3
    exact wpAny_truthy_bool ⟨H3, I3, q3⟩
  · exact sb H0 G S sg H rho st _ (bindET h fun e S1 w H1 rho1 s1 t1 r1 h1 => hr H0 H1 rho1 S1 _ d e x w s1 (Rep.keep st.s t1 d x rd) r1 _ h1.ev)
theorem jct_link (h : CmpR X op f) (hb : JE X W b mb) (hk : JCt X W (op' :: ops) (c :: es) k) : JCt X W (op :: op' :: ops) (b :: c :: es) (cLink f mb k) := by
  obtain ⟨r, ho, hr⟩ := h
  obtain ⟨tb, pb, sb⟩ := hb
  obtain ⟨t, hp, hs⟩ := hk
  refine ⟨fun x σ H Q => tb σ H fun y H1 => r x y H1 fun z H2 => ∃ q, z = .bl q ∧ if q = true then t y σ H2 Q else Q false H2, fun pins s σ H x v Q pos I rx h => ?_, fun H0 G S sg H rho d x st rd Q h => ?_⟩
  · refine test_link (thn (pb.run pins s σ H _ I h) fun u s2 ⟨y, H2, I2, r2, q2⟩ => thn (ho pins s2 σ H2 x y v u _ I2 rx r2 q2) fun d s3 ⟨z, H3, I3, r3, q, e, q3⟩ => ?_)
    subst e
    cases r3
    refine wpAny_truthy_bool ?_
    cases q with
    | false => exact ite_ff ⟨H3, I3, q3⟩
    | true => exact ite_tt (hp pins s3 σ H3 y u Q pos I3 r2 q3)
  · refine sb H0 G S sg H rho st _ (bindET h fun e S1 w H1 rho1 s1 t1 r1 h1 => ?_)
    refine hr H0 H1 rho1 S1 (fun c d h => W c d sg h) d e x w s1 (Rep.keep st.s t1 d x rd) r1 _ ?_
    have st1 := st.step s1 t1
    generalize f d e S1 = z at h1
    cases z with
    | ok d' S2 =>
      cases d' with
      | bl q =>
        intro v H2 rho2 s2 t2 r2
        simp only [Rep] at r2
        have h2 := TPost.step t2 h1
        refine ⟨q, r2, ?_⟩
        cases q with
        | true => exact iteT (hs H0 G S2 sg H2 rho2 e w (st1.step s2 t2) (Rep.keep s1 t2 e w r1) Q h2)
        | false => exact iteF (h2 H2 rho2 s2 (Stp.refl s2))
      | _ => exact h1.elim
    | ex c S2 => exact h1
    | err => exact h1
theorem jt_chain (ha : JE X W a ma) (hk : JCt X W (op :: op' :: ops) (b :: c :: es) k) (hm : lastMarks (op :: op' :: ops) (b :: c :: es) = false := by with_unfolding_all rfl) : JT X W (.Compare a (op :: op' :: ops) (b :: c :: es) pos) (mChain ma k) := by
  obtain ⟨ta, pa, sa⟩ := ha
  obtain ⟨t, hp, hs⟩ := hk
  refine ⟨fun σ H Q => ta σ H fun x H1 => t x σ H1 Q, ⟨fun pins s σ H Q I h => ?_⟩, fun H0 G S sg H rho st Q h => ?_⟩
  · exact isTrue_chain (thn (pa.run pins s σ H _ I h) fun v s1 ⟨x, H1, I1, r1, q1⟩ => hp pins s1 σ H1 x v Q pos I1 r1 q1) hm
  · exact sa H0 G S sg H rho st _ (bindET h fun d S1 w H1 rho1 s1 t1 r1 h1 => hs H0 G S1 sg H1 rho1 d w (st.step s1 t1) r1 Q h1)
end
end Ab

end
section
set_option Elab.async false
set_option linter.all false
set_option maxRecDepth 100000
namespace Ab
open PySem PySem.Spec PyProof.Rows L2

/-- a call of a built-in, by values: r does what f says -/
def SimC (K : PySem.W.Frag) (r : List V → Hp → VK → Prop) (f : List D → Sto → ER) : Prop := ∀ H0 H rho S W ds vs, SOk K H0 H rho S → Reps K H0 H rho ds vs → ∀ Q : VK, EPost K H0 H rho W (f ds S) Q → r vs H Q
def orC (f g : List D → Sto → ER) : List D → Sto → ER := fun ds S => match f ds S with
  | .err => g ds S
  | r => r
theorem SimC.or {K : PySem.W.Frag} {r r' : List V → Hp → VK → Prop} {f g : List D → Sto → ER} (h : SimC K r f) (h' : SimC K r' g) : SimC K (fun xs H Q => r xs H Q ∨ r' xs H Q) (orC f g) := fun H0 H rho S W ds vs s rd Q q => by
  unfold orC at q
  generalize hf : f ds S = z at q
  cases z with
  | err => exact .inr (h' H0 H rho S W ds vs s rd Q q)
  | ok d' S' => exact .inl (h H0 H rho S W ds vs s rd Q (by rw [hf]; exact q))
  | ex c S' => exact .inl (h H0 H rho S W ds vs s rd Q (by rw [hf]; exact q))
section
variable {X : Cx} {W : WX} {x : Str} {p pos : Pos} {e : Expr} {es : List Expr} {m : AM} {id T : String} {r : List V → Hp → VK → Prop} {f : List D → Sto → ER}
theorem je_callB (hc : CallR X (.builtin id) r) (hs : SimC X.K r f) (hg : Gl X x) (hm : X.mg x = none) (hv : bootBuiltins x = some (.builtin id)) (ha : JA X W (e :: es) m) (hn : x ≠ "__name__" := by decide) (hdb : (x == ("__debug__" : Str)) = false := by decide)
    (h1 : starEach (e :: es) X.env = (false, eval e X.env) :: starEach es X.env := by rfl) (h2 : (backTo pos (starEach es X.env)).any (·.1) = false := by rfl) : JE X W (.Call (.Name x p) (e :: es) [] pos) (mCall f m) := by
  obtain ⟨ta, pa, sa⟩ := ha
  exact ⟨_, pe_callB hc hg hm hv pa hn hdb h1 h2, fun H0 G S sg H rho st Q h => sa H0 G S sg H rho st _ (bindA h fun ds S1 vs H1 rho1 s1 t1 r1 h1 => hs H0 H1 rho1 S1 _ ds vs s1 r1 Q h1)⟩
theorem je_callTy (hc : CallR X (.type T) r) (hs : SimC X.K r f) (hg : Gl X x) (hm : X.mg x = none) (hv : bootBuiltins x = some (.type T)) (ha : JA X W (e :: es) m) (hn : x ≠ "__name__" := by decide) (hdb : (x == ("__debug__" : Str)) = false := by decide)
    (h1 : starEach (e :: es) X.env = (false, eval e X.env) :: starEach es X.env := by rfl) (h2 : (backTo pos (starEach es X.env)).any (·.1) = false := by rfl) : JE X W (.Call (.Name x p) (e :: es) [] pos) (mCall f m) := by
  obtain ⟨ta, pa, sa⟩ := ha
  exact ⟨_, pe_callTy hc hg hm hv pa hn hdb h1 h2, fun H0 G S sg H rho st Q h => sa H0 G S sg H rho st _ (bindA h fun ds S1 vs H1 rho1 s1 t1 r1 h1 => hs H0 H1 rho1 S1 _ ds vs s1 r1 Q h1)⟩
end
section
variable {K : PySem.W.Frag} {H0 H : Hp} {rho : List Addr}
theorem reps1 {d : D} {vs : List V} (h : Reps K H0 H rho [d] vs) : ∃ v, vs = [v] ∧ Rep K H0 H rho d v := by
  simp only [Reps] at h
  obtain ⟨v, r, rfl, h1, rfl⟩ := h
  exact ⟨v, rfl, h1⟩
theorem reps2 {d e : D} {vs : List V} (h : Reps K H0 H rho [d, e] vs) : ∃ v w, vs = [v, w] ∧ Rep K H0 H rho d v ∧ Rep K H0 H rho e w := by
  simp only [Reps] at h
  obtain ⟨v, r, rfl, h1, w, r2, rfl, h2, rfl⟩ := h
  exact ⟨v, w, rfl, h1, h2⟩
theorem seqA_at {S : Sto} (s : SOk K H0 H rho S) {d : D} {v : V} {xs : List D} (h : seqA S d = some xs) (r : Rep K H0 H rho d v) : ∃ a vs, v = .ref a ∧ (SqL K H a vs ∨ SqT K H a vs) ∧ Reps K H0 H rho xs vs := by
  unfold seqA at h
  split at h
  · cases h
    obtain ⟨a, vs, e, q, r⟩ := tup_at r
    exact ⟨a, vs, e, .inr q, r⟩
  · obtain ⟨a, vs, e, q, r⟩ := seqL_at s h r
    exact ⟨a, vs, e, .inl q, r⟩
end
/-- len of a list, a tuple; of a text -/
def fLen : List D → Sto → ER := fun ds S => match ds with
  | [.str x] => if x.length ≤ big then .ok (.int x.length) S else .err
  | [d] => (match seqA S d with
    | some xs => .ok (.int xs.length) S
    | none => .err)
  | _ => .err
theorem sim_len {K : PySem.W.Frag} : SimC K (fun xs H Q => (∃ z, xs = [.str z] ∧ z.length ≤ sizeLine ∧ Q (.int z.length) H) ∨ ∃ p ys, xs = [.ref p] ∧ (SqL K H p ys ∨ SqT K H p ys) ∧ Q (.int ys.length) H) fLen := fun H0 H rho S W ds vs s rd Q q => by
  unfold fLen at q
  split at q
  · rename_i x
    split at q
    · rename_i hz
      obtain ⟨v, rfl, r⟩ := reps1 rd
      simp only [Rep] at r
      exact .inl ⟨x, by rw [r], big_le hz, EPost.done s (rep_scal (d := .int _) rfl) q⟩
    · exact q.elim
  · obtain ⟨v, rfl, r⟩ := reps1 rd
    split at q
    · rename_i xs hx
      obtain ⟨a, vs, rfl, h, r⟩ := seqA_at s hx r
      refine .inr ⟨a, vs, rfl, h, ?_⟩
      rw [← r.length]
      exact EPost.done s (rep_scal (d := .int _) rfl) q
    · exact q.elim
  · exact q.elim
/-- list(x), tuple(x) of a list or a tuple -/
def fList (o : Bool) : List D → Sto → ER := fun ds S => match ds with
  | [d] => (match seqA S d with
    | some xs => nw o xs S
    | none => .err)
  | _ => .err
theorem sim_list {K : PySem.W.Frag} (o : Bool) : SimC K (fun xs H Q => ∃ p ys, xs = [.ref p] ∧ (SqL K H p ys ∨ SqT K H p ys) ∧ ∀ l, H l = none → Q (.ref l) (upd H l (.lst ys))) (fList o) := fun H0 H rho S W ds vs s rd Q q => by
  unfold fList at q
  split at q
  · obtain ⟨v, rfl, r⟩ := reps1 rd
    split at q
    · rename_i xs hx
      obtain ⟨a, vs, rfl, h, r⟩ := seqA_at s hx r
      exact ⟨a, vs, rfl, h, fun l hl => new_lst s hl r q⟩
    · exact q.elim
  · exact q.elim
def fTuple : List D → Sto → ER := fun ds S => match ds with
  | [d] => (match seqA S d with
    | some xs => .ok (.tup xs) S
    | none => .err)
  | _ => .err
theorem sim_tuple {K : PySem.W.Frag} : SimC K (fun xs H Q => ∃ p ys, xs = [.ref p] ∧ ((SqL K H p ys ∧ ∀ l, H l = none → Q (.ref l) (upd H l (.tup ys))) ∨ (SqT K H p ys ∧ Q (.ref p) H))) fTuple := fun H0 H rho S W ds vs s rd Q q => by
  unfold fTuple at q
  split at q
  · obtain ⟨v, rfl, r⟩ := reps1 rd
    split at q
    · rename_i xs hx
      obtain ⟨a, vs, rfl, h, r⟩ := seqA_at s hx r
      rcases h with h | h
      · exact ⟨a, vs, rfl, .inl ⟨h, fun l hl => new_tup s hl r q⟩⟩
      · exact ⟨a, vs, rfl, .inr ⟨h, EPost.done s (by simp only [Rep]; exact ⟨a, vs, rfl, h, r⟩) q⟩⟩
    · exact q.elim
  · exact q.elim
/-- max, min of two ints -/
def fMax2 : List D → Sto → ER := fun ds S => match ds with
  | [.int i, .int j] => .ok (.int (if j > i then j else i)) S
  | _ => .err
def fMin2 : List D → Sto → ER := fun ds S => match ds with
  | [.int i, .int j] => .ok (.int (if j < i then j else i)) S
  | _ => .err
theorem sim_max2 {K : PySem.W.Frag} : SimC K (fun xs H Q => ∃ i j, xs = [.int i, .int j] ∧ Q (.int (if j > i then j else i)) H) fMax2 := fun H0 H rho S W ds vs s rd Q q => by
  unfold fMax2 at q
  split at q
  · rename_i i j
    obtain ⟨v, w, rfl, r1, r2⟩ := reps2 rd
    simp only [Rep] at r1 r2
    exact ⟨i, j, by rw [r1, r2], EPost.done s (rep_scal (d := .int _) rfl) q⟩
  · exact q.elim
theorem sim_min2 {K : PySem.W.Frag} : SimC K (fun xs H Q => ∃ i j, xs = [.int i, .int j] ∧ Q (.int (if j < i then j else i)) H) fMin2 := fun H0 H rho S W ds vs s rd Q q => by
  unfold fMin2 at q
  split at q
  · rename_i i j
    obtain ⟨v, w, rfl, r1, r2⟩ := reps2 rd
    simp only [Rep] at r1 r2
    exact ⟨i, j, by rw [r1, r2], EPost.done s (rep_scal (d := .int _) rfl) q⟩
  · exact q.elim
/-- the ints of a list of them -/
def intsD : List D → Option (List Int)
  | [] => some []
  | .int i :: r => (match intsD r with
    | some l => some (i :: l)
    | none => none)
  | _ :: _ => none
theorem intsD_eq : ∀ {ds : List D} {ns : List Int}, intsD ds = some ns → ds = ns.map D.int
  | [], ns, h => by simp only [intsD, Option.some.injEq] at h; subst h; rfl
  | .int i :: r, ns, h => by
    simp only [intsD] at h
    split at h
    · rename_i l hl
      cases h
      rw [intsD_eq hl]; rfl
    · cases h
  | .non :: _, _, h => by simp [intsD] at h
  | .bl _ :: _, _, h => by simp [intsD] at h
  | .str _ :: _, _, h => by simp [intsD] at h
  | .tup _ :: _, _, h => by simp [intsD] at h
  | .lst _ _ :: _, _, h => by simp [intsD] at h
  | .emp _ :: _, _, h => by simp [intsD] at h
  | .obj _ :: _, _, h => by simp [intsD] at h
theorem intsD_map : ∀ ns : List Int, intsD (ns.map D.int) = some ns
  | [] => rfl
  | n :: ns => by simp [intsD, intsD_map ns]
def maxI : List Int → Int
  | [] => 0
  | n :: r => r.foldl (fun a b => if b > a then b else a) n
def minI : List Int → Int
  | [] => 0
  | n :: r => r.foldl (fun a b => if b < a then b else a) n
theorem foldmax (r : List Int) : ∀ n : Int, n ≤ r.foldl (fun a b => if b > a then b else a) n ∧ (∀ y ∈ r, y ≤ r.foldl (fun a b => if b > a then b else a) n) ∧ (r.foldl (fun a b => if b > a then b else a) n = n ∨ r.foldl (fun a b => if b > a then b else a) n ∈ r) := by
  induction r with
  | nil => intro n; exact ⟨Int.le_refl _, by simp, .inl rfl⟩
  | cons b r ih =>
    intro n
    rw [List.foldl_cons]
    by_cases hb : b > n
    · rw [if_pos hb]
      obtain ⟨h1, h2, h3⟩ := ih b
      refine ⟨by omega, fun y hy => ?_, ?_⟩
      · rcases List.mem_cons.mp hy with rfl | hy
        · exact h1
        · exact h2 y hy
      · rcases h3 with h3 | h3
        · exact .inr (by rw [h3]; exact List.mem_cons_self)
        · exact .inr (List.mem_cons_of_mem _ h3)
    · rw [if_neg hb]
      obtain ⟨h1, h2, h3⟩ := ih n
      refine ⟨h1, fun y hy => ?_, ?_⟩
      · rcases List.mem_cons.mp hy with rfl | hy
        · omega
        · exact h2 y hy
      · rcases h3 with h3 | h3
        · exact .inl h3
        · exact .inr (List.mem_cons_of_mem _ h3)
theorem foldmin (r : List Int) : ∀ n : Int, r.foldl (fun a b => if b < a then b else a) n ≤ n ∧ (∀ y ∈ r, r.foldl (fun a b => if b < a then b else a) n ≤ y) ∧ (r.foldl (fun a b => if b < a then b else a) n = n ∨ r.foldl (fun a b => if b < a then b else a) n ∈ r) := by
  induction r with
  | nil => intro n; exact ⟨Int.le_refl _, by simp, .inl rfl⟩
  | cons b r ih =>
    intro n
    rw [List.foldl_cons]
    by_cases hb : b < n
    · rw [if_pos hb]
      obtain ⟨h1, h2, h3⟩ := ih b
      refine ⟨by omega, fun y hy => ?_, ?_⟩
      · rcases List.mem_cons.mp hy with rfl | hy
        · exact h1
        · exact h2 y hy
      · rcases h3 with h3 | h3
        · exact .inr (by rw [h3]; exact List.mem_cons_self)
        · exact .inr (List.mem_cons_of_mem _ h3)
    · rw [if_neg hb]
      obtain ⟨h1, h2, h3⟩ := ih n
      refine ⟨h1, fun y hy => ?_, ?_⟩
      · rcases List.mem_cons.mp hy with rfl | hy
        · omega
        · exact h2 y hy
      · rcases h3 with h3 | h3
        · exact .inl h3
        · exact .inr (List.mem_cons_of_mem _ h3)
theorem maxI_mem {ns : List Int} (h : ns ≠ []) : maxI ns ∈ ns := by
  cases ns with
  | nil => exact absurd rfl h
  | cons n r =>
    rcases (foldmax r n).2.2 with e | e
    · have q : maxI (n :: r) = n := e
      rw [q]; exact List.mem_cons_self
    · exact List.mem_cons_of_mem _ e
theorem maxI_le {ns : List Int} {y : Int} (h : y ∈ ns) : y ≤ maxI ns := by
  cases ns with
  | nil => cases h
  | cons n r =>
    rcases List.mem_cons.mp h with rfl | h
    · exact (foldmax r _).1
    · exact (foldmax r n).2.1 y h
theorem minI_mem {ns : List Int} (h : ns ≠ []) : minI ns ∈ ns := by
  cases ns with
  | nil => exact absurd rfl h
  | cons n r =>
    rcases (foldmin r n).2.2 with e | e
    · have q : minI (n :: r) = n := e
      rw [q]; exact List.mem_cons_self
    · exact List.mem_cons_of_mem _ e
theorem minI_le {ns : List Int} {y : Int} (h : y ∈ ns) : minI ns ≤ y := by
  cases ns with
  | nil => cases h
  | cons n r =>
    rcases List.mem_cons.mp h with rfl | h
    · exact (foldmin r _).1
    · exact (foldmin r n).2.1 y h
/-- sum, max, min of a list of ints -/
def fSum : List D → Sto → ER := fun ds S => match ds with
  | [d] => (match (seqL S d).bind intsD with
    | some ns => .ok (.int ns.sum) S
    | none => .err)
  | _ => .err
def fMaxL : List D → Sto → ER := fun ds S => match ds with
  | [d] => (match (seqL S d).bind intsD with
    | some ns => if ns.isEmpty then .err else .ok (.int (maxI ns)) S
    | none => .err)
  | _ => .err
def fMinL : List D → Sto → ER := fun ds S => match ds with
  | [d] => (match (seqL S d).bind intsD with
    | some ns => if ns.isEmpty then .err else .ok (.int (minI ns)) S
    | none => .err)
  | _ => .err
theorem ints_at {K : PySem.W.Frag} {H0 H : Hp} {rho : List Addr} {S : Sto} (s : SOk K H0 H rho S) {d : D} {v : V} {ns : List Int} (h : (seqL S d).bind intsD = some ns) (r : Rep K H0 H rho d v) : ∃ a, v = .ref a ∧ SqL K H a (ns.map V.int) := by
  rw [Option.bind_eq_some_iff] at h
  obtain ⟨xs, h1, h2⟩ := h
  have e := intsD_eq h2
  subst e
  obtain ⟨a, vs, rfl, q, r⟩ := seqL_at s h1 r
  rw [r.ints] at q
  exact ⟨a, rfl, q⟩
theorem sim_sum {K : PySem.W.Frag} : SimC K (rSum K) fSum := fun H0 H rho S W ds vs s rd Q q => by
  unfold fSum at q
  split at q
  · obtain ⟨v, rfl, r⟩ := reps1 rd
    split at q
    · rename_i ns hx
      obtain ⟨a, rfl, h⟩ := ints_at s hx r
      exact ⟨a, ns, rfl, h, EPost.done s (rep_scal (d := .int _) rfl) q⟩
    · exact q.elim
  · exact q.elim
theorem sim_maxL {K : PySem.W.Frag} : SimC K (rMax K) fMaxL := fun H0 H rho S W ds vs s rd Q q => by
  unfold fMaxL at q
  split at q
  · obtain ⟨v, rfl, r⟩ := reps1 rd
    split at q
    · rename_i ns hx
      split at q
      · exact q.elim
      · rename_i hne
        have hne' : ns ≠ [] := fun e => hne (by rw [e]; rfl)
        obtain ⟨a, rfl, h⟩ := ints_at s hx r
        refine ⟨a, ns, rfl, h, List.length_pos_iff.mpr hne', fun m h1 h2 => ?_⟩
        have e : m = maxI ns := Int.le_antisymm (maxI_le h1) (h2 _ (maxI_mem hne'))
        rw [e]
        exact EPost.done s (rep_scal (d := .int _) rfl) q
    · exact q.elim
  · exact q.elim
theorem sim_minL {K : PySem.W.Frag} : SimC K (rMin K) fMinL := fun H0 H rho S W ds vs s rd Q q => by
  unfold fMinL at q
  split at q
  · obtain ⟨v, rfl, r⟩ := reps1 rd
    split at q
    · rename_i ns hx
      split at q
      · exact q.elim
      · rename_i hne
        have hne' : ns ≠ [] := fun e => hne (by rw [e]; rfl)
        obtain ⟨a, rfl, h⟩ := ints_at s hx r
        refine ⟨a, ns, rfl, h, List.length_pos_iff.mpr hne', fun m h1 h2 => ?_⟩
        have e : m = minI ns := Int.le_antisymm (h2 _ (minI_mem hne')) (minI_le h1)
        rw [e]
        exact EPost.done s (rep_scal (d := .int _) rfl) q
    · exact q.elim
  · exact q.elim
/-- sorted(xs) of fewer than 64 ints -/
def fSorted (o : Bool) : List D → Sto → ER := fun ds S => match ds with
  | [d] => (match (seqL S d).bind intsD with
    | some ns => if ns.length < 64 then nw o ((ns.mergeSort (fun a b => decide (a ≤ b))).map D.int) S else .err
    | none => .err)
  | _ => .err
theorem sort_eq {ns ms : List Int} (hp : ms.Perm ns) (hs : ms.Pairwise (· ≤ ·)) : ms = ns.mergeSort (fun a b => decide (a ≤ b)) := by
  have h1 : (ns.mergeSort (fun a b => decide (a ≤ b))).Pairwise (· ≤ ·) := by
    have := List.pairwise_mergeSort (le := fun a b : Int => decide (a ≤ b)) (fun a b c h1 h2 => by simp at *; omega) (fun a b => by simp; omega) ns
    exact this.imp fun h => by simpa using h
  exact (hp.trans (List.mergeSort_perm ns _).symm).eq_of_pairwise (fun a b _ _ h1 h2 => Int.le_antisymm h1 h2) hs h1
theorem sim_sorted {K : PySem.W.Frag} (o : Bool) : SimC K (rSorted K) (fSorted o) := fun H0 H rho S W ds vs s rd Q q => by
  unfold fSorted at q
  split at q
  · obtain ⟨v, rfl, r⟩ := reps1 rd
    split at q
    · rename_i ns hx
      split at q
      · rename_i hl
        obtain ⟨a, rfl, h⟩ := ints_at s hx r
        refine ⟨a, ns, rfl, h, hl, fun ms p h1 h2 hp => ?_⟩
        rw [sort_eq h1 h2]
        exact new_lst s hp (Reps.ofInts _) q
      · exact q.elim
    · exact q.elim
  · exact q.elim
/-- int(x) of an int, a truth; str(n) -/
def fInt : List D → Sto → ER := fun ds S => match ds with
  | [.int i] => .ok (.int i) S
  | [.bl k] => .ok (.int (if k then 1 else 0)) S
  | _ => .err
theorem sim_int {K : PySem.W.Frag} : SimC K (fun xs H Q => (∃ i, xs = [.int i] ∧ Q (.int i) H) ∨ ∃ k, xs = [.bl k] ∧ Q (.int (if k then 1 else 0)) H) fInt := fun H0 H rho S W ds vs s rd Q q => by
  unfold fInt at q
  split at q
  · obtain ⟨v, rfl, r⟩ := reps1 rd
    simp only [Rep] at r
    exact .inl ⟨_, by rw [r], EPost.done s (rep_scal (d := .int _) rfl) q⟩
  · obtain ⟨v, rfl, r⟩ := reps1 rd
    simp only [Rep] at r
    exact .inr ⟨_, by rw [r], EPost.done s (rep_scal (d := .int _) rfl) q⟩
  · exact q.elim
def fStr : List D → Sto → ER := fun ds S => match ds with
  | [.int i] => if i.natAbs.log2 < 1920 then .ok (.str (toString i)) S else .err
  | _ => .err
theorem sim_str {K : PySem.W.Frag} : SimC K (fun xs H Q => ∃ i, xs = [.int i] ∧ i.natAbs.log2 < 1920 ∧ Q (.str (toString i)) H) fStr := fun H0 H rho S W ds vs s rd Q q => by
  unfold fStr at q
  split at q
  · rename_i i
    split at q
    · rename_i hz
      obtain ⟨v, rfl, r⟩ := reps1 rd
      simp only [Rep] at r
      exact ⟨i, by rw [r], hz, EPost.done s (rep_scal (d := .str _) rfl) q⟩
    · exact q.elim
  · exact q.elim
/-- all(xs) of a list of truths -/
def blsD : List D → Option (List Bool)
  | [] => some []
  | .bl i :: r => (match blsD r with
    | some l => some (i :: l)
    | none => none)
  | _ :: _ => none
theorem blsD_eq : ∀ {ds : List D} {ns : List Bool}, blsD ds = some ns → ds = ns.map D.bl
  | [], ns, h => by simp only [blsD, Option.some.injEq] at h; subst h; rfl
  | .bl i :: r, ns, h => by
    simp only [blsD] at h
    split at h
    · rename_i l hl
      cases h
      rw [blsD_eq hl]; rfl
    · cases h
  | .non :: _, _, h => by simp [blsD] at h
  | .int _ :: _, _, h => by simp [blsD] at h
  | .str _ :: _, _, h => by simp [blsD] at h
  | .tup _ :: _, _, h => by simp [blsD] at h
  | .lst _ _ :: _, _, h => by simp [blsD] at h
  | .emp _ :: _, _, h => by simp [blsD] at h
  | .obj _ :: _, _, h => by simp [blsD] at h
theorem blsD_map : ∀ ns : List Bool, blsD (ns.map D.bl) = some ns
  | [] => rfl
  | n :: ns => by simp [blsD, blsD_map ns]
def fAll : List D → Sto → ER := fun ds S => match ds with
  | [d] => (match (seqL S d).bind blsD with
    | some bs => .ok (.bl (bs.all id)) S
    | none => .err)
  | _ => .err
theorem Reps.bls {K : PySem.W.Frag} {H0 H : Hp} {rho : List Addr} : ∀ {ns : List Bool} {vs : List V}, Reps K H0 H rho (ns.map D.bl) vs → vs = ns.map V.bl
  | [], vs, h => by simpa [Reps] using h
  | n :: ns, vs, h => by
    simp only [List.map_cons, Reps] at h
    obtain ⟨w, r, rfl, h1, h2⟩ := h
    simp only [Rep] at h1
    rw [h1, Reps.bls h2]; rfl
theorem sim_all {K : PySem.W.Frag} : SimC K (rAll K) fAll := fun H0 H rho S W ds vs s rd Q q => by
  unfold fAll at q
  split at q
  · obtain ⟨v, rfl, r⟩ := reps1 rd
    split at q
    · rename_i bs hx
      rw [Option.bind_eq_some_iff] at hx
      obtain ⟨xs, h1, h2⟩ := hx
      have e := blsD_eq h2
      subst e
      obtain ⟨a, vs, rfl, h, r⟩ := seqL_at s h1 r
      rw [r.bls] at h
      exact ⟨a, bs, rfl, h, EPost.done s (rep_scal (d := .bl _) rfl) q⟩
    · exact q.elim
  · exact q.elim

def tyD (S : Sto) : D → String
  | .non => "NoneType"
  | .bl _ => "bool"
  | .int _ => "int"
  | .str _ => "str"
  | .tup _ => "tuple"
  | .lst _ _ => "list"
  | .emp _ => "dict"
  | .obj i => match S[i]? with
    | some (.lst _) => "list"
    | _ => "dict"
/-- no list, no dict, no data -/
def oddD (S : Sto) : D → Bool
  | .obj i => (match S[i]? with
    | some (.tbl _) => true
    | some (.tpx _) => true
    | some (.ins _ _) => true
    | _ => false)
  | _ => false
/-- whether a thing of the one type is an instance of the other -/
def isT (a b : String) : Bool := a == b || (a == "bool" && b == "int")
def mIsi (T : String) (m : EM) : EM := fun G S => (m G S).bind fun d S1 => if oddD S1 d then .err else .ok (.bl (isT (tyD S1 d) T)) S1
theorem ty_rep {K : PySem.W.Frag} {H0 H : Hp} {rho : List Addr} {S : Sto} (s : SOk K H0 H rho S) {d : D} {v : V} (hod : oddD S d = false) (r : Rep K H0 H rho d v) : TyX K H v (.type (tyD S d)) := by
  cases d with
  | non => simp only [Rep] at r; subst r; exact .base .non
  | bl b => simp only [Rep] at r; subst r; exact .base (.bl b)
  | int b => simp only [Rep] at r; subst r; exact .base (.int b)
  | str b => simp only [Rep] at r; subst r; exact .base (.str b)
  | tup xs =>
    obtain ⟨a, vs, rfl, q, _⟩ := tup_at r
    rcases q with (q | ⟨o, q⟩) | q
    · exact .base (.tup q)
    · exact .fTuple q
    · obtain ⟨o, its, n, e, c, _⟩ := q
      exact .kTuple e c
  | lst f xs =>
    simp only [Rep] at r
    obtain ⟨a, vs, rfl, q, _⟩ := r
    rcases q.sq with (q | ⟨o, q⟩) | q
    · exact .base (.lst q)
    · exact .base (.frz q)
    · obtain ⟨o, its, n, e, c, _⟩ := q
      exact .kList e c
  | emp f =>
    simp only [Rep] at r
    obtain ⟨a, rfl, q, _⟩ := r
    exact .base (.dK q)
  | obj i =>
    simp only [Rep] at r
    obtain ⟨a, rfl, q⟩ := r
    have hi : i < S.length := by rw [← s.len]; exact (List.getElem?_eq_some_iff.mp q).1
    obtain ⟨b, e1, z⟩ := s.at_ i _ (List.getElem?_eq_getElem hi)
    rw [q] at e1; cases e1
    simp only [tyD]
    simp only [oddD] at hod
    rw [List.getElem?_eq_getElem hi] at hod ⊢
    generalize S[i] = o at z hod
    cases o with
    | lst xs => obtain ⟨vs, e, _⟩ := z; exact .base (.lst e)
    | dct kvs => obtain ⟨ws, e, _⟩ := z; exact .base (.dK e)
    | dcs kvs => obtain ⟨ws, e, _⟩ := z; exact .base (.dK e)
    | tbl b => cases hod
    | tpx xs => cases hod
    | ins c fs => cases hod
theorem tyD_in (S : Sto) (d : D) : tyD S d = "NoneType" ∨ tyD S d = "bool" ∨ tyD S d = "int" ∨ tyD S d = "str" ∨ tyD S d = "tuple" ∨ tyD S d = "list" ∨ tyD S d = "dict" := by
  cases d with
  | obj i =>
    simp only [tyD]
    split <;> simp
  | _ => simp [tyD]
/-- T is a built-in type of those that we know -/
structure KnownT (T : String) : Prop where
  h1 : kitB "NoneType" T = some (isT "NoneType" T)
  h2 : kitB "bool" T = some (isT "bool" T)
  h3 : kitB "int" T = some (isT "int" T)
  h4 : kitB "str" T = some (isT "str" T)
  h5 : kitB "tuple" T = some (isT "tuple" T)
  h6 : kitB "list" T = some (isT "list" T)
  h7 : kitB "dict" T = some (isT "dict" T)
theorem kt_int : KnownT "int" := by constructor <;> decide +kernel
theorem kt_bool : KnownT "bool" := by constructor <;> decide +kernel
theorem kt_str : KnownT "str" := by constructor <;> decide +kernel
theorem kt_tuple : KnownT "tuple" := by constructor <;> decide +kernel
theorem kt_list : KnownT "list" := by constructor <;> decide +kernel
section
variable {X : Cx} {W : WX} {a : Expr} {ma : EM} {p p2 pos : Pos} {T : String} {x : Str}
theorem je_isi (k : KnownT T) (hg : Gl X "isinstance") (hm : X.mg "isinstance" = none) (hgT : Gl X x) (hmT : X.mg x = none) (hv : bootBuiltins x = some (.type T)) (ha : JE X W a ma) (hn : x ≠ "__name__" := by decide) (hd : (x == ("__debug__" : Str)) = false := by decide)
    (h1 : starEach [a, .Name x p2] X.env = (false, eval a X.env) :: starEach [.Name x p2] X.env := by rfl) (h2 : (backTo pos (starEach [.Name x p2] X.env)).any (·.1) = false := by rfl) (h3 : starEach [.Name x p2] X.env = (false, eval (.Name x p2) X.env) :: starEach [] X.env := by rfl) :
    JE X W (.Call (.Name "isinstance" p) [a, .Name x p2] [] pos) (mIsi T ma) := by
  obtain ⟨ta, pa, sa⟩ := ha
  refine ⟨_, pe_callB call_isi hg hm (by decide +kernel) (pa_cons pa (pa_cons (pe_bltn (v := .ty T) hgT hmT hv rfl hn hd) pa_nil h3) h1) (by decide) (by decide) h1 h2, fun H0 G S sg H rho st Q h => ?_⟩
  refine sa H0 G S sg H rho st _ (bindE h fun d S1 v H1 rho1 s1 t1 r1 h1 => ?_)
  cases hod : oddD S1 d with
  | true => rw [hod] at h1; exact h1.elim
  | false =>
  rw [hod] at h1
  refine ⟨v, .ty T, _, _, isT (tyD S1 d) T, rfl, .ty T, ty_rep s1 hod r1, ?_, EPost.done s1 (rep_scal (d := .bl _) rfl) h1⟩
  rcases tyD_in S1 d with e | e | e | e | e | e | e <;> rw [e]
  · exact kit_ty k.h1
  · exact kit_ty k.h2
  · exact kit_ty k.h3
  · exact kit_ty k.h4
  · exact kit_ty k.h5
  · exact kit_ty k.h6
  · exact kit_ty k.h7
end
end Ab

end
section
set_option Elab.async false
set_option linter.all false
set_option maxRecDepth 100000
namespace Ab
open PySem PySem.Spec PyProof.Rows L2

inductive SR where
  | nx (G : Gam) (S : Sto) | rt (d : D) (S : Sto) | bk (G : Gam) (S : Sto) | ct (G : Gam) (S : Sto) | ex (c : Str) (G : Gam) (S : Sto) | err
abbrev SM := Gam → Sto → SR
def SPost (K : PySem.W.Frag) (H0 H : Hp) (rho : List Addr) (W : WX) (r : SR) (E : Ends) : Prop := match r with
  | .nx G' S' => ∀ sg' H' rho', Sat K H0 G' S' sg' H' rho' → Stp H rho H' rho' → E.nx sg' H'
  | .rt d S' => ∀ v H' rho', SOk K H0 H' rho' S' → Stp H rho H' rho' → Rep K H0 H' rho' d v → E.rt v H'
  | .bk G' S' => ∀ sg' H' rho', Sat K H0 G' S' sg' H' rho' → Stp H rho H' rho' → E.bk sg' H'
  | .ct G' S' => ∀ sg' H' rho', Sat K H0 G' S' sg' H' rho' → Stp H rho H' rho' → E.ct sg' H'
  | .ex c G' S' => ∀ sg' H' rho', Sat K H0 G' S' sg' H' rho' → Stp H rho H' rho' → W (.ref (He.ga K c)) none sg' H'
  | .err => False
def SimS (K : PySem.W.Frag) (W : WX) (ts : TS) (m : SM) : Prop := ∀ H0 G S sg H rho, Sat K H0 G S sg H rho → ∀ E : Ends, SPost K H0 H rho W (m G S) E → ts E sg H
def JS (X : Cx) (W : WX) (st : Stmt) (m : SM) : Prop := ∃ ts, PS X st ts ∧ SimS X.K W ts m
def JSs (X : Cx) (W : WX) (sts : List Stmt) (m : SM) : Prop := ∃ ts, PSs X sts ts ∧ SimS X.K W ts m
/-- an expression's value, then a statement's end -/
def ER.bindS (r : ER) (G : Gam) (k : D → Sto → SR) : SR := match r with
  | .ok d S => k d S
  | .ex c S => .ex c G S
  | .err => .err
def AR.bindS (r : AR) (G : Gam) (k : List D → Sto → SR) : SR := match r with
  | .ok d S => k d S
  | .ex c S => .ex c G S
  | .err => .err
section
variable {K : PySem.W.Frag} {H0 H H1 : Hp} {rho rho1 : List Addr} {W : WX}
theorem SPost.step {r : SR} {E : Ends} (t : Stp H rho H1 rho1) (h : SPost K H0 H rho W r E) : SPost K H0 H1 rho1 W r E := by
  cases r with
  | nx G S => exact fun a b c d e => h a b c d (t.trans e)
  | rt d S => exact fun a b c d e => h a b c d (t.trans e)
  | bk G S => exact fun a b c d e => h a b c d (t.trans e)
  | ct G S => exact fun a b c d e => h a b c d (t.trans e)
  | ex c G S => exact fun a b c d e => h a b c d (t.trans e)
  | err => exact h
/-- an expression's post from a statement's -/
theorem bindES {r : ER} {G : Gam} {S : Sto} {sg : L2.St} (st : Sat K H0 G S sg H rho) {k : D → Sto → SR} {E : Ends} {R : VK} (h : SPost K H0 H rho W (r.bindS G k) E)
    (g : ∀ d S1 v H1 rho1, Sat K H0 G S1 sg H1 rho1 → Stp H rho H1 rho1 → Rep K H0 H1 rho1 d v → SPost K H0 H1 rho1 W (k d S1) E → R v H1) : EPost K H0 H rho (fun c d h => W c d sg h) r R := by
  cases r with
  | ok d S' => exact fun v H' rho' s t r => g d S' v H' rho' (st.step s t) t r (SPost.step t h)
  | ex c S' => exact fun H' rho' s t => h sg H' rho' (st.step s t) t
  | err => exact h
theorem bindAS {r : AR} {G : Gam} {S : Sto} {sg : L2.St} (st : Sat K H0 G S sg H rho) {k : List D → Sto → SR} {E : Ends} {R : List V → Hp → Prop} (h : SPost K H0 H rho W (r.bindS G k) E)
    (g : ∀ ds S1 vs H1 rho1, Sat K H0 G S1 sg H1 rho1 → Stp H rho H1 rho1 → Reps K H0 H1 rho1 ds vs → SPost K H0 H1 rho1 W (k ds S1) E → R vs H1) : APost K H0 H rho (fun c d h => W c d sg h) r R := by
  cases r with
  | ok d S' => exact fun v H' rho' s t r => g d S' v H' rho' (st.step s t) t r (SPost.step t h)
  | ex c S' => exact fun H' rho' s t => h sg H' rho' (st.step s t) t
  | err => exact h
def ER.bindTS (r : ER) (G : Gam) (k : Bool → Sto → SR) : SR := match r with
  | .ok (.bl b) S => k b S
  | .ok _ _ => .err
  | .ex c S => .ex c G S
  | .err => .err
theorem bindTS {r : ER} {G : Gam} {S : Sto} {sg : L2.St} (st : Sat K H0 G S sg H rho) {k : Bool → Sto → SR} {E : Ends} {R : Bool → Hp → Prop} (h : SPost K H0 H rho W (r.bindTS G k) E)
    (g : ∀ b S1 H1 rho1, Sat K H0 G S1 sg H1 rho1 → Stp H rho H1 rho1 → SPost K H0 H1 rho1 W (k b S1) E → R b H1) : TPost K H0 H rho (fun c d h => W c d sg h) r R := by
  cases r with
  | ok d S' =>
    cases d with
    | bl b => exact fun H' rho' s t => g b S' H' rho' (st.step s t) t (SPost.step t h)
    | _ => exact h.elim
  | ex c S' => exact fun H' rho' s t => h sg H' rho' (st.step s t) t
  | err => exact h
theorem SPost.here {G : Gam} {S : Sto} {sg : L2.St} {E : Ends} (st : Sat K H0 G S sg H rho) (h : SPost K H0 H rho W (.nx G S) E) : E.nx sg H := h sg H rho st (Stp.refl st.s)
/-- the ends changed where the outcome goes on -/
theorem SPost.imp {r : SR} {E E' : Ends} (h : SPost K H0 H rho W r E) (n : ∀ a b, E.nx a b → E'.nx a b) (rt : ∀ a b, E.rt a b → E'.rt a b) (b : ∀ a c, E.bk a c → E'.bk a c) (c : ∀ a b, E.ct a b → E'.ct a b) : SPost K H0 H rho W r E' := by
  cases r with
  | nx G S => exact fun x y z d e => n _ _ (h x y z d e)
  | rt d S => exact fun x y z d e f => rt _ _ (h x y z d e f)
  | bk G S => exact fun x y z d e => b _ _ (h x y z d e)
  | ct G S => exact fun x y z d e => c _ _ (h x y z d e)
  | ex c G S => exact h
  | err => exact h
end
def mNext : SM := fun G S => .nx G S
def mSeq (m n : SM) : SM := fun G S => match m G S with
  | .nx G' S' => n G' S'
  | r => r
def mSet (i : Nat) (m : EM) : SM := fun G S => (m G S).bindS G fun d S1 => .nx (G.set i (some d)) S1
def mExpr (m : EM) : SM := fun G S => (m G S).bindS G fun _ S1 => .nx G S1
def mRet (m : EM) : SM := fun G S => (m G S).bindS G fun d S1 => .rt d S1
def mRetN : SM := fun _ S => .rt .non S
def mIf (c : EM) (m n : SM) : SM := fun G S => (c G S).bindTS G fun b S1 => if b then m G S1 else n G S1
def mRaise (c : Str) : SM := fun G S => .ex c G S
def mBreak : SM := fun G S => .bk G S
def mCont : SM := fun G S => .ct G S
section
variable {X : Cx} {W : WX} {st : Stmt} {rest : List Stmt} {m n : SM} {a : Expr} {ma : EM} {pos : Pos}
theorem jss_nil : JSs X W [] mNext := ⟨_, pss_nil, fun H0 G S sg H rho s E h => SPost.here s h⟩
theorem jss_cons (h1 : JS X W st m) (h2 : JSs X W rest n) : JSs X W (st :: rest) (mSeq m n) := by
  obtain ⟨t, p, s⟩ := h1
  obtain ⟨u, q, z⟩ := h2
  refine ⟨_, pss_cons p q, fun H0 G S sg H rho st E h => s H0 G S sg H rho st _ ?_⟩
  unfold mSeq at h
  cases e : m G S with
  | nx G' S' =>
    rw [e] at h
    exact fun sg' H' rho' s' t' => z H0 G' S' sg' H' rho' s' E (SPost.step t' h)
  | rt d S' => rw [e] at h; exact h
  | bk G' S' => rw [e] at h; exact h
  | ct G' S' => rw [e] at h; exact h
  | ex c G' S' => rw [e] at h; exact h
  | err => rw [e] at h; exact h
theorem jss_one (h1 : JS X W st m) : JSs X W [st] m := let ⟨t, p, s⟩ := h1; ⟨t, pss_one p, s⟩
theorem js_set (i : Nat) {x : Str} {pos' : Pos} (hN : X.N.Nodup) (hi : X.N[i]? = some x) (hx : Loc X.env.scope x) (ha : JE X W a ma) (hs : swapsWith a (some (.Name x pos')) pos.line X.env = pure false := by rfl) (hf : X.fn x = true ∨ X.env.scope.names.lookup x = some .local := by first | exact .inl rfl | exact .inr rfl | assumption) :
    JS X W (.Assign [.Name x pos'] a pos) (mSet i ma) := by
  obtain ⟨ta, pa, sa⟩ := ha
  exact ⟨_, ps_set hN hi hx pa hs hf, fun H0 G S sg H rho st E h => sa H0 G S sg H rho st _ (bindES st h fun d S1 v H1 rho1 s1 t1 r1 h1 => SPost.here (s1.set i r1) h1)⟩
theorem js_expr (ha : JE X W a ma) (hs : swapsWith a none pos.line X.env = pure false := by rfl) : JS X W (.Expr a pos) (mExpr ma) := by
  obtain ⟨ta, pa, sa⟩ := ha
  exact ⟨_, ps_expr pa hs, fun H0 G S sg H rho st E h => sa H0 G S sg H rho st _ (bindES st h fun d S1 v H1 rho1 s1 t1 r1 h1 => SPost.here s1 h1)⟩
theorem js_doc {x j pos pos'} : JS X W (.Expr (.Constant (.str x) j pos) pos') mNext := ⟨_, ps_doc, fun H0 G S sg H rho st E h => SPost.here st h⟩
theorem js_ret (ha : JE X W a ma) : JS X W (.Return (some a) pos) (mRet ma) := by
  obtain ⟨ta, pa, sa⟩ := ha
  exact ⟨_, ps_ret pa, fun H0 G S sg H rho st E h => sa H0 G S sg H rho st _ (bindES st h fun d S1 v H1 rho1 s1 t1 r1 h1 => h1 v H1 rho1 s1.s (Stp.refl s1.s) r1)⟩
theorem js_retN : JS X W (.Return none pos) mRetN := ⟨_, ps_retN, fun H0 G S sg H rho st E h => h .non H rho st.s (Stp.refl st.s) (by simp [Rep])⟩
theorem js_if {c : Expr} {mc : EM} {p q : List Stmt} (hc : JT X W c mc) (hp : JSs X W p m) (hq : JSs X W q n) : JS X W (.If c p q pos) (mIf mc m n) := by
  obtain ⟨tc, pc, sc⟩ := hc
  obtain ⟨tp, pp, sp⟩ := hp
  obtain ⟨tq, pq, sq⟩ := hq
  refine ⟨_, ps_if pc pp pq, fun H0 G S sg H rho st E h => sc H0 G S sg H rho st _ (bindTS st h fun b S1 H1 rho1 s1 t1 h1 => ?_)⟩
  cases b with
  | true => exact iteT (sp H0 G S1 sg H1 rho1 s1 E h1)
  | false => exact iteF (sq H0 G S1 sg H1 rho1 s1 E h1)
theorem js_break : JS X W (.Break pos) mBreak := ⟨_, ps_break, fun H0 G S sg H rho st E h => h sg H rho st (Stp.refl st.s)⟩
theorem js_cont : JS X W (.Continue pos) mCont := ⟨_, ps_continue, fun H0 G S sg H rho st E h => h sg H rho st (Stp.refl st.s)⟩
theorem js_pass : JS X W (.Pass pos) mNext := ⟨_, ps_pass, fun H0 G S sg H rho st E h => SPost.here st h⟩
/-- raise C('..'), C a class of the text -/
theorem js_raise {x c : Str} {j : Nat} {p p2 p3 : Pos} (hc : X.calm = true) (tk : Takes X W) (q : PySem.W.excIn X.K (He.ga X.K x) He.veBase "ValueError.__new__" = true) (gC : X.mg x = some (.ref (He.ga X.K x))) (kC : PySem.W.keepIn X.K (.ref (He.ga X.K x)) = true)
    (h1 : PySem.W.subIn X.K (.ref (He.ga X.K x)) (.type "BaseException") = some true) (h2 : PySem.W.typeIn X.K (.ref (He.ga X.K x)) = some (.type "type")) (hg : Gl X x) (hdb : (x == ("__debug__" : Str)) = false := by decide) :
    JS X W (.Raise (some (.Call (.Name x p) [.Constant (.str c) j p2] [] p3)) none pos) (mRaise x) :=
  ⟨_, ps_raise hc tk (pmk_own PySem.F.excBase_ValueError q gC kC (raises_own h1 h2) hg hdb), fun H0 G S sg H rho st E h => h sg H rho st (Stp.refl st.s)⟩
end

def setAll : List Nat → List D → Gam → Option Gam
  | [], [], G => some G
  | i :: is, d :: ds, G => setAll is ds (G.set i (some d))
  | _, _, _ => none
def mUnp (is : List Nat) (m : EM) : SM := fun G S => (m G S).bindS G fun d S1 => match d with
  | .tup xs => (match setAll is xs G with
    | some G' => .nx G' S1
    | none => .err)
  | _ => .err
/-- the targets' reading: names at is -/
def gNames : List Nat → TGs
  | [] => gNil
  | i :: is => gCons (gName i) (gNames is)
theorem names_ok {K : PySem.W.Frag} {H0 H : Hp} {rho : List Addr} {S : Sto} : ∀ {is : List Nat} {ds : List D} {vs : List V} {G G' : Gam} {sg : L2.St} {Q : L2.St → Hp → Prop}, Sat K H0 G S sg H rho → Reps K H0 H rho ds vs → setAll is ds G = some G' →
    (∀ sg', Sat K H0 G' S sg' H rho → Q sg' H) → gNames is vs sg H Q
  | [], [], vs, G, G', sg, Q, st, r, e, q => by
    simp only [setAll, Option.some.injEq] at e
    subst e
    simp only [Reps] at r
    exact ⟨r, q sg st⟩
  | i :: is, d :: ds, vs, G, G', sg, Q, st, r, e, q => by
    simp only [Reps] at r
    obtain ⟨v, w, rfl, r1, r2⟩ := r
    simp only [setAll] at e
    exact ⟨v, w, rfl, names_ok (st.set i r1) r2 e q⟩
  | [], _ :: _, _, _, _, _, _, _, _, e, _ => by simp [setAll] at e
  | _ :: _, [], _, _, _, _, _, _, _, e, _ => by simp [setAll] at e
theorem setAll_len : ∀ {is : List Nat} {ds : List D} {G G' : Gam}, setAll is ds G = some G' → is.length = ds.length
  | [], [], _, _, _ => rfl
  | _ :: is, _ :: ds, _, _, e => by simp only [setAll] at e; simp [setAll_len e]
  | [], _ :: _, _, _, e => by simp [setAll] at e
  | _ :: _, [], _, _, e => by simp [setAll] at e
section
variable {X : Cx} {W : WX} {a b c : Expr} {ma mb mc : EM} {pos : Pos}
theorem js_unp (is : List Nat) {es : List Expr} {k : Nat} {tp : Pos} (hc : X.calm = true) (hg : PGs X es (gNames is)) (ha : JE X W a ma) (hl : (assignEach es X.env).length = is.length := by rfl) (hst : (assignEach es X.env).findIdx? (·.1) = none := by rfl)
    (hs : swapsWithSole [.Tuple es k tp] a pos.line X.env = pure false := by rfl) (hw : swappedStores [.Tuple es k tp] a X.env = pure none := by rfl)
    (h1 : (assignEach [.Tuple es k tp] X.env).map (·.2) = [assign (.Tuple es k tp) X.env] := by rfl) : JS X W (.Assign [.Tuple es k tp] a pos) (mUnp is ma) := by
  obtain ⟨ta, pa, sa⟩ := ha
  refine ⟨_, ps_asg pa (pg_tup hc hg hl hst) hs hw h1, fun H0 G S sg H rho st E h => sa H0 G S sg H rho st _ (bindES st h fun d S1 v H1 rho1 s1 t1 r1 h1 => ?_)⟩
  split at h1
  · rename_i xs
    split at h1
    · rename_i G' e
      obtain ⟨p, vs, rfl, hp, r⟩ := tup_at r1
      refine ⟨p, vs, rfl, hp, by rw [← r.length]; exact (setAll_len e).symm, names_ok s1 r e fun sg' s' => SPost.here s' h1⟩
    · exact h1.elim
  · exact h1.elim
/-- o[i] = e of a list of ours -/
def mSetIx (mo mi mv : EM) : SM := fun G S => (mv G S).bindS G fun v S1 => (mo G S1).bindS G fun o S2 => (mi G S2).bindS G fun i S3 => match o, i with
  | .obj j, .int k => (match S3[j]? with
    | some (.lst xs) => (match ixN xs.length k with
      | some n => .nx G (S3.set j (.lst (xs.set n v)))
      | none => .err)
    | _ => .err)
  | _, _ => .err
theorem obj_at {K : PySem.W.Frag} {H0 H : Hp} {rho : List Addr} {S : Sto} (s : SOk K H0 H rho S) {i : Nat} {xs : List D} {v : V} (h : S[i]? = some (.lst xs)) (r : Rep K H0 H rho (.obj i) v) : ∃ a vs, v = .ref a ∧ rho[i]? = some a ∧ H a = some (.lst vs) ∧ Reps K H0 H rho xs vs := by
  simp only [Rep] at r
  obtain ⟨a, rfl, q⟩ := r
  obtain ⟨b, e1, vs, e2, r⟩ := s.at_ i _ h
  rw [q] at e1; cases e1
  exact ⟨a, vs, rfl, q, e2, r⟩
theorem wr_ok {K : PySem.W.Frag} {H0 H : Hp} {rho : List Addr} {S : Sto} (s : SOk K H0 H rho S) {i : Nat} {a : Addr} {ys : List D} {ws : List V} (hi : rho[i]? = some a) (r : Reps K H0 H rho ys ws) (nf : ∀ ob u, H a ≠ some (.frz ob u) := by intro ob u z; simp_all) : SOk K H0 (upd H a (.lst ws)) rho (S.set i (.lst ys)) ∧ Stp H rho (upd H a (.lst ws)) rho := by
  have t := Stp.write s (List.mem_of_getElem? hi) (.lst ws) nf
  exact ⟨s.write hi nf ⟨ws, upd_same, Reps.keep s t _ _ r⟩, t⟩
theorem js_setIx {tp : Pos} (ho : JE X W b mb) (hi : JE X W c mc) (hv : JE X W a ma)
    (hA : ∀ v, assign (.Subscript b c tp) X.env v = (do
      let ov ← holding [v] (eval b X.env)
      let iv ← holding [v, ov] (eval c X.env)
      standAt tp
      holding [v, ov, iv] (setItem ov iv v)
      release [v, ov, iv] []) := by intro _; rfl)
    (hs : swapsWithSole [.Subscript b c tp] a pos.line X.env = pure false := by rfl) (hw : swappedStores [.Subscript b c tp] a X.env = pure none := by rfl)
    (h1 : (assignEach [.Subscript b c tp] X.env).map (·.2) = [assign (.Subscript b c tp) X.env] := by rfl) : JS X W (.Assign [.Subscript b c tp] a pos) (mSetIx mb mc ma) := by
  obtain ⟨ta, pa, sa⟩ := hv
  obtain ⟨tb, pb, sb⟩ := ho
  obtain ⟨tc, pc, sc⟩ := hi
  refine ⟨_, ps_asg pa (pg_sub pb pc set_list hA) hs hw h1, fun H0 G S sg H rho st E h => sa H0 G S sg H rho st _ (bindES st h fun v S1 x H1 rho1 s1 t1 r1 h1 => ?_)⟩
  refine sb H0 G S1 sg H1 rho1 s1 _ (bindES s1 h1 fun o S2 y H2 rho2 s2 t2 r2 h2 => ?_)
  refine sc H0 G S2 sg H2 rho2 s2 _ (bindES s2 h2 fun i S3 z H3 rho3 s3 t3 r3 h3 => ?_)
  split at h3
  · rename_i j k
    split at h3
    · rename_i xs hx
      split at h3
      · rename_i n hn
        obtain ⟨p, vs, rfl, hp, hH, r⟩ := obj_at s3.s hx (Rep.keep s2.s t3 _ _ r2)
        simp only [Rep] at r3
        have rv := Rep.keep s2.s t3 _ _ (Rep.keep s1.s t2 _ _ r1)
        obtain ⟨s4, t4⟩ := wr_ok s3.s hp (r.set n rv)
        refine ⟨p, vs, k, n, rfl, r3, hH, by rw [← r.length]; exact hn, ?_⟩
        exact SPost.here (s3.step s4 t4) (SPost.step t4 h3)
      · exact h3.elim
    · exact h3.elim
  · exact h3.elim
/-- x op= e at a name: ints -/
def mAug (i : Nat) (g : Int → Int → Int) (m : EM) : SM := fun G S => match G[i]? with
  | some (some (.int x)) => (m G S).bindS G fun d S1 => (match d with
    | .int y => .nx (G.set i (some (.int (g x y)))) S1
    | _ => .err)
  | _ => .err
theorem js_aug (i : Nat) {x : Str} {op : Operator} {g : Int → Int → Int} {pos' : Pos} (ho : PIp X op (fun x y H Q => ∃ i j, x = .int i ∧ y = .int j ∧ Q (.int (g i j)) H)) (hN : X.N.Nodup) (hi : X.N[i]? = some x) (hx : Loc X.env.scope x) (ha : JE X W a ma) (hf : X.fn x = true ∨ X.env.scope.names.lookup x = some .local := by first | exact .inl rfl | exact .inr rfl | assumption) :
    JS X W (.AugAssign (.Name x pos') op a pos) (mAug i g ma) := by
  obtain ⟨ta, pa, sa⟩ := ha
  refine ⟨_, ps_aug hN hi hx pa ho hf, fun H0 G S sg H rho st E h => ?_⟩
  unfold mAug at h
  split at h
  · rename_i k hk
    obtain ⟨v, e, r⟩ := st.sl i _ hk
    simp only [Rep] at r
    subst r
    refine ⟨_, e, sa H0 G S sg H rho st _ (bindES st h fun d S1 w H1 rho1 s1 t1 r1 h1 => ?_)⟩
    split at h1
    · rename_i y
      simp only [Rep] at r1
      exact ⟨k, y, rfl, r1, SPost.here (s1.set i (d := .int (g k y)) (by simp [Rep])) h1⟩
    · exact h1.elim
  · exact h.elim
end

def isLst (S : Sto) (d : D) : Bool := (seqL S d).isSome
def SimM (K : PySem.W.Frag) (r : V → List V → Hp → VK → Prop) (f : D → List D → Sto → ER) : Prop := ∀ H0 H rho S W d ds v vs, SOk K H0 H rho S → Rep K H0 H rho d v → Reps K H0 H rho ds vs → ∀ Q : VK, EPost K H0 H rho W (f d ds S) Q → r v vs H Q
def mMeth (f : D → List D → Sto → ER) (m : EM) (a : AM) : EM := fun G S => (m G S).bind fun d S1 => if isLst S1 d then (a G S1).bind fun ds S2 => f d ds S2 else .err
theorem isLst_ty {K : PySem.W.Frag} {H0 H : Hp} {rho : List Addr} {S : Sto} (s : SOk K H0 H rho S) {d : D} {v : V} (h : isLst S d = true) (r : Rep K H0 H rho d v) : tyV K "list" v H := by
  unfold isLst at h
  obtain ⟨xs, e⟩ := Option.isSome_iff_exists.mp h
  obtain ⟨a, vs, rfl, q, _⟩ := seqL_at s e r
  exact .inl ⟨rfl, _, q⟩
section
variable {X : Cx} {W : WX} {a : Expr} {ma : EM} {name : Str} {id : String} {apos cpos : Pos} {r : V → List V → Hp → VK → Prop} {f : D → List D → Sto → ER}
theorem je_meth (slot : Slot "list" name id) (hty : typeOf (.builtin id) = pure (.type "method_descriptor")) (hm : MtR X id r) (hs : SimM X.K r f) (ho : JE X W a ma) {e : Expr} {es : List Expr} {m : AM} (ha : JA X W (e :: es) m)
    (hbase : attributeBase a name X.env (eval a X.env) = eval a X.env := by rfl)
    (hfew : ((backTo cpos (starEach (e :: es) X.env)).all (fun x => !x.1) && (backToKw cpos (keywordEach [] X.env)).all (fun x => x.1.isSome)
      && decide ((e :: es).length + ([] : List Keyword).length + (if ([] : List Keyword).isEmpty then 0 else 1) < 30)) = true := by rfl)
    (hline : (apos.endLine == cpos.line) = true := by rfl) (hst : starEach (e :: es) X.env = (false, eval e X.env) :: starEach es X.env := by rfl) (hplain : (backTo cpos (starEach es X.env)).any (·.1) = false := by rfl) :
    JE X W (.Call (.Attribute a name apos) (e :: es) [] cpos) (mMeth f ma m) := by
  obtain ⟨ta, pa, sa⟩ := ho
  obtain ⟨tl, pl, sl⟩ := ha
  refine ⟨_, pe_bm PySem.F.plainAttrs_list slot hty hm pa pl hbase hfew hline hst hplain, fun H0 G S sg H rho st Q h => sa H0 G S sg H rho st _ (bindE h fun d S1 v H1 rho1 s1 t1 r1 h1 => ?_)⟩
  split at h1
  · rename_i hl
    refine ⟨isLst_ty s1 hl r1, sl H0 G S1 sg H1 rho1 (st.step s1 t1) _ (bindA h1 fun ds S2 vs H2 rho2 s2 t2 r2 h2 => ?_)⟩
    exact hs H0 H2 rho2 S2 _ d ds v vs s2 (Rep.keep s1 t2 _ _ r1) r2 Q h2
  · exact h1.elim
theorem je_meth0 (slot : Slot "list" name id) (hty : typeOf (.builtin id) = pure (.type "method_descriptor")) (hm : MtR X id r) (hs : SimM X.K r f) (ho : JE X W a ma)
    (hbase : attributeBase a name X.env (eval a X.env) = eval a X.env := by rfl) (hline : (apos.endLine == cpos.line) = true := by rfl) : JE X W (.Call (.Attribute a name apos) [] [] cpos) (mMeth f ma aNil) := by
  obtain ⟨ta, pa, sa⟩ := ho
  refine ⟨_, pe_bm0 PySem.F.plainAttrs_list slot hty hm pa hbase hline, fun H0 G S sg H rho st Q h => sa H0 G S sg H rho st _ (bindE h fun d S1 v H1 rho1 s1 t1 r1 h1 => ?_)⟩
  split at h1
  · rename_i hl
    exact ⟨isLst_ty s1 hl r1, hs H0 H1 rho1 S1 _ d [] v [] s1 r1 .nil Q h1⟩
  · exact h1.elim
end
def fAppend : D → List D → Sto → ER := fun d ds S => match d, ds with
  | .obj i, [e] => (match S[i]? with
    | some (.lst xs) => if xs.length < big then .ok .non (S.set i (.lst (xs ++ [e]))) else .err
    | _ => .err)
  | _, _ => .err
def fExtend : D → List D → Sto → ER := fun d ds S => match d, ds with
  | .obj i, [e] => (match S[i]?, seqM S e with
    | some (.lst xs), some ys => if xs.length + ys.length ≤ big then .ok .non (S.set i (.lst (xs ++ ys))) else .err
    | _, _ => .err)
  | _, _ => .err
def fPop : D → List D → Sto → ER := fun d ds S => match d, ds with
  | .obj i, [] => (match S[i]? with
    | some (.lst xs) => (match xs[xs.length - 1]? with
      | some y => .ok y (S.set i (.lst xs.dropLast))
      | none => .err)
    | _ => .err)
  | _, _ => .err
def fPopAt : D → List D → Sto → ER := fun d ds S => match d, ds with
  | .obj i, [.int k] => (match S[i]? with
    | some (.lst xs) => if 0 ≤ k ∧ k < xs.length ∧ k ≤ 100000 then (match xs[k.toNat]? with
      | some y => .ok y (S.set i (.lst (xs.eraseIdx k.toNat)))
      | none => .err) else .err
    | _ => .err)
  | _, _ => .err
def fReverse : D → List D → Sto → ER := fun d ds S => match d, ds with
  | .obj i, [] => (match S[i]? with
    | some (.lst xs) => .ok .non (S.set i (.lst xs.reverse))
    | _ => .err)
  | _, _ => .err
section
variable {K : PySem.W.Frag}
theorem sim_append : SimM K rAppend fAppend := fun H0 H rho S W d ds v vs s rd rs Q q => by
  unfold fAppend at q
  split at q
  · split at q
    · rename_i i e xs hx
      split at q
      · rename_i hl
        obtain ⟨w, rfl, re⟩ := reps1 rs
        obtain ⟨p, us, rfl, hp, hH, r⟩ := obj_at s hx rd
        obtain ⟨s1, t1⟩ := wr_ok s hp (r.append (.one re))
        exact ⟨p, us, w, rfl, rfl, hH, big_lt (by rw [← r.length]; exact hl), q _ _ rho s1 t1 (by simp [Rep])⟩
      · exact q.elim
    · exact q.elim
  · exact q.elim
theorem sim_extend : SimM K rExtend fExtend := fun H0 H rho S W d ds v vs s rd rs Q q => by
  unfold fExtend at q
  split at q
  · split at q
    · rename_i i e xs ys hx hy
      split at q
      · rename_i hl
        obtain ⟨w, rfl, re⟩ := reps1 rs
        obtain ⟨p, us, rfl, hp, hH, r⟩ := obj_at s hx rd
        obtain ⟨b, ws, rfl, hb, r2⟩ := seqM_at s hy re
        obtain ⟨s1, t1⟩ := wr_ok s hp (r.append r2)
        exact ⟨p, b, us, ws, rfl, rfl, hH, hb, big_le (by rw [← r.length, ← r2.length]; exact hl), q _ _ rho s1 t1 (by simp [Rep])⟩
      · exact q.elim
    · exact q.elim
  · exact q.elim
theorem sim_pop : SimM K rPop fPop := fun H0 H rho S W d ds v vs s rd rs Q q => by
  unfold fPop at q
  split at q
  · split at q
    · rename_i i xs hx
      split at q
      · rename_i y hy
        have e0 : vs = [] := by simpa [Reps] using rs
        subst e0
        obtain ⟨p, us, rfl, hp, hH, r⟩ := obj_at s hx rd
        obtain ⟨z, hz, rz⟩ := r.get hy
        obtain ⟨s1, t1⟩ := wr_ok s hp r.dropLast
        exact ⟨p, us, z, rfl, rfl, hH, by rw [← r.length]; exact hz, q _ _ rho s1 t1 (Rep.keep s t1 _ _ rz)⟩
      · exact q.elim
    · exact q.elim
  · exact q.elim
theorem sim_popAt : SimM K rPopAt fPopAt := fun H0 H rho S W d ds v vs s rd rs Q q => by
  unfold fPopAt at q
  split at q
  · rename_i i k
    split at q
    · rename_i xs hx
      split at q
      · rename_i hk
        split at q
        · rename_i y hy
          obtain ⟨w, rfl, re⟩ := reps1 rs
          simp only [Rep] at re
          subst re
          obtain ⟨p, us, rfl, hp, hH, r⟩ := obj_at s hx rd
          obtain ⟨z, hz, rz⟩ := r.get hy
          obtain ⟨s1, t1⟩ := wr_ok s hp (r.eraseIdx k.toNat)
          have hk2 : k.toNat < us.length := by rw [← r.length]; omega
          have hix : ixN us.length k = some k.toNat := by
            unfold ixN
            rw [if_pos hk.1, if_pos (by rw [← r.length]; exact hk.2.1)]
          exact ⟨p, us, k, k.toNat, z, rfl, rfl, hH, by omega, by omega, (ixN_seq hix).1, hz, q _ _ rho s1 t1 (Rep.keep s t1 _ _ rz)⟩
        · exact q.elim
      · exact q.elim
    · exact q.elim
  · exact q.elim
theorem sim_reverse : SimM K rReverse fReverse := fun H0 H rho S W d ds v vs s rd rs Q q => by
  unfold fReverse at q
  split at q
  · split at q
    · rename_i i xs hx
      have e0 : vs = [] := by simpa [Reps] using rs
      subst e0
      obtain ⟨p, us, rfl, hp, hH, r⟩ := obj_at s hx rd
      obtain ⟨s1, t1⟩ := wr_ok s hp r.reverse
      exact ⟨p, us, rfl, rfl, hH, q _ _ rho s1 t1 (by simp [Rep])⟩
    · exact q.elim
  · exact q.elim
end
end Ab

end
section
set_option Elab.async false
set_option linter.all false
set_option maxRecDepth 100000
namespace Ab
open PySem PySem.Spec PyProof.Rows L2

mutual
def beqD : D → D → Bool
  | .non, .non => true
  | .bl a, .bl b => a == b
  | .int a, .int b => a == b
  | .str a, .str b => a == b
  | .tup xs, .tup ys => beqDs xs ys
  | .lst f xs, .lst g ys => f == g && beqDs xs ys
  | .emp f, .emp g => f == g
  | .obj i, .obj j => i == j
  | _, _ => false
def beqDs : List D → List D → Bool
  | [], [] => true
  | x :: xs, y :: ys => beqD x y && beqDs xs ys
  | _, _ => false
end
mutual
theorem beqD_eq : ∀ a b : D, beqD a b = true → a = b
  | .non, b, h => by cases b <;> simp [beqD] at h ⊢
  | .bl _, b, h => by cases b <;> simp [beqD] at h ⊢; exact h
  | .int _, b, h => by cases b <;> simp [beqD] at h ⊢; exact h
  | .str _, b, h => by cases b <;> simp [beqD] at h ⊢; exact h
  | .tup xs, b, h => by
    cases b <;> simp [beqD] at h ⊢
    exact beqDs_eq xs _ h
  | .lst f xs, b, h => by
    cases b <;> simp [beqD] at h ⊢
    exact ⟨h.1, beqDs_eq xs _ h.2⟩
  | .emp _, b, h => by cases b <;> simp [beqD] at h ⊢; exact h
  | .obj _, b, h => by cases b <;> simp [beqD] at h ⊢; exact h
theorem beqDs_eq : ∀ a b : List D, beqDs a b = true → a = b
  | [], [], _ => rfl
  | [], _ :: _, h => by simp [beqDs] at h
  | _ :: _, [], h => by simp [beqDs] at h
  | x :: xs, y :: ys, h => by
    simp only [beqDs, Bool.and_eq_true] at h
    rw [beqD_eq x y h.1, beqDs_eq xs ys h.2]
end
mutual
theorem beqD_refl : ∀ a : D, beqD a a = true
  | .non => rfl
  | .bl _ => by simp [beqD]
  | .int _ => by simp [beqD]
  | .str _ => by simp [beqD]
  | .tup xs => by simp [beqD, beqDs_refl xs]
  | .lst _ xs => by simp [beqD, beqDs_refl xs]
  | .emp _ => by simp [beqD]
  | .obj _ => by simp [beqD]
theorem beqDs_refl : ∀ a : List D, beqDs a a = true
  | [] => rfl
  | x :: xs => by simp [beqDs, beqD_refl x, beqDs_refl xs]
end
/-- the i-th thing of the store is the list ds -/
def isAt (i : Nat) (ds : List D) (S : Sto) : Bool := match S[i]? with
  | some (.lst ys) => beqDs ds ys
  | _ => false
theorem isAt_ok {i : Nat} {ds : List D} {S : Sto} (h : isAt i ds S = true) : S[i]? = some (.lst ds) := by
  unfold isAt at h
  split at h
  · rename_i ys e
    rw [beqDs_eq _ _ h]; exact e
  · cases h
/-- the walk J goes over the items ds while the store keeps ck -/
structure ItSim (K : PySem.W.Frag) (H0 : Hp) (J : It) (ds : List D) (ck : Sto → Bool) (Src : Hp → List Addr → Sto → Prop) : Prop where
  go : ∀ (j : Nat) (d : D) H rho S, ds[j]? = some d → SOk K H0 H rho S → Src H rho S → ck S = true → J.go j H ∧ ∀ x H', J.yld j H x H' → SOk K H0 H' rho S ∧ Stp H rho H' rho ∧ Rep K H0 H' rho d x
  stop : ∀ H rho S, SOk K H0 H rho S → Src H rho S → ck S = true → J.stop ds.length H
  keep : ∀ H rho S H' rho' S', SOk K H0 H rho S → Src H rho S → SOk K H0 H' rho' S' → Stp H rho H' rho' → ck S' = true → Src H' rho' S'
inductive IR where
  | ok (ds : List D) (ck : Sto → Bool) (S : Sto) | ex (c : Str) (S : Sto) | err
abbrev IM := Gam → Sto → IR
def IPost (K : PySem.W.Frag) (H0 H : Hp) (rho : List Addr) (W : Value → Option Addr → Hp → Prop) (r : IR) (R : It → Hp → Prop) : Prop := match r with
  | .ok ds ck S' => ∀ J H' rho' Src, SOk K H0 H' rho' S' → Stp H rho H' rho' → ItSim K H0 J ds ck Src → Src H' rho' S' → R J H'
  | .ex c S' => ∀ H' rho', SOk K H0 H' rho' S' → Stp H rho H' rho' → W (.ref (He.ga K c)) none H'
  | .err => False
def SimI (K : PySem.W.Frag) (W : WX) (wi : TI) (m : IM) : Prop := ∀ H0 G S sg H rho, Sat K H0 G S sg H rho → ∀ R : It → Hp → Prop, IPost K H0 H rho (fun c d h => W c d sg h) (m G S) R → wi sg H R
def JI (X : Cx) (W : WX) (tg iter : Expr) (m : IM) : Prop := ∃ wi, PI X tg iter wi ∧ SimI X.K W wi m
def ER.bindI (r : ER) (k : D → Sto → IR) : IR := match r with
  | .ok d S => k d S
  | .ex c S => .ex c S
  | .err => .err
def AR.bindI (r : AR) (k : List D → Sto → IR) : IR := match r with
  | .ok d S => k d S
  | .ex c S => .ex c S
  | .err => .err
section
variable {K : PySem.W.Frag} {H0 H H1 : Hp} {rho rho1 : List Addr} {W : Value → Option Addr → Hp → Prop}
theorem IPost.step {r : IR} {R : It → Hp → Prop} (t : Stp H rho H1 rho1) (h : IPost K H0 H rho W r R) : IPost K H0 H1 rho1 W r R := by
  cases r with
  | ok ds ck S => exact fun J H' rho' Src s t' => h J H' rho' Src s (t.trans t')
  | ex c S => exact fun H' rho' s t' => h H' rho' s (t.trans t')
  | err => exact h
theorem bindEI {r : ER} {k : D → Sto → IR} {R : It → Hp → Prop} {Q : VK} (h : IPost K H0 H rho W (r.bindI k) R)
    (g : ∀ d S1 v H1 rho1, SOk K H0 H1 rho1 S1 → Stp H rho H1 rho1 → Rep K H0 H1 rho1 d v → IPost K H0 H1 rho1 W (k d S1) R → Q v H1) : EPost K H0 H rho W r Q := by
  cases r with
  | ok d S' => exact fun v H' rho' s t r => g d S' v H' rho' s t r (IPost.step t h)
  | ex c S' => exact h
  | err => exact h
theorem bindAI {r : AR} {k : List D → Sto → IR} {R : It → Hp → Prop} {Q : List V → Hp → Prop} (h : IPost K H0 H rho W (r.bindI k) R)
    (g : ∀ d S1 v H1 rho1, SOk K H0 H1 rho1 S1 → Stp H rho H1 rho1 → Reps K H0 H1 rho1 d v → IPost K H0 H1 rho1 W (k d S1) R → Q v H1) : APost K H0 H rho W r Q := by
  cases r with
  | ok d S' => exact fun v H' rho' s t r => g d S' v H' rho' s t r (IPost.step t h)
  | ex c S' => exact h
  | err => exact h
end
def always : Sto → Bool := fun _ => true
/-- what a for walks: a list (of ours: while it stays), a tuple -/
def iSeq (m : EM) : IM := fun G S => (m G S).bindI fun d S1 => match d with
  | .lst _ xs => .ok xs always S1
  | .obj i => (match S1[i]? with
    | some (.lst xs) => .ok xs (isAt i xs) S1
    | _ => .err)
  | _ => .err
def iTupM (m : EM) : IM := fun G S => (m G S).bindI fun d S1 => match d with
  | .tup xs => .ok xs always S1
  | _ => .err
theorem sqL_inj {X : Cx} {H : Hp} {a : Addr} {xs ys : List V} (h1 : SqL X.K H a xs) (h2 : ∀ zs, SqL X.K H a zs → zs = xs) (h3 : SqL X.K H a ys) : ys = xs := h2 ys h3
section
variable {K : PySem.W.Frag} {H0 : Hp}
theorem it_list {a : Addr} {ds : List D} : ItSim K H0 (Itl K a) ds always (fun H rho _ => ∃ vs, FL K H rho a vs ∧ Reps K H0 H rho ds vs) where
  go := fun j d H rho S hj s ⟨vs, hf, r⟩ _ => by
    obtain ⟨v, hv, rv⟩ := r.get hj
    exact ⟨⟨vs, v, hf.sq, hv⟩, fun x H' ⟨e, q⟩ => by
      subst e
      have := q vs hf.sq
      rw [hv] at this; cases this
      exact ⟨s, Stp.refl s, rv⟩⟩
  stop := fun H rho S s ⟨vs, hf, r⟩ _ => ⟨vs, hf.sq, by rw [r.length]; exact Nat.le_refl _⟩
  keep := fun H rho S H' rho' S' s ⟨vs, hf, r⟩ s' t _ => ⟨vs, hf.keep s t, Reps.keep s t _ _ r⟩
theorem it_obj {a : Addr} {i : Nat} {ds : List D} : ItSim K H0 (Itl K a) ds (isAt i ds) (fun H rho S => rho[i]? = some a) where
  go := fun j d H rho S hj s hi hc => by
    obtain ⟨b, e, vs, hH, r⟩ := s.at_ i _ (isAt_ok hc)
    rw [hi] at e; cases e
    obtain ⟨v, hv, rv⟩ := r.get hj
    exact ⟨⟨vs, v, .of hH, hv⟩, fun x H' ⟨e, q⟩ => by
      subst e
      have := q vs (.of hH)
      rw [hv] at this; cases this
      exact ⟨s, Stp.refl s, rv⟩⟩
  stop := fun H rho S s hi hc => by
    obtain ⟨b, e, vs, hH, r⟩ := s.at_ i _ (isAt_ok hc)
    rw [hi] at e; cases e
    exact ⟨vs, .of hH, by rw [r.length]; exact Nat.le_refl _⟩
  keep := fun H rho S H' rho' S' s hi s' t _ => by
    obtain ⟨⟨r, rfl, _⟩, _, _⟩ := t
    rw [List.getElem?_append_left (List.getElem?_eq_some_iff.mp hi).1]; exact hi
theorem it_tup {a : Addr} {ds : List D} : ItSim K H0 (Itt K a) ds always (fun H rho _ => ∃ vs, SqT K H a vs ∧ Reps K H0 H rho ds vs) where
  go := fun j d H rho S hj s ⟨vs, hf, r⟩ _ => by
    obtain ⟨v, hv, rv⟩ := r.get hj
    exact ⟨⟨vs, v, hf, hv⟩, fun x H' ⟨e, q⟩ => by
      subst e
      have := q vs hf
      rw [hv] at this; cases this
      exact ⟨s, Stp.refl s, rv⟩⟩
  stop := fun H rho S s ⟨vs, hf, r⟩ _ => ⟨vs, hf, by rw [r.length]; exact Nat.le_refl _⟩
  keep := fun H rho S H' rho' S' s ⟨vs, hf, r⟩ s' t _ => ⟨vs, sqT_keep s t hf, Reps.keep s t _ _ r⟩
/-- the ints lo, lo + 1, .. -/
def rgD (lo : Int) (n : Nat) : List D := (List.range n).map fun (i : Nat) => D.int (lo + i)
theorem rgD_get {lo : Int} {n j : Nat} {d : D} (h : (rgD lo n)[j]? = some d) : j < n ∧ d = .int (lo + j) := by
  unfold rgD at h
  rw [List.getElem?_map] at h
  by_cases hj : j < n
  · rw [List.getElem?_range hj] at h
    exact ⟨hj, (Option.some.inj h).symm⟩
  · rw [List.getElem?_eq_none (by simpa using hj)] at h
    cases h
theorem it_range {lo : Int} {n : Nat} : ItSim K H0 (Itr lo n) (rgD lo n) always (fun _ _ _ => True) where
  go := fun j d H rho S hj s _ _ => by
    obtain ⟨h1, rfl⟩ := rgD_get hj
    exact ⟨h1, fun x H' ⟨e, q⟩ => by subst e q; exact ⟨s, Stp.refl s, by simp [Rep]⟩⟩
  stop := fun H rho S s _ _ => by simp [Itr, rgD]
  keep := fun H rho S H' rho' S' s _ s' t _ => trivial
/-- lo, lo + c, .. (n of them) -/
def rgC (lo c : Int) (n : Nat) : List D := (List.range n).map fun (i : Nat) => D.int (lo + (i : Int) * c)
theorem it_rangeC {lo c : Int} {n : Nat} : ItSim K H0 (Itc lo c n) (rgC lo c n) always (fun _ _ _ => True) where
  go := fun j d H rho S hj s _ _ => by
    unfold rgC at hj
    rw [List.getElem?_map] at hj
    by_cases hn : j < n
    · rw [List.getElem?_range hn] at hj
      cases hj
      exact ⟨hn, fun x H' ⟨e, q⟩ => by subst e q; exact ⟨s, Stp.refl s, by simp [Rep]⟩⟩
    · rw [List.getElem?_eq_none (by simpa using hn)] at hj
      cases hj
  stop := fun H rho S s _ _ => by simp [Itc, rgC]
  keep := fun H rho S H' rho' S' s _ s' t _ => trivial
/-- the signs of a text -/
def sgD (x : Str) : List D := x.cps.toList.map fun c => D.str ⟨#[c]⟩
theorem it_str {x : Str} : ItSim K H0 (Its x) (sgD x) always (fun _ _ _ => True) where
  go := fun j d H rho S hj s _ _ => by
    unfold sgD at hj
    rw [List.getElem?_map, Option.map_eq_some_iff] at hj
    obtain ⟨c, hc, rfl⟩ := hj
    have hl : j < x.cps.size := by
      have := (List.getElem?_eq_some_iff.mp hc).1
      simpa using this
    refine ⟨hl, fun y H' ⟨e, c', hc', q⟩ => ?_⟩
    subst e q
    rw [Array.getElem?_toList] at hc
    rw [hc'] at hc; cases hc
    exact ⟨s, Stp.refl s, by simp [Rep]⟩
  stop := fun H rho S s _ _ => by simp [Its, sgD]
  keep := fun H rho S H' rho' S' s _ s' t _ => trivial
end
section
variable {X : Cx} {W : WX} {tg a b c : Expr} {ma mb mc : EM} {p pos : Pos}
theorem ji_list (ha : JE X W a ma) : JI X W tg a (iSeq ma) := by
  obtain ⟨ta, pa, sa⟩ := ha
  refine ⟨_, pi_list pa, fun H0 G S sg H rho st R h => sa H0 G S sg H rho st _ (bindEI h fun d S1 v H1 rho1 s1 t1 r1 h1 => ?_)⟩
  split at h1
  · rename_i f xs
    simp only [Rep] at r1
    obtain ⟨a, vs, rfl, q, g, r⟩ := r1
    exact ⟨a, rfl, ⟨vs, q.sq⟩, h1 _ _ rho1 _ s1 (Stp.refl s1) it_list ⟨vs, q, r⟩⟩
  · split at h1
    · rename_i i xs hx
      obtain ⟨a, vs, rfl, hp, hH, r⟩ := obj_at s1 hx r1
      exact ⟨a, rfl, ⟨vs, .of hH⟩, h1 _ _ rho1 _ s1 (Stp.refl s1) it_obj hp⟩
    · exact h1.elim
  · exact h1.elim
theorem ji_tup (ha : JE X W a ma) : JI X W tg a (iTupM ma) := by
  obtain ⟨ta, pa, sa⟩ := ha
  refine ⟨_, pi_tup pa, fun H0 G S sg H rho st R h => sa H0 G S sg H rho st _ (bindEI h fun d S1 v H1 rho1 s1 t1 r1 h1 => ?_)⟩
  split at h1
  · rename_i xs
    obtain ⟨a, vs, rfl, q, r⟩ := tup_at r1
    exact ⟨a, rfl, ⟨vs, q⟩, h1 _ _ rho1 _ s1 (Stp.refl s1) it_tup ⟨vs, q, r⟩⟩
  · exact h1.elim
def iRg1 (a : AM) : IM := fun G S => (a G S).bindI fun ds S1 => match ds with
  | [.int n] => if n ≤ 1000000 ∧ -1000000 ≤ n then .ok (rgD 0 n.toNat) always S1 else .err
  | _ => .err
def iRg2 (a : AM) : IM := fun G S => (a G S).bindI fun ds S1 => match ds with
  | [.int m, .int n] => if n ≤ 1000000 ∧ -1000000 ≤ n ∧ m ≤ 1000000 ∧ -1000000 ≤ m then .ok (rgD m (n - m).toNat) always S1 else .err
  | _ => .err
/-- range(m, n, -1) -/
def iRg3 (a : AM) : IM := fun G S => (a G S).bindI fun ds S1 => match ds with
  | [.int m, .int n, .int c] => if c = -1 ∧ n ≤ 1000000 ∧ -1000000 ≤ n ∧ m ≤ 1000000 ∧ -1000000 ≤ m then .ok (rgC m (-1) (m - n).toNat) always S1 else .err
  | _ => .err
theorem ji_range1 {m : AM} (hg : Gl X "range") (hm : X.mg "range" = none) (ha : JA X W [a] m) (hs : starEach [a] X.env = [(false, eval a X.env)] := by rfl) : JI X W tg (.Call (.Name "range" p) [a] [] pos) (iRg1 m) := by
  obtain ⟨ta, pa, sa⟩ := ha
  refine ⟨_, pi_range1 hg hm pa hs, fun H0 G S sg H rho st R h => sa H0 G S sg H rho st _ (bindAI h fun ds S1 vs H1 rho1 s1 t1 r1 h1 => ?_)⟩
  split at h1
  · rename_i n
    split at h1
    · rename_i hn
      obtain ⟨v, rfl, r⟩ := reps1 r1
      simp only [Rep] at r
      exact ⟨n, by rw [r], by omega, by omega, h1 _ _ rho1 _ s1 (Stp.refl s1) it_range trivial⟩
    · exact h1.elim
  · exact h1.elim
theorem ji_range2 {m : AM} (hg : Gl X "range") (hm : X.mg "range" = none) (ha : JA X W [a, b] m) (hs : starEach [a, b] X.env = [(false, eval a X.env), (false, eval b X.env)] := by rfl) (hs2 : starEach [b] X.env = [(false, eval b X.env)] := by rfl) : JI X W tg (.Call (.Name "range" p) [a, b] [] pos) (iRg2 m) := by
  obtain ⟨ta, pa, sa⟩ := ha
  refine ⟨_, pi_range2 hg hm pa hs hs2, fun H0 G S sg H rho st R h => sa H0 G S sg H rho st _ (bindAI h fun ds S1 vs H1 rho1 s1 t1 r1 h1 => ?_)⟩
  split at h1
  · rename_i m n
    split at h1
    · rename_i hn
      obtain ⟨v, w, rfl, r, r'⟩ := reps2 r1
      simp only [Rep] at r r'
      exact ⟨m, n, by rw [r, r'], by omega, h1 _ _ rho1 _ s1 (Stp.refl s1) it_range trivial⟩
    · exact h1.elim
  · exact h1.elim
theorem ji_range3 {m : AM} (hg : Gl X "range") (hm : X.mg "range" = none) (ha : JA X W [a, b, c] m) (hq1 : starEach [a, b, c] X.env = (false, eval a X.env) :: starEach [b, c] X.env := by rfl) (hq2 : (backTo pos (starEach [b, c] X.env)).any (·.1) = false := by rfl) : JI X W tg (.Call (.Name "range" p) [a, b, c] [] pos) (iRg3 m) := by
  obtain ⟨ta, pa, sa⟩ := ha
  refine ⟨_, pi_range3 hg hm pa hq1 hq2, fun H0 G S sg H rho st R h => sa H0 G S sg H rho st _ (bindAI h fun ds S1 vs H1 rho1 s1 t1 r1 h1 => ?_)⟩
  split at h1
  · rename_i m n c
    split at h1
    · rename_i hn
      simp only [Reps] at r1
      obtain ⟨v1, _, rfl, e1, v2, _, rfl, e2, v3, _, rfl, e3, rfl⟩ := r1
      simp only [Rep] at e1 e2 e3
      obtain ⟨rfl, hn⟩ := hn
      exact ⟨m, n, -1, (m - n).toNat, by rw [e1, e2, e3], RgC.neg (by omega) (by omega) (by omega) (by omega), h1 _ _ rho1 _ s1 (Stp.refl s1) it_rangeC trivial⟩
    · exact h1.elim
  · exact h1.elim
def iStrM (m : EM) : IM := fun G S => (m G S).bindI fun d S1 => match d with
  | .str x => .ok (sgD x) always S1
  | _ => .err
theorem ji_str (ha : JE X W a ma) : JI X W tg a (iStrM ma) := by
  obtain ⟨ta, pa, sa⟩ := ha
  refine ⟨_, pi_str pa, fun H0 G S sg H rho st R h => sa H0 G S sg H rho st _ (bindEI h fun d S1 v H1 rho1 s1 t1 r1 h1 => ?_)⟩
  split at h1
  · rename_i x
    simp only [Rep] at r1
    exact ⟨x, r1, h1 _ _ rho1 _ s1 (Stp.refl s1) it_str trivial⟩
  · exact h1.elim
end

def forRun (ck : Sto → Bool) (body : D → SM) : List D → Gam → Sto → SR
  | [], G, S => if ck S then .nx G S else .err
  | x :: xs, G, S => if ck S then (match body x G S with
    | .nx G' S' => forRun ck body xs G' S'
    | .ct G' S' => forRun ck body xs G' S'
    | .bk G' S' => .nx G' S'
    | r => r) else .err
/-- the target stores a value -/
abbrev GM := D → Gam → Option Gam
def SimG (K : PySem.W.Frag) (g : TG) (m : GM) : Prop := ∀ H0 G S sg H rho d v G', Sat K H0 G S sg H rho → Rep K H0 H rho d v → m d G = some G' → ∀ Q : L2.St → Hp → Prop, (∀ sg', Sat K H0 G' S sg' H rho → Q sg' H) → g v sg H Q
def gmName (i : Nat) : GM := fun d G => some (G.set i (some d))
def gmTup (is : List Nat) : GM := fun d G => match d with
  | .tup xs => setAll is xs G
  | _ => none
theorem simg_name {K : PySem.W.Frag} (i : Nat) : SimG K (gName i) (gmName i) := fun H0 G S sg H rho d v G' st r e Q q => by
  simp only [gmName, Option.some.injEq] at e
  subst e
  exact q _ (st.set i r)
theorem simg_tup {K : PySem.W.Frag} (is : List Nat) : SimG K (gTup K is.length (gNames is)) (gmTup is) := fun H0 G S sg H rho d v G' st r e Q q => by
  unfold gmTup at e
  split at e
  · obtain ⟨p, vs, rfl, hp, r⟩ := tup_at r
    exact ⟨p, vs, rfl, hp, by rw [← r.length]; exact (setAll_len e).symm, names_ok st r e q⟩
  · cases e
def JG (X : Cx) (tg : Expr) (m : GM) : Prop := ∃ g, PG X tg g ∧ SimG X.K g m
def turn (g : GM) (q : SM) : D → SM := fun d G1 S2 => match g d G1 with
  | some G2 => q G2 S2
  | none => .err
def mFor (i : IM) (g : GM) (body : SM) : SM := fun G S => match i G S with
  | .ok ds ck S1 => forRun ck (turn g body) ds G S1
  | .ex c S1 => .ex c G S1
  | .err => .err
theorem for_sim {K : PySem.W.Frag} {W : WX} {wi : TI} {mi : IM} {g : TG} {gm : GM} {tb : TS} {body : SM} (hi : SimI K W wi mi) (hg : SimG K g gm) (hb : SimS K W tb body) : SimS K W (tFor wi g tb) (mFor mi gm body) := fun H0 G S sg H rho st E h => by
  refine hi H0 G S sg H rho st _ ?_
  unfold mFor turn at h
  cases e : mi G S with
  | err => rw [e] at h; exact h
  | ex c S1 =>
    rw [e] at h
    exact fun H' rho' s t => h sg H' rho' (st.step s t) t
  | ok ds ck S1 =>
    rw [e] at h
    dsimp only at h
    refine fun J H1 rho1 Src s1 t1 I src => ?_
    have h := SPost.step t1 h
    refine ⟨fun i m sg' H' => ∃ G' S' rho', Sat K H0 G' S' sg' H' rho' ∧ Src H' rho' S' ∧ m = ds.length - i ∧ i ≤ ds.length ∧ SPost K H0 H' rho' W (forRun ck (fun d G1 S2 => match gm d G1 with
      | some G2 => body G2 S2
      | none => .err) (ds.drop i) G' S') E, ⟨ds.length, G, S1, rho1, st.step s1 t1, src, by simp, Nat.zero_le _, by simpa using h⟩, ?_⟩
    rintro i m sg' H' ⟨G', S', rho', s', src', rfl, hi, p⟩
    by_cases hl : i < ds.length
    · have ed : ds.drop i = ds[i] :: ds.drop (i + 1) := List.drop_eq_getElem_cons hl
      rw [ed] at p
      simp only [forRun] at p
      split at p
      · rename_i hc'
        obtain ⟨g1, g2⟩ := I.go i ds[i] H' rho' S' (List.getElem?_eq_getElem hl) s'.s src' hc'
        refine .inr ⟨g1, fun sg2 H2 => ∃ G2 S2 rho2, Sat K H0 G2 S2 sg2 H2 rho2 ∧ Src H2 rho2 S2 ∧ SPost K H0 H2 rho2 W (forRun ck (fun d G1 S2 => match gm d G1 with
          | some G2 => body G2 S2
          | none => .err) (ds.drop (i + 1)) G2 S2) E, fun sg2 H2 ⟨G2, S2, rho2, q1, q2, q3⟩ => ⟨ds.length - (i + 1), by omega, G2, S2, rho2, q1, q2, rfl, hl, q3⟩, fun x H2 y => ?_⟩
        obtain ⟨s2, t2, r2⟩ := g2 x H2 y
        have p := SPost.step t2 p
        cases eg : gm ds[i] G' with
        | none => rw [eg] at p; exact p.elim
        | some G2 =>
          rw [eg] at p
          dsimp only at p
          have st2 := s'.step s2 t2
          refine hg H0 G' S' sg' H2 rho' ds[i] x G2 st2 r2 eg _ fun sg3 st3 => ?_
          refine hb H0 G2 S' sg3 H2 rho' st3 _ ?_
          -- the turn's end
          have goes : ∀ {G3 S3 sg4 H4 rho4}, SPost K H0 H4 rho4 W (forRun ck (fun d G1 S2 => match gm d G1 with
              | some G2 => body G2 S2
              | none => .err) (ds.drop (i + 1)) G3 S3) E → Sat K H0 G3 S3 sg4 H4 rho4 → Stp H2 rho' H4 rho4 → ∃ G2 S2 rho2, Sat K H0 G2 S2 sg4 H4 rho2 ∧ Src H4 rho2 S2 ∧ SPost K H0 H4 rho2 W (forRun ck (fun d G1 S2 => match gm d G1 with
              | some G2 => body G2 S2
              | none => .err) (ds.drop (i + 1)) G2 S2) E := fun {G3 S3 sg4 H4 rho4} p4 s4 t4 => by
            have hc4 : ck S3 := by
              cases e5 : ds.drop (i + 1) with
              | nil =>
                rw [e5] at p4
                simp only [forRun] at p4
                split at p4
                · assumption
                · exact p4.elim
              | cons d r =>
                rw [e5] at p4
                simp only [forRun] at p4
                split at p4
                · assumption
                · exact p4.elim
            exact ⟨G3, S3, rho4, s4, I.keep H' rho' S' H4 rho4 S3 s'.s src' s4.s (t2.trans t4) hc4, p4⟩
          generalize hbody : body G2 S' = z at p
          cases z with
          | nx G3 S3 => exact fun sg4 H4 rho4 s4 t4 => goes (SPost.step t4 p) s4 t4
          | ct G3 S3 => exact fun sg4 H4 rho4 s4 t4 => goes (SPost.step t4 p) s4 t4
          | bk G3 S3 => exact p
          | rt d S3 => exact p
          | ex c G3 S3 => exact p
          | err => exact p
      · exact p.elim
    · have e0 : i = ds.length := by omega
      subst e0
      rw [List.drop_length] at p
      simp only [forRun] at p
      split at p
      · rename_i hc'
        exact .inl ⟨I.stop H' rho' S' s'.s src' hc', SPost.here s' p⟩
      · exact p.elim
section
variable {X : Cx} {W : WX} {tg iter : Expr} {body : List Stmt} {mi : IM} {gm : GM} {m : SM} {pos : Pos}
theorem jg_name (i : Nat) {x : Str} {p : Pos} (hN : X.N.Nodup) (hi : X.N[i]? = some x) (hx : Loc X.env.scope x) (hf : X.fn x = true ∨ X.env.scope.names.lookup x = some .local := by first | exact .inl rfl | exact .inr rfl | assumption) : JG X (.Name x p) (gmName i) := ⟨_, pg_name hN hi hx hf, simg_name i⟩
theorem jg_tup (is : List Nat) {es : List Expr} {k : Nat} {p : Pos} (hc : X.calm = true) (h : PGs X es (gNames is)) (hn : (assignEach es X.env).length = is.length := by rfl) (hst : (assignEach es X.env).findIdx? (·.1) = none := by rfl) : JG X (.Tuple es k p) (gmTup is) := ⟨_, pg_tup hc h hn hst, simg_tup is⟩
theorem js_for (hp : PassesOwn (model X.prog X.w) X.A X.env X.xe) (hc : X.calm = true) (hi : JI X W tg iter mi) (hg : JG X tg gm) (hb : JSs X W body m) (hs : ∀ x, foldedSetIterable iter X.env x = pure x := by intro _; rfl) : JS X W (.For tg iter body [] pos) (mFor mi gm m) := by
  obtain ⟨wi, pi, si⟩ := hi
  obtain ⟨g, pg, sg⟩ := hg
  obtain ⟨tb, pb, sb⟩ := hb
  exact ⟨_, ps_for hp hc pi pg pb hs, for_sim si sg sb⟩
end

def mWhile (c : EM) (body : SM) : Nat → SM
  | 0, _, _ => .err
  | f + 1, G, S => (c G S).bindTS G fun b S1 => if b then (match body G S1 with
    | .nx G' S' => mWhile c body f G' S'
    | .ct G' S' => mWhile c body f G' S'
    | .bk G' S' => .nx G' S'
    | r => r) else .nx G S1
theorem while_sim {K : PySem.W.Frag} {W : WX} {tc : TT} {mc : EM} {tb : TS} {body : SM} (n : Nat) (hc : SimT K W tc mc) (hb : SimS K W tb body) : SimS K W (tWhile tc tb) (mWhile mc body n) := fun H0 G S sg H rho st E h => by
  refine ⟨fun m sg' H' => ∃ G' S' rho', Sat K H0 G' S' sg' H' rho' ∧ SPost K H0 H' rho' W (mWhile mc body m G' S') E, ⟨n, G, S, rho, st, h⟩, ?_⟩
  rintro m sg' H' ⟨G', S', rho', s', p⟩
  cases m with
  | zero => exact p.elim
  | succ f =>
    unfold mWhile at p
    refine hc H0 G' S' sg' H' rho' s' _ (bindTS s' p fun b S1 H1 rho1 s1 t1 p1 => ?_)
    cases b with
    | false => exact SPost.here s1 p1
    | true =>
      refine ⟨fun sg2 H2 => ∃ G2 S2 rho2, Sat K H0 G2 S2 sg2 H2 rho2 ∧ SPost K H0 H2 rho2 W (mWhile mc body f G2 S2) E, fun sg2 H2 ⟨G2, S2, rho2, q1, q2⟩ => ⟨f, Nat.lt_succ_self f, G2, S2, rho2, q1, q2⟩, ?_⟩
      refine hb H0 G' S1 sg' H1 rho1 s1 _ ?_
      rw [if_pos rfl] at p1
      generalize body G' S1 = z at p1
      cases z with
      | nx G3 S3 => exact fun sg4 H4 rho4 s4 t4 => ⟨G3, S3, rho4, s4, SPost.step t4 p1⟩
      | ct G3 S3 => exact fun sg4 H4 rho4 s4 t4 => ⟨G3, S3, rho4, s4, SPost.step t4 p1⟩
      | bk G3 S3 => exact p1
      | rt d S3 => exact p1
      | ex c G3 S3 => exact p1
      | err => exact p1
section
variable {X : Cx} {W : WX} {c : Expr} {body : List Stmt} {mc : EM} {m : SM} {pos : Pos}
theorem js_while (n : Nat) (hp : PassesOwn (model X.prog X.w) X.A X.env X.xe) (hc : JT X W c mc) (hb : JSs X W body m) : JS X W (.While c body [] pos) (mWhile mc m n) := by
  obtain ⟨tc, pc, sc⟩ := hc
  obtain ⟨tb, pb, sb⟩ := hb
  exact ⟨_, ps_while hp pc pb, while_sim n sc sb⟩
end
end Ab

end
section
set_option Elab.async false
set_option linter.all false
set_option maxRecDepth 100000
namespace Ab
open PySem PySem.Spec PyProof.Rows L2

def cE (K : PySem.W.Frag) (W : WX) (m : EM) : TE := fun sg H Q => ∃ H0 G S rho, Sat K H0 G S sg H rho ∧ EPost K H0 H rho (fun c d h => W c d sg h) (m G S) Q
def cT (K : PySem.W.Frag) (W : WX) (m : EM) : TT := fun sg H Q => ∃ H0 G S rho, Sat K H0 G S sg H rho ∧ TPost K H0 H rho (fun c d h => W c d sg h) (m G S) Q
theorem JE.can {X : Cx} {W : WX} {e : Expr} {m : EM} (h : JE X W e m) : PE X e (cE X.K W m) := by
  obtain ⟨te, p, s⟩ := h
  exact ⟨fun pins sh sg H Q I ⟨H0, G, S, rho, st, q⟩ => p.run pins sh sg H Q I (s H0 G S sg H rho st Q q)⟩
theorem JT.can {X : Cx} {W : WX} {e : Expr} {m : EM} (h : JT X W e m) : PT X e (cT X.K W m) := by
  obtain ⟨te, p, s⟩ := h
  exact ⟨fun pins sh sg H Q I ⟨H0, G, S, rho, st, q⟩ => p.run pins sh sg H Q I (s H0 G S sg H rho st Q q)⟩
theorem sim_cE {K : PySem.W.Frag} {W : WX} {m : EM} : SimE K W (cE K W m) m := fun H0 G S sg H rho st Q h => ⟨H0, G, S, rho, st, h⟩
theorem sim_cT {K : PySem.W.Frag} {W : WX} {m : EM} : SimT K W (cT K W m) m := fun H0 G S sg H rho st Q h => ⟨H0, G, S, rho, st, h⟩

def wipeG (G : Gam) : List Nat → Gam
  | [] => G
  | v :: vs => (wipeG G vs).set v none
theorem Sat.none {K : PySem.W.Frag} {H0 H : Hp} {rho : List Addr} {G : Gam} {S : Sto} {sg : L2.St} (a : Sat K H0 G S sg H rho) (i : Nat) : Sat K H0 (G.set i none) S (sg.set i none) H rho := by
  refine ⟨a.s, by simp [a.len], fun j e h => ?_⟩
  by_cases q : i = j
  · subst q
    by_cases hl : i < G.length
    · rw [List.getElem?_set_self hl] at h; cases h
    · rw [List.getElem?_eq_none (by simpa using hl)] at h; cases h
  · rw [List.getElem?_set_ne q] at h
    obtain ⟨w, e1, e2⟩ := a.sl j e h
    exact ⟨w, by rw [List.getElem?_set_ne q]; exact e1, e2⟩
theorem Sat.wipe {K : PySem.W.Frag} {H0 H : Hp} {rho : List Addr} {G : Gam} {S : Sto} {sg : L2.St} (a : Sat K H0 G S sg H rho) : ∀ vs : List Nat, Sat K H0 (wipeG G vs) S (L2.wipe sg vs) H rho
  | [] => a
  | v :: vs => (Sat.wipe a vs).none v
theorem wipe_set {sg : L2.St} {j : Nat} {x : Option V} : ∀ {vs : List Nat}, j ∈ vs → L2.wipe (sg.set j x) vs = L2.wipe sg vs
  | [], h => by cases h
  | v :: vs, h => by
    show (L2.wipe (sg.set j x) vs).set v none = (L2.wipe sg vs).set v none
    by_cases hj : j ∈ vs
    · rw [wipe_set hj]
    · have e : j = v := (List.mem_cons.mp h).resolve_right hj
      subst e
      have : ∀ ws : List Nat, j ∉ ws → L2.wipe (sg.set j x) ws = (L2.wipe sg ws).set j x := by
        intro ws
        induction ws with
        | nil => intro _; rfl
        | cons w ws ih =>
          intro hn
          simp only [List.mem_cons, not_or] at hn
          show (L2.wipe (sg.set j x) ws).set w none = ((L2.wipe sg ws).set w none).set j x
          rw [ih hn.2, List.set_comm _ _ hn.1]
      rw [this vs hj, List.set_set]
theorem wipe_idem (sg : L2.St) : ∀ vs : List Nat, L2.wipe (L2.wipe sg vs) vs = L2.wipe sg vs := by
  have key : ∀ (us vs : List Nat), (∀ u ∈ us, u ∈ vs) → L2.wipe (L2.wipe sg us) vs = L2.wipe sg vs := by
    intro us
    induction us with
    | nil => intro vs _; rfl
    | cons u us ih =>
      intro vs h
      show L2.wipe ((L2.wipe sg us).set u none) vs = _
      rw [wipe_set (h u List.mem_cons_self)]
      exact ih vs fun w hw => h w (List.mem_cons_of_mem _ hw)
  exact fun vs => key vs vs fun _ h => h
/-- the target stores within the block's own names alone -/
def KeepsW (g : TG) (vs : List Nat) : Prop := ∀ (v : V) (sg : L2.St) (H : Hp) (Q : L2.St → Hp → Prop), g v sg H Q → g v sg H (fun sg' H' => L2.wipe sg' vs = L2.wipe sg vs ∧ Q sg' H')
theorem KeepsW.use {g : TG} {vs : List Nat} {v : V} {sg : L2.St} {H : Hp} {Q : L2.St → Hp → Prop} (h : KeepsW g vs) (q : g v (L2.wipe sg vs) H Q) : g v (L2.wipe sg vs) H (fun sg' H' => L2.wipe sg' vs = L2.wipe sg vs ∧ Q sg' H') := by
  have := h v _ H Q q
  rw [wipe_idem] at this
  exact this
theorem keepsW_name {j : Nat} {vs : List Nat} (h : j ∈ vs) : KeepsW (gName j) vs := fun v sg H Q q => ⟨wipe_set h, q⟩
theorem keepsW_names : ∀ {is : List Nat} {vs : List Nat}, (∀ i ∈ is, i ∈ vs) → ∀ (ws : List V) (sg : L2.St) (H : Hp) (Q : L2.St → Hp → Prop), gNames is ws sg H Q → gNames is ws sg H (fun sg' H' => L2.wipe sg' vs = L2.wipe sg vs ∧ Q sg' H')
  | [], vs, _, ws, sg, H, Q, q => ⟨q.1, rfl, q.2⟩
  | i :: is, vs, h, ws, sg, H, Q, q => by
    obtain ⟨v, r, e, q⟩ := q
    refine ⟨v, r, e, ?_⟩
    have q2 := keepsW_names (is := is) (vs := vs) (fun j hj => h j (List.mem_cons_of_mem _ hj)) r (sg.set i (some v)) H Q q
    rw [wipe_set (h i List.mem_cons_self)] at q2
    exact q2
theorem keepsW_tup {K : PySem.W.Frag} {is : List Nat} {n : Nat} {vs : List Nat} (h : ∀ i ∈ is, i ∈ vs) : KeepsW (gTup K n (gNames is)) vs := fun v sg H Q q => by
  obtain ⟨a, xs, e, h1, h2, q⟩ := q
  exact ⟨a, xs, e, h1, h2, keepsW_names h xs sg H Q q⟩

/-- the turns of a comprehension whose new list is the store's n-th thing -/
def compRun (ck : Sto → Bool) (n : Nat) (t e : D → Sto → ER) : List D → Sto → Option Sto
  | [], S => if ck S then some S else none
  | x :: xs, S => if ck S then (match t x S with
    | .ok (.bl b) S1 => if b then (match e x S1 with
        | .ok y S2 => (match S2[n]? with
          | some (.lst acc) => if acc.length < big then compRun ck n t e xs (S2.set n (.lst (acc ++ [y]))) else none
          | _ => none)
        | _ => none) else compRun ck n t e xs S1
    | _ => none) else none
def eYes : EM := fun _ S => .ok (.bl true) S
mutual
def objLt (n : Nat) : D → Bool
  | .tup xs => objLts n xs
  | .lst _ xs => objLts n xs
  | .obj i => decide (i < n)
  | _ => true
def objLts (n : Nat) : List D → Bool
  | [] => true
  | d :: ds => objLt n d && objLts n ds
end
def oLt (n : Nat) : O → Bool
  | .lst xs => objLts n xs
  | .dct kvs => objLts n (kvs.map (·.2))
  | .dcs kvs => objLts n (kvs.map (·.2))
  | .tbl _ => true
  | .tpx xs => objLts n xs
  | .ins _ fs => objLts n (fs.map (·.2))
mutual
theorem objLt_imm (n : Nat) : ∀ d : D, imm d = true → objLt n d = true
  | .non, _ => rfl
  | .bl _, _ => rfl
  | .int _, _ => rfl
  | .str _, _ => rfl
  | .tup xs, h => by simp only [imm] at h; simp only [objLt]; exact objLts_imms n xs h
  | .lst _ _, h => by simp [imm] at h
  | .emp _, h => by simp [imm] at h
  | .obj _, h => by simp [imm] at h
theorem objLts_imms (n : Nat) : ∀ ds : List D, imms ds = true → objLts n ds = true
  | [], _ => rfl
  | d :: ds, h => by
    simp only [imms, Bool.and_eq_true] at h
    simp [objLts, objLt_imm n d h.1, objLts_imms n ds h.2]
end
section
variable {K : PySem.W.Frag} {H0 H : Hp} {r : List Addr} {a : Addr}
mutual
theorem rep_drop : ∀ (d : D) (v : V), objLt r.length d = true → Rep K H0 H (r ++ [a]) d v → Rep K H0 H r d v
  | .non, v, _, q => by simpa [Rep] using q
  | .bl _, v, _, q => by simpa [Rep] using q
  | .int _, v, _, q => by simpa [Rep] using q
  | .str _, v, _, q => by simpa [Rep] using q
  | .tup xs, v, h, q => by
    simp only [objLt] at h
    simp only [Rep] at q ⊢
    obtain ⟨b, vs, e, z, q⟩ := q
    exact ⟨b, vs, e, z, reps_drop xs vs h q⟩
  | .lst f xs, v, h, q => by
    simp only [objLt] at h
    simp only [Rep] at q ⊢
    obtain ⟨b, vs, e, z, g, q⟩ := q
    refine ⟨b, vs, e, ?_, fun t => ⟨(g t).1, fun m => (g t).2.1 (List.mem_append_left _ m), (g t).2.2⟩, reps_drop xs vs h q⟩
    rcases z with ⟨z, n⟩ | z
    · exact .inl ⟨z, fun m => n (List.mem_append_left _ m)⟩
    · exact .inr z
  | .emp f, v, _, q => by
    simp only [Rep] at q ⊢
    obtain ⟨b, e, z, n, g⟩ := q
    exact ⟨b, e, z, fun m => n (List.mem_append_left _ m), g⟩
  | .obj i, v, h, q => by
    simp only [objLt, decide_eq_true_eq] at h
    simp only [Rep] at q ⊢
    obtain ⟨b, e, z⟩ := q
    rw [List.getElem?_append_left h] at z
    exact ⟨b, e, z⟩
theorem reps_drop : ∀ (ds : List D) (vs : List V), objLts r.length ds = true → Reps K H0 H (r ++ [a]) ds vs → Reps K H0 H r ds vs
  | [], vs, _, q => by simpa [Reps] using q
  | d :: ds, vs, h, q => by
    simp only [objLts, Bool.and_eq_true] at h
    simp only [Reps] at q ⊢
    obtain ⟨v, w, e, q1, q2⟩ := q
    exact ⟨v, w, e, rep_drop d v h.1 q1, reps_drop ds w h.2 q2⟩
end
theorem SOk.drop {S : Sto} {x : O} (s : SOk K H0 H (r ++ [a]) (S ++ [x])) (h : S.all (oLt S.length) = true) : SOk K H0 H r S := by
  have hl : r.length = S.length := by have := s.len; simpa using this
  refine ⟨hl, (List.nodup_append.mp s.nd).1, fun b hb => s.new b (List.mem_append_left _ hb), s.ext, fun i o ho => ?_⟩
  have hi : i < S.length := (List.getElem?_eq_some_iff.mp ho).1
  obtain ⟨b, e, q⟩ := s.at_ i o (by rw [List.getElem?_append_left hi]; exact ho)
  rw [List.getElem?_append_left (by omega)] at e
  refine ⟨b, e, ?_⟩
  have hb := List.all_eq_true.mp h o (List.mem_of_getElem? ho)
  cases o with
  | lst xs =>
    obtain ⟨vs, e, q⟩ := q
    exact ⟨vs, e, reps_drop xs vs (by rw [hl]; exact hb) q⟩
  | dct kvs =>
    obtain ⟨ws, e, e2, q⟩ := q
    exact ⟨ws, e, e2, reps_drop _ _ (by rw [hl]; exact hb) q⟩
  | dcs kvs =>
    obtain ⟨ws, e, e2, q⟩ := q
    exact ⟨ws, e, e2, reps_drop _ _ (by rw [hl]; exact hb) q⟩
  | tbl b => exact q
  | tpx xs =>
    obtain ⟨ob, vs, e, e2, e3, q⟩ := q
    exact ⟨ob, vs, e, e2, e3, reps_drop _ _ (by rw [hl]; exact hb) q⟩
  | ins c fs =>
    obtain ⟨dx, ws, e, e2, q⟩ := q
    exact ⟨dx, ws, e, e2, reps_drop _ _ (by rw [hl]; exact hb) q⟩
end
/-- a comprehension's end: a list of ours, or one that nobody changes -/
def compEnd (o : Bool) (n : Nat) (S : Sto) : ER := if o then .ok (.obj n) S else if S.length = n + 1 ∧ (S.take n).all (oLt n) = true then (match S[n]? with
  | some (.lst acc) => if objLts n acc then .ok (.lst true acc) (S.take n) else .err
  | _ => .err) else .err
/-- a comprehension: what is walked, the target, the test, the element; own: the block's own names -/
def mComp (o : Bool) (i : IM) (g : GM) (t e : EM) (own : List Nat) : EM := fun G S => match i G S with
  | .ok ds ck S1 => (match compRun ck S1.length (fun d S2 => match g d (wipeG G own) with
      | some G2 => t G2 S2
      | none => .err) (fun d S2 => match g d (wipeG G own) with
      | some G2 => e G2 S2
      | none => .err) ds (S1 ++ [.lst []]) with
    | some S2 => compEnd o S1.length S2
    | none => .err)
  | .ex c S1 => .ex c S1
  | .err => .err
abbrev W0 : WX := fun _ _ _ _ => False
theorem comp_sim {K : PySem.W.Frag} {W : WX} {o : Bool} {wi : TI} {mi : IM} {g : TG} {gm : GM} {tt : TT} {mt : EM} {te : TE} {me : EM} {own : List Nat} (hi : SimI K W wi mi) (hg : SimG K g gm) (hk : KeepsW g own) (ht : SimT K W0 tt mt) (he : SimE K W0 te me) :
    SimE K W (tLc wi g tt te own) (mComp o mi gm mt me own) := fun H0 G S sg H rho st Q h => by
  refine hi H0 G S sg H rho st _ ?_
  unfold mComp at h
  cases e : mi G S with
  | err => rw [e] at h; exact h
  | ex c S1 => rw [e] at h; exact h
  | ok ds ck S1 =>
    rw [e] at h
    dsimp only at h
    generalize hT : (fun (d : D) S2 => match gm d (wipeG G own) with
      | some G2 => mt G2 S2
      | none => ER.err) = T at h
    generalize hE : (fun (d : D) S2 => match gm d (wipeG G own) with
      | some G2 => me G2 S2
      | none => ER.err) = Ef at h
    have ckOf : ∀ {l S' r}, compRun ck S1.length T Ef l S' = some r → ck S' = true := fun {l S' r} hr => by
      cases l with
      | nil =>
        simp only [compRun] at hr
        split at hr
        · assumption
        · cases hr
      | cons d l =>
        simp only [compRun] at hr
        split at hr
        · assumption
        · cases hr
    cases er : compRun ck S1.length T Ef ds (S1 ++ [.lst []]) with
    | none => rw [er] at h; exact h.elim
    | some SF =>
      rw [er] at h
      dsimp only at h
      refine fun J H1 rho1 Src s1 t1 I src => fun Dl hD => ?_
      have h := EPost.step t1 h
      have s1d : SOk K H0 (upd H1 Dl (.lst [])) (rho1 ++ [Dl]) (S1 ++ [.lst []]) := s1.newObj hD ⟨[], upd_same, .nil⟩
      have t1d := Stp.newObj s1 hD (.lst [])
      have st1 := (st.step s1 t1).step s1d t1d
      have hn1 : (rho1 ++ [Dl])[S1.length]? = some Dl := by rw [← s1.len]; simp
      refine ⟨fun i m H' => ∃ S' rho', SOk K H0 H' rho' S' ∧ Stp (upd H1 Dl (.lst [])) (rho1 ++ [Dl]) H' rho' ∧ Src H' rho' S' ∧ rho'[S1.length]? = some Dl ∧ m = ds.length - i ∧ i ≤ ds.length ∧ compRun ck S1.length T Ef (ds.drop i) S' = some SF,
        ⟨ds.length, _, _, s1d, Stp.refl s1d, I.keep H1 rho1 S1 _ _ _ s1 src s1d t1d (ckOf er), hn1, by simp, Nat.zero_le _, by simpa using er⟩, ?_⟩
      rintro i m H' ⟨S', rho', s', t', src', hn', rfl, hi', p⟩
      have hck : ck S' = true := ckOf p
      by_cases hl : i < ds.length
      · have ed : ds.drop i = ds[i] :: ds.drop (i + 1) := List.drop_eq_getElem_cons hl
        rw [ed] at p
        simp only [compRun] at p
        rw [if_pos hck] at p
        obtain ⟨g1, g2⟩ := I.go i ds[i] H' rho' S' (List.getElem?_eq_getElem hl) s' src' hck
        refine .inr ⟨g1, fun H2 => ∃ S2 rho2, SOk K H0 H2 rho2 S2 ∧ Stp (upd H1 Dl (.lst [])) (rho1 ++ [Dl]) H2 rho2 ∧ Src H2 rho2 S2 ∧ rho2[S1.length]? = some Dl ∧ compRun ck S1.length T Ef (ds.drop (i + 1)) S2 = some SF,
          fun H2 ⟨S2, rho2, a1, a2, a3, a4, a5⟩ => ⟨ds.length - (i + 1), by omega, S2, rho2, a1, a2, a3, a4, rfl, hl, a5⟩, fun x H2 y => ?_⟩
        obtain ⟨s2, t2, r2⟩ := g2 x H2 y
        rw [← hT, ← hE] at p
        dsimp only at p
        cases eg : gm ds[i] (wipeG G own) with
        | none => rw [eg] at p; dsimp only at p; cases p
        | some G2 =>
          rw [eg] at p
          dsimp only at p
          rw [hT, hE] at p
          have stw := ((st1.step s' t').step s2 t2).wipe own
          refine hk.use ?_
          refine hg H0 _ S' _ H2 rho' ds[i] x G2 stw r2 eg _ fun sg3 st3 => ?_
          refine ht H0 G2 S' sg3 H2 rho' st3 _ ?_
          have tt2 := t'.trans t2
          cases e1 : mt G2 S' with
          | err => rw [e1] at p; cases p
          | ex c S3 => rw [e1] at p; cases p
          | ok d S3 =>
            rw [e1] at p
            cases d with
            | bl b =>
              dsimp only at p
              intro H3 rho3 s3 t3
              have keepN : ∀ {rh rh' : List Addr} {A B : Hp}, Stp A rh B rh' → rh[S1.length]? = some Dl → rh'[S1.length]? = some Dl := fun {rh rh' A B} t h => by
                obtain ⟨⟨r, rfl, _⟩, _, _⟩ := t
                rw [List.getElem?_append_left (List.getElem?_eq_some_iff.mp h).1]; exact h
              have hn3 := keepN t3 hn'
              cases b with
              | false =>
                refine iteF ?_
                rw [if_neg Bool.false_ne_true] at p
                exact ⟨S3, rho3, s3, tt2.trans t3, I.keep H' rho' S' H3 rho3 S3 s' src' s3 (t2.trans t3) (ckOf p), hn3, p⟩
              | true =>
                refine iteT ?_
                rw [if_pos rfl] at p
                refine he H0 G2 S3 sg3 H3 rho3 (st3.step s3 t3) _ ?_
                cases e2 : me G2 S3 with
                | err => rw [e2] at p; cases p
                | ex c S4 => rw [e2] at p; cases p
                | ok yd S4 =>
                  rw [e2] at p
                  dsimp only at p
                  intro yv H4 rho4 s4 t4 r4
                  split at p
                  · rename_i acc hacc
                    split at p
                    · rename_i hsz
                      have hn4 := keepN t4 hn3
                      obtain ⟨b, e, vs, hH, ra⟩ := s4.at_ _ _ hacc
                      rw [hn4] at e; cases e
                      obtain ⟨s5, t5⟩ := wr_ok s4 hn4 (ra.append (.one r4))
                      refine ⟨vs, hH, big_lt (by rw [← ra.length]; exact hsz), _, rho4, s5, ((tt2.trans t3).trans t4).trans t5, I.keep H' rho' S' _ rho4 _ s' src' s5 (((t2.trans t3).trans t4).trans t5) (ckOf p), hn4, p⟩
                    · cases p
                  · cases p
            | _ => cases p
      · have e0 : i = ds.length := by omega
        subst e0
        rw [List.drop_length] at p
        simp only [compRun] at p
        rw [if_pos hck] at p
        cases p
        refine .inl ⟨I.stop H' rho' _ s' src' hck, ?_⟩
        unfold compEnd at h
        split at h
        · exact h _ H' rho' s' (t1d.trans t') (by simp only [Rep]; exact ⟨Dl, rfl, hn'⟩)
        · split at h
          · rename_i hlen
            split at h
            · rename_i acc hacc
              split at h
              · rename_i hob
                obtain ⟨b, e, vs, hH, ra⟩ := s'.at_ _ _ hacc
                rw [hn'] at e; cases e
                have hlr : rho'.length = S1.length + 1 := by rw [s'.len, hlen.1]
                -- the last thing of the store is told as a list that nobody changes
                have hr : rho' = rho'.take S1.length ++ [Dl] := by
                  have := List.take_append_drop S1.length rho'
                  rw [List.drop_eq_getElem_cons (by omega), List.drop_eq_nil_of_le (by omega)] at this
                  have e1 : rho'[S1.length] = Dl := by
                    rw [List.getElem?_eq_getElem (by omega)] at hn'
                    exact Option.some.inj hn'
                  rw [e1] at this
                  exact this.symm
                have hS : SF = SF.take S1.length ++ [.lst acc] := by
                  have := List.take_append_drop S1.length SF
                  rw [List.drop_eq_getElem_cons (by omega), List.drop_eq_nil_of_le (by omega)] at this
                  have e1 : SF[S1.length]'(by omega) = .lst acc := by
                    rw [List.getElem?_eq_getElem (by omega)] at hacc
                    exact Option.some.inj hacc
                  rw [e1] at this
                  exact this.symm
                have ltl : (SF.take S1.length).length = S1.length := by rw [List.length_take]; omega
                have rtl : (rho'.take S1.length).length = S1.length := by rw [List.length_take]; omega
                have s6 := s'
                rw [hr, hS] at s6
                have s7 := s6.drop (by rw [ltl]; exact hlen.2)
                have nDl : Dl ∉ rho'.take S1.length := fun m => by
                  have := s6.nd
                  rw [List.nodup_append] at this
                  exact this.2.2 Dl m Dl (by simp) rfl
                have tE : Stp H1 rho1 H' (rho'.take S1.length) := by
                  obtain ⟨⟨x, ex, hx⟩, kp, ob, fz⟩ := t1d.trans t'
                  refine ⟨⟨[], ?_, by simp⟩, kp, ob, fz⟩
                  rw [ex, List.append_nil]
                  rw [List.take_append_of_le_length (by rw [s1.len]; exact Nat.le_refl _), List.take_of_length_le (by rw [s1.len]; exact Nat.le_refl _)]
                rw [hr] at ra
                refine h _ H' (rho'.take S1.length) s7 tE ?_
                simp only [Rep]
                exact ⟨Dl, vs, rfl, .inl ⟨.inl hH, nDl⟩, fun _ => ⟨s1.base hD, nDl, hH⟩, reps_drop acc vs (by rw [rtl]; exact hob) ra⟩
              · exact h.elim
            · exact h.elim
          · exact h.elim

section
variable {X : Cx} {W : WX} {elt tg iter : Expr} {ifs : List Expr} {scope : Scope} {pos : Pos} {mi : IM} {gm : GM} {mt me : EM}
/-- the block's target, told for every block -/
structure BlkG (X : Cx) (scope : Scope) (tg : Expr) (own : List (Str × Nat)) (gm : GM) : Prop where
  ex : ∃ g, (∀ (s : Shared) (H : Hp) (C : Addr) (cl : List (Str × Addr)) (fp : List Addr), PG (X.blk s H scope (compEnvC scope cl C X.env) fp) tg g) ∧ SimG X.K g gm ∧ KeepsW g (own.map (·.2))
/-- the block's test -/
structure BlkT (X : Cx) (scope : Scope) (ifs : List Expr) (mt : EM) : Prop where
  ex : ∃ tt, (∀ (s : Shared) (H : Hp) (C : Addr) (cl : List (Str × Addr)) (fp : List Addr), PTs (X.blk s H scope (compEnvC scope cl C X.env) fp) ifs tt) ∧ SimT X.K W0 tt mt
theorem blkT_nil : BlkT X scope [] eYes := ⟨_, fun _ _ _ _ _ => pts_nil, fun H0 G S sg H rho st Q h => h H rho st.s (Stp.refl st.s)⟩
theorem blkT_one {c : Expr} {mc : EM} (h : ∀ (s : Shared) (H : Hp) (C : Addr) (cl : List (Str × Addr)) (fp : List Addr), JT (X.blk s H scope (compEnvC scope cl C X.env) fp) W0 c mc) : BlkT X scope [c] mc :=
  ⟨cT X.K W0 mc, fun s H C cl fp => pts_one (h s H C cl fp).can, sim_cT⟩
theorem je_comp (o : Bool) (own : List (Str × Nat)) (hc : X.calm = true) (hN : X.N.Nodup) (hi : JI X W tg iter mi) (ok : BlkOk X.N X.env.scope scope own) (hg : BlkG X scope tg own gm) (ht : BlkT X scope ifs mt)
    (he : ∀ (s : Shared) (H : Hp) (C : Addr) (cl : List (Str × Addr)) (fp : List Addr), JE (X.blk s H scope (compEnvC scope cl C X.env) fp) W0 elt me) (hs : ∀ x, foldedSetIterable iter X.env x = pure x := by intro _; rfl) :
    JE X W (.ListComp elt [⟨tg, iter, ifs, 0⟩] scope pos) (mComp o mi gm mt me (own.map (·.2))) := by
  obtain ⟨wi, pi, si⟩ := hi
  obtain ⟨g, pg, sg, kg⟩ := hg.ex
  obtain ⟨tt, pt, st⟩ := ht.ex
  exact ⟨_, pe_lc hc hN pi ok pg pt (fun s H C cl fp => (he s H C cl fp).can) hs, comp_sim si sg kg st sim_cE⟩
/-- name = [..] on one line -/
theorem js_setComp (o : Bool) (i : Nat) {y : Str} {py spos : Pos} (own : List (Str × Nat)) (hc : X.calm = true) (hN : X.N.Nodup) (hy : X.N[i]? = some y) (hyl : X.env.scope.names.lookup y = some .local)
    (hsw : swapsWith (.ListComp elt [⟨tg, iter, ifs, 0⟩] scope pos) (some (.Name y py)) spos.line X.env = pure true) (hi : JI X W tg iter mi) (ok : BlkOk X.N X.env.scope scope own) (hg : BlkG X scope tg own gm) (ht : BlkT X scope ifs mt)
    (he : ∀ (s : Shared) (H : Hp) (C : Addr) (cl : List (Str × Addr)) (fp : List Addr), JE (X.blk s H scope (compEnvC scope cl C X.env) fp) W0 elt me) (hs : ∀ x, foldedSetIterable iter X.env x = pure x := by intro _; rfl) :
    JS X W (.Assign [.Name y py] (.ListComp elt [⟨tg, iter, ifs, 0⟩] scope pos) spos) (mSet i (mComp o mi gm mt me (own.map (·.2)))) := by
  obtain ⟨wi, pi, si⟩ := hi
  obtain ⟨g, pg, sg, kg⟩ := hg.ex
  obtain ⟨tt, pt, st⟩ := ht.ex
  have key := comp_sim (W := W) (o := o) si sg kg st (sim_cE (m := me))
  exact ⟨_, ps_setLc hc hN hy hyl hsw pi ok pg pt (fun s H C cl fp => (he s H C cl fp).can) hs, fun H0 G S sg H rho st E h => key H0 G S sg H rho st _ (bindES st h fun d S1 v H1 rho1 s1 t1 r1 h1 => SPost.here (s1.set i r1) h1)⟩
theorem Cal.blk {x : Str} {F : Fn} (c : Cal X x F) (s : Shared) (H : Hp) (scope : Scope) (env : Env) (fp : List Addr) : Cal (X.blk s H scope env fp) x F := ⟨c.ex, c.mg, c.kp⟩
end

def runF (n len : Nat) (m : SM) : Fn := fun ds S => if ds.length = n then (match m (ds.map some ++ List.replicate (len - n) none) S with
  | .nx _ S' => .rt .non S'
  | .rt d S' => .rt d S'
  | .ex c _ _ => .ex c
  | _ => .err) else .err
/-- the def named x stands, does what F says, at level k -/
structure Fx (P : Program) (w : World) (K : PySem.W.Frag) (mg : Str → Option Value) (base : Heap) (x : Str) (F : Fn) (k : Nat) : Prop where
  ex : ∃ (fd : FuncData) (ps : List Str), FnOk P w K mg base (L2.CX P w) k (He.ga K x) fd ps (spS K F) ∧ Binds K fd ps []
  mg : mg x = some (.ref (He.ga K x))
  kp : PySem.W.keepIn K (.ref (He.ga K x)) = true
section
variable {P : Program} {w : World} {K : PySem.W.Frag} {mg : Str → Option Value} {base : Heap}
theorem Fx.cal {x : Str} {F : Fn} {j k : Nat} (h : Fx P w K mg base x F j) {N : List Str} {qual : Str} {scope : Scope} {f : Addr} {cdv : Value} {A : Around} {outer : List Env} {s : Shared} {H : Hp} {E : XK} (hr : Room k (A.deeper (envOfC qual scope s.heap.objs.size f cdv))) (hj : j ≤ k) :
    Cal (cxOf (L2.CX P w) P w K mg base N qual scope f cdv A outer s H E) x F := by
  obtain ⟨fd, ps, hF, hb⟩ := h.ex
  exact ⟨⟨j, fd, ps, hF, hr.mono hj, hb⟩, h.mg, h.kp⟩
abbrev WD (E : XK) : WX := fun cls d _ H => E cls d H
theorem start_sat {H0 H : Hp} {rho : List Addr} {S : Sto} {ds : List D} {vs : List V} (N : List Str) (s : SOk K H0 H rho S) (r : Reps K H0 H rho ds vs) : Sat K H0 (ds.map some ++ List.replicate (N.length - ds.length) none) S (L2.start N vs) H rho := by
  refine ⟨s, by simp [L2.start, r.length], fun i d h => ?_⟩
  by_cases hi : i < ds.length
  · rw [List.getElem?_append_left (by simpa using hi), List.getElem?_map, Option.map_eq_some_iff] at h
    obtain ⟨d', h1, h2⟩ := h
    cases h2
    obtain ⟨v, hv, rv⟩ := r.get h1
    refine ⟨v, ?_, rv⟩
    unfold L2.start
    rw [List.getElem?_append_left (by rw [List.length_map, ← r.length]; exact hi), List.getElem?_map, hv]; rfl
  · rw [List.getElem?_append_right (by simpa using hi)] at h
    have := List.mem_of_getElem? h
    simp at this
theorem mk_fn {x qual : Str} {params : Arguments} {body : List Stmt} {scope : Scope} {fd : FuncData} {N ps : List Str} {k : Nat} (D : FunD K x qual params body scope [] [] (He.ga K x) fd) (S : FnScope N ps scope) (m : SM)
    (hbody : ∀ (cdv : Value) (A : Around) (outer : List Env) (s : Shared) (H : Hp) (E : XK), Room k (A.deeper (envOfC qual scope s.heap.objs.size (He.ga K x) cdv)) → JSs (cxOf (L2.CX P w) P w K mg base N qual scope (He.ga K x) cdv A outer s H E) (WD E) body m) :
    FnOk P w K mg base (L2.CX P w) (k + 1) (He.ga K x) fd ps (spS K (runF ps.length N.length m)) := by
  refine D.ok S (fun vs H Q E h => ?_) (fun cdv A outer s H vs Q E hr h => ?_)
  · obtain ⟨H0, rho, St, ds, so, r, q⟩ := h
    unfold runF at q
    split at q
    · rename_i hl
      rw [← r.length]; exact hl
    · exact q.elim
  · obtain ⟨ts, p, si⟩ := hbody cdv A outer s H E hr
    refine ⟨ts, p, ?_⟩
    obtain ⟨H0, rho, St, ds, so, r, q⟩ := h
    unfold runF at q
    split at q
    · rename_i hl
      refine si H0 _ St _ H rho (start_sat N so r) _ ?_
      rw [hl]
      generalize m (ds.map some ++ List.replicate (N.length - ps.length) none) St = z at q
      cases z with
      | nx G' S' => exact fun sg' H' rho' s' t' => q .non H' rho' s'.s t' (by simp [Rep])
      | rt d S' => exact q
      | ex c G' S' => exact fun sg' H' rho' s' t' => q H' rho' S' s'.s t'
      | bk G' S' => exact q.elim
      | ct G' S' => exact q.elim
      | err => exact q.elim
    · exact q.elim
theorem mk_fx {x qual : Str} {params : Arguments} {body : List Stmt} {scope : Scope} {fd : FuncData} {N ps : List Str} {k : Nat} (D : FunD K x qual params body scope [] [] (He.ga K x) fd) (S : FnScope N ps scope) (hg : mg x = some (.ref (He.ga K x))) (hb : Binds K fd ps []) (m : SM)
    (hbody : ∀ (cdv : Value) (A : Around) (outer : List Env) (s : Shared) (H : Hp) (E : XK), Room k (A.deeper (envOfC qual scope s.heap.objs.size (He.ga K x) cdv)) → JSs (cxOf (L2.CX P w) P w K mg base N qual scope (He.ga K x) cdv A outer s H E) (WD E) body m) :
    Fx P w K mg base x (runF ps.length N.length m) (k + 1) := ⟨⟨fd, ps, mk_fn D S m hbody, hb⟩, hg, D.kp⟩
/-- what may be let out, of any program -/
def CXu : CXT := fun l H s E u s' => ∃ P w, L2.CX P w l H s E u s'
theorem fnok_cx {k : Nat} {f : Addr} {fd : FuncData} {ps : List Str} {sp : Sp} (h : FnOk P w K mg base (L2.CX P w) k f fd ps sp) : FnOk P w K mg base CXu k f fd ps sp :=
  ⟨h.len, fun A outer s H args us vs Q E hr e0 hb r q => codeAny_mono (h.run A outer s H args us vs Q E hr e0 hb r q) fun r s' z => by
    cases r with
    | ok f => cases f <;> exact z
    | error e => exact ⟨P, w, z⟩⟩
/-- nothing can be asked of a def that says nothing -/
theorem Fx.zero {x : Str} {F : Fn} {k : Nat} (h : Fx P w K mg base x F k) : Fx P w K mg base x (fun _ _ => .err) 0 := by
  obtain ⟨fd, ps, hF, hb⟩ := h.ex
  have no : ∀ vs H Q E, ¬ spS K (fun _ _ => .err) vs H Q E := fun vs H Q E ⟨_, _, _, _, _, _, q⟩ => q
  exact ⟨⟨fd, ps, ⟨fun vs H Q E h => absurd h (no vs H Q E), fun A outer s H args us vs Q E _ _ _ _ h => absurd h (no vs H Q E)⟩, hb⟩, h.mg, h.kp⟩
theorem mk_zero {x qual : Str} {params : Arguments} {body : List Stmt} {scope : Scope} {fd : FuncData} {ps : List Str} (D : FunD K x qual params body scope [] [] (He.ga K x) fd) (hg : mg x = some (.ref (He.ga K x))) (hb : Binds K fd ps []) : Fx P w K mg base x (fun _ _ => .err) 0 := by
  have no : ∀ vs H Q E, ¬ spS K (fun _ _ => .err) vs H Q E := fun vs H Q E ⟨_, _, _, _, _, _, q⟩ => q
  exact ⟨⟨fd, ps, ⟨fun vs H Q E h => absurd h (no vs H Q E), fun A outer s H args us vs Q E _ _ _ _ h => absurd h (no vs H Q E)⟩, hb⟩, hg, D.kp⟩
theorem Fx.mono {x : Str} {F : Fn} {j k : Nat} (h : Fx P w K mg base x F j) (hj : j ≤ k) : Fx P w K mg base x F k := by
  obtain ⟨fd, ps, hF, hb⟩ := h.ex
  exact ⟨⟨fd, ps, hF.mono hj, hb⟩, h.mg, h.kp⟩
/-- what a law's def is asked, from what F says of the script -/
theorem law_sp {F : Fn} {H : Hp} {a : Addr} {ns : List Int} (hS : SqL K H a (ns.map V.int)) {St : Sto} (hF : F [.lst false (ns.map .int)] [] = .rt (.bl true) St) : spS K F [.ref a] H (fun v _ => v = .bl true) (fun _ _ _ => False) := by
  refine ⟨H, [], [], [.lst false (ns.map .int)], base0 H, ?_, ?_⟩
  · refine .one ?_
    simp only [Rep]
    refine ⟨a, ns.map V.int, rfl, ?_, fun z => absurd z (by simp), Reps.ofInts ns⟩
    rcases hS with h | h
    · exact .inl ⟨h, by simp⟩
    · exact .inr (.inr h)
  · rw [hF]
    intro v H' rho' s t r
    simpa [Rep] using r
end
end Ab

end
section
set_option Elab.async false
set_option linter.all false
set_option maxRecDepth 100000
namespace Ab
open PySem PySem.Spec PyProof.Rows L2

def iAny (K : PySem.W.Frag) (tl : TE) : TI := fun σ H R => tl σ H fun x H1 => (∃ a, x = .ref a ∧ (∃ xs, SqL K H1 a xs) ∧ R (Itl K a) H1) ∨ (∃ a, x = .ref a ∧ (∃ xs, SqT K H1 a xs) ∧ R (Itt K a) H1) ∨ ∃ z, x = .str z ∧ R (Its z) H1
theorem pi_any {X : Cx} {tg l : Expr} {tl : TE} (hl : PE X l tl) : PI X tg l (iAny X.K tl) := by
  refine ⟨fun pins s σ H R I h => ?_⟩
  refine thn (hl.run pins s σ H _ I h) fun v s1 ⟨x, H1, I1, r1, q1⟩ => ?_
  rcases q1 with ⟨a, e, ⟨xs, hq⟩, q⟩ | ⟨a, e, ⟨xs, hq⟩, q⟩ | ⟨z, e, q⟩
  · subst e
    cases r1
    obtain ⟨its, rv, p, hz⟩ := I1.list hq
    refine wpAny_pyIter_list p.isList ?_
    refine ⟨s1.heap.objs.size, [s1.heap.objs.size], _, _, H1, rfl, I1.kept (t' := s1.toks) fun b o e => Heap.get?_push_of_some _ e, turn_list a _, ⟨_, Heap.get?_push_size _ rfl, rfl, rfl⟩, fun b hb => ?_, q⟩
    have e : b = s1.heap.objs.size := by simpa using hb
    subst e
    exact I1.fpOk (Nat.le_refl _) (I1.hok.fresh (Nat.le_refl _))
  · subst e
    cases r1
    obtain ⟨its, rv, p, hz⟩ := I1.tuple hq
    refine wpAny_pyIter_tuple (show s1.heap.IsTuple a its.toArray from p) ?_
    refine ⟨s1.heap.objs.size, [s1.heap.objs.size], _, _, H1, rfl, I1.kept (t' := s1.toks) fun b o e => Heap.get?_push_of_some _ e, turn_tuple a _, ⟨_, Heap.get?_push_size _ rfl, rfl, rfl⟩, fun b hb => ?_, q⟩
    have e : b = s1.heap.objs.size := by simpa using hb
    subst e
    exact I1.fpOk (Nat.le_refl _) (I1.hok.fresh (Nat.le_refl _))
  · subst e
    obtain ⟨t, rfl⟩ := r1
    cases ha : z.cps.all (· < 128)
    · exact wpAny_pyIter_wide ha (pi_one (tk := s1.toks) I1 _ (turn_str _ z t "str_iterator" (.inr rfl)) ⟨_, Heap.get?_push_size _ rfl, rfl, rfl⟩ q)
    · exact wpAny_pyIter_ascii ha (pi_one (tk := s1.toks) I1 _ (turn_str _ z t "str_ascii_iterator" (.inl rfl)) ⟨_, Heap.get?_push_size _ rfl, rfl, rfl⟩ q)
/-- a list, a tuple, a text -/
def iAnyM (m : EM) : IM := fun G S => (m G S).bindI fun d S1 => match d with
  | .lst _ xs => .ok xs always S1
  | .obj i => (match S1[i]? with
    | some (.lst xs) => .ok xs (isAt i xs) S1
    | _ => .err)
  | .tup xs => .ok xs always S1
  | .str x => .ok (sgD x) always S1
  | _ => .err
section
variable {X : Cx} {W : WX} {tg a b : Expr} {ma mb : EM} {p pos : Pos}
theorem ji_any (ha : JE X W a ma) : JI X W tg a (iAnyM ma) := by
  obtain ⟨ta, pa, sa⟩ := ha
  refine ⟨_, pi_any pa, fun H0 G S sg H rho st R h => sa H0 G S sg H rho st _ (bindEI h fun d S1 v H1 rho1 s1 t1 r1 h1 => ?_)⟩
  split at h1
  · rename_i f xs
    simp only [Rep] at r1
    obtain ⟨a, vs, rfl, q, g, r⟩ := r1
    exact .inl ⟨a, rfl, ⟨vs, q.sq⟩, h1 _ _ rho1 _ s1 (Stp.refl s1) it_list ⟨vs, q, r⟩⟩
  · split at h1
    · rename_i i xs hx
      obtain ⟨a, vs, rfl, hp, hH, r⟩ := obj_at s1 hx r1
      exact .inl ⟨a, rfl, ⟨vs, .of hH⟩, h1 _ _ rho1 _ s1 (Stp.refl s1) it_obj hp⟩
    · exact h1.elim
  · rename_i xs
    obtain ⟨a, vs, rfl, q, r⟩ := tup_at r1
    exact .inr (.inl ⟨a, rfl, ⟨vs, q⟩, h1 _ _ rho1 _ s1 (Stp.refl s1) it_tup ⟨vs, q, r⟩⟩)
  · rename_i x
    simp only [Rep] at r1
    exact .inr (.inr ⟨x, r1, h1 _ _ rho1 _ s1 (Stp.refl s1) it_str trivial⟩)
  · exact h1.elim
/-- list(range(n)), list(range(m, n)); tuple(range(n)) -/
def mLstRg1 (o : Bool) (ma : EM) : EM := fun G S => (ma G S).bind fun d S1 => match d with
  | .int n => if n ≤ 100000 ∧ 0 ≤ n then nw o (rgD 0 n.toNat) S1 else .err
  | _ => .err
def mLstRg2 (o : Bool) (ma mb : EM) : EM := fun G S => (ma G S).bind fun d S1 => (mb G S1).bind fun e S2 => match d, e with
  | .int m, .int n => if n ≤ 100000 ∧ 0 ≤ n ∧ m ≤ 100000 ∧ 0 ≤ m then nw o (rgD m (n - m).toNat) S2 else .err
  | _, _ => .err
def mTupRg1 (ma : EM) : EM := fun G S => (ma G S).bind fun d S1 => match d with
  | .int n => if n ≤ 100000 ∧ 0 ≤ n then .ok (.tup (rgD 0 n.toNat)) S1 else .err
  | _ => .err
theorem rg_rep {K : PySem.W.Frag} {H0 H : Hp} {rho : List Addr} (m : Int) (k : Nat) (n : Int) (hk : (n - m).toNat = k) : Reps K H0 H rho (rgD m k) (rgV m n) := by
  unfold rgD rgV
  rw [hk]
  generalize hl : List.range k = l
  clear hl hk
  induction l with
  | nil => simp [Reps]
  | cons x l ih => exact .cons (by simp [Rep]) ih
theorem je_listRg1 (o : Bool) {p2 pos2 : Pos} (hc : X.calm = true) (hg : Gl X "list") (hm : X.mg "list" = none) (hg2 : Gl X "range") (hm2 : X.mg "range" = none) (ha : JE X W a ma)
    (na : starEach [a] X.env = (false, eval a X.env) :: starEach [] X.env := by rfl) (na2 : starEach [.Call (.Name "range" p2) [a] [] pos2] X.env = (false, eval (.Call (.Name "range" p2) [a] [] pos2) X.env) :: starEach [] X.env := by rfl) :
    JE X W (.Call (.Name "list" p) [.Call (.Name "range" p2) [a] [] pos2] [] pos) (mLstRg1 o ma) := by
  obtain ⟨ta, pa, sa⟩ := ha
  refine ⟨_, pe_listRg hc hg hm (prg_1 hg2 hm2 pa na) na2, fun H0 G S sg H rho st Q h => sa H0 G S sg H rho st _ (bindE h fun d S1 v H1 rho1 s1 t1 r1 h1 => ?_)⟩
  split at h1
  · rename_i n
    split at h1
    · rename_i hn
      simp only [Rep] at r1
      exact ⟨n, r1, ⟨by omega, by omega, by omega, by omega, by omega⟩, fun q hq => new_lst s1 hq (rg_rep 0 _ n (by simp)) h1⟩
    · exact h1.elim
  · exact h1.elim
theorem je_listRg2 (o : Bool) {p2 pos2 : Pos} (hc : X.calm = true) (hg : Gl X "list") (hm : X.mg "list" = none) (hg2 : Gl X "range") (hm2 : X.mg "range" = none) (ha : JE X W a ma) (hb : JE X W b mb)
    (na : starEach [a, b] X.env = (false, eval a X.env) :: starEach [b] X.env := by rfl) (nb : starEach [b] X.env = (false, eval b X.env) :: starEach [] X.env := by rfl) (np : (backTo pos2 (starEach [b] X.env)).any (·.1) = false := by rfl) (na2 : starEach [.Call (.Name "range" p2) [a, b] [] pos2] X.env = (false, eval (.Call (.Name "range" p2) [a, b] [] pos2) X.env) :: starEach [] X.env := by rfl) :
    JE X W (.Call (.Name "list" p) [.Call (.Name "range" p2) [a, b] [] pos2] [] pos) (mLstRg2 o ma mb) := by
  obtain ⟨ta, pa, sa⟩ := ha
  obtain ⟨tb, pb, sb⟩ := hb
  refine ⟨_, pe_listRg hc hg hm (prg_2 hg2 hm2 pa pb na nb np) na2, fun H0 G S sg H rho st Q h => sa H0 G S sg H rho st _ (bindE h fun d S1 v H1 rho1 s1 t1 r1 h1 => ?_)⟩
  refine sb H0 G S1 sg H1 rho1 (st.step s1 t1) _ (bindE h1 fun e S2 w H2 rho2 s2 t2 r2 h2 => ?_)
  replace r1 := Rep.keep s1 t2 _ _ r1
  split at h2
  · rename_i m n
    split at h2
    · rename_i hn
      simp only [Rep] at r1 r2
      exact ⟨m, n, r1, r2, ⟨by omega, by omega, by omega, by omega, by omega⟩, fun q hq => new_lst s2 hq (rg_rep m _ n rfl) h2⟩
    · exact h2.elim
  · exact h2.elim
theorem je_tupRg1 {p2 pos2 : Pos} (hc : X.calm = true) (hg : Gl X "tuple") (hm : X.mg "tuple" = none) (hg2 : Gl X "range") (hm2 : X.mg "range" = none) (ha : JE X W a ma)
    (na : starEach [a] X.env = (false, eval a X.env) :: starEach [] X.env := by rfl) (na2 : starEach [.Call (.Name "range" p2) [a] [] pos2] X.env = (false, eval (.Call (.Name "range" p2) [a] [] pos2) X.env) :: starEach [] X.env := by rfl) :
    JE X W (.Call (.Name "tuple" p) [.Call (.Name "range" p2) [a] [] pos2] [] pos) (mTupRg1 ma) := by
  obtain ⟨ta, pa, sa⟩ := ha
  refine ⟨_, pe_tupRg hc hg hm (prg_1 hg2 hm2 pa na) na2, fun H0 G S sg H rho st Q h => sa H0 G S sg H rho st _ (bindE h fun d S1 v H1 rho1 s1 t1 r1 h1 => ?_)⟩
  split at h1
  · rename_i n
    split at h1
    · rename_i hn
      simp only [Rep] at r1
      exact ⟨n, r1, ⟨by omega, by omega, by omega, by omega, by omega⟩, fun q hq => new_tup s1 hq (rg_rep 0 _ n (by simp)) h1⟩
    · exact h1.elim
  · exact h1.elim
end
end Ab

end
section
set_option Elab.async false
set_option linter.all false
set_option maxRecDepth 100000
namespace Ab
open PySem PySem.Spec PyProof.Rows L2
section
variable {X : Cx} {W : WX} {p pos : Pos} {e a b : Expr} {es : List Expr} {m : AM} {ma mb : EM}
theorem je_len (hg : Gl X "len") (hm : X.mg "len" = none) (ha : JA X W (e :: es) m) (h1 : starEach (e :: es) X.env = (false, eval e X.env) :: starEach es X.env := by rfl) (h2 : (backTo pos (starEach es X.env)).any (·.1) = false := by rfl) :
    JE X W (.Call (.Name "len" p) (e :: es) [] pos) (mCall fLen m) := je_callB (call_len_str.or call_len_seq) sim_len hg hm (by decide +kernel) ha (by decide) (by decide) h1 h2
theorem je_listOf (o : Bool) (hg : Gl X "list") (hm : X.mg "list" = none) (ha : JA X W (e :: es) m) (h1 : starEach (e :: es) X.env = (false, eval e X.env) :: starEach es X.env := by rfl) (h2 : (backTo pos (starEach es X.env)).any (·.1) = false := by rfl) :
    JE X W (.Call (.Name "list" p) (e :: es) [] pos) (mCall (fList o) m) := je_callTy call_list_of (sim_list o) hg hm (by decide +kernel) ha (by decide) (by decide) h1 h2
theorem je_tupleOf (hg : Gl X "tuple") (hm : X.mg "tuple" = none) (ha : JA X W (e :: es) m) (h1 : starEach (e :: es) X.env = (false, eval e X.env) :: starEach es X.env := by rfl) (h2 : (backTo pos (starEach es X.env)).any (·.1) = false := by rfl) :
    JE X W (.Call (.Name "tuple" p) (e :: es) [] pos) (mCall fTuple m) := je_callTy call_tuple_of sim_tuple hg hm (by decide +kernel) ha (by decide) (by decide) h1 h2
theorem je_max2 (hc : X.calm = true) (hg : Gl X "max") (hm : X.mg "max" = none) (ha : JA X W (e :: es) m) (h1 : starEach (e :: es) X.env = (false, eval e X.env) :: starEach es X.env := by rfl) (h2 : (backTo pos (starEach es X.env)).any (·.1) = false := by rfl) :
    JE X W (.Call (.Name "max" p) (e :: es) [] pos) (mCall fMax2 m) := je_callB (call_max2 hc) sim_max2 hg hm (by decide +kernel) ha (by decide) (by decide) h1 h2
theorem je_min2 (hc : X.calm = true) (hg : Gl X "min") (hm : X.mg "min" = none) (ha : JA X W (e :: es) m) (h1 : starEach (e :: es) X.env = (false, eval e X.env) :: starEach es X.env := by rfl) (h2 : (backTo pos (starEach es X.env)).any (·.1) = false := by rfl) :
    JE X W (.Call (.Name "min" p) (e :: es) [] pos) (mCall fMin2 m) := je_callB (call_min2 hc) sim_min2 hg hm (by decide +kernel) ha (by decide) (by decide) h1 h2
theorem je_sum (hc : X.calm = true) (hg : Gl X "sum") (hm : X.mg "sum" = none) (ha : JA X W (e :: es) m) (h1 : starEach (e :: es) X.env = (false, eval e X.env) :: starEach es X.env := by rfl) (h2 : (backTo pos (starEach es X.env)).any (·.1) = false := by rfl) :
    JE X W (.Call (.Name "sum" p) (e :: es) [] pos) (mCall fSum m) := je_callB (cr_sum hc) sim_sum hg hm (by decide +kernel) ha (by decide) (by decide) h1 h2
theorem je_maxL (hc : X.calm = true) (hg : Gl X "max") (hm : X.mg "max" = none) (ha : JA X W (e :: es) m) (h1 : starEach (e :: es) X.env = (false, eval e X.env) :: starEach es X.env := by rfl) (h2 : (backTo pos (starEach es X.env)).any (·.1) = false := by rfl) :
    JE X W (.Call (.Name "max" p) (e :: es) [] pos) (mCall fMaxL m) := je_callB (cr_max hc) sim_maxL hg hm (by decide +kernel) ha (by decide) (by decide) h1 h2
theorem je_minL (hc : X.calm = true) (hg : Gl X "min") (hm : X.mg "min" = none) (ha : JA X W (e :: es) m) (h1 : starEach (e :: es) X.env = (false, eval e X.env) :: starEach es X.env := by rfl) (h2 : (backTo pos (starEach es X.env)).any (·.1) = false := by rfl) :
    JE X W (.Call (.Name "min" p) (e :: es) [] pos) (mCall fMinL m) := je_callB (cr_min hc) sim_minL hg hm (by decide +kernel) ha (by decide) (by decide) h1 h2
theorem je_sorted (o : Bool) (hg : Gl X "sorted") (hm : X.mg "sorted" = none) (ha : JA X W (e :: es) m) (h1 : starEach (e :: es) X.env = (false, eval e X.env) :: starEach es X.env := by rfl) (h2 : (backTo pos (starEach es X.env)).any (·.1) = false := by rfl) :
    JE X W (.Call (.Name "sorted" p) (e :: es) [] pos) (mCall (fSorted o) m) := je_callB cr_sorted (sim_sorted o) hg hm (by decide +kernel) ha (by decide) (by decide) h1 h2
theorem je_intOf (hg : Gl X "int") (hm : X.mg "int" = none) (ha : JA X W (e :: es) m) (h1 : starEach (e :: es) X.env = (false, eval e X.env) :: starEach es X.env := by rfl) (h2 : (backTo pos (starEach es X.env)).any (·.1) = false := by rfl) :
    JE X W (.Call (.Name "int" p) (e :: es) [] pos) (mCall fInt m) := je_callTy call_int1 sim_int hg hm (by decide +kernel) ha (by decide) (by decide) h1 h2
theorem je_strOf (hg : Gl X "str") (hm : X.mg "str" = none) (ha : JA X W (e :: es) m) (h1 : starEach (e :: es) X.env = (false, eval e X.env) :: starEach es X.env := by rfl) (h2 : (backTo pos (starEach es X.env)).any (·.1) = false := by rfl) :
    JE X W (.Call (.Name "str" p) (e :: es) [] pos) (mCall fStr m) := je_callTy call_str_int sim_str hg hm (by decide +kernel) ha (by decide) (by decide) h1 h2
theorem je_all (hc : X.calm = true) (hg : Gl X "all") (hm : X.mg "all" = none) (ha : JA X W (e :: es) m) (h1 : starEach (e :: es) X.env = (false, eval e X.env) :: starEach es X.env := by rfl) (h2 : (backTo pos (starEach es X.env)).any (·.1) = false := by rfl) :
    JE X W (.Call (.Name "all" p) (e :: es) [] pos) (mCall fAll m) := je_callB (cr_all hc) sim_all hg hm (by decide +kernel) ha (by decide) (by decide) h1 h2
variable {apos : Pos} {name : Str}
theorem je_append (ho : JE X W a ma) (ha : JA X W (e :: es) m) (hb : attributeBase a "append" X.env (eval a X.env) = eval a X.env := by rfl)
    (hf : ((backTo pos (starEach (e :: es) X.env)).all (fun x => !x.1) && (backToKw pos (keywordEach [] X.env)).all (fun x => x.1.isSome) && decide ((e :: es).length + ([] : List Keyword).length + (if ([] : List Keyword).isEmpty then 0 else 1) < 30)) = true := by rfl)
    (hl : (apos.endLine == pos.line) = true := by rfl) (h1 : starEach (e :: es) X.env = (false, eval e X.env) :: starEach es X.env := by rfl) (h2 : (backTo pos (starEach es X.env)).any (·.1) = false := by rfl) :
    JE X W (.Call (.Attribute a "append" apos) (e :: es) [] pos) (mMeth fAppend ma m) := je_meth PySem.F.slot_list_append PySem.F.type_list_append mt_append sim_append ho ha hb hf hl h1 h2
theorem je_extend (ho : JE X W a ma) (ha : JA X W (e :: es) m) (hb : attributeBase a "extend" X.env (eval a X.env) = eval a X.env := by rfl)
    (hf : ((backTo pos (starEach (e :: es) X.env)).all (fun x => !x.1) && (backToKw pos (keywordEach [] X.env)).all (fun x => x.1.isSome) && decide ((e :: es).length + ([] : List Keyword).length + (if ([] : List Keyword).isEmpty then 0 else 1) < 30)) = true := by rfl)
    (hl : (apos.endLine == pos.line) = true := by rfl) (h1 : starEach (e :: es) X.env = (false, eval e X.env) :: starEach es X.env := by rfl) (h2 : (backTo pos (starEach es X.env)).any (·.1) = false := by rfl) :
    JE X W (.Call (.Attribute a "extend" apos) (e :: es) [] pos) (mMeth fExtend ma m) := je_meth PySem.F.slot_list_extend PySem.F.type_list_extend mt_extend sim_extend ho ha hb hf hl h1 h2
theorem je_popAt (ho : JE X W a ma) (ha : JA X W (e :: es) m) (hb : attributeBase a "pop" X.env (eval a X.env) = eval a X.env := by rfl)
    (hf : ((backTo pos (starEach (e :: es) X.env)).all (fun x => !x.1) && (backToKw pos (keywordEach [] X.env)).all (fun x => x.1.isSome) && decide ((e :: es).length + ([] : List Keyword).length + (if ([] : List Keyword).isEmpty then 0 else 1) < 30)) = true := by rfl)
    (hl : (apos.endLine == pos.line) = true := by rfl) (h1 : starEach (e :: es) X.env = (false, eval e X.env) :: starEach es X.env := by rfl) (h2 : (backTo pos (starEach es X.env)).any (·.1) = false := by rfl) :
    JE X W (.Call (.Attribute a "pop" apos) (e :: es) [] pos) (mMeth fPopAt ma m) := je_meth PySem.F.slot_list_pop PySem.F.type_list_pop mt_popAt sim_popAt ho ha hb hf hl h1 h2
theorem je_pop (ho : JE X W a ma) (hb : attributeBase a "pop" X.env (eval a X.env) = eval a X.env := by rfl) (hl : (apos.endLine == pos.line) = true := by rfl) :
    JE X W (.Call (.Attribute a "pop" apos) [] [] pos) (mMeth fPop ma aNil) := je_meth0 PySem.F.slot_list_pop PySem.F.type_list_pop mt_pop sim_pop ho hb hl
theorem je_reverse (ho : JE X W a ma) (hb : attributeBase a "reverse" X.env (eval a X.env) = eval a X.env := by rfl) (hl : (apos.endLine == pos.line) = true := by rfl) :
    JE X W (.Call (.Attribute a "reverse" apos) [] [] pos) (mMeth fReverse ma aNil) := je_meth0 PySem.F.slot_list_reverse PySem.F.type_list_reverse mt_reverse sim_reverse ho hb hl
def mRev (o : Bool) (m : EM) : EM := fun G S => (m G S).bind fun d S1 => match seqL S1 d with
  | some xs => nw o xs.reverse S1
  | none => .err
theorem je_revL (o : Bool) {k : Nat} {p1 p2 p3 : Pos} (ha : JE X W a ma) : JE X W (.Subscript a (.Slice none none (some (.UnaryOp .USub (.Constant (.int 1) k p1) p2)) p3) pos) (mRev o ma) := by
  obtain ⟨ta, pa, sa⟩ := ha
  refine ⟨_, pe_revL pa, fun H0 G S sg H rho st Q h => sa H0 G S sg H rho st _ (bindE h fun d S1 v H1 rho1 s1 t1 r1 h1 => ?_)⟩
  split at h1
  · rename_i xs hx
    obtain ⟨a, vs, rfl, q, r⟩ := seqL_at s1 hx r1
    exact ⟨a, vs, rfl, q, fun p hp => new_lst s1 hp r.reverse h1⟩
  · exact h1.elim
theorem js_augAdd (i : Nat) {x : Str} {pos' : Pos} (hN : X.N.Nodup) (hi : X.N[i]? = some x) (hx : Loc X.env.scope x) (ha : JE X W a ma) (hf : X.fn x = true ∨ X.env.scope.names.lookup x = some .local := by first | exact .inl rfl | exact .inr rfl | assumption) :
    JS X W (.AugAssign (.Name x pos') .Add a pos) (mAug i (fun i j => i + j) ma) := js_aug i iop_add hN hi hx ha hf
theorem js_augSub (i : Nat) {x : Str} {pos' : Pos} (hN : X.N.Nodup) (hi : X.N[i]? = some x) (hx : Loc X.env.scope x) (ha : JE X W a ma) (hf : X.fn x = true ∨ X.env.scope.names.lookup x = some .local := by first | exact .inl rfl | exact .inr rfl | assumption) :
    JS X W (.AugAssign (.Name x pos') .Sub a pos) (mAug i (fun i j => i - j) ma) := js_aug i iop_sub hN hi hx ha hf
end
end Ab

end
section
set_option Elab.async false
set_option linter.all false
set_option maxRecDepth 100000
namespace Ab
open PySem PySem.Spec PyProof.Rows L2
section
variable {G : Gam} {S S' : Sto} {d e x y : D} {ds es xs ys : List D} {i j k : Int} {n : Nat} {a b : Bool} {m m1 m2 m3 : EM} {q r : SM} {c : Str} {o : Bool}
@[simp] theorem ev_bind_ok {f : D → Sto → ER} : (ER.ok d S).bind f = f d S := (rfl)
@[simp] theorem ev_bind_ex {f : D → Sto → ER} : (ER.ex c S).bind f = .ex c S := (rfl)
@[simp] theorem ev_bind_err {f : D → Sto → ER} : ER.err.bind f = .err := (rfl)
@[simp] theorem ev_abind_ok {f : List D → Sto → ER} : (AR.ok ds S).bind f = f ds S := (rfl)
@[simp] theorem ev_abind_ex {f : List D → Sto → ER} : (AR.ex c S).bind f = .ex c S := (rfl)
@[simp] theorem ev_abind_err {f : List D → Sto → ER} : AR.err.bind f = .err := (rfl)
@[simp] theorem ev_bindT_ok {f : Bool → Sto → ER} : (ER.ok (.bl a) S).bindT f = f a S := (rfl)
@[simp] theorem ev_bindT_ex {f : Bool → Sto → ER} : (ER.ex c S).bindT f = .ex c S := (rfl)
@[simp] theorem ev_bindS_ok {f : D → Sto → SR} : (ER.ok d S).bindS G f = f d S := (rfl)
@[simp] theorem ev_bindS_ex {f : D → Sto → SR} : (ER.ex c S).bindS G f = .ex c G S := (rfl)
@[simp] theorem ev_bindTS_ok {f : Bool → Sto → SR} : (ER.ok (.bl a) S).bindTS G f = f a S := (rfl)
@[simp] theorem ev_bindTS_ex {f : Bool → Sto → SR} : (ER.ex c S).bindTS G f = .ex c G S := (rfl)
@[simp] theorem ev_bindI_ok {f : D → Sto → IR} : (ER.ok d S).bindI f = f d S := (rfl)
@[simp] theorem ev_abindI_ok {f : List D → Sto → IR} : (AR.ok ds S).bindI f = f ds S := (rfl)
@[simp] theorem ev_obind_ok {f : Option Int → Sto → ER} {l : Option Int} : (OR.ok l S).bind f = f l S := (rfl)
@[simp] theorem ev_C : mC d G S = .ok d S := (rfl)
@[simp] theorem ev_Var : mVar n G S = (match G[n]? with
  | some (some d) => .ok d S
  | _ => .err) := (rfl)
@[simp] theorem ev_Bin {f : D → D → Sto → ER} : mBin f m1 m2 G S = (m1 G S).bind fun d S1 => (m2 G S1).bind fun e S2 => f d e S2 := (rfl)
@[simp] theorem ev_Not : mNot m G S = (m G S).bindT fun b S1 => .ok (.bl (!b)) S1 := (rfl)
@[simp] theorem ev_And : mAnd m1 m2 G S = (m1 G S).bindT fun b S1 => if b then m2 G S1 else .ok (.bl false) S1 := (rfl)
@[simp] theorem ev_Or : mOr m1 m2 G S = (m1 G S).bindT fun b S1 => if b then .ok (.bl true) S1 else m2 G S1 := (rfl)
@[simp] theorem ev_IfE : mIfE m m1 m2 G S = (m G S).bindT fun b S1 => if b then m1 G S1 else m2 G S1 := (rfl)
@[simp] theorem ev_Neg : mNeg m G S = (m G S).bind fun d S1 => match d with
  | .int i => .ok (.int (-i)) S1
  | _ => .err := (rfl)
@[simp] theorem ev_Tup {a : AM} : mTup a G S = (a G S).bind fun ds S1 => if ds.length ≤ big then .ok (.tup ds) S1 else .err := (rfl)
@[simp] theorem ev_Lst {a : AM} : mLst o a G S = (a G S).bind fun ds S1 => if ds.length ≤ big then nw o ds S1 else .err := (rfl)
@[simp] theorem ev_nwT : nw true xs S = .ok (.obj S.length) (S ++ [.lst xs]) := (rfl)
@[simp] theorem ev_nwF : nw false xs S = .ok (.lst true xs) S := (rfl)
@[simp] theorem ev_big : big = 100000 := (rfl)
@[simp] theorem ev_aNil : aNil G S = .ok [] S := (rfl)
@[simp] theorem ev_aCons {t : AM} : aCons m t G S = (match m G S with
  | .ok d S1 => (match t G S1 with
    | .ok ds S2 => .ok (d :: ds) S2
    | r => r)
  | .ex c S1 => .ex c S1
  | .err => .err) := (rfl)
@[simp] theorem ev_Call {f : List D → Sto → ER} {t : AM} : mCall f t G S = (t G S).bind f := (rfl)
@[simp] theorem ev_Meth {f : D → List D → Sto → ER} {t : AM} : mMeth f m t G S = (m G S).bind fun d S1 => if isLst S1 d then (t G S1).bind fun ds S2 => f d ds S2 else .err := (rfl)
@[simp] theorem ev_Sl {l u : OM} : mSl o m l u G S = (m G S).bind fun d S1 => (l G S1).bind fun lo S2 => (u G S2).bind fun hi S3 => fSl o d lo hi S3 := (rfl)
@[simp] theorem ev_oNone : oNone G S = .ok none S := (rfl)
@[simp] theorem ev_oSome : oSome m G S = (match m G S with
  | .ok (.int i) S1 => .ok (some i) S1
  | .ok _ _ => .err
  | .ex c S1 => .ex c S1
  | .err => .err) := (rfl)
@[simp] theorem ev_Isi {t : String} : mIsi t m G S = (m G S).bind fun d S1 => if oddD S1 d then .err else .ok (.bl (isT (tyD S1 d) t)) S1 := (rfl)
@[simp] theorem od_non : oddD S .non = false := (rfl)
@[simp] theorem od_bl : oddD S (.bl a) = false := (rfl)
@[simp] theorem od_int : oddD S (.int i) = false := (rfl)
@[simp] theorem od_str {s : Str} : oddD S (.str s) = false := (rfl)
@[simp] theorem od_tup : oddD S (.tup xs) = false := (rfl)
@[simp] theorem od_lst : oddD S (.lst a xs) = false := (rfl)
@[simp] theorem od_emp : oddD S (.emp a) = false := (rfl)
@[simp] theorem ev_Rev : mRev o m G S = (m G S).bind fun d S1 => match seqL S1 d with
  | some xs => nw o xs.reverse S1
  | none => .err := (rfl)
@[simp] theorem ev_Chain {k : D → EM} : mChain m k G S = (m G S).bind fun d S1 => k d G S1 := (rfl)
@[simp] theorem ev_cLast {f : D → D → Sto → ER} : cLast f m d G S = (m G S).bind fun e S1 => f d e S1 := (rfl)
@[simp] theorem ev_cLink {f : D → D → Sto → ER} {k : D → EM} : cLink f m k d G S = (m G S).bind fun e S1 => (f d e S1).bindT fun b S2 => if b then k e G S2 else .ok (.bl false) S2 := (rfl)
@[simp] theorem ev_LstRg1 : mLstRg1 o m G S = (m G S).bind fun d S1 => match d with
  | .int n => if n ≤ 100000 ∧ 0 ≤ n then nw o (rgD 0 n.toNat) S1 else .err
  | _ => .err := (rfl)
@[simp] theorem ev_LstRg2 : mLstRg2 o m1 m2 G S = (m1 G S).bind fun d S1 => (m2 G S1).bind fun e S2 => match d, e with
  | .int m, .int n => if n ≤ 100000 ∧ 0 ≤ n ∧ m ≤ 100000 ∧ 0 ≤ m then nw o (rgD m (n - m).toNat) S2 else .err
  | _, _ => .err := (rfl)
@[simp] theorem ev_TupRg1 : mTupRg1 m G S = (m G S).bind fun d S1 => match d with
  | .int n => if n ≤ 100000 ∧ 0 ≤ n then .ok (.tup (rgD 0 n.toNat)) S1 else .err
  | _ => .err := (rfl)
@[simp] theorem ev_Next : mNext G S = .nx G S := (rfl)
@[simp] theorem ev_Seq : mSeq q r G S = (match q G S with
  | .nx G' S' => r G' S'
  | z => z) := (rfl)
@[simp] theorem ev_Set : mSet n m G S = (m G S).bindS G fun d S1 => .nx (G.set n (some d)) S1 := (rfl)
@[simp] theorem ev_Expr : mExpr m G S = (m G S).bindS G fun _ S1 => .nx G S1 := (rfl)
@[simp] theorem ev_Ret : mRet m G S = (m G S).bindS G fun d S1 => .rt d S1 := (rfl)
@[simp] theorem ev_RetN : mRetN G S = .rt .non S := (rfl)
@[simp] theorem ev_If : mIf m q r G S = (m G S).bindTS G fun b S1 => if b then q G S1 else r G S1 := (rfl)
@[simp] theorem ev_Raise : mRaise c G S = .ex c G S := (rfl)
@[simp] theorem ev_Break : mBreak G S = .bk G S := (rfl)
@[simp] theorem ev_Cont : mCont G S = .ct G S := (rfl)
@[simp] theorem ev_Unp {is : List Nat} : mUnp is m G S = (m G S).bindS G fun d S1 => match d with
  | .tup xs => (match setAll is xs G with
    | some G' => .nx G' S1
    | none => .err)
  | _ => .err := (rfl)
@[simp] theorem ev_setAll0 : setAll [] [] G = some G := (rfl)
@[simp] theorem ev_setAll1 {is : List Nat} : setAll (n :: is) (d :: ds) G = setAll is ds (G.set n (some d)) := (rfl)
@[simp] theorem ev_SetIx {mo mi mv : EM} : mSetIx mo mi mv G S = (mv G S).bindS G fun v S1 => (mo G S1).bindS G fun o S2 => (mi G S2).bindS G fun i S3 => match o, i with
  | .obj j, .int k => (match S3[j]? with
    | some (.lst xs) => (match ixN xs.length k with
      | some n => .nx G (S3.set j (.lst (xs.set n v)))
      | none => .err)
    | _ => .err)
  | _, _ => .err := (rfl)
@[simp] theorem ev_Aug {g : Int → Int → Int} : mAug n g m G S = (match G[n]? with
  | some (some (.int x)) => (m G S).bindS G fun d S1 => (match d with
    | .int y => .nx (G.set n (some (.int (g x y)))) S1
    | _ => .err)
  | _ => .err) := (rfl)
@[simp] theorem ev_For {t : IM} {g : GM} : mFor t g q G S = (match t G S with
  | .ok ds ck S1 => forRun ck (turn g q) ds G S1
  | .ex c S1 => .ex c G S1
  | .err => .err) := (rfl)
@[simp] theorem ev_turn {g : GM} : turn g q d G S = (match g d G with
  | some G2 => q G2 S
  | none => .err) := (rfl)
@[simp] theorem ev_gmName : gmName n d G = some (G.set n (some d)) := (rfl)
@[simp] theorem ev_gmTup {is : List Nat} : gmTup is (.tup xs) G = setAll is xs G := (rfl)
@[simp] theorem ev_always : always S = true := (rfl)
@[simp] theorem ev_addI : fAdd o (.int i) (.int j) S = .ok (.int (i + j)) S := (rfl)
@[simp] theorem ev_subI : fSub (.int i) (.int j) S = .ok (.int (i - j)) S := (rfl)
theorem ev_mulI (h : w64 i = true ∨ w64 j = true) : fMul o (.int i) (.int j) S = .ok (.int (i * j)) S := by
  have : (w64 i || w64 j || decide (bitsD i + bitsD j ≤ 134217728)) = true := by rcases h with h | h <;> simp [h]
  simp [fMul, orR, fI, this]
theorem ev_mulB (h : bitsD i + bitsD j ≤ 134217728) : fMul o (.int i) (.int j) S = .ok (.int (i * j)) S := by
  have : (w64 i || w64 j || decide (bitsD i + bitsD j ≤ 134217728)) = true := by simp [h]
  simp [fMul, orR, fI, this]
theorem bitsD_lt {i : Int} {n : Nat} (h : i.natAbs < 2 ^ n) : bitsD i ≤ n := PyProof.Rows.intBits_le h
theorem ev_divI {i j : Int} {n : Nat} (h : 0 < j) (hn : j.natAbs < 2 ^ n) (h9 : n < 9000 := by decide) : fDiv (.int i) (.int j) S = .ok (.int (i / j)) S := by
  have h2 : j.natAbs.log2 < 9000 := Nat.lt_of_le_of_lt (by
    by_cases n0 : n = 0
    · subst n0; have : j.natAbs = 0 := by omega
      rw [this]; decide
    · exact Nat.le_of_lt (PySem.Flt.log2_lt_of (by omega) hn)) h9
  simp [fDiv, fI, h, h2]
theorem w64_of {i : Int} (h1 : -(2 ^ 64) < i) (h2 : i < 2 ^ 64) : w64 i = true := by simp [w64]; omega
@[simp] theorem ev_modI : fMod (.int i) (.int j) S = if decide (0 < j) then .ok (.int (i % j)) S else .err := (rfl)
@[simp] theorem ev_eqI : fEq a (.int i) (.int j) S = .ok (.bl (if a then !decide (i = j) else decide (i = j))) S := (rfl)
@[simp] theorem ev_eqS {s t : Str} : fEq a (.str s) (.str t) S = .ok (.bl (if a then !decide (s = t) else decide (s = t))) S := (rfl)
@[simp] theorem ev_eqB {s t : Bool} : fEq a (.bl s) (.bl t) S = .ok (.bl (if a then !decide (s = t) else decide (s = t))) S := (rfl)
@[simp] theorem ev_ltI : fLt (.int i) (.int j) S = .ok (.bl (decide (i < j))) S := (rfl)
@[simp] theorem ev_leI : fLe (.int i) (.int j) S = .ok (.bl (decide (i ≤ j))) S := (rfl)
@[simp] theorem ev_gtI : fGt (.int i) (.int j) S = .ok (.bl (decide (j < i))) S := (rfl)
@[simp] theorem ev_geI : fGe (.int i) (.int j) S = .ok (.bl (decide (j ≤ i))) S := (rfl)
@[simp] theorem ev_isN : fIsN a d .non S = .ok (.bl (if a then !isNon d else isNon d)) S := (rfl)
@[simp] theorem ev_ixT : fIx (.tup xs) (.int i) S = (match L2.atI xs i with
  | some y => .ok y S
  | none => .err) := (rfl)
@[simp] theorem ev_ixL : fIx (.lst a xs) (.int i) S = (match L2.atI xs i with
  | some y => .ok y S
  | none => .err) := (rfl)
@[simp] theorem ev_ixO : fIx (.obj n) (.int i) S = (match seqL S (.obj n) with
  | some xs => (match L2.atI xs i with
    | some y => .ok y S
    | none => .err)
  | none => .err) := (rfl)
@[simp] theorem ev_seqLl : seqL S (.lst a xs) = some xs := (rfl)
@[simp] theorem ev_seqLo : seqL S (.obj n) = (match S[n]? with
  | some (.lst xs) => some xs
  | _ => none) := (rfl)
@[simp] theorem ev_seqMl : seqM S (.lst true xs) = some xs := (rfl)
@[simp] theorem ev_seqMo : seqM S (.obj n) = (match S[n]? with
  | some (.lst xs) => some xs
  | _ => none) := (rfl)
@[simp] theorem ev_seqAt : seqA S (.tup xs) = some xs := (rfl)
@[simp] theorem ev_seqAl : seqA S (.lst a xs) = some xs := (rfl)
@[simp] theorem ev_seqAo : seqA S (.obj n) = seqL S (.obj n) := (rfl)
@[simp] theorem ev_isLst : isLst S d = (seqL S d).isSome := (rfl)
@[simp] theorem ev_lenT : fLen [.tup xs] S = .ok (.int xs.length) S := (rfl)
@[simp] theorem ev_lenL : fLen [.lst a xs] S = .ok (.int xs.length) S := (rfl)
@[simp] theorem ev_lenO : fLen [.obj n] S = (match seqL S (.obj n) with
  | some xs => .ok (.int xs.length) S
  | none => .err) := (rfl)
@[simp] theorem ev_list : fList o [d] S = (match seqA S d with
  | some xs => nw o xs S
  | none => .err) := (rfl)
@[simp] theorem ev_tuple : fTuple [d] S = (match seqA S d with
  | some xs => .ok (.tup xs) S
  | none => .err) := (rfl)
@[simp] theorem ev_sum : fSum [d] S = (match (seqL S d).bind intsD with
  | some ns => .ok (.int ns.sum) S
  | none => .err) := (rfl)
@[simp] theorem ev_max2 : fMax2 [.int i, .int j] S = .ok (.int (if j > i then j else i)) S := (rfl)
@[simp] theorem ev_min2 : fMin2 [.int i, .int j] S = .ok (.int (if j < i then j else i)) S := (rfl)
@[simp] theorem ev_intB : fInt [.bl a] S = .ok (.int (if a then 1 else 0)) S := (rfl)
@[simp] theorem ev_intI : fInt [.int i] S = .ok (.int i) S := (rfl)
@[simp] theorem ev_append : fAppend (.obj n) [e] S = (match S[n]? with
  | some (.lst xs) => if xs.length < big then .ok .non (S.set n (.lst (xs ++ [e]))) else .err
  | _ => .err) := (rfl)
@[simp] theorem ev_extend : fExtend (.obj n) [e] S = (match S[n]?, seqM S e with
  | some (.lst xs), some ys => if xs.length + ys.length ≤ big then .ok .non (S.set n (.lst (xs ++ ys))) else .err
  | _, _ => .err) := (rfl)
@[simp] theorem ev_pop : fPop (.obj n) [] S = (match S[n]? with
  | some (.lst xs) => (match xs[xs.length - 1]? with
    | some y => .ok y (S.set n (.lst xs.dropLast))
    | none => .err)
  | _ => .err) := (rfl)
@[simp] theorem ev_popAt : fPopAt (.obj n) [.int i] S = (match S[n]? with
  | some (.lst xs) => if 0 ≤ i ∧ i < xs.length ∧ i ≤ 100000 then (match xs[i.toNat]? with
    | some y => .ok y (S.set n (.lst (xs.eraseIdx i.toNat)))
    | none => .err) else .err
  | _ => .err) := (rfl)
@[simp] theorem ev_reverse : fReverse (.obj n) [] S = (match S[n]? with
  | some (.lst xs) => .ok .non (S.set n (.lst xs.reverse))
  | _ => .err) := (rfl)
@[simp] theorem ev_slT {lo hi : Option Int} : fSl o (.tup xs) lo hi S = .ok (.tup (cutD xs lo hi)) S := (rfl)
@[simp] theorem ev_slL {lo hi : Option Int} : fSl o (.lst a xs) lo hi S = nw o (cutD xs lo hi) S := (rfl)
@[simp] theorem ev_slO {lo hi : Option Int} : fSl o (.obj n) lo hi S = (match seqL S (.obj n) with
  | some xs => nw o (cutD xs lo hi) S
  | none => .err) := (rfl)
@[simp] theorem ev_intsD (ns : List Int) : intsD (ns.map D.int) = some ns := intsD_map ns
@[simp] theorem ev_intsD0 : intsD [] = some [] := (rfl)
@[simp] theorem ev_iAnyL {t : EM} : iAnyM t G S = (t G S).bindI fun d S1 => match d with
  | .lst _ xs => .ok xs always S1
  | .obj i => (match S1[i]? with
    | some (.lst xs) => .ok xs (isAt i xs) S1
    | _ => .err)
  | .tup xs => .ok xs always S1
  | .str x => .ok (sgD x) always S1
  | _ => .err := (rfl)
@[simp] theorem ev_iRg1 {t : AM} : iRg1 t G S = (t G S).bindI fun ds S1 => match ds with
  | [.int n] => if n ≤ 1000000 ∧ -1000000 ≤ n then .ok (rgD 0 n.toNat) always S1 else .err
  | _ => .err := (rfl)
@[simp] theorem ev_iRg2 {t : AM} : iRg2 t G S = (t G S).bindI fun ds S1 => match ds with
  | [.int m, .int n] => if n ≤ 1000000 ∧ -1000000 ≤ n ∧ m ≤ 1000000 ∧ -1000000 ≤ m then .ok (rgD m (n - m).toNat) always S1 else .err
  | _ => .err := (rfl)
@[simp] theorem ev_iRg3 {t : AM} : iRg3 t G S = (t G S).bindI fun ds S1 => match ds with
  | [.int m, .int n, .int c] => if c = -1 ∧ n ≤ 1000000 ∧ -1000000 ≤ n ∧ m ≤ 1000000 ∧ -1000000 ≤ m then .ok (rgC m (-1) (m - n).toNat) always S1 else .err
  | _ => .err := (rfl)
@[simp] theorem ev_forNil {ck : Sto → Bool} {f : D → SM} : forRun ck f [] G S = if ck S then .nx G S else .err := (rfl)
theorem ev_forCons {ck : Sto → Bool} {f : D → SM} : forRun ck f (x :: xs) G S = if ck S then (match f x G S with
    | .nx G' S' => forRun ck f xs G' S'
    | .ct G' S' => forRun ck f xs G' S'
    | .bk G' S' => .nx G' S'
    | r => r) else .err := (rfl)
@[simp] theorem isAt_self {n : Nat} {xs : List D} (h : S[n]? = some (.lst xs)) : isAt n xs S = true := by
  unfold isAt; rw [h]; exact beqDs_refl xs
@[simp] theorem subs_nil {g : Bool → Option Bool} {f : Nat → Option D} : subs g f [] = some [] := (rfl)
@[simp] theorem subs_cons {g : Bool → Option Bool} {f : Nat → Option D} : subs g f (d :: ds) = (match sub g f d, subs g f ds with
  | some e, some es => some (e :: es)
  | _, _ => none) := (rfl)
@[simp] theorem sub_int {g : Bool → Option Bool} {f : Nat → Option D} : sub g f (.int i) = some (.int i) := (rfl)
@[simp] theorem sub_non {g : Bool → Option Bool} {f : Nat → Option D} : sub g f .non = some .non := (rfl)
@[simp] theorem sub_bl {g : Bool → Option Bool} {f : Nat → Option D} : sub g f (.bl a) = some (.bl a) := (rfl)
@[simp] theorem sub_str {g : Bool → Option Bool} {f : Nat → Option D} : sub g f (.str c) = some (.str c) := (rfl)
@[simp] theorem sub_tup {g : Bool → Option Bool} {f : Nat → Option D} : sub g f (.tup xs) = (subs g f xs).map .tup := (rfl)
@[simp] theorem sub_lstA {f : Nat → Option D} : sub gArg f (.lst a xs) = (subs gArg f xs).map (.lst false) := (rfl)
@[simp] theorem sub_lstR {f : Nat → Option D} : sub gRes f (.lst true xs) = (subs gRes f xs).map (.lst true) := (rfl)
@[simp] theorem sub_obj {g : Bool → Option Bool} {f : Nat → Option D} : sub g f (.obj n) = f n := (rfl)
theorem subs_map {α : Type} (g : Bool → Option Bool) (f : Nat → Option D) (h : α → D) : ∀ (l : List α), (∀ x ∈ l, sub g f (h x) = some (h x)) → subs g f (l.map h) = some (l.map h)
  | [], _ => rfl
  | x :: l, hl => by
    rw [List.map_cons, subs_cons, hl x List.mem_cons_self, subs_map g f h l fun y hy => hl y (List.mem_cons_of_mem _ hy)]
@[simp] theorem subs_ints (g : Bool → Option Bool) (f : Nat → Option D) (ns : List Int) : subs g f (ns.map D.int) = some (ns.map D.int) := subs_map g f D.int ns fun _ _ => rfl
theorem frz_s {g : Bool → Option Bool} : frz g a S (n + 1) = fun i => match S[i]? with
  | some (.lst xs) => (subs g (frz g a S n) xs).map (.lst a)
  | some (.dct []) => some (.emp a)
  | some (.tpx xs) => (subs g (frz g a S n) xs).map .tup
  | _ => none := (rfl)
@[simp] theorem ev_argDs : argDs S ds = subs gArg (frz gArg false S 4) ds := (rfl)
@[simp] theorem ev_argD : argD S d = sub gArg (frz gArg false S 4) d := (rfl)
@[simp] theorem ev_resD : resD S d = sub gRes (frz gRes true S 4) d := (rfl)
@[simp] theorem frz4 {g : Bool → Option Bool} : frz g a S 4 n = (match S[n]? with
  | some (.lst xs) => (subs g (frz g a S 3) xs).map (.lst a)
  | some (.dct []) => some (.emp a)
  | some (.tpx xs) => (subs g (frz g a S 3) xs).map .tup
  | _ => none) := (rfl)
@[simp] theorem imms_ints (ns : List Int) : imms (ns.map D.int) = true := by
  induction ns with
  | nil => rfl
  | cons n ns ih => simp [imms, imm, ih]
@[simp] theorem allTs_ints (ns : List Int) : allTs (ns.map D.int) = true := allTs_imms _ (imms_ints ns)
@[simp] theorem objLts_ints (ns : List Int) : objLts n (ns.map D.int) = true := objLts_imms n _ (imms_ints ns)
@[simp] theorem allT_int : allT (.int i) = true := (rfl)
@[simp] theorem allT_bl : allT (.bl a) = true := (rfl)
@[simp] theorem allT_str : allT (.str c) = true := (rfl)
@[simp] theorem allT_non : allT .non = true := (rfl)
@[simp] theorem allT_tup : allT (.tup xs) = allTs xs := (rfl)
@[simp] theorem allT_lst : allT (.lst true xs) = allTs xs := by simp [allT]
@[simp] theorem allTs_nil : allTs [] = true := (rfl)
@[simp] theorem allTs_cons : allTs (d :: ds) = (allT d && allTs ds) := (rfl)
theorem callP_of {F : Fn} {as : List D} {d' : D} (h : argDs S ds = some as) (hF : F as [] = .rt d S') (hr : resD S' d = some d') (ht : allT d' = true) : callP F ds S = .ok d' S := by
  unfold callP
  rw [h]
  dsimp only
  rw [hF]
  dsimp only
  rw [hr]
  simp [ht]
theorem callP_ex {F : Fn} {as : List D} (h : argDs S ds = some as) (hF : F as [] = .ex c) : callP F ds S = .ex c S := by
  unfold callP
  rw [h]
  dsimp only
  rw [hF]
theorem callO_of {F : Fn} {as : List D} (h : argDs S ds = some as) (hF : F as [] = .rt d S') (hr : resD S' d = some (.lst true xs)) (ht : imms xs = true) : callO F ds S = .ok (.obj S.length) (S ++ [.lst xs]) := by
  unfold callO
  rw [h]
  dsimp only
  rw [hF]
  dsimp only
  rw [hr]
  simp [ht]
theorem ev_runF {len : Nat} : runF n len q ds S = if ds.length = n then (match q (ds.map some ++ List.replicate (len - n) none) S with
  | .nx _ S' => .rt .non S'
  | .rt d S' => .rt d S'
  | .ex c _ _ => .ex c
  | _ => .err) else .err := (rfl)
/-- every turn goes on -/
theorem for_st {ck : Sto → Bool} {f : D → SM} (st : Nat → Gam × Sto) : ∀ (l : List D) (j : Nat), (∀ i, j ≤ i → i ≤ j + l.length → ck (st i).2 = true) →
    (∀ i x, l[i]? = some x → f x (st (j + i)).1 (st (j + i)).2 = .nx (st (j + i + 1)).1 (st (j + i + 1)).2 ∨ f x (st (j + i)).1 (st (j + i)).2 = .ct (st (j + i + 1)).1 (st (j + i + 1)).2) →
    forRun ck f l (st j).1 (st j).2 = .nx (st (j + l.length)).1 (st (j + l.length)).2
  | [], j, hc, _ => by simp [hc j (Nat.le_refl _) (by simp)]
  | x :: l, j, hc, h => by
    rw [ev_forCons, if_pos (hc j (Nat.le_refl _) (by omega))]
    have ih := for_st st l (j + 1) (fun i h1 h2 => hc i (by omega) (by simp; omega)) (fun i y hy => by
      have := h (i + 1) y (by simpa using hy)
      have e : j + (i + 1) = j + 1 + i := by omega
      rw [e] at this
      exact this)
    have e2 : j + (x :: l).length = j + 1 + l.length := by simp; omega
    rw [e2, ← ih]
    rcases h 0 x rfl with h0 | h0 <;> (rw [Nat.add_zero] at h0; rw [h0])
/-- the turns' states, from the loop's start -/
theorem for_go {f : D → SM} {l : List D} (st : Nat → Gam × Sto) (h0 : (G, S) = st 0)
    (h : ∀ i x, l[i]? = some x → f x (st i).1 (st i).2 = .nx (st (i + 1)).1 (st (i + 1)).2) : forRun always f l G S = .nx (st l.length).1 (st l.length).2 := by
  have := for_st (ck := always) (f := f) st l 0 (fun _ _ _ => rfl) (fun i x hx => .inl (by simpa using h i x hx))
  rw [← h0, Nat.zero_add] at this
  exact this
end
end Ab

end
section
set_option Elab.async false
set_option linter.all false
set_option maxRecDepth 100000
namespace Ab
open PySem PySem.Spec PyProof.Rows L2
section
variable {G : Gam} {S S' : Sto} {d e x y : D} {ds es xs ys : List D} {n : Nat} {α : Type}
theorem atI_of {xs : List α} {i : Int} {a : α} (h0 : 0 ≤ i) (h : xs[i.toNat]? = some a) : L2.atI xs i = some a := by
  have hl : i.toNat < xs.length := (List.getElem?_eq_some_iff.mp h).1
  unfold L2.atI L2.ixN
  rw [if_pos h0, if_pos (by omega)]
  exact h
theorem atI_nat {xs : List α} {n : Nat} {a : α} (h : xs[n]? = some a) : L2.atI xs (n : Int) = some a := atI_of (by omega) (by simpa using h)
theorem atI_map {β : Type} (f : α → β) {xs : List α} {i : Int} {a : α} (h0 : 0 ≤ i) (h : xs[i.toNat]? = some a) : L2.atI (xs.map f) i = some (f a) := atI_of h0 (by rw [List.getElem?_map, h]; rfl)
theorem atI_neg {xs : List α} {i : Int} {a : α} (h0 : i < 0) (h1 : -(xs.length : Int) ≤ i) (h : xs[(i + xs.length).toNat]? = some a) : L2.atI xs i = some a := by
  unfold L2.atI L2.ixN
  rw [if_neg (by omega), if_pos h1]
  exact h
theorem ixN_of {i : Int} {l : Nat} (h0 : 0 ≤ i) (h : i < l) : L2.ixN l i = some i.toNat := by
  unfold L2.ixN
  rw [if_pos h0, if_pos h]
theorem cutD_all (xs : List α) : cutD xs none none = xs := by simp [cutD, HT.sIx]
theorem cutD_to {xs : List α} {i : Int} (h : 0 ≤ i) : cutD xs none (some i) = xs.take i.toNat := by
  simp only [cutD, HT.sIx]
  rw [if_neg (by omega)]
  simp only [List.drop_zero, Nat.sub_zero]
  by_cases hl : i.toNat ≤ xs.length
  · rw [Nat.min_eq_left hl]
  · rw [Nat.min_eq_right (by omega), List.take_of_length_le (Nat.le_refl _), List.take_of_length_le (by omega)]
theorem cutD_from {xs : List α} {i : Int} (h : 0 ≤ i) : cutD xs (some i) none = xs.drop i.toNat := by
  simp only [cutD, HT.sIx]
  rw [if_neg (by omega)]
  by_cases hl : i.toNat ≤ xs.length
  · rw [Nat.min_eq_left hl, List.take_of_length_le (by simp)]
  · rw [Nat.min_eq_right (by omega), List.drop_of_length_le (Nat.le_refl _), List.drop_of_length_le (by omega), List.take_nil]
theorem cutD_mid {xs : List α} {i j : Int} (h : 0 ≤ i) (hj : 0 ≤ j) : cutD xs (some i) (some j) = (xs.take j.toNat).drop i.toNat := by
  simp only [cutD, HT.sIx]
  rw [if_neg (by omega), if_neg (by omega), List.drop_take]
  by_cases hl : i.toNat ≤ xs.length
  · rw [Nat.min_eq_left hl]
    by_cases hm : j.toNat ≤ xs.length
    · rw [Nat.min_eq_left hm]
    · rw [Nat.min_eq_right (by omega), List.take_of_length_le (by simp), List.take_of_length_le (by simp; omega)]
  · rw [Nat.min_eq_right (a := i.toNat) (by omega), List.drop_of_length_le (Nat.le_refl _), List.drop_of_length_le (l := xs) (i := i.toNat) (by omega), List.take_nil, List.take_nil]
theorem rgD_map (lo : Int) (n : Nat) : rgD lo n = ((List.range n).map fun i : Nat => lo + (i : Int)).map D.int := by
  simp [rgD, List.map_map, Function.comp_def]
theorem rgD_get? (lo : Int) {n j : Nat} (h : j < n) : (rgD lo n)[j]? = some (.int (lo + j)) := by
  simp [rgD, List.getElem?_map, List.getElem?_range h]
@[simp] theorem rgD_len (lo : Int) (n : Nat) : (rgD lo n).length = n := by simp [rgD]
theorem for_invC {ck : Sto → Bool} {f : D → SM} (I : Nat → Gam → Sto → Prop) : ∀ (l : List D) (j : Nat) (G : Gam) (S : Sto), I j G S → (∀ i G S, I i G S → ck S = true) →
    (∀ i x G S, l[i]? = some x → I (j + i) G S → ∃ G' S', (f x G S = .nx G' S' ∨ f x G S = .ct G' S') ∧ I (j + i + 1) G' S') → ∃ G' S', forRun ck f l G S = .nx G' S' ∧ I (j + l.length) G' S'
  | [], j, G, S, h0, hc, _ => ⟨G, S, by simp [hc j G S h0], h0⟩
  | x :: l, j, G, S, h0, hc, h => by
    obtain ⟨G1, S1, e1, i1⟩ := h 0 x G S rfl h0
    obtain ⟨G2, S2, e2, i2⟩ := for_invC (ck := ck) (f := f) I l (j + 1) G1 S1 i1 hc (fun i y G S hy hI => by
      have := h (i + 1) y G S (by simpa using hy) (by rw [← Nat.add_assoc, Nat.add_right_comm]; exact hI)
      have e : j + (i + 1) = j + 1 + i := by omega
      rw [e] at this
      exact this)
    refine ⟨G2, S2, ?_, by have e : j + (x :: l).length = j + 1 + l.length := by simp; omega
                           rw [e]; exact i2⟩
    rw [ev_forCons, if_pos (hc j G S h0), ← e2]
    rcases e1 with e1 | e1 <;> rw [e1]
theorem for_inv {f : D → SM} {l : List D} (I : Nat → Gam → Sto → Prop) (h0 : I 0 G S)
    (h : ∀ i x G S, l[i]? = some x → I i G S → ∃ G' S', (f x G S = .nx G' S' ∨ f x G S = .ct G' S') ∧ I (i + 1) G' S') : ∃ G' S', forRun always f l G S = .nx G' S' ∧ I l.length G' S' := by
  have := for_invC (ck := always) I l 0 G S h0 (fun _ _ _ _ => rfl) (fun i x G S hx hI => by
    rw [Nat.zero_add] at hI ⊢; exact h i x G S hx hI)
  rw [Nat.zero_add] at this
  exact this
/-- turns go on until one leaves the def -/
theorem for_ret {ck : Sto → Bool} {f : D → SM} (I : Nat → Gam → Sto → Prop) (P : D → Sto → Prop) : ∀ (l : List D) (j : Nat) (G : Gam) (S : Sto), I j G S → (∀ i G S, I i G S → ck S = true) →
    (∀ i x G S, l[i]? = some x → I (j + i) G S → (∃ G' S', (f x G S = .nx G' S' ∨ f x G S = .ct G' S') ∧ I (j + i + 1) G' S') ∨ ∃ d S', f x G S = .rt d S' ∧ P d S') →
    (∃ G' S', forRun ck f l G S = .nx G' S' ∧ I (j + l.length) G' S') ∨ ∃ d S', forRun ck f l G S = .rt d S' ∧ P d S'
  | [], j, G, S, h0, hc, _ => .inl ⟨G, S, by simp [hc j G S h0], h0⟩
  | x :: l, j, G, S, h0, hc, h => by
    rcases h 0 x G S rfl h0 with ⟨G1, S1, e1, i1⟩ | ⟨d, S1, e1, p⟩
    · rcases for_ret (ck := ck) (f := f) I P l (j + 1) G1 S1 i1 hc (fun i y G S hy hI => by
        have := h (i + 1) y G S (by simpa using hy) (by rw [← Nat.add_assoc, Nat.add_right_comm]; exact hI)
        have e : j + (i + 1) = j + 1 + i := by omega
        rw [e] at this
        exact this) with ⟨G2, S2, e2, i2⟩ | ⟨d, S2, e2, p⟩
      · refine .inl ⟨G2, S2, ?_, by have e : j + (x :: l).length = j + 1 + l.length := by simp; omega
                                    rw [e]; exact i2⟩
        rw [ev_forCons, if_pos (hc j G S h0), ← e2]
        rcases e1 with e1 | e1 <;> rw [e1]
      · refine .inr ⟨d, S2, ?_, p⟩
        rw [ev_forCons, if_pos (hc j G S h0), ← e2]
        rcases e1 with e1 | e1 <;> rw [e1]
    · refine .inr ⟨d, S1, ?_, p⟩
      rw [ev_forCons, if_pos (hc j G S h0), e1]
theorem compRun_fm {ck : Sto → Bool} {pre : Sto} {t e : D → Sto → ER} (ι : α → D) (p : α → Bool) (h : α → D) (hck : ∀ acc, ck (pre ++ [.lst acc]) = true) : ∀ (l : List α) (acc : List D), acc.length + l.length ≤ big →
    (∀ a ∈ l, ∀ acc, t (ι a) (pre ++ [.lst acc]) = .ok (.bl (p a)) (pre ++ [.lst acc])) → (∀ a ∈ l, p a = true → ∀ acc, e (ι a) (pre ++ [.lst acc]) = .ok (h a) (pre ++ [.lst acc])) →
    compRun ck pre.length t e (l.map ι) (pre ++ [.lst acc]) = some (pre ++ [.lst (acc ++ (l.filter p).map h)])
  | [], acc, _, _, _ => by simp [compRun, hck]
  | a :: l, acc, hl, ht, he => by
    simp only [List.length_cons] at hl
    rw [List.map_cons]
    simp only [compRun]
    rw [if_pos (hck acc), ht a List.mem_cons_self acc]
    dsimp only
    have ih := compRun_fm (ck := ck) (pre := pre) (t := t) (e := e) ι p h hck l
    cases hp : p a with
    | false =>
      rw [if_neg Bool.false_ne_true, ih acc (by omega) (fun b hb => ht b (List.mem_cons_of_mem _ hb)) (fun b hb => he b (List.mem_cons_of_mem _ hb)), List.filter_cons_of_neg (by simp [hp])]
    | true =>
      rw [if_pos rfl, he a List.mem_cons_self hp acc]
      simp only [List.getElem?_concat_length]
      rw [if_pos (by omega), List.set_append_right _ _ (Nat.le_refl _)]
      simp only [Nat.sub_self, List.set_cons_zero]
      rw [ih (acc ++ [h a]) (by simp only [List.length_append, List.length_singleton]; omega) (fun b hb => ht b (List.mem_cons_of_mem _ hb)) (fun b hb => he b (List.mem_cons_of_mem _ hb)), List.filter_cons_of_pos hp]
      simp
theorem compEnd_f {pre : Sto} {acc : List D} (h1 : pre.all (oLt pre.length) = true) (h2 : objLts pre.length acc = true) : compEnd false pre.length (pre ++ [.lst acc]) = .ok (.lst true acc) pre := by
  simp [compEnd, h2, List.all_eq_true.mp h1]
  exact fun x hx => List.all_eq_true.mp h1 x hx
theorem compEnd_t {pre : Sto} {S : Sto} {n : Nat} : compEnd true n S = .ok (.obj n) S := (rfl)
@[simp] theorem ev_eYes : eYes G S = .ok (.bl true) S := (rfl)
/-- [h a for a in l if p a], a list that nobody changes -/
theorem comp_f {i : IM} {g : GM} {t e : EM} {own : List Nat} {S1 : Sto} {ck : Sto → Bool} (ι : α → D) (l : List α) (p : α → Bool) (h : α → D) (Gx : α → Gam) (hi : i G S = .ok (l.map ι) ck S1) (hck : ∀ acc, ck (S1 ++ [.lst acc]) = true) (hl : l.length ≤ 100000)
    (hS : S1.all (oLt S1.length) = true) (ho : objLts S1.length ((l.filter p).map h) = true) (hg : ∀ a ∈ l, g (ι a) (wipeG G own) = some (Gx a))
    (ht : ∀ a ∈ l, ∀ acc, t (Gx a) (S1 ++ [.lst acc]) = .ok (.bl (p a)) (S1 ++ [.lst acc])) (he : ∀ a ∈ l, p a = true → ∀ acc, e (Gx a) (S1 ++ [.lst acc]) = .ok (h a) (S1 ++ [.lst acc])) :
    mComp false i g t e own G S = .ok (.lst true ((l.filter p).map h)) S1 := by
  unfold mComp
  rw [hi]
  dsimp only
  rw [compRun_fm ι p h hck l [] (by simpa [big] using hl) (fun a ha acc => by rw [hg a ha]; exact ht a ha acc) (fun a ha hp acc => by rw [hg a ha]; exact he a ha hp acc)]
  dsimp only
  rw [List.nil_append, compEnd_f hS ho]
/-- .. one of ours -/
theorem comp_t {i : IM} {g : GM} {t e : EM} {own : List Nat} {S1 : Sto} {ck : Sto → Bool} (ι : α → D) (l : List α) (p : α → Bool) (h : α → D) (Gx : α → Gam) (hi : i G S = .ok (l.map ι) ck S1) (hck : ∀ acc, ck (S1 ++ [.lst acc]) = true) (hl : l.length ≤ 100000)
    (hg : ∀ a ∈ l, g (ι a) (wipeG G own) = some (Gx a))
    (ht : ∀ a ∈ l, ∀ acc, t (Gx a) (S1 ++ [.lst acc]) = .ok (.bl (p a)) (S1 ++ [.lst acc])) (he : ∀ a ∈ l, p a = true → ∀ acc, e (Gx a) (S1 ++ [.lst acc]) = .ok (h a) (S1 ++ [.lst acc])) :
    mComp true i g t e own G S = .ok (.obj S1.length) (S1 ++ [.lst ((l.filter p).map h)]) := by
  unfold mComp
  rw [hi]
  dsimp only
  rw [compRun_fm ι p h hck l [] (by simpa [big] using hl) (fun a ha acc => by rw [hg a ha]; exact ht a ha acc) (fun a ha hp acc => by rw [hg a ha]; exact he a ha hp acc)]
  dsimp only
  rw [List.nil_append]
  rfl
/-- without a test -/
theorem comp_f0 {i : IM} {g : GM} {e : EM} {own : List Nat} {S1 : Sto} {ck : Sto → Bool} (ι : α → D) (l : List α) (h : α → D) (Gx : α → Gam) (hi : i G S = .ok (l.map ι) ck S1) (hck : ∀ acc, ck (S1 ++ [.lst acc]) = true) (hl : l.length ≤ 100000)
    (hS : S1.all (oLt S1.length) = true) (ho : objLts S1.length (l.map h) = true) (hg : ∀ a ∈ l, g (ι a) (wipeG G own) = some (Gx a))
    (he : ∀ a ∈ l, ∀ acc, e (Gx a) (S1 ++ [.lst acc]) = .ok (h a) (S1 ++ [.lst acc])) :
    mComp false i g eYes e own G S = .ok (.lst true (l.map h)) S1 := by
  have e : l.filter (fun _ => true) = l := List.filter_eq_self.mpr fun _ _ => rfl
  have := comp_f (t := eYes) ι l (fun _ => true) h Gx hi hck hl hS (by rw [e]; exact ho) hg (fun _ _ _ => rfl) (fun a ha _ => he a ha)
  rw [e] at this
  exact this
theorem comp_t0 {i : IM} {g : GM} {e : EM} {own : List Nat} {S1 : Sto} {ck : Sto → Bool} (ι : α → D) (l : List α) (h : α → D) (Gx : α → Gam) (hi : i G S = .ok (l.map ι) ck S1) (hck : ∀ acc, ck (S1 ++ [.lst acc]) = true) (hl : l.length ≤ 100000)
    (hg : ∀ a ∈ l, g (ι a) (wipeG G own) = some (Gx a))
    (he : ∀ a ∈ l, ∀ acc, e (Gx a) (S1 ++ [.lst acc]) = .ok (h a) (S1 ++ [.lst acc])) :
    mComp true i g eYes e own G S = .ok (.obj S1.length) (S1 ++ [.lst (l.map h)]) := by
  have e : l.filter (fun _ => true) = l := List.filter_eq_self.mpr fun _ _ => rfl
  have := comp_t (t := eYes) ι l (fun _ => true) h Gx hi hck hl hg (fun _ _ _ => rfl) (fun a ha _ => he a ha)
  rw [e] at this
  exact this
@[simp] theorem ev_wipe0 : wipeG G [] = G := (rfl)
@[simp] theorem ev_wipe1 {v : Nat} {vs : List Nat} : wipeG G (v :: vs) = (wipeG G vs).set v none := (rfl)
end
end Ab

end
section
set_option Elab.async false
set_option linter.all false
set_option maxRecDepth 100000
namespace Ab
open PySem PySem.Spec PyProof.Rows L2
section
variable {G : Gam} {S S' : Sto} {d e x y : D} {as ds es xs ys : List D} {n : Nat} {α β : Type} {F : Fn} {c : Str}
def runP (F : Fn) (as : List D) (S : Sto) : ER := match F as [] with
  | .rt d S' => (match resD S' d with
    | some e => if allT e then .ok e S else .err
    | none => .err)
  | .ex c => .ex c S
  | .err => .err
def runO (F : Fn) (as : List D) (S : Sto) : ER := match F as [] with
  | .rt d S' => (match resD S' d with
    | some (.lst true xs) => if imms xs then .ok (.obj S.length) (S ++ [.lst xs]) else .err
    | _ => .err)
  | .ex c => .ex c S
  | .err => .err
@[simp] theorem ev_callP : callP F ds S = (match argDs S ds with
  | some as => runP F as S
  | none => .err) := (rfl)
@[simp] theorem ev_callO : callO F ds S = (match argDs S ds with
  | some as => runO F as S
  | none => .err) := (rfl)
/-- F tells d of these -/
def Ret (F : Fn) (as : List D) (d : D) : Prop := ∃ e S', F as [] = .rt e S' ∧ resD S' e = some d ∧ allT d = true
/-- F refuses these -/
def Exc (F : Fn) (as : List D) (c : Str) : Prop := F as [] = .ex c
theorem Ret.run (h : Ret F as d) : runP F as S = .ok d S := by
  obtain ⟨e, S', h1, h2, h3⟩ := h
  unfold runP
  rw [h1]
  dsimp only
  rw [h2]
  simp [h3]
theorem Ret.runO (h : Ret F as (.lst true xs)) (hi : imms xs = true) : runO F as S = .ok (.obj S.length) (S ++ [.lst xs]) := by
  obtain ⟨e, S', h1, h2, h3⟩ := h
  unfold Ab.runO
  rw [h1]
  dsimp only
  rw [h2]
  simp [hi]
theorem Exc.run (h : Exc F as c) : runP F as S = .ex c S := by
  unfold runP
  rw [show F as [] = .ex c from h]
theorem Exc.runO (h : Exc F as c) : Ab.runO F as S = .ex c S := by
  unfold Ab.runO
  rw [show F as [] = .ex c from h]
theorem Ret.of (h : F as [] = .rt e S') (hr : resD S' e = some d) (ht : allT d = true) : Ret F as d := ⟨e, S', h, hr, ht⟩
/-- a scalar, a tuple of such: told as it is -/
theorem Ret.imm (h : F as [] = .rt d S') (ht : imm d = true) : Ret F as d := ⟨d, S', h, by
  rw [ev_resD]; exact sub_imm _ _ d ht, allT_imm d ht⟩
/-- an item of a list of ints -/
def gI (c : List Int) (k : Nat) : Int := c.getD k 0
theorem gI_get {c : List Int} {k : Nat} (h : k < c.length) : c[k]? = some (gI c k) := by
  rw [gI, List.getD_eq_getElem?_getD, List.getElem?_eq_getElem h]; rfl
theorem gI_mem {c : List Int} {k : Nat} (h : k < c.length) : gI c k ∈ c := List.mem_of_getElem? (gI_get h)
theorem gI_of {c : List Int} {k : Nat} {v : Int} (h : c[k]? = some v) : gI c k = v := by
  have := gI_get (List.getElem?_eq_some_iff.mp h).1
  rw [h] at this
  exact (Option.some.inj this).symm
theorem atI_gI {c : List Int} {i : Int} {k : Nat} (hi : i = k) (h : k < c.length) : L2.atI (c.map D.int) i = some (.int (gI c k)) := by
  subst hi
  exact atI_nat (by rw [List.getElem?_map, gI_get h]; rfl)
@[simp] theorem atI_c0 {a : α} {l : List α} : L2.atI (a :: l) 0 = some a := atI_nat (n := 0) rfl
@[simp] theorem atI_c1 {a b : α} {l : List α} : L2.atI (a :: b :: l) 1 = some b := atI_nat (n := 1) rfl
@[simp] theorem atI_c2 {a b c : α} {l : List α} : L2.atI (a :: b :: c :: l) 2 = some c := atI_nat (n := 2) rfl
@[simp] theorem atI_c3 {a b c d : α} {l : List α} : L2.atI (a :: b :: c :: d :: l) 3 = some d := atI_nat (n := 3) rfl
@[simp] theorem atI_last {a : α} {l : List α} : L2.atI (l ++ [a]) (-1) = some a := atI_neg (by decide) (by simp; omega) (by
  have e : ((-1 : Int) + ((l ++ [a]).length : Nat)).toNat = l.length := by simp; omega
  rw [e]; simp)
@[simp] theorem oLt_ints {n : Nat} (c : List Int) : oLt n (.lst (c.map D.int)) = true := objLts_ints c
@[simp] theorem oLt_nil {n : Nat} : oLt n (.lst []) = true := (rfl)
@[simp] theorem ev_addLL {o : Bool} : fAdd o (.lst true xs) (.lst true ys) S = if xs.length + ys.length ≤ 100000 then nw o (xs ++ ys) S else .err := by
  simp [fAdd, orR, fI, fAddS, fCat, fCatT, nw]
  by_cases h : xs.length + ys.length ≤ 100000
  · cases o <;> simp [h]
  · simp [h]
@[simp] theorem ev_addOL {o : Bool} : fAdd o (.obj n) (.lst true ys) S = (match S[n]? with
  | some (.lst xs) => if xs.length + ys.length ≤ 100000 then nw o (xs ++ ys) S else .err
  | _ => .err) := by
  simp only [fAdd, orR, fI, fAddS, fCat, fCatT, ev_seqMo, ev_seqMl, ev_big]
  cases h : S[n]? with
  | none => rfl
  | some o => cases o with
    | lst xs =>
      dsimp only
      by_cases h : xs.length + ys.length ≤ 100000
      · cases o <;> simp [h]
      · simp [h]
    | dct => rfl
    | dcs => rfl
    | tbl => rfl
    | tpx => rfl
    | ins => rfl
@[simp] theorem ev_addTT {o : Bool} : fAdd o (.tup xs) (.tup ys) S = if xs.length + ys.length ≤ 100000 then .ok (.tup (xs ++ ys)) S else .err := by
  simp only [fAdd, orR, fI, fAddS, fCat, fCatT, seqM, ev_big]
@[simp] theorem ev_addSS {o : Bool} {s t : Str} : fAdd o (.str s) (.str t) S = if s.length + t.length ≤ 100000 then .ok (.str (s ++ t)) S else .err := by
  simp only [fAdd, orR, fI, fAddS, fCat, fCatT, seqM, ev_big]
  split <;> simp_all
@[simp] theorem imm_int {i : Int} : imm (.int i) = true := (rfl)
@[simp] theorem imm_bl {i : Bool} : imm (.bl i) = true := (rfl)
@[simp] theorem imm_str {i : Str} : imm (.str i) = true := (rfl)
@[simp] theorem imm_non : imm .non = true := (rfl)
@[simp] theorem imm_tup : imm (.tup xs) = imms xs := (rfl)
@[simp] theorem imms_nil : imms [] = true := (rfl)
@[simp] theorem imms_cons : imms (d :: ds) = (imm d && imms ds) := (rfl)
end
end Ab

end
section
set_option Elab.async false
set_option linter.all false
set_option maxRecDepth 100000
namespace Ab
open PySem PySem.Spec PyProof.Rows L2
def valI (kvs : List (Int × D)) (k : Int) : Option D := (kvs.find? fun kv => decide (kv.1 = k)).map (·.2)
def putI (kvs : List (Int × D)) (k : Int) (v : D) : List (Int × D) :=
  if (kvs.any fun kv => decide (kv.1 = k)) = true then kvs.map (fun kv => if kv.1 = k then (kv.1, v) else kv) else kvs ++ [(k, v)]
section
variable {K : PySem.W.Frag} {H0 H : Hp} {rho : List Addr}
theorem dct_val : ∀ {kvs : List (Int × D)} {ws : List (Key × V)} (k : Int), ws.map (·.1) = kvs.map (fun p => Sum.inl p.1) → Reps K H0 H rho (kvs.map (·.2)) (ws.map (·.2)) →
    match valI kvs k with
    | some d => ∃ v, valV ws (Sum.inl k) = some v ∧ Rep K H0 H rho d v
    | none => valV ws (Sum.inl k) = none
  | [], [], k, _, _ => rfl
  | [], w :: ws, k, h, _ => by simp at h
  | p :: kvs, [], k, h, _ => by simp at h
  | p :: kvs, w :: ws, k, h, r => by
    simp only [List.map_cons, List.cons.injEq] at h
    simp only [List.map_cons, Reps] at r
    obtain ⟨v, t, e, r1, r2⟩ := r
    simp only [List.cons.injEq] at e
    obtain ⟨e1, e2⟩ := e
    subst e2
    obtain ⟨pk, pd⟩ := p
    obtain ⟨wk, wv⟩ := w
    obtain ⟨h1, h2⟩ := h
    simp only at h1 e1 r1
    subst h1 e1
    have ih := dct_val (kvs := kvs) (ws := ws) k h2 r2
    by_cases hk : pk = k
    · subst hk
      simp only [valI, List.find?_cons, decide_true, Option.map_some, valV]
      exact ⟨_, rfl, r1⟩
    · have n1 : decide (pk = k) = false := by simp [hk]
      have n2 : decide ((Sum.inl pk : Key) = Sum.inl k) = false := by simp [hk]
      simp only [valI, valV, List.find?_cons, n1, n2] at ih ⊢
      exact ih
theorem dct_put {kvs : List (Int × D)} {ws : List (Key × V)} (k : Int) {d : D} {v : V} (h : ws.map (·.1) = kvs.map (fun p => Sum.inl p.1)) (r : Reps K H0 H rho (kvs.map (·.2)) (ws.map (·.2))) (rv : Rep K H0 H rho d v) :
    (putK ws (Sum.inl k) v).map (·.1) = (putI kvs k d).map (fun p => Sum.inl p.1) ∧ Reps K H0 H rho ((putI kvs k d).map (·.2)) ((putK ws (Sum.inl k) v).map (·.2)) := by
  have key : ∀ (kvs : List (Int × D)) (ws : List (Key × V)), ws.map (·.1) = kvs.map (fun p => Sum.inl p.1) → Reps K H0 H rho (kvs.map (·.2)) (ws.map (·.2)) →
      (ws.any fun kv => decide (kv.1 = Sum.inl k)) = (kvs.any fun kv => decide (kv.1 = k)) ∧
      (ws.map (fun kv => if kv.1 = Sum.inl k then (kv.1, v) else kv)).map (·.1) = (kvs.map (fun kv => if kv.1 = k then (kv.1, d) else kv)).map (fun p => (Sum.inl p.1 : Key)) ∧
      Reps K H0 H rho ((kvs.map (fun kv => if kv.1 = k then (kv.1, d) else kv)).map (·.2)) ((ws.map (fun kv => if kv.1 = Sum.inl k then (kv.1, v) else kv)).map (·.2)) := by
    intro kvs
    induction kvs with
    | nil =>
      intro ws h r
      cases ws with
      | nil => exact ⟨rfl, rfl, .nil⟩
      | cons w ws => simp at h
    | cons p kvs ih =>
      intro ws h r
      cases ws with
      | nil => simp at h
      | cons w ws =>
        simp only [List.map_cons, List.cons.injEq] at h
        simp only [List.map_cons, Reps] at r
        obtain ⟨u, t, e, r1, r2⟩ := r
        simp only [List.cons.injEq] at e
        obtain ⟨e1, e2⟩ := e
        subst e2
        obtain ⟨pk, pd⟩ := p
        obtain ⟨wk, wv⟩ := w
        obtain ⟨h1, h2⟩ := h
        simp only at h1 e1 r1
        subst h1 e1
        obtain ⟨i1, i2, i3⟩ := ih ws h2 r2
        refine ⟨by simp [i1], ?_, ?_⟩
        · simp only [List.map_cons]
          rw [i2]
          by_cases hk : pk = k <;> simp [hk]
        · simp only [List.map_cons]
          refine Reps.cons ?_ i3
          by_cases hk : pk = k
          · simp [hk, rv]
          · simp [hk, r1]
  obtain ⟨i1, i2, i3⟩ := key kvs ws h r
  unfold putK putI
  rw [i1]
  split
  · exact ⟨i2, i3⟩
  · refine ⟨by simp [h], ?_⟩
    rw [List.map_append, List.map_append]
    exact r.append (.one rv)
theorem dct_at {S : Sto} (s : SOk K H0 H rho S) {i : Nat} {kvs : List (Int × D)} {v : V} (h : S[i]? = some (.dct kvs)) (r : Rep K H0 H rho (.obj i) v) :
    ∃ a ws, v = .ref a ∧ rho[i]? = some a ∧ H a = some (.dK ws) ∧ ws.map (·.1) = kvs.map (fun p => Sum.inl p.1) ∧ Reps K H0 H rho (kvs.map (·.2)) (ws.map (·.2)) := by
  simp only [Rep] at r
  obtain ⟨a, rfl, q⟩ := r
  obtain ⟨b, e1, ws, e2, e3, r⟩ := s.at_ i _ h
  rw [q] at e1; cases e1
  exact ⟨a, ws, rfl, q, e2, e3, r⟩
end
def dctOf (S : Sto) : D → Option (List (Int × D))
  | .obj i => match S[i]? with
    | some (.dct kvs) => some kvs
    | _ => none
  | _ => none
theorem dctOf_at {K : PySem.W.Frag} {H0 H : Hp} {rho : List Addr} {S : Sto} (s : SOk K H0 H rho S) {d : D} {kvs : List (Int × D)} {v : V} (h : dctOf S d = some kvs) (r : Rep K H0 H rho d v) :
    ∃ i, d = .obj i ∧ S[i]? = some (.dct kvs) ∧ ∃ a ws, v = .ref a ∧ rho[i]? = some a ∧ H a = some (.dK ws) ∧ ws.map (·.1) = kvs.map (fun p => Sum.inl p.1) ∧ Reps K H0 H rho (kvs.map (·.2)) (ws.map (·.2)) := by
  unfold dctOf at h
  split at h
  · rename_i i
    split at h
    · rename_i k2 hS
      cases h
      exact ⟨i, rfl, hS, dct_at s hS r⟩
    · cases h
  · cases h
/-- k in d -/
def fInD (neg : Bool) : D → D → Sto → ER := fun d e S => match d, dctOf S e with
  | .int k, some kvs => .ok (.bl (if neg then !(valI kvs k).isSome else (valI kvs k).isSome)) S
  | _, _ => .err
def rInD (neg : Bool) : R2 := fun y x H Q => ∃ a o, x = .ref a ∧ DGet H a y o ∧ Q (.bl (if neg then !o.isSome else o.isSome)) H
theorem op_inD {X : Cx} (hu : X.A.units + 1 < cLine) : OpR X (compareOp .In) (rInD false) := by
  intro pins s σ H x y v u Q I rx ry h
  obtain ⟨a, o, rfl, g, q⟩ := h
  obtain rfl : u = Value.ref a := ry
  exact d_in hu I g rx fun s3 I3 => ⟨.bl o.isSome, H, I3, rfl, q⟩
theorem op_notInD {X : Cx} (hu : X.A.units + 1 < cLine) : OpR X (compareOp .NotIn) (rInD true) := by
  intro pins s σ H x y v u Q I rx ry h
  obtain ⟨a, o, rfl, g, q⟩ := h
  obtain rfl : u = Value.ref a := ry
  exact d_notIn hu I g rx fun s3 I3 => ⟨.bl (!o.isSome), H, I3, rfl, q⟩
theorem dget_at {K : PySem.W.Frag} {H0 H : Hp} {rho : List Addr} {S : Sto} (s : SOk K H0 H rho S) {e : D} {kvs : List (Int × D)} {v : V} (k : Int) (h : dctOf S e = some kvs) (r : Rep K H0 H rho e v) :
    ∃ a o, v = .ref a ∧ DGet H a (.int k) o ∧ (match valI kvs k with
      | some d => ∃ w, o = some w ∧ Rep K H0 H rho d w
      | none => o = none) := by
  obtain ⟨i, rfl, hS, a, ws, rfl, _, e2, e3, r⟩ := dctOf_at s h r
  exact ⟨a, _, rfl, DGet.k (k := Sum.inl k) e2, dct_val k e3 r⟩
theorem sim_inD {K : PySem.W.Frag} (neg : Bool) : SimR K (rInD neg) (fInD neg) := fun H0 H rho S W d e x y s rd re Q q => by
  unfold fInD at q
  split at q
  · rename_i k kvs h1
    simp only [Rep] at rd
    subst rd
    obtain ⟨a, o, rfl, g, hv⟩ := dget_at s k h1 re
    refine ⟨a, o, rfl, g, ?_⟩
    have ho : o.isSome = (valI kvs k).isSome := by
      cases hk : valI kvs k with
      | none => rw [hk] at hv; have hv2 : o = none := hv; subst hv2; rfl
      | some d => rw [hk] at hv; obtain ⟨w, rfl, _⟩ := hv; rfl
    rw [ho]
    exact EPost.done (d := .bl _) s (by simp [Rep]) q
  · exact q.elim
theorem cr_inD {X : Cx} (hu : X.A.units + 1 < cLine) : CmpR X .In (fInD false) := ⟨_, op_inD hu, sim_inD false⟩
theorem cr_notInD {X : Cx} (hu : X.A.units + 1 < cLine) : CmpR X .NotIn (fInD true) := ⟨_, op_notInD hu, sim_inD true⟩
/-- d[k] -/
def mDGet (mo mi : EM) : EM := fun G S => (mo G S).bind fun e S1 => (mi G S1).bind fun d S2 => match d, dctOf S2 e with
  | .int k, some kvs => (match valI kvs k with
    | some v => .ok v S2
    | none => .err)
  | _, _ => .err
/-- d[k] = v -/
def mDPut (mo mi mv : EM) : SM := fun G S => (mv G S).bindS G fun v S1 => (mo G S1).bindS G fun e S2 => (mi G S2).bindS G fun d S3 => match e, d with
  | .obj j, .int k => (match S3[j]? with
    | some (.dct kvs) => if kvs.length < big then .nx G (S3.set j (.dct (putI kvs k v))) else .err
    | _ => .err)
  | _, _ => .err
/-- list(d) -/
def mKeys (o : Bool) (m : EM) : EM := fun G S => (m G S).bind fun e S1 => match dctOf S1 e with
  | some kvs => nw o (kvs.map fun p => .int p.1) S1
  | none => .err
section
variable {X : Cx} {W : WX} {a b c e : Expr} {es : List Expr} {ma mb mc : EM} {m : AM} {p pos : Pos}
theorem je_dget (hu : X.A.units + 1 < cLine) (ho : JE X W a ma) (hi : JE X W b mb) (hs : NoSl b) : JE X W (.Subscript a b pos) (mDGet ma mb) := by
  obtain ⟨ta, pa, sa⟩ := ho
  obtain ⟨tb, pb, sb⟩ := hi
  refine ⟨_, pe_dget hu pa pb hs, fun H0 G S sg H rho st Q h => sa H0 G S sg H rho st _ (bindE h fun d1 S1 v H1 rho1 s1 t1 r1 h1 => ?_)⟩
  refine sb H0 G S1 sg H1 rho1 (st.step s1 t1) _ (bindE h1 fun d2 S2 w H2 rho2 s2 t2 r2 h2 => ?_)
  split at h2
  · rename_i k kvs hk
    simp only [Rep] at r2
    subst r2
    obtain ⟨p, o, rfl, g, hv⟩ := dget_at s2 k hk (Rep.keep s1 t2 _ _ r1)
    cases hval : valI kvs k with
    | none => rw [hval] at h2; exact h2.elim
    | some d =>
      rw [hval] at h2 hv
      obtain ⟨z, rfl, rz⟩ := hv
      exact ⟨p, z, rfl, g, EPost.done s2 rz h2⟩
  · exact h2.elim
theorem js_dput {tp : Pos} (hu : X.A.units + 1 < cLine) (ho : JE X W b mb) (hi : JE X W c mc) (hv : JE X W a ma) (hs : swapsWith a (some (.Subscript b c tp)) pos.line X.env = pure false) : JS X W (.Assign [.Subscript b c tp] a pos) (mDPut mb mc ma) := by
  obtain ⟨ta, pa, sa⟩ := hv
  obtain ⟨tb, pb, sb⟩ := ho
  obtain ⟨tc, pc, sc⟩ := hi
  refine ⟨_, ps_dput hu pb pc pa hs, fun H0 G S sg H rho st E h => sa H0 G S sg H rho st _ (bindES st h fun v S1 x H1 rho1 s1 t1 r1 h1 => ?_)⟩
  refine sb H0 G S1 sg H1 rho1 s1 _ (bindES s1 h1 fun o S2 y H2 rho2 s2 t2 r2 h2 => ?_)
  refine sc H0 G S2 sg H2 rho2 s2 _ (bindES s2 h2 fun i S3 z H3 rho3 s3 t3 r3 h3 => ?_)
  split at h3
  · rename_i j k
    split at h3
    · rename_i kvs hx
      split at h3
      · rename_i hl
        obtain ⟨p, ws, rfl, hp, hH, e3, r⟩ := dct_at s3.s hx (Rep.keep s2.s t3 _ _ r2)
        simp only [Rep] at r3
        subst r3
        have rv := Rep.keep s2.s t3 _ _ (Rep.keep s1.s t2 _ _ r1)
        obtain ⟨q1, q2⟩ := dct_put k e3 r rv
        have nf : ∀ ob u, H3 p ≠ some (.frz ob u) := fun ob u z => by rw [hH] at z; cases z
        have t4 := Stp.write s3.s (List.mem_of_getElem? hp) (.dK (putK ws (Sum.inl k) x)) nf
        have s4 : SOk X.K H0 (upd H3 p (.dK (putK ws (Sum.inl k) x))) rho3 (S3.set j (.dct (putI kvs k v))) := s3.s.write hp nf ⟨_, upd_same, q1, Reps.keep s3.s t4 _ _ q2⟩
        have hlen : ws.length < sizeLine := by
          have : ws.length = kvs.length := by
            have := congrArg List.length e3
            simpa using this
          rw [this]; exact big_lt hl
        exact ⟨p, _, rfl, DPut.k (k := Sum.inl k) hH hlen, SPost.here (s3.step s4 t4) (SPost.step t4 h3)⟩
      · exact h3.elim
    · exact h3.elim
  · exact h3.elim
theorem keys_rep {K : PySem.W.Frag} {H0 H : Hp} {rho : List Addr} : ∀ {kvs : List (Int × D)} {ws : List (Key × V)}, ws.map (·.1) = kvs.map (fun p => Sum.inl p.1) → Reps K H0 H rho (kvs.map fun p => .int p.1) (ws.map fun kv => kV kv.1)
  | [], [], _ => .nil
  | [], w :: ws, h => by simp at h
  | p :: kvs, [], h => by simp at h
  | p :: kvs, w :: ws, h => by
    simp only [List.map_cons, List.cons.injEq] at h
    simp only [List.map_cons]
    refine .cons ?_ (keys_rep h.2)
    rw [h.1]
    simp [Rep, kV]
theorem je_keys (o : Bool) (hc : X.calm = true) (hg : Gl X "list") (hm : X.mg "list" = none) (ha : JE X W a ma) (h1 : starEach [a] X.env = (false, eval a X.env) :: starEach [] X.env := by rfl) (h2 : (backTo pos (starEach [] X.env)).any (·.1) = false := by rfl) :
    JE X W (.Call (.Name "list" p) [a] [] pos) (mKeys o ma) := by
  obtain ⟨ta, pa, sa⟩ := ha
  refine ⟨_, pe_callTy (call_list_dK hc) hg hm (by decide +kernel) (pa_cons pa pa_nil h1) (by decide) (by decide) h1 h2, fun H0 G S sg H rho st Q h => sa H0 G S sg H rho st _ (bindE h fun d S1 v H1 rho1 s1 t1 r1 h1 => ?_)⟩
  split at h1
  · rename_i kvs hk
    obtain ⟨i, rfl, hS, q, ws, rfl, _, e2, e3, r⟩ := dctOf_at s1 hk r1
    exact ⟨q, ws, rfl, e2, fun z hz => new_lst s1 hz (keys_rep e3) h1⟩
  · exact h1.elim
end
end Ab

end
section
set_option Elab.async false
set_option linter.all false
set_option maxRecDepth 100000
namespace Ab
open PySem PySem.Spec PyProof.Rows L2
def fInsert : D → List D → Sto → ER := fun d ds S => match d, ds with
  | .obj i, [.int k, y] => (match S[i]? with
    | some (.lst xs) => if xs.length < big ∧ 0 ≤ k ∧ k ≤ 1000000 then .ok .non (S.set i (.lst (xs.take k.toNat ++ [y] ++ xs.drop k.toNat))) else .err
    | _ => .err)
  | _, _ => .err
/-- l.index(k), ints -/
def fIndex : D → List D → Sto → ER := fun d ds S => match (seqL S d).bind intsD, ds with
  | some ns, [.int k] => if ns.contains k then .ok (.int (ns.idxOf k : Nat)) S else .err
  | _, _ => .err
def fDivmod : List D → Sto → ER := fun ds S => match ds with
  | [.int i, .int j] => if decide (0 < j) && decide (j.natAbs.log2 < 9000) then .ok (.tup [.int (i / j), .int (i % j)]) S else .err
  | _ => .err
def fExtendT : D → List D → Sto → ER := fun d ds S => match d, ds with
  | .obj i, [.tup ys] => (match S[i]? with
    | some (.lst xs) => if xs.length + ys.length ≤ big then .ok .non (S.set i (.lst (xs ++ ys))) else .err
    | _ => .err)
  | _, _ => .err
def fMaxT : List D → Sto → ER := fun ds S => match ds with
  | [.tup xs] => (match intsD xs with
    | some ns => if ns.isEmpty then .err else .ok (.int (maxI ns)) S
    | none => .err)
  | _ => .err
def fMinT : List D → Sto → ER := fun ds S => match ds with
  | [.tup xs] => (match intsD xs with
    | some ns => if ns.isEmpty then .err else .ok (.int (minI ns)) S
    | none => .err)
  | _ => .err
def strsD : List D → Option (List Str)
  | [] => some []
  | .str x :: r => (strsD r).map (x :: ·)
  | _ => none
def mJoin (m : EM) (a : AM) : EM := fun G S => (m G S).bind fun d S1 => match d with
  | .str x => (a G S1).bind fun ds S2 => (match ds with
    | [e] => (match (seqA S2 e).bind strsD with
      | some ys => if (ys.map (·.length)).sum + ys.length * x.length ≤ 1000000 then .ok (.str (Txt.join x ys)) S2 else .err
      | none => .err)
    | _ => .err)
  | _ => .err
def mSplit (o : Bool) (m : EM) (a : AM) : EM := fun G S => (m G S).bind fun d S1 => match d with
  | .str x => (a G S1).bind fun ds S2 => (match ds with
    | [.str y] => if (y.length == 0) = false ∧ x.length ≤ 1000000 then nw o ((Txt.split x y).map .str) S2 else .err
    | _ => .err)
  | _ => .err
def mTupRev (m : EM) : EM := fun G S => (m G S).bind fun d S1 => match seqL S1 d with
  | some xs => .ok (.tup xs.reverse) S1
  | none => .err
section
variable {K : PySem.W.Frag}
theorem sim_insert : SimM K (fun x vs H Q => ∃ (l : Addr) (xs : List V) (i : Int) (y : V), x = .ref l ∧ vs = [.int i, y] ∧ H l = some (.lst xs) ∧ xs.length < sizeLine ∧ 0 ≤ i ∧ i < 2 ^ 63 ∧ Q .non (upd H l (.lst (xs.take i.toNat ++ [y] ++ xs.drop i.toNat)))) fInsert := fun H0 H rho S W d ds v vs s rd rs Q q => by
  unfold fInsert at q
  split at q
  · rename_i i k y
    split at q
    · rename_i xs hx
      split at q
      · rename_i hl
        obtain ⟨w1, w2, rfl, r1, r2⟩ := reps2 rs
        simp only [Rep] at r1
        subst r1
        obtain ⟨p, us, rfl, hp, hH, r⟩ := obj_at s hx rd
        obtain ⟨s1, t1⟩ := wr_ok s hp (((r.take k.toNat).append (.one r2)).append (r.drop k.toNat))
        exact ⟨p, us, k, w2, rfl, rfl, hH, big_lt (by rw [← r.length]; exact hl.1), hl.2.1, by omega, q _ _ rho s1 t1 (by simp [Rep])⟩
      · exact q.elim
    · exact q.elim
  · exact q.elim
theorem sim_extendT : SimM K (fun x vs H Q => ∃ l b xs zs, x = .ref l ∧ vs = [.ref b] ∧ H l = some (.lst xs) ∧ SqT K H b zs ∧ xs.length + zs.length ≤ sizeLine ∧ Q .non (upd H l (.lst (xs ++ zs)))) fExtendT := fun H0 H rho S W d ds v vs s rd rs Q q => by
  unfold fExtendT at q
  split at q
  · split at q
    · rename_i i ys xs hx
      split at q
      · rename_i hl
        obtain ⟨w, rfl, re⟩ := reps1 rs
        obtain ⟨b, zs, rfl, hb, rz⟩ := tup_at re
        obtain ⟨p, us, rfl, hp, hH, r⟩ := obj_at s hx rd
        obtain ⟨s1, t1⟩ := wr_ok s hp (r.append rz)
        exact ⟨p, b, us, zs, rfl, rfl, hH, hb, big_le (by rw [← r.length, ← rz.length]; exact hl), q _ _ rho s1 t1 (by simp [Rep])⟩
      · exact q.elim
    · exact q.elim
  · exact q.elim
theorem sim_index : SimM K (rIndex K) fIndex := fun H0 H rho S W d ds v vs s rd rs Q q => by
  unfold fIndex at q
  split at q
  · rename_i ns k hx
    split at q
    · rename_i hc
      obtain ⟨w, rfl, re⟩ := reps1 rs
      simp only [Rep] at re
      subst re
      obtain ⟨a, rfl, h⟩ := ints_at s hx rd
      have hm : k ∈ ns := by simpa using hc
      have hl : ns.idxOf k < ns.length := List.idxOf_lt_length_of_mem hm
      refine ⟨a, ns.map V.int, .int k, ns.idxOf k, .int k, rfl, rfl, h, rfl, by simp [flatV], ?_, by simp [eqV], fun m z' hm' hz => ?_, EPost.done s (d := .int _) (by simp [Rep]) q⟩
      · rw [List.getElem?_map, List.getElem?_eq_getElem hl, List.getElem_idxOf hl]; rfl
      · rw [List.getElem?_map, Option.map_eq_some_iff] at hz
        obtain ⟨j, hj, rfl⟩ := hz
        obtain ⟨hml, e⟩ := List.getElem?_eq_some_iff.mp hj
        have := List.not_of_lt_findIdx (p := (· == k)) hm'
        simp only [eqV]
        rw [e] at this
        simpa using this
    · exact q.elim
  · exact q.elim
theorem sim_divmod : SimC K (fun xs H Q => ∃ i j, xs = [.int i, .int j] ∧ CDivP i j ∧ ∀ p, H p = none → Q (.ref p) (upd H p (.tup [.int (i / j), .int (i % j)]))) fDivmod := fun H0 H rho S W ds vs s rd Q q => by
  unfold fDivmod at q
  split at q
  · rename_i i j
    split at q
    · rename_i hc
      simp only [Bool.and_eq_true, decide_eq_true_eq] at hc
      obtain ⟨v, w, rfl, r1, r2⟩ := reps2 rd
      simp only [Rep] at r1 r2
      subst r1 r2
      refine ⟨i, j, rfl, ?_, fun p hp => new_tup s hp (.cons (by simp [Rep]) (.one (by simp [Rep]))) q⟩
      exact ⟨hc.1, PyProof.noPylong_of_log2 hc.2⟩
    · exact q.elim
  · exact q.elim
theorem tints_at {H0 H : Hp} {rho : List Addr} {xs : List D} {ns : List Int} {v : V} (h : intsD xs = some ns) (r : Rep K H0 H rho (.tup xs) v) : ∃ a, v = .ref a ∧ SqT K H a (ns.map V.int) := by
  obtain ⟨a, vs, rfl, q, r⟩ := tup_at r
  have e1 := intsD_eq h
  subst e1
  rw [Reps.ints r] at q
  exact ⟨a, rfl, q⟩
def rMaxT (K : PySem.W.Frag) : List V → Hp → VK → Prop := fun vs H Q => ∃ (a : Addr) (ns : List Int), vs = [V.ref a] ∧ SqT K H a (ns.map V.int) ∧ 0 < ns.length ∧ ∀ m, m ∈ ns → (∀ y, y ∈ ns → y ≤ m) → Q (.int m) H
def rMinT (K : PySem.W.Frag) : List V → Hp → VK → Prop := fun vs H Q => ∃ (a : Addr) (ns : List Int), vs = [V.ref a] ∧ SqT K H a (ns.map V.int) ∧ 0 < ns.length ∧ ∀ m, m ∈ ns → (∀ y, y ∈ ns → m ≤ y) → Q (.int m) H
theorem sim_maxT : SimC K (rMaxT K) fMaxT := fun H0 H rho S W ds vs s rd Q q => by
  unfold fMaxT at q
  split at q
  · obtain ⟨v, rfl, r⟩ := reps1 rd
    split at q
    · rename_i ns hx
      split at q
      · exact q.elim
      · rename_i hne
        have hne' : ns ≠ [] := fun e => hne (by rw [e]; rfl)
        obtain ⟨a, rfl, h⟩ := tints_at hx r
        refine ⟨a, ns, rfl, h, List.length_pos_iff.mpr hne', fun m h1 h2 => ?_⟩
        have e : m = maxI ns := Int.le_antisymm (maxI_le h1) (h2 _ (maxI_mem hne'))
        rw [e]
        exact EPost.done s (rep_scal (d := .int _) rfl) q
    · exact q.elim
  · exact q.elim
theorem sim_minT : SimC K (rMinT K) fMinT := fun H0 H rho S W ds vs s rd Q q => by
  unfold fMinT at q
  split at q
  · obtain ⟨v, rfl, r⟩ := reps1 rd
    split at q
    · rename_i ns hx
      split at q
      · exact q.elim
      · rename_i hne
        have hne' : ns ≠ [] := fun e => hne (by rw [e]; rfl)
        obtain ⟨a, rfl, h⟩ := tints_at hx r
        refine ⟨a, ns, rfl, h, List.length_pos_iff.mpr hne', fun m h1 h2 => ?_⟩
        have e : m = minI ns := Int.le_antisymm (h2 _ (minI_mem hne')) (minI_le h1)
        rw [e]
        exact EPost.done s (rep_scal (d := .int _) rfl) q
    · exact q.elim
  · exact q.elim
end
section
variable {prog : Program} {w : World} {A : Around} {E : Value → Shared → Prop} {s : Shared} {l : Addr} {its : List Value} {ns : List Int} {Q : Value → Shared → Prop}
theorem iter_tupI {xs : Array (Int × Tok)} {Q : Value → Shared → Prop} (hl : s.heap.IsTuple l (intItems xs))
    (h : ∀ s₂ : Shared, s₂ = { s with heap := s.heap.push { cls := .type "tuple_iterator", data := .fields #[.ref l, .int 0 0] } } →
      (s₂.heap.IsTupleIter s.heap.objs.size l 0 ∧ s₂.heap.IsTuple l (intItems xs)) → (∀ b ∈ [s.heap.objs.size, l], b < s₂.heap.objs.size) → l ≠ s.heap.objs.size → Q (.ref s.heap.objs.size) s₂) :
    wpAny (model prog w) A (pyIter (.ref l)) Q E s := by
  have hlt : l < s.heap.objs.size := by obtain ⟨_, e, _⟩ := hl; exact Heap.lt_size e
  refine wpAny_pyIter_tuple hl (h _ rfl ⟨⟨_, Heap.get?_push_size _ rfl, rfl, rfl⟩, hl.push _⟩ (fun b hb => ?_) (Nat.ne_of_lt hlt))
  show b < (s.heap.push _).objs.size
  rw [Heap.size_push]
  rcases List.mem_cons.mp hb with rfl | hb
  · exact Nat.lt_succ_self _
  · rw [List.mem_singleton.mp hb]; exact Nat.lt_succ_of_lt hlt
theorem maxT_raw (hh : A.handled = none) (hl : s.heap.IsTuple l its.toArray) (hi : IntsAre its ns) (hne : 0 < ns.length)
    (h : ∀ h' tk M t', (∀ b o, s.heap.get? b = some o → h'.get? b = some o) → M ∈ ns → (∀ a, a ∈ ns → a ≤ M) → Q (.int M t') { s with heap := h', toks := tk }) : wpAny (model prog w) A (call (.builtin "max") [.ref l]) Q E s := by
  obtain ⟨xs, e⟩ := hi.allInts.items
  have hn : numsOf (intItems xs).toList = ns := by rw [← e]; exact hi.numsOf
  rw [nums_intItems] at hn
  subst hn
  rw [e] at hl
  have hsz : 0 < xs.size := by simpa using hne
  refine call_max_walk (iter_tupI hl fun s₂ e2 st hfp hlI => ?_)
  subst e2
  refine ⟨_, _, _, _, _, _, _, rfl, Walks.tuple (A := A.in1) hh _ l hlI (intItems xs), st, hfp, by simpa [intItems] using hsz, CmpOf.ints_gt (numAt xs) (fun _ _ => intItems_at), fun v h' tk hv hk => ?_⟩
  obtain ⟨t, rfl⟩ := intItems_at (show (intItems xs)[argBest (fun i j => decide (numAt xs i > numAt xs j)) (xs.size - 1)]? = some v by simpa [intItems] using hv)
  obtain ⟨h1, h2⟩ := argBest_gt (numAt xs) (xs.size - 1)
  refine h h' tk _ t (fun b o hb => hk b o (fun hm => by
    rw [List.mem_singleton.mp hm] at hb
    exact absurd (Heap.lt_size hb) (Nat.lt_irrefl _)) (Heap.get?_push_of_some _ hb)) ?_ fun a ha => ?_
  · rw [numAt_eq]; exact PySem.getD_mem (by rw [List.length_map, Array.length_toList]; omega)
  · obtain ⟨j, hj, rfl⟩ := mem_getD ha
    rw [List.length_map, Array.length_toList] at hj
    rw [← numAt_eq]; exact h2 j (by omega)
theorem minT_raw (hh : A.handled = none) (hl : s.heap.IsTuple l its.toArray) (hi : IntsAre its ns) (hne : 0 < ns.length)
    (h : ∀ h' tk M t', (∀ b o, s.heap.get? b = some o → h'.get? b = some o) → M ∈ ns → (∀ a, a ∈ ns → M ≤ a) → Q (.int M t') { s with heap := h', toks := tk }) : wpAny (model prog w) A (call (.builtin "min") [.ref l]) Q E s := by
  obtain ⟨xs, e⟩ := hi.allInts.items
  have hn : numsOf (intItems xs).toList = ns := by rw [← e]; exact hi.numsOf
  rw [nums_intItems] at hn
  subst hn
  rw [e] at hl
  have hsz : 0 < xs.size := by simpa using hne
  refine call_min_walk (iter_tupI hl fun s₂ e2 st hfp hlI => ?_)
  subst e2
  refine ⟨_, _, _, _, _, _, _, rfl, Walks.tuple (A := A.in1) hh _ l hlI (intItems xs), st, hfp, by simpa [intItems] using hsz, CmpOf.ints_lt (numAt xs) (fun _ _ => intItems_at), fun v h' tk hv hk => ?_⟩
  obtain ⟨t, rfl⟩ := intItems_at (show (intItems xs)[argBest (fun i j => decide (numAt xs i < numAt xs j)) (xs.size - 1)]? = some v by simpa [intItems] using hv)
  obtain ⟨h1, h2⟩ := argBest_lt (numAt xs) (xs.size - 1)
  refine h h' tk _ t (fun b o hb => hk b o (fun hm => by
    rw [List.mem_singleton.mp hm] at hb
    exact absurd (Heap.lt_size hb) (Nat.lt_irrefl _)) (Heap.get?_push_of_some _ hb)) ?_ fun a ha => ?_
  · rw [numAt_eq]; exact PySem.getD_mem (by rw [List.length_map, Array.length_toList]; omega)
  · obtain ⟨j, hj, rfl⟩ := mem_getD ha
    rw [List.length_map, Array.length_toList] at hj
    rw [← numAt_eq]; exact h2 j (by omega)
end
section
variable {X : Cx} {W : WX} {p pos : Pos} {e a b : Expr} {es : List Expr} {m : AM} {ma mb : EM}
theorem cr_maxT (hc : X.calm = true) : CallR X (.builtin "max") (rMaxT X.K) := by
  intro pins s σ H vs us Q I r h
  obtain ⟨a, ns, rfl, hs, hne, q⟩ := h
  obtain ⟨its, rv, hl, _⟩ := I.tuple hs
  rw [Vals.ref1 r]
  exact maxT_raw (I.ok.hd hc) hl rv.ints hne fun h' tk m t' hk h1 h2 => ⟨.int _, H, I.kept hk, ⟨_, rfl⟩, q m h1 h2⟩
theorem cr_minT (hc : X.calm = true) : CallR X (.builtin "min") (rMinT X.K) := by
  intro pins s σ H vs us Q I r h
  obtain ⟨a, ns, rfl, hs, hne, q⟩ := h
  obtain ⟨its, rv, hl, _⟩ := I.tuple hs
  rw [Vals.ref1 r]
  exact minT_raw (I.ok.hd hc) hl rv.ints hne fun h' tk m t' hk h1 h2 => ⟨.int _, H, I.kept hk, ⟨_, rfl⟩, q m h1 h2⟩
theorem je_maxT (hc : X.calm = true) (hg : Gl X "max") (hm : X.mg "max" = none) (ha : JA X W (e :: es) m) (h1 : starEach (e :: es) X.env = (false, eval e X.env) :: starEach es X.env := by rfl) (h2 : (backTo pos (starEach es X.env)).any (·.1) = false := by rfl) :
    JE X W (.Call (.Name "max" p) (e :: es) [] pos) (mCall fMaxT m) := je_callB (cr_maxT hc) sim_maxT hg hm (by decide +kernel) ha (by decide) (by decide) h1 h2
theorem je_minT (hc : X.calm = true) (hg : Gl X "min") (hm : X.mg "min" = none) (ha : JA X W (e :: es) m) (h1 : starEach (e :: es) X.env = (false, eval e X.env) :: starEach es X.env := by rfl) (h2 : (backTo pos (starEach es X.env)).any (·.1) = false := by rfl) :
    JE X W (.Call (.Name "min" p) (e :: es) [] pos) (mCall fMinT m) := je_callB (cr_minT hc) sim_minT hg hm (by decide +kernel) ha (by decide) (by decide) h1 h2
theorem je_divmod (hg : Gl X "divmod") (hm : X.mg "divmod" = none) (ha : JA X W (e :: es) m) (h1 : starEach (e :: es) X.env = (false, eval e X.env) :: starEach es X.env := by rfl) (h2 : (backTo pos (starEach es X.env)).any (·.1) = false := by rfl) :
    JE X W (.Call (.Name "divmod" p) (e :: es) [] pos) (mCall fDivmod m) := je_callB call_divmodW sim_divmod hg hm (by decide +kernel) ha (by decide) (by decide) h1 h2
theorem extT_meets (l : Addr) (us : Array Value) (n : Nat) (b : Addr) (ws : Array Value) (n2 : Nat) (dct : Option Addr) (sl : Array (Option Value)) (h0 : ¬(!us.isEmpty && Builtin.List.listTooLong (us.size + ws.size)) = true) (h1 : us.size ≤ sizeLine) (h2 : us.size + ws.size ≤ sizeLine + 1) :
    Meets (Builtin.«list.extend» ⟨[.ref l, .ref b], []⟩) (fun _ R s => s.heap.get? l = some { cls := .type "list", dict := none, data := .seq us n, slots := #[] } ∧ s.heap.get? b = some { cls := .type "tuple", dict := dct, data := .seq ws n2, slots := sl } ∧
      R (.ok (.ret Value.none)) { s with heap := s.heap.update l (Obj.mapSeq fun x => x ++ ws), toks := s.toks }) := by
  refine .of_wp fun prog w A R s h => ?_
  obtain ⟨hp, g, d, tk, os⟩ := s
  obtain ⟨hl, hb, h⟩ := h
  have f1 := AutoSeq1.idx_int
  have f2 := AutoSeq1.sub_tuple_tuple
  have f3 := AutoSeq1.sub_list_list
  have f4 := AutoSeq1.sub_tuple_list
  have f5 := AutoSeq1.sub_list_tuple
  have hz' : (us ++ ws).size ≤ sizeLine + 1 := by rw [Array.size_append]; exact h2
  wp_walk using (wpAny_updateSeq hl rfl (hz := h1) (_hz' := hz')), wpAny_loadPart' hl, wpAny_loadPart' hb
  exact ⟨_, rfl, h⟩
theorem mt_extendT : MtR X "list.extend" (fun x vs H Q => ∃ l b xs zs, x = .ref l ∧ vs = [.ref b] ∧ H l = some (.lst xs) ∧ SqT X.K H b zs ∧ xs.length + zs.length ≤ sizeLine ∧ Q .non (upd H l (.lst (xs ++ zs)))) := by
  intro pins s σ H x vs v us Q I rx rv h
  obtain ⟨l, b, xs, zs, rfl, rfl, hH, hB, hz, q⟩ := h
  cases rx
  obtain ⟨u, rfl, ru⟩ := rv.one
  cases ru
  obtain ⟨z, its, n, r, hl, e⟩ := I.lstM hH
  obtain ⟨its2, r2, p2, hz2⟩ := I.tuple hB
  obtain ⟨o2, ho2, hc2, n2, hd2⟩ := p2
  have hsz : its.toArray.size + its2.toArray.size ≤ sizeLine := by rw [List.size_toArray, List.size_toArray, ← r.length, ← r2.length]; exact hz
  have hlong : ¬ (!its.toArray.isEmpty && Builtin.List.listTooLong (its.toArray.size + its2.toArray.size)) = true := by
    rw [notLongL hsz, Bool.and_false]
    exact Bool.false_ne_true
  obtain ⟨c2, dct, dt, sl⟩ := o2
  replace hc2 : c2 = .type "tuple" := hc2
  replace hd2 : dt = .seq its2.toArray n2 := hd2
  subst hc2 hd2
  refine call_meets PySem.F.slot_list_extend ⟨_, e, rfl⟩ PySem.F.entry_list_extend (PySem.F.args_list_extend_2 _ _)
    (extT_meets l its.toArray n b its2.toArray n2 dct sl hlong (by omega) (by omega)) ⟨e, ho2, ?_⟩
  refine ⟨.non, _, I.lset (its' := its ++ its2) hH e (by simp) (r.append r2) ?_, rfl, q⟩
  rw [List.length_append]
  rw [List.size_toArray, List.size_toArray] at hsz
  omega
theorem je_extendT (ho : JE X W a ma) {apos : Pos} (ha : JA X W (e :: es) m) (hb : attributeBase a "extend" X.env (eval a X.env) = eval a X.env := by rfl)
    (hf : ((backTo pos (starEach (e :: es) X.env)).all (fun x => !x.1) && (backToKw pos (keywordEach [] X.env)).all (fun x => x.1.isSome) && decide ((e :: es).length + ([] : List Keyword).length + (if ([] : List Keyword).isEmpty then 0 else 1) < 30)) = true := by rfl)
    (hl : (apos.endLine == pos.line) = true := by rfl) (h1 : starEach (e :: es) X.env = (false, eval e X.env) :: starEach es X.env := by rfl) (h2 : (backTo pos (starEach es X.env)).any (·.1) = false := by rfl) :
    JE X W (.Call (.Attribute a "extend" apos) (e :: es) [] pos) (mMeth fExtendT ma m) := je_meth PySem.F.slot_list_extend PySem.F.type_list_extend mt_extendT sim_extendT ho ha hb hf hl h1 h2
theorem je_insert (ho : JE X W a ma) {apos : Pos} (ha : JA X W (e :: es) m) (hb : attributeBase a "insert" X.env (eval a X.env) = eval a X.env := by rfl)
    (hf : ((backTo pos (starEach (e :: es) X.env)).all (fun x => !x.1) && (backToKw pos (keywordEach [] X.env)).all (fun x => x.1.isSome) && decide ((e :: es).length + ([] : List Keyword).length + (if ([] : List Keyword).isEmpty then 0 else 1) < 30)) = true := by rfl)
    (hl : (apos.endLine == pos.line) = true := by rfl) (h1 : starEach (e :: es) X.env = (false, eval e X.env) :: starEach es X.env := by rfl) (h2 : (backTo pos (starEach es X.env)).any (·.1) = false := by rfl) :
    JE X W (.Call (.Attribute a "insert" apos) (e :: es) [] pos) (mMeth fInsert ma m) := je_meth PySem.F.slot_list_insert PySem.F.type_list_insert mt_insert sim_insert ho ha hb hf hl h1 h2
theorem je_index (ho : JE X W a ma) {apos : Pos} (ha : JA X W (e :: es) m) (hb : attributeBase a "index" X.env (eval a X.env) = eval a X.env := by rfl)
    (hf : ((backTo pos (starEach (e :: es) X.env)).all (fun x => !x.1) && (backToKw pos (keywordEach [] X.env)).all (fun x => x.1.isSome) && decide ((e :: es).length + ([] : List Keyword).length + (if ([] : List Keyword).isEmpty then 0 else 1) < 30)) = true := by rfl)
    (hl : (apos.endLine == pos.line) = true := by rfl) (h1 : starEach (e :: es) X.env = (false, eval e X.env) :: starEach es X.env := by rfl) (h2 : (backTo pos (starEach es X.env)).any (·.1) = false := by rfl) :
    JE X W (.Call (.Attribute a "index" apos) (e :: es) [] pos) (mMeth fIndex ma m) := je_meth PySem.F.slot_list_index PySem.F.type_list_index mt_index sim_index ho ha hb hf hl h1 h2
theorem je_tupRev {p2 pos2 : Pos} (hc : X.calm = true) (hg : Gl X "tuple") (hm : X.mg "tuple" = none) (hg2 : Gl X "reversed") (hm2 : X.mg "reversed" = none) (ha : JE X W a ma)
    (na : starEach [a] X.env = (false, eval a X.env) :: starEach [] X.env := by rfl) (na2 : starEach [.Call (.Name "reversed" p2) [a] [] pos2] X.env = (false, eval (.Call (.Name "reversed" p2) [a] [] pos2) X.env) :: starEach [] X.env := by rfl) :
    JE X W (.Call (.Name "tuple" p) [.Call (.Name "reversed" p2) [a] [] pos2] [] pos) (mTupRev ma) := by
  obtain ⟨ta, pa, sa⟩ := ha
  refine ⟨_, RT.pe_tupRev hc hg hm hg2 hm2 pa na na2, fun H0 G S sg H rho st Q h => sa H0 G S sg H rho st _ (bindE h fun d S1 v H1 rho1 s1 t1 r1 h1 => ?_)⟩
  split at h1
  · rename_i xs hx
    obtain ⟨a, vs, rfl, q, r⟩ := seqL_at s1 hx r1
    exact ⟨a, vs, rfl, q, fun z hz => new_tup s1 hz r.reverse h1⟩
  · exact h1.elim
theorem strs_rep {K : PySem.W.Frag} {H0 H : Hp} {rho : List Addr} : ∀ {xs : List D} {ys : List Str} {vs : List V}, strsD xs = some ys → Reps K H0 H rho xs vs → vs = ys.map V.str
  | [], ys, vs, h, r => by
    simp only [strsD, Option.some.injEq] at h
    subst h
    simpa [Reps] using r
  | x :: xs, ys, vs, h, r => by
    cases x <;> simp only [strsD, Option.map_eq_some_iff] at h
    all_goals first
      | (obtain ⟨l, hl, rfl⟩ := h
         simp only [Reps, Rep] at r
         obtain ⟨v, t, rfl, rfl, r2⟩ := r
         rw [strs_rep hl r2]; rfl)
      | cases h
theorem je_join (ho : JE X W a ma) {apos : Pos} (ha : JE X W e mb) (hs : starEach [e] X.env = [(false, eval e X.env)] := by rfl) (hb : attributeBase a "join" X.env (eval a X.env) = eval a X.env := by rfl) (hl : (apos.endLine == pos.line) = true := by rfl) :
    JE X W (.Call (.Attribute a "join" apos) [e] [] pos) (mJoin ma (aCons mb aNil)) := by
  obtain ⟨ta, pa, sa⟩ := ho
  obtain ⟨tb, pb, sb⟩ := ha
  refine ⟨_, pe_join pa pb hs hb hl, fun H0 G S sg H rho st Q h => sa H0 G S sg H rho st _ (bindE h fun d S1 v H1 rho1 s1 t1 r1 h1 => ?_)⟩
  split at h1
  · rename_i x
    simp only [Rep] at r1
    refine ⟨⟨x, r1⟩, ?_⟩
    have h2 : EPost X.K H0 H1 rho1 (fun c d h => W c d sg h) ((mb G S1).bind fun f S2 => match (seqA S2 f).bind strsD with
      | some ys => if (ys.map (·.length)).sum + ys.length * x.length ≤ 1000000 then .ok (.str (Txt.join x ys)) S2 else .err
      | none => .err) Q := by
      revert h1
      unfold aCons aNil
      cases mb G S1 <;> exact fun h => h
    refine sb H0 G S1 sg H1 rho1 (st.step s1 t1) _ (bindE h2 fun f S2 w H2 rho2 s2 t2 r2 h2 => ?_)
    split at h2
    · rename_i ys hy
      split at h2
      · rename_i hn
        obtain ⟨xs, hx, hxs⟩ := Option.bind_eq_some_iff.mp hy
        obtain ⟨q, vs, rfl, h, r⟩ := seqA_at s2 hx r2
        rw [strs_rep hxs r] at h
        exact ⟨x, q, ys, r1, rfl, h, by omega, EPost.done s2 (rep_scal (d := .str _) rfl) h2⟩
      · exact h2.elim
    · exact h2.elim
  · exact h1.elim
theorem rep_strs {K : PySem.W.Frag} {H0 H : Hp} {rho : List Addr} : ∀ (ys : List Str), Reps K H0 H rho (ys.map D.str) (ys.map V.str)
  | [] => .nil
  | y :: ys => .cons (by simp [Rep]) (rep_strs ys)
theorem je_split (o : Bool) (ho : JE X W a ma) {apos : Pos} (ha : JE X W e mb) (hs : starEach [e] X.env = [(false, eval e X.env)] := by rfl) (hb : attributeBase a "split" X.env (eval a X.env) = eval a X.env := by rfl) (hl : (apos.endLine == pos.line) = true := by rfl) :
    JE X W (.Call (.Attribute a "split" apos) [e] [] pos) (mSplit o ma (aCons mb aNil)) := by
  obtain ⟨ta, pa, sa⟩ := ho
  obtain ⟨tb, pb, sb⟩ := ha
  refine ⟨_, pe_split pa pb hs hb hl, fun H0 G S sg H rho st Q h => sa H0 G S sg H rho st _ (bindE h fun d S1 v H1 rho1 s1 t1 r1 h1 => ?_)⟩
  split at h1
  · rename_i x
    simp only [Rep] at r1
    refine ⟨⟨x, r1⟩, ?_⟩
    have h2 : EPost X.K H0 H1 rho1 (fun c d h => W c d sg h) ((mb G S1).bind fun f S2 => match f with
      | .str y => if (y.length == 0) = false ∧ x.length ≤ 1000000 then nw o ((Txt.split x y).map .str) S2 else .err
      | _ => .err) Q := by
      revert h1
      unfold aCons aNil
      cases hm : mb G S1 with
      | ok d S2 => cases d <;> exact fun h => h
      | ex c S2 => exact fun h => h
      | err => exact fun h => h
    refine sb H0 G S1 sg H1 rho1 (st.step s1 t1) _ (bindE h2 fun f S2 w H2 rho2 s2 t2 r2 h2 => ?_)
    split at h2
    · rename_i y
      split at h2
      · rename_i hn
        simp only [Rep] at r2
        exact ⟨x, y, r1, by rw [r2], hn.1, by have := hn.2; rw [sizeLine_eq]; omega, fun z hz => new_lst s2 hz (rep_strs _) h2⟩
      · exact h2.elim
    · exact h2.elim
  · exact h1.elim
end
end Ab

end
section
set_option Elab.async false
set_option linter.all false
set_option maxRecDepth 100000
namespace Ab
open PySem PySem.Spec PyProof.Rows L2
/-- k: a tuple, else a list -/
def SqK (k : Bool) (K : PySem.W.Frag) (H : Hp) (a : Addr) (xs : List V) : Prop := match k with
  | true => SqT K H a xs
  | false => SqL K H a xs
def IsK (k : Bool) (h : Heap) (a : Addr) (its : Array Value) : Prop := match k with
  | true => h.IsTuple a its
  | false => h.IsList a its
def ItK (k : Bool) (h : Heap) (it a : Addr) (i : Nat) : Prop := match k with
  | true => h.IsTupleIter it a i
  | false => h.IsListIter it a i
def obK (k : Bool) (a : Addr) : Obj := match k with
  | true => { cls := .type "tuple_iterator", data := .fields #[.ref a, .int 0 0] }
  | false => { cls := .type "list_iterator", data := .fields #[.ref a, .int 0 0] }
theorem drawsK {prog : Program} {w : World} {A : Around} (hh : A.handled = none) (k : Bool) (it a : Addr) (hne : a ≠ it) (items : Array Value) :
    Draws prog w A it [it, a] items.size (fun i v => items[i]? = some v) (fun i h => ItK k h it a i ∧ IsK k h a items) := by
  cases k with
  | true => exact Draws.tuple hh it a hne items
  | false => exact Draws.list hh it a hne items
theorem beginsK (k : Bool) (a : Addr) (items : Array Value) : Begins (.ref a) (obK k a) fun h => IsK k h a items := by
  cases k with
  | true => exact begins_tuple a items
  | false => exact begins_list a items
theorem ItK.fresh (k : Bool) {h : Heap} {it a : Addr} (e : h.get? it = some (obK k a)) : ItK k h it a 0 := by
  cases k with
  | true => exact ⟨_, e, rfl, rfl⟩
  | false => exact ⟨_, e, rfl, rfl⟩
theorem ItK.ob {k : Bool} {h : Heap} {it a : Addr} {i : Nat} (x : ItK k h it a i) : ∃ o, h.get? it = some o ∧ ∃ vs, o.data = .fields vs := by
  cases k with
  | true => obtain ⟨o, e, _, d⟩ := x; exact ⟨o, e, _, d⟩
  | false => obtain ⟨o, e, _, d⟩ := x; exact ⟨o, e, _, d⟩
theorem ItK.at {k : Bool} {h h' : Heap} {it a : Addr} {i : Nat} (x : ItK k h it a i) (e : ∀ o, h.get? it = some o → h'.get? it = some o) : ItK k h' it a i := by
  cases k with
  | true => exact Heap.IsTupleIter.at x e
  | false => exact Heap.IsListIter.at x e
theorem IsK.lt {k : Bool} {h : Heap} {a : Addr} {its : Array Value} (x : IsK k h a its) : a < h.objs.size := by
  cases k with
  | true => obtain ⟨o, e, _⟩ := x; exact Heap.lt_size e
  | false => obtain ⟨o, e, _⟩ := x; exact Heap.lt_size e
theorem seqK {X : Cx} {pins : List (Addr × Obj)} {σ : L2.St} {H : Hp} {s : Shared} {k : Bool} {a : Addr} {xs : List V} (I : Inv X pins σ H s) (h : SqK k X.K H a xs) : ∃ its : List Value, Vals xs its ∧ IsK k s.heap a its.toArray := by
  cases k with
  | true => obtain ⟨its, rv, p, _⟩ := I.tuple h; exact ⟨its, rv, p⟩
  | false => obtain ⟨its, rv, p, _⟩ := I.list h; exact ⟨its, rv, p.isList⟩
theorem seqK_inj {X : Cx} {pins : List (Addr × Obj)} {σ : L2.St} {H : Hp} {s : Shared} {k : Bool} {a : Addr} {xs ys : List V} (I : Inv X pins σ H s) (h : SqK k X.K H a xs) (h2 : SqK k X.K H a ys) : xs = ys := by
  cases k with
  | true => exact I.tuple_inj h h2
  | false => exact I.list_inj h h2
/-- both walked side by side, the items in new pairs -/
def ItzK (k1 k2 : Bool) (K : PySem.W.Frag) (a b : Addr) : It :=
  ⟨fun i H => ∃ (xs ys : List V) (x y : V), SqK k1 K H a xs ∧ SqK k2 K H b ys ∧ xs[i]? = some x ∧ ys[i]? = some y,
    fun i H v H' => ∃ T x y, v = .ref T ∧ H T = none ∧ H' = upd H T (.tup [x, y]) ∧ (∀ xs, SqK k1 K H a xs → xs[i]? = some x) ∧ ∀ ys, SqK k2 K H b ys → ys[i]? = some y,
    fun i H => ∃ xs ys : List V, SqK k1 K H a xs ∧ SqK k2 K H b ys ∧ i ≤ xs.length ∧ i ≤ ys.length ∧ (xs.length = i ∨ ys.length = i)⟩
theorem turn_zipK {P : Program} {w : World} {K : PySem.W.Frag} {elts : List Expr} {kk : Nat} {tpos : Pos} {k1 k2 : Bool} {a b z TI TO i1 i2 : Addr} (D : ZipSep2 z TI TO i1 i2 [i1, a] [i2, b]) :
    Turn P w K (.Tuple elts kk tpos) (ItzK k1 k2 K a b) [z, TI, TO, i1, i2] z (fun i h => IsZip h z TI TO .none ∧ IsTupOf2 h TI (.ref i1) (.ref i2) ∧ (∃ x y, IsTupOf2 h TO x y) ∧ ItK k1 h i1 a i ∧ ItK k2 h i2 b i) where
  mem := by simp
  obj := fun i h st c hc => by
    obtain ⟨hz, hTI, ⟨x, y, hTO⟩, h1, h2⟩ := st
    have e' : c = z ∨ c = TI ∨ c = TO ∨ c = i1 ∨ c = i2 := by simpa using hc
    rcases e' with q | q | q | q | q
    · rw [q]; exact ⟨_, hz, fun v q => nomatch q⟩
    · rw [q]; exact ⟨_, hTI, fun v q => nomatch q⟩
    · rw [q]; exact ⟨_, hTO, fun v q => nomatch q⟩
    · rw [q]
      obtain ⟨o1, e1, vs, d1⟩ := h1.ob
      exact ⟨o1, e1, fun v q => by rw [d1] at q; cases q⟩
    · rw [q]
      obtain ⟨o1, e1, vs, d1⟩ := h2.ob
      exact ⟨o1, e1, fun v q => by rw [d1] at q; cases q⟩
  keep := fun i h h' st k => by
    obtain ⟨hz, hTI, ⟨x, y, hTO⟩, h1, h2⟩ := st
    exact ⟨k z (by simp) _ hz, k TI (by simp) _ hTI, ⟨x, y, k TO (by simp) _ hTO⟩, h1.at fun o q => k i1 (by simp) o q, h2.at fun o q => k i2 (by simp) o q⟩
  item := by
    intro X hP hw hK hc i pins s σ H E I hf st hg
    subst hP hw hK
    obtain ⟨hz, hTI, ⟨x0, y0, hTO⟩, h1, h2⟩ := st
    obtain ⟨xs, ys, x, y, hqx, hqy, hx, hy⟩ := hg
    obtain ⟨its, rv, p⟩ := seqK I hqx
    obtain ⟨its2, rv2, p2⟩ := seqK I hqy
    obtain ⟨u, hu, ru⟩ := rv.get hx
    obtain ⟨u2, hu2, ru2⟩ := rv2.get hy
    have hzl : z < s.heap.objs.size := Heap.lt_size hz
    have n1 : a ≠ i1 := fun e => by
      have := D.sep2_1
      subst e
      obtain ⟨o, e1, vs, d⟩ := h1.ob
      cases k1 with
      | true => obtain ⟨o', e2, c2, n, d2⟩ := p; rw [e1] at e2; cases e2; rw [d] at d2; cases d2
      | false => obtain ⟨o', e2, c2, n, d2⟩ := p; rw [e1] at e2; cases e2; rw [d] at d2; cases d2
    have n2 : b ≠ i2 := fun e => by
      subst e
      obtain ⟨o, e1, vs, d⟩ := h2.ob
      cases k2 with
      | true => obtain ⟨o', e2, c2, n, d2⟩ := p2; rw [e1] at e2; cases e2; rw [d] at d2; cases d2
      | false => obtain ⟨o', e2, c2, n, d2⟩ := p2; rw [e1] at e2; cases e2; rw [d] at d2; cases d2
    have hd := I.ok.hd hc
    have hi1 : i < its.toArray.size := by
      have := (List.getElem?_eq_some_iff.mp hu).1
      simpa using this
    have hi2 : i < its2.toArray.size := by
      have := (List.getElem?_eq_some_iff.mp hu2).1
      simpa using this
    refine wpAny_pyNext_zipD2_item D (drawsK (A := X.A.in1) hd k1 i1 a n1 its.toArray) (drawsK (A := X.A.in1) hd k2 i2 b n2 its2.toArray) hz hTI hTO ⟨h1, p⟩ ⟨h2, p2⟩ hi1 hi2 fun x1 x2 h' tk y1 y2 z' TO' h1' h2' hT hsz hk => ?_
    have ex1 : x1 = u := by
      have : its[i]? = some x1 := by simpa using y1
      rw [hu] at this; exact (Option.some.inj this).symm
    have ex2 : x2 = u2 := by
      have : its2[i]? = some x2 := by simpa using y2
      rw [hu2] at this; exact (Option.some.inj this).symm
    subst ex1 ex2
    refine ⟨_, rfl, wpAny_letOwnedTupleGo_zip (s := { s with heap := h', toks := tk }) z' fun h'' z'' sb => ?_⟩
    have hT2 : h''.get? s.heap.objs.size = some { cls := .type "tuple", data := .seq #[x1, x2] } := (sb.2 _ (Nat.ne_of_gt hzl)).trans hT
    have new : ObjOk X.prog X.w (upd H s.heap.objs.size (.tup [x, y])) h'' s.heap.objs.size (.tup [x, y]) :=
      ⟨by show 2 ≤ sizeLine; decide, [x1, x2], .cons ru (.cons ru2 .nil), ⟨_, hT2, rfl, _, rfl⟩⟩
    have I1 : Inv X pins σ (upd H s.heap.objs.size (.tup [x, y])) { s with heap := h'', toks := tk } :=
      I.turnedNew (t' := tk) (ch := [z, TI, TO, i1, i2]) (fun c o hb q => (sb.2 c (fun q' => hb (by simp [q']))).trans (hk c o (fun q' => hb (by simp [q'])) (fun q' => hb (by simp [q'])) (fun q' => hb (by simp [q'])) (fun q' => hb (by simp [q'])) q)) hf (Nat.le_refl _) new
    have i1z : i1 ≠ z := fun e => D.zf1 (by rw [e]; simp)
    have i2z : i2 ≠ z := fun e => D.zf2 (by rw [e]; simp)
    refine ⟨.ref s.heap.objs.size, _, I1, rfl, ⟨_, x, y, rfl, I.hok.fresh (Nat.le_refl _), rfl, fun l hl => by rw [seqK_inj I hl hqx]; exact hx, fun l hl => by rw [seqK_inj I hl hqy]; exact hy⟩, ⟨z'', ?_, ⟨x1, x2, ?_⟩, ?_, ?_⟩, fun c hcm => ?_⟩
    · exact (sb.2 _ D.TIz).trans (hk _ _ D.TIz D.TITO D.TIi1 D.TIi2 hTI)
    · exact (sb.2 _ D.TOz).trans TO'
    · exact h1'.1.at fun o q => (sb.2 _ i1z).trans q
    · exact h2'.1.at fun o q => (sb.2 _ i2z).trans q
    · have hlt : c < s.heap.objs.size := by
        have e' : c = z ∨ c = TI ∨ c = TO ∨ c = i1 ∨ c = i2 := by simpa using hcm
        rcases e' with q | q | q | q | q
        · rw [q]; exact hzl
        · rw [q]; exact Heap.lt_size hTI
        · rw [q]; exact Heap.lt_size hTO
        · rw [q]; obtain ⟨_, e1, _⟩ := h1.ob; exact Heap.lt_size e1
        · rw [q]; obtain ⟨_, e2, _⟩ := h2.ob; exact Heap.lt_size e2
      rw [upd_ne (Nat.ne_of_lt hlt)]
      exact (hf c hcm).1
  done := by
    intro X hP hw hK hc i pins s σ H E I hf st hg
    subst hP hw hK
    obtain ⟨hz, hTI, ⟨x0, y0, hTO⟩, h1, h2⟩ := st
    obtain ⟨xs, ys, hqx, hqy, hl1, hl2, hend⟩ := hg
    obtain ⟨its, rv, p⟩ := seqK I hqx
    obtain ⟨its2, rv2, p2⟩ := seqK I hqy
    have l1 := rv.length
    have l2 := rv2.length
    have n1 : a ≠ i1 := fun e => by
      subst e
      obtain ⟨o, e1, vs, d⟩ := h1.ob
      cases k1 with
      | true => obtain ⟨o', e2, c2, n, d2⟩ := p; rw [e1] at e2; cases e2; rw [d] at d2; cases d2
      | false => obtain ⟨o', e2, c2, n, d2⟩ := p; rw [e1] at e2; cases e2; rw [d] at d2; cases d2
    have n2 : b ≠ i2 := fun e => by
      subst e
      obtain ⟨o, e1, vs, d⟩ := h2.ob
      cases k2 with
      | true => obtain ⟨o', e2, c2, n, d2⟩ := p2; rw [e1] at e2; cases e2; rw [d] at d2; cases d2
      | false => obtain ⟨o', e2, c2, n, d2⟩ := p2; rw [e1] at e2; cases e2; rw [d] at d2; cases d2
    have hd := I.ok.hd hc
    exact wpAny_pyNext_zipD2_end D (drawsK (A := X.A.in1) hd k1 i1 a n1 its.toArray) (drawsK (A := X.A.in1) hd k2 i2 b n2 its2.toArray) hz hTI hTO ⟨h1, p⟩ ⟨h2, p2⟩ (by simp; omega) (by simp; omega) (by simp; omega) fun h' tk hk =>
      ⟨rfl, I.turnedL (t' := tk) (ch := [z, TI, TO, i1, i2]) (fun c o hb q =>
        hk c o (fun q' => hb (by simp [q'])) (fun q' => hb (by simp [q'])) (fun q' => hb (by simp [q'])) (fun q' => hb (by simp [q'])) q) hf⟩
  self := fun A i s Q E st h => wpAny_pyIter_zip st.1 h
def iZipK (K : PySem.W.Frag) (ta : TA) : TI := fun σ H R => ta σ H fun vs H1 => ∃ a b xs ys k1 k2, vs = [.ref a, .ref b] ∧ SqK k1 K H1 a xs ∧ SqK k2 K H1 b ys ∧ R (ItzK k1 k2 K a b) H1
theorem pi_zipK {X : Cx} {e e2 : Expr} {ta : TA} {p pos tpos : Pos} {elts : List Expr} {kk : Nat} (hg : Gl X "zip") (hm : X.mg "zip" = none) (ha : PA X [e, e2] ta)
    (hs : starEach [e, e2] X.env = (false, eval e X.env) :: starEach [e2] X.env := by rfl) (hpl : (backTo pos (starEach [e2] X.env)).any (·.1) = false := by rfl) :
    PI X (.Tuple elts kk tpos) (.Call (.Name "zip" p) [e, e2] [] pos) (iZipK X.K ta) := by
  refine ⟨fun pins s σ H R I h => ?_⟩
  refine Call_ (ld_blt I hg hm PyProof.Rows.boot_zip (PyProof.Rows.callWith_type1 (thn (ha.run pos pins s σ H _ I h) fun us s1 ⟨vs, H1, I1, r1, q1⟩ => ?_) hs hpl))
  obtain ⟨a, b, xs, ys, k1, k2, ex, hqx, hqy, q⟩ := q1
  subst ex
  cases r1 with
  | cons r rr =>
    cases rr with
    | cons r' rr =>
      cases rr
      cases r
      cases r'
      obtain ⟨its, rv, p1⟩ := seqK I1 hqx
      obtain ⟨its2, rv2, p2⟩ := seqK I1 hqy
      refine zip_begins2 (beginsK k1 a its.toArray) (beginsK k2 b its2.toArray) p1 p2 fun h' hz hTI hTO h1 h2 hsz hk => wpAny_pyIter_zip hz ?_
      have I2 : Inv X pins σ H1 { s1 with heap := h' } := I1.kept (t' := s1.toks) hk
      refine ⟨s1.heap.objs.size + 4, [s1.heap.objs.size + 4, s1.heap.objs.size + 2, s1.heap.objs.size + 3, s1.heap.objs.size, s1.heap.objs.size + 1], _, _, H1, rfl, I2,
        turn_zipK (zip_sep2 (fp1 := [a]) (fp2 := [b]) (fun c hc => by rw [List.mem_singleton.mp hc]; exact p1.lt) (fun c hc => by rw [List.mem_singleton.mp hc]; exact p2.lt)), ⟨hz, hTI, ⟨_, _, hTO⟩, ItK.fresh k1 h1, ItK.fresh k2 h2⟩, fun c hcm => ?_, q⟩
      have e' : c = s1.heap.objs.size + 4 ∨ c = s1.heap.objs.size + 2 ∨ c = s1.heap.objs.size + 3 ∨ c = s1.heap.objs.size ∨ c = s1.heap.objs.size + 1 := by simpa using hcm
      have hle : s1.heap.objs.size ≤ c := by
        rcases e' with z | z | z | z | z
        · rw [z]; exact Nat.le_add_right _ _
        · rw [z]; exact Nat.le_add_right _ _
        · rw [z]; exact Nat.le_add_right _ _
        · rw [z]; exact Nat.le_refl _
        · rw [z]; exact Nat.le_add_right _ _
      exact I1.fpOk hle (I1.hok.fresh hle)
end Ab

end
section
set_option Elab.async false
set_option linter.all false
set_option maxRecDepth 100000
namespace Ab
open PySem PySem.Spec PyProof.Rows L2
def IteK (k : Bool) (K : PySem.W.Frag) (a : Addr) : It :=
  ⟨fun i H => ∃ (xs : List V) (x : V), SqK k K H a xs ∧ xs[i]? = some x,
    fun i H v H' => ∃ T x, v = .ref T ∧ H T = none ∧ H' = upd H T (.tup [.int (i : Nat), x]) ∧ ∀ xs, SqK k K H a xs → xs[i]? = some x,
    fun i H => ∃ xs : List V, SqK k K H a xs ∧ xs.length = i⟩
theorem turn_enumK {P : Program} {w : World} {K : PySem.W.Frag} {elts : List Expr} {kk : Nat} {tpos : Pos} {k : Bool} {a e it : Addr} :
    Turn P w K (.Tuple elts kk tpos) (IteK k K a) [e, it] e (fun i h => (∃ old, IsEnum h e it ((i : Nat) : Int) old) ∧ ItK k h it a i ∧ e ≠ it ∧ e ≠ a) where
  mem := by simp
  obj := fun i h st c hc => by
    obtain ⟨⟨old, he⟩, hit, _, _⟩ := st
    have e' : c = e ∨ c = it := by simpa using hc
    rcases e' with q | q
    · rw [q]; exact ⟨_, he, fun v q => nomatch q⟩
    · rw [q]
      obtain ⟨o1, e1, vs, d1⟩ := hit.ob
      exact ⟨o1, e1, fun v q => by rw [d1] at q; cases q⟩
  keep := fun i h h' st k => by
    obtain ⟨⟨old, he⟩, hit, n1, n2⟩ := st
    exact ⟨⟨old, k e (by simp) _ he⟩, hit.at fun o q => k it (by simp) o q, n1, n2⟩
  item := by
    intro X hP hw hK hc i pins s σ H E I hf st hg
    subst hP hw hK
    obtain ⟨⟨old, he⟩, hit, hne, hea⟩ := st
    obtain ⟨xs, x, hq, hx⟩ := hg
    obtain ⟨its, rv, p⟩ := seqK I hq
    obtain ⟨u, hu, ru⟩ := rv.get hx
    have hel : e < s.heap.objs.size := Heap.lt_size he
    have hil : it < s.heap.objs.size := by obtain ⟨_, q, _⟩ := hit.ob; exact Heap.lt_size q
    have n1 : a ≠ it := fun e => by
      subst e
      obtain ⟨o, e1, vs, d⟩ := hit.ob
      cases k with
      | true => obtain ⟨o', e2, c2, n, d2⟩ := p; rw [e1] at e2; cases e2; rw [d] at d2; cases d2
      | false => obtain ⟨o', e2, c2, n, d2⟩ := p; rw [e1] at e2; cases e2; rw [d] at d2; cases d2
    have hd := I.ok.hd hc
    have hi1 : i < its.toArray.size := by
      have := (List.getElem?_eq_some_iff.mp hu).1
      simpa using this
    refine wpAny_pyNext_enum_itemC (drawsK (A := X.A.in1) hd k it a n1 its.toArray) he ⟨hit, p⟩ hi1 hne (by
      intro hm
      have : e = it ∨ e = a := by simpa using hm
      rcases this with z | z
      · exact hne z
      · exact hea z) fun x1 h' tk y1 ho st' hT hsz hk => ?_
    have ex1 : x1 = u := by
      have : its[i]? = some x1 := by simpa using y1
      rw [hu] at this; exact (Option.some.inj this).symm
    subst ex1
    refine ⟨_, rfl, wpAny_letOwnedTupleGo_enum (s := { s with heap := h', toks := tk + 1 }) ho fun h'' he' sb => ?_⟩
    have hT2 : h''.get? s.heap.objs.size = some { cls := .type "tuple", data := .seq #[.int i tk, x1] } := (sb.2 _ (Nat.ne_of_gt hel)).trans hT
    have new : ObjOk X.prog X.w (upd H s.heap.objs.size (.tup [.int (i : Nat), x])) h'' s.heap.objs.size (.tup [.int (i : Nat), x]) :=
      ⟨by show 2 ≤ sizeLine; decide, [.int i tk, x1], .cons ⟨_, rfl⟩ (.cons ru .nil), ⟨_, hT2, rfl, _, rfl⟩⟩
    have I1 : Inv X pins σ (upd H s.heap.objs.size (.tup [.int (i : Nat), x])) { s with heap := h'', toks := tk + 1 } :=
      I.turnedNew (t' := tk + 1) (ch := [e, it]) (fun b ob hb q => (sb.2 b (fun z => hb (by simp [z]))).trans (hk b ob (fun z => hb (by simp [z])) (fun z => hb (by simp [z])) q)) hf (Nat.le_refl _) new
    refine ⟨.ref s.heap.objs.size, _, I1, rfl, ⟨_, x, rfl, I.hok.fresh (Nat.le_refl _), rfl, fun ys hy => by rw [seqK_inj I hy hq]; exact hx⟩, ⟨⟨x1, ?_⟩, st'.1.at fun o q => (sb.2 it (Ne.symm hne)).trans q, hne, hea⟩, fun b hb => ?_⟩
    · have e1 : ((i + 1 : Nat) : Int) = (i : Int) + 1 := by omega
      rw [e1]; exact he'
    · have hb' : b < s.heap.objs.size := by
        have e' : b = e ∨ b = it := by simpa using hb
        rcases e' with z | z
        · rw [z]; exact hel
        · rw [z]; exact hil
      rw [upd_ne (Nat.ne_of_lt hb')]
      exact (hf b hb).1
  done := by
    intro X hP hw hK hc i pins s σ H E I hf st hg
    subst hP hw hK
    obtain ⟨⟨old, he⟩, hit, hne, hea⟩ := st
    obtain ⟨xs, hq, hx⟩ := hg
    obtain ⟨its, rv, p⟩ := seqK I hq
    have n1 : a ≠ it := fun e => by
      subst e
      obtain ⟨o, e1, vs, d⟩ := hit.ob
      cases k with
      | true => obtain ⟨o', e2, c2, n, d2⟩ := p; rw [e1] at e2; cases e2; rw [d] at d2; cases d2
      | false => obtain ⟨o', e2, c2, n, d2⟩ := p; rw [e1] at e2; cases e2; rw [d] at d2; cases d2
    have hd := I.ok.hd hc
    obtain ⟨f0, f1, f2, f3, f4, f5⟩ := hf it (by simp)
    have hl := rv.length
    have hsz : its.toArray.size = i := by simp; omega
    refine wpAny_pyNext_enum_endD (drawsK (A := X.A.in1) hd k it a n1 its.toArray) he (by rw [hsz]; exact ⟨hit, p⟩) fun h' eb => ?_
    exact ⟨rfl, I.turnedL (t' := s.toks) (ch := [e, it]) (fun c o hb q => eb c o (fun q' => hb (by simp [q'])) q) hf⟩
  self := fun A i s Q E st h => let ⟨⟨_, he⟩, _⟩ := st; wpAny_pyIter_enum he h
def iEnumK (K : PySem.W.Frag) (ta : TA) : TI := fun σ H R => ta σ H fun vs H1 => ∃ a xs k, vs = [.ref a] ∧ SqK k K H1 a xs ∧ R (IteK k K a) H1
theorem call_enumK {prog : Program} {w : World} {A : Around} {E : Value → Shared → Prop} {s : Shared} {v : Value} {o : Obj} {H : Heap → Prop} {Q : Value → Shared → Prop} (B : Begins v o H) (h1 : H s.heap)
    (h : ∀ h', IsEnum h' (s.heap.objs.size + 1) s.heap.objs.size 0 .none → h'.get? s.heap.objs.size = some o → h'.objs.size = s.heap.objs.size + 2 →
      (∀ b o, s.heap.get? b = some o → h'.get? b = some o) → Q (.ref (s.heap.objs.size + 1)) { s with heap := h' }) :
    wpAny (model prog w) A (call (.type "enumerate") [v]) Q E s := by
  have M : Meets (Builtin.«enumerate.__new__» ⟨[.type "enumerate", v], []⟩) (fun _ R s => H s.heap ∧
      R (.ok (.ret (.ref (s.heap.push o).objs.size))) { s with heap := (s.heap.push o).push { cls := .type "enumerate", data := .fields #[.none, .bool false, .ref s.heap.objs.size, rawInt 0, .none, .none] } }) := by
    refine .of_wp fun prog w A R s h => ?_
    obtain ⟨hp, g, d, tk, os⟩ := s
    obtain ⟨h1, h⟩ := h
    have hsub := sub_enumerate
    have it1 : ∀ {A2 : Around} {E2 : Value → Shared → Prop} {Q2 : Value → Shared → Prop}, Q2 (.ref hp.objs.size) ⟨hp.push o, g, d, tk, os⟩ → wpAny (model prog w) A2 (pyIter v) Q2 E2 ⟨hp, g, d, tk, os⟩ := fun z => B.iter prog w _ _ ⟨hp, g, d, tk, os⟩ _ h1 z
    wp_walk using it1
    refine wpAny_stack_any fun _ => wpAny_pure ?_
    split
    · rename_i cc _ _ _ _ _
      cases (cc == Value.type "enumerate") <;> (wp_walk using it1; exact ⟨_, rfl, h⟩)
    · wp_walk using it1; exact ⟨_, rfl, h⟩
  refine callType_new PySem.F.called_enumerate (by decide) (PySem.F.typeCall_enumerate_1 _) (PySem.F.newCall_enumerate_1 _) (fun obj => PySem.F.args_object_init_2 obj _) PySem.F.entry_enumerate_new M ⟨h1, ?_⟩
  have hz : (s.heap.push o).objs.size = s.heap.objs.size + 1 := Heap.size_push ..
  rw [hz]
  have he : IsEnum ((s.heap.push o).push { cls := .type "enumerate", data := .fields #[.none, .bool false, .ref s.heap.objs.size, rawInt 0, .none, .none] }) (s.heap.objs.size + 1) s.heap.objs.size 0 .none := by
    have := Heap.get?_push_size (s.heap.push o) (o := { cls := .type "enumerate", data := .fields #[.none, .bool false, .ref s.heap.objs.size, rawInt 0, .none, .none] }) rfl
    rw [hz] at this; exact this
  exact ⟨⟨_, he, rfl⟩, h _ he (Heap.get?_push_of_some _ (Heap.get?_push_size _ B.free)) (by rw [Heap.size_push, hz]) fun b o x => Heap.get?_push_of_some _ (Heap.get?_push_of_some _ x)⟩
theorem pi_enumK {X : Cx} {e : Expr} {ta : TA} {p pos tpos : Pos} {elts : List Expr} {kk : Nat} (hg : Gl X "enumerate") (hm : X.mg "enumerate" = none) (ha : PA X [e] ta) (hs : starEach [e] X.env = [(false, eval e X.env)] := by rfl) :
    PI X (.Tuple elts kk tpos) (.Call (.Name "enumerate" p) [e] [] pos) (iEnumK X.K ta) := by
  refine ⟨fun pins s σ H R I h => ?_⟩
  refine Call_ (ld_blt I hg hm boot_enumerate (PyProof.Rows.callWith_type1 (thn (ha.run pos pins s σ H _ I h) fun us s1 ⟨vs, H1, I1, r1, q1⟩ => ?_) hs rfl))
  obtain ⟨a, xs, k, ex, hq, q⟩ := q1
  subst ex
  cases r1 with
  | cons r rr =>
    cases rr
    cases r
    obtain ⟨its, rv, p'⟩ := seqK I1 hq
    refine call_enumK (beginsK k a its.toArray) p' fun h' he hit hsz hk => wpAny_pyIter_enum he ?_
    have I2 : Inv X pins σ H1 { s1 with heap := h' } := I1.kept (t' := s1.toks) hk
    have hla := p'.lt
    refine ⟨s1.heap.objs.size + 1, [s1.heap.objs.size + 1, s1.heap.objs.size], _, _, H1, rfl, I2, turn_enumK (a := a) (e := s1.heap.objs.size + 1) (it := s1.heap.objs.size), ⟨⟨.none, he⟩, ItK.fresh k hit, Nat.succ_ne_self _, fun z => by
      have : s1.heap.objs.size + 1 < s1.heap.objs.size := by rw [← z] at hla; exact hla
      exact absurd this (Nat.not_lt_of_le (Nat.le_succ _))⟩, fun b hb => ?_, q⟩
    have e' : b = s1.heap.objs.size + 1 ∨ b = s1.heap.objs.size := by simpa using hb
    have hle : s1.heap.objs.size ≤ b := by
      rcases e' with z | z
      · rw [z]; exact Nat.le_add_right _ _
      · rw [z]; exact Nat.le_refl _
    exact I1.fpOk hle (I1.hok.fresh hle)
/-- where a walk's items come from -/
structure Src1 (K : PySem.W.Frag) (H0 : Hp) (k : Bool) (a : Addr) (xs : List D) (ck : Sto → Bool) (R : Hp → List Addr → Sto → Prop) : Prop where
  at_ : ∀ H rho S, SOk K H0 H rho S → R H rho S → ck S = true → ∃ vs, SqK k K H a vs ∧ Reps K H0 H rho xs vs
  keep : ∀ H rho S H' rho' S', SOk K H0 H rho S → R H rho S → SOk K H0 H' rho' S' → Stp H rho H' rho' → ck S' = true → R H' rho' S'
def srcD (S : Sto) : D → Option (List D × (Sto → Bool))
  | .lst _ xs => some (xs, always)
  | .obj i => match S[i]? with
    | some (.lst xs) => some (xs, isAt i xs)
    | _ => none
  | .tup xs => some (xs, always)
  | _ => none
theorem src_at {K : PySem.W.Frag} {H0 H : Hp} {rho : List Addr} {S : Sto} (s : SOk K H0 H rho S) {d : D} {v : V} {xs : List D} {ck : Sto → Bool} (h : srcD S d = some (xs, ck)) (r : Rep K H0 H rho d v) :
    ∃ a k vs R, v = .ref a ∧ SqK k K H a vs ∧ Src1 K H0 k a xs ck R ∧ R H rho S := by
  unfold srcD at h
  split at h
  · rename_i f ys
    cases h
    simp only [Rep] at r
    obtain ⟨a, vs, rfl, q, g, r⟩ := r
    exact ⟨a, false, vs, fun H rho _ => ∃ vs, FL K H rho a vs ∧ Reps K H0 H rho xs vs, rfl, q.sq,
      ⟨fun H rho S s ⟨vs, hf, r⟩ _ => ⟨vs, hf.sq, r⟩, fun H rho S H' rho' S' s ⟨vs, hf, r⟩ s' t _ => ⟨vs, hf.keep s t, Reps.keep s t _ _ r⟩⟩, ⟨vs, q, r⟩⟩
  · rename_i i
    split at h
    · rename_i ys hS
      cases h
      obtain ⟨a, vs, rfl, hp, hH, r⟩ := obj_at s hS r
      refine ⟨a, false, vs, fun H rho S => rho[i]? = some a, rfl, .of hH, ⟨fun H rho S s hi hc => ?_, fun H rho S H' rho' S' s hi s' t _ => ?_⟩, hp⟩
      · obtain ⟨b, e, vs, hH, r⟩ := s.at_ i _ (isAt_ok hc)
        rw [hi] at e; cases e
        exact ⟨vs, .of hH, r⟩
      · obtain ⟨⟨r, rfl, _⟩, _, _⟩ := t
        rw [List.getElem?_append_left (List.getElem?_eq_some_iff.mp hi).1]; exact hi
    · cases h
  · rename_i ys
    cases h
    obtain ⟨a, vs, rfl, q, r⟩ := tup_at r
    exact ⟨a, true, vs, fun H rho _ => ∃ vs, SqT K H a vs ∧ Reps K H0 H rho xs vs, rfl, q,
      ⟨fun H rho S s ⟨vs, hf, r⟩ _ => ⟨vs, hf, r⟩, fun H rho S H' rho' S' s ⟨vs, hf, r⟩ s' t _ => ⟨vs, sqT_keep s t hf, Reps.keep s t _ _ r⟩⟩, ⟨vs, q, r⟩⟩
  · cases h
def zipD (xs ys : List D) : List D := (xs.zip ys).map fun p => .tup [p.1, p.2]
def enumD (xs : List D) : List D := (xs.zipIdx).map fun p => .tup [.int (p.2 : Nat), p.1]
theorem pair_new {K : PySem.W.Frag} {H0 H : Hp} {rho : List Addr} {S : Sto} {d e : D} {x y : V} {T : Addr} (s : SOk K H0 H rho S) (hT : H T = none) (r1 : Rep K H0 H rho d x) (r2 : Rep K H0 H rho e y) :
    SOk K H0 (upd H T (.tup [x, y])) rho S ∧ Stp H rho (upd H T (.tup [x, y])) rho ∧ Rep K H0 (upd H T (.tup [x, y])) rho (.tup [d, e]) (.ref T) := by
  refine ⟨s.laid hT _, .new s hT _, ?_⟩
  simp only [Rep]
  exact ⟨T, [x, y], rfl, .inl (.inl upd_same), Reps.keep s (.new s hT _) _ _ (.cons r1 (.one r2))⟩
theorem it_zip {K : PySem.W.Frag} {H0 : Hp} {k1 k2 : Bool} {a b : Addr} {xs ys : List D} {c1 c2 : Sto → Bool} {R1 R2 : Hp → List Addr → Sto → Prop} (A : Src1 K H0 k1 a xs c1 R1) (B : Src1 K H0 k2 b ys c2 R2) :
    ItSim K H0 (ItzK k1 k2 K a b) (zipD xs ys) (fun S => c1 S && c2 S) (fun H rho S => R1 H rho S ∧ R2 H rho S) where
  go := fun j d H rho S hj s hR hc => by
    simp only [Bool.and_eq_true] at hc
    obtain ⟨vs, h1, r1⟩ := A.at_ H rho S s hR.1 hc.1
    obtain ⟨ws, h2, r2⟩ := B.at_ H rho S s hR.2 hc.2
    unfold zipD at hj
    rw [List.getElem?_map, Option.map_eq_some_iff] at hj
    obtain ⟨p, hp, rfl⟩ := hj
    rw [List.getElem?_zip_eq_some] at hp
    obtain ⟨x, hx, rx⟩ := r1.get hp.1
    obtain ⟨y, hy, ry⟩ := r2.get hp.2
    refine ⟨⟨vs, ws, x, y, h1, h2, hx, hy⟩, fun v H' ⟨T, x', y', e, hT, eH, q1, q2⟩ => ?_⟩
    have e1 := q1 vs h1
    have e2 := q2 ws h2
    rw [hx] at e1; rw [hy] at e2
    cases e1; cases e2
    subst e eH
    exact pair_new s hT rx ry
  stop := fun H rho S s hR hc => by
    simp only [Bool.and_eq_true] at hc
    obtain ⟨vs, h1, r1⟩ := A.at_ H rho S s hR.1 hc.1
    obtain ⟨ws, h2, r2⟩ := B.at_ H rho S s hR.2 hc.2
    have l1 := r1.length
    have l2 := r2.length
    refine ⟨vs, ws, h1, h2, ?_⟩
    unfold zipD
    rw [List.length_map, List.length_zip]
    omega
  keep := fun H rho S H' rho' S' s hR s' t hc => by
    simp only [Bool.and_eq_true] at hc
    exact ⟨A.keep _ _ _ _ _ _ s hR.1 s' t hc.1, B.keep _ _ _ _ _ _ s hR.2 s' t hc.2⟩
theorem it_enum {K : PySem.W.Frag} {H0 : Hp} {k : Bool} {a : Addr} {xs : List D} {c : Sto → Bool} {R : Hp → List Addr → Sto → Prop} (A : Src1 K H0 k a xs c R) : ItSim K H0 (IteK k K a) (enumD xs) c R where
  go := fun j d H rho S hj s hR hc => by
    obtain ⟨vs, h1, r1⟩ := A.at_ H rho S s hR hc
    unfold enumD at hj
    rw [List.getElem?_map, Option.map_eq_some_iff] at hj
    obtain ⟨p, hp, rfl⟩ := hj
    rw [List.getElem?_zipIdx, Option.map_eq_some_iff] at hp
    obtain ⟨z, hz, rfl⟩ := hp
    obtain ⟨x, hx, rx⟩ := r1.get hz
    refine ⟨⟨vs, x, h1, hx⟩, fun v H' ⟨T, x', e, hT, eH, q1⟩ => ?_⟩
    have e1 := q1 vs h1
    rw [hx] at e1
    cases e1
    subst e eH
    have := pair_new s hT (d := .int (j : Nat)) (x := .int (j : Nat)) (by simp [Rep]) rx
    rw [Nat.zero_add]
    exact this
  stop := fun H rho S s hR hc => by
    obtain ⟨vs, h1, r1⟩ := A.at_ H rho S s hR hc
    refine ⟨vs, h1, ?_⟩
    unfold enumD
    rw [List.length_map, List.length_zipIdx, r1.length]
  keep := A.keep
def iZipM (a : AM) : IM := fun G S => (a G S).bindI fun ds S1 => match ds with
  | [d, e] => (match srcD S1 d, srcD S1 e with
    | some (xs, c1), some (ys, c2) => .ok (zipD xs ys) (fun S => c1 S && c2 S) S1
    | _, _ => .err)
  | _ => .err
def iEnumM (a : AM) : IM := fun G S => (a G S).bindI fun ds S1 => match ds with
  | [d] => (match srcD S1 d with
    | some (xs, c1) => .ok (enumD xs) c1 S1
    | none => .err)
  | _ => .err
section
variable {X : Cx} {W : WX} {a b : Expr} {m : AM} {p pos tpos : Pos} {elts : List Expr} {kk : Nat}
theorem ji_zip (hg : Gl X "zip") (hm : X.mg "zip" = none) (ha : JA X W [a, b] m) (hs : starEach [a, b] X.env = (false, eval a X.env) :: starEach [b] X.env := by rfl) (hs2 : (backTo pos (starEach [b] X.env)).any (·.1) = false := by rfl) : JI X W (.Tuple elts kk tpos) (.Call (.Name "zip" p) [a, b] [] pos) (iZipM m) := by
  obtain ⟨ta, pa, sa⟩ := ha
  refine ⟨_, pi_zipK hg hm pa hs hs2, fun H0 G S sg H rho st R h => sa H0 G S sg H rho st _ (bindAI h fun ds S1 vs H1 rho1 s1 t1 r1 h1 => ?_)⟩
  split at h1
  · split at h1
    · rename_i d e xs c1 ys c2 e1 e2
      obtain ⟨v, w, rfl, q1, q2⟩ := reps2 r1
      obtain ⟨pa, ka, va, Ra, rfl, a1, a2, a3⟩ := src_at s1 e1 q1
      obtain ⟨pb, kb, vb, Rb, rfl, b1, b2, b3⟩ := src_at s1 e2 q2
      exact ⟨pa, pb, va, vb, ka, kb, rfl, a1, b1, h1 _ _ rho1 _ s1 (Stp.refl s1) (it_zip a2 b2) ⟨a3, b3⟩⟩
    · exact h1.elim
  · exact h1.elim
theorem ji_enum (hg : Gl X "enumerate") (hm : X.mg "enumerate" = none) (ha : JA X W [a] m) (hs : starEach [a] X.env = [(false, eval a X.env)] := by rfl) : JI X W (.Tuple elts kk tpos) (.Call (.Name "enumerate" p) [a] [] pos) (iEnumM m) := by
  obtain ⟨ta, pa, sa⟩ := ha
  refine ⟨_, pi_enumK hg hm pa hs, fun H0 G S sg H rho st R h => sa H0 G S sg H rho st _ (bindAI h fun ds S1 vs H1 rho1 s1 t1 r1 h1 => ?_)⟩
  split at h1
  · split at h1
    · rename_i d xs c1 e1
      obtain ⟨v, rfl, q1⟩ := reps1 r1
      obtain ⟨pa, ka, va, Ra, rfl, a1, a2, a3⟩ := src_at s1 e1 q1
      exact ⟨pa, va, ka, rfl, a1, h1 _ _ rho1 _ s1 (Stp.refl s1) (it_enum a2) a3⟩
    · exact h1.elim
  · exact h1.elim
end
end Ab

end
section
set_option Elab.async false
set_option linter.all false
set_option maxRecDepth 100000
namespace Ab
open PySem PySem.Spec PyProof.Rows L2
/-- o[i] = v, the value known -/
def stIx (mo mi : EM) (v : D) : SM := fun G S => (mo G S).bindS G fun o S2 => (mi G S2).bindS G fun i S3 => match o, i with
  | .obj j, .int k => (match S3[j]? with
    | some (.lst xs) => (match ixN xs.length k with
      | some n => .nx G (S3.set j (.lst (xs.set n v)))
      | none => .err)
    | _ => .err)
  | _, _ => .err
/-- a[b], c[d] = e, f -/
def mSwap (m0 m1 ma mb mc md : EM) : SM := fun G S => match mTup (aCons m0 (aCons m1 aNil)) G S with
  | .ok (.tup [x, y]) S1 => (match stIx ma mb x G S1 with
    | .nx _ S2 => (match stIx mc md y G S2 with
      | .nx _ S3 => .nx G S3
      | _ => .err)
    | _ => .err)
  | _ => .err
theorem stIx_G {mo mi : EM} {v : D} {G G' : Gam} {S S' : Sto} (h : stIx mo mi v G S = .nx G' S') : G' = G := by
  unfold stIx at h
  cases e1 : mo G S with
  | err => rw [e1] at h; cases h
  | ex c S2 => rw [e1] at h; cases h
  | ok o S2 =>
    rw [e1] at h
    simp only [ER.bindS] at h
    cases e2 : mi G S2 with
    | err => rw [e2] at h; cases h
    | ex c S2 => rw [e2] at h; cases h
    | ok i S3 =>
      rw [e2] at h
      simp only at h
      split at h
      · split at h
        · split at h
          · cases h; rfl
          · cases h
        · cases h
      · cases h
section
variable {X : Cx} {W : WX} {e0 e1 a b c d : Expr} {m0 m1 ma mb mc md : EM} {pos : Pos}
theorem st_sim {tb tc : TE} {mb mc : EM} (sb : SimE X.K W tb mb) (sc : SimE X.K W tc mc) {H0 H1 : Hp} {G : Gam} {S1 S2 : Sto} {sg : L2.St} {rho1 : List Addr} {v : D} {x : V} {Q : L2.St → Hp → Prop} (s1 : Sat X.K H0 G S1 sg H1 rho1) (r1 : Rep X.K H0 H1 rho1 v x)
    (hS : stIx mb mc v G S1 = .nx G S2) (h : ∀ H2 rho2, Sat X.K H0 G S2 sg H2 rho2 → Stp H1 rho1 H2 rho2 → Q sg H2) : (gSub tb tc rSetL) x sg H1 Q := by
  show tb sg H1 _
  unfold stIx at hS
  refine sb H0 G S1 sg H1 rho1 s1 _ ?_
  cases eb : mb G S1 with
  | err => rw [eb] at hS; cases hS
  | ex c S2 => rw [eb] at hS; cases hS
  | ok o S3 =>
    rw [eb] at hS
    intro y H2 rho2 s2 t2 r2
    have st2 := s1.step s2 t2
    refine sc H0 G S3 sg H2 rho2 st2 _ ?_
    simp only [ER.bindS] at hS
    cases ec : mc G S3 with
    | err => rw [ec] at hS; cases hS
    | ex c S3 => rw [ec] at hS; cases hS
    | ok i S4 =>
      rw [ec] at hS
      intro z H3 rho3 s3 t3 r3
      have st3 := st2.step s3 t3
      simp only at hS
      split at hS
      · rename_i j k
        split at hS
        · rename_i xs hxs
          split at hS
          · rename_i n hn
            obtain ⟨p, vs, rfl, hp, hH, r⟩ := obj_at s3 hxs (Rep.keep s2 t3 _ _ r2)
            simp only [Rep] at r3
            have rv := Rep.keep s2 t3 _ _ (Rep.keep s1.s t2 _ _ r1)
            obtain ⟨s4, t4⟩ := wr_ok s3 hp (r.set n rv)
            refine ⟨p, vs, k, n, rfl, r3, hH, by rw [← r.length]; exact hn, ?_⟩
            cases hS
            exact h _ _ (st3.step s4 t4) (t2.trans (t3.trans t4))
          · cases hS
        · cases hS
      · cases hS
theorem js_swap {k k2 : Nat} {tp tp2 p1 p2 : Pos} (hc : X.calm = true) (h0 : JE X W e0 m0) (h1 : JE X W e1 m1) (ha : JE X W a ma) (hb : JE X W b mb) (hc2 : JE X W c mc) (hd : JE X W d md)
    (hA : ∀ v, assign (.Subscript a b p1) X.env v = (do
      let ov ← holding [v] (eval a X.env)
      let iv ← holding [v, ov] (eval b X.env)
      standAt p1
      holding [v, ov, iv] (setItem ov iv v)
      release [v, ov, iv] []) := by intro _; rfl)
    (hA2 : ∀ v, assign (.Subscript c d p2) X.env v = (do
      let ov ← holding [v] (eval c X.env)
      let iv ← holding [v, ov] (eval d X.env)
      standAt p2
      holding [v, ov, iv] (setItem ov iv v)
      release [v, ov, iv] []) := by intro _; rfl)
    (he1 : (assignEach [.Subscript a b p1, .Subscript c d p2] X.env).map (·.2) = assign (.Subscript a b p1) X.env :: (assignEach [.Subscript c d p2] X.env).map (·.2) := by rfl)
    (he2 : (assignEach [.Subscript c d p2] X.env).map (·.2) = assign (.Subscript c d p2) X.env :: (assignEach [] X.env).map (·.2) := by rfl)
    (hl : (assignEach [.Subscript a b p1, .Subscript c d p2] X.env).length = 2 := by rfl) (hst : (assignEach [.Subscript a b p1, .Subscript c d p2] X.env).findIdx? (·.1) = none := by rfl)
    (hs : swapsWithSole [.Tuple [.Subscript a b p1, .Subscript c d p2] k tp] (.Tuple [e0, e1] k2 tp2) pos.line X.env = pure false := by rfl) (hw : swappedStores [.Tuple [.Subscript a b p1, .Subscript c d p2] k tp] (.Tuple [e0, e1] k2 tp2) X.env = pure none := by rfl)
    (hq : (assignEach [.Tuple [.Subscript a b p1, .Subscript c d p2] k tp] X.env).map (·.2) = [assign (.Tuple [.Subscript a b p1, .Subscript c d p2] k tp) X.env] := by rfl)
    (hs0 : starEach (e0 :: [e1]) X.env = (false, eval e0 X.env) :: starEach [e1] X.env := by rfl) (hs1 : starEach (e1 :: []) X.env = (false, eval e1 X.env) :: starEach [] X.env := by rfl) :
    JS X W (.Assign [.Tuple [.Subscript a b p1, .Subscript c d p2] k tp] (.Tuple [e0, e1] k2 tp2) pos) (mSwap m0 m1 ma mb mc md) := by
  obtain ⟨te, pe, se⟩ := je_tup (x1 := k2) (pos := tp2) (ja_cons h0 (ja_cons h1 ja_nil hs1) hs0)
  obtain ⟨ta, pa, sa⟩ := ha
  obtain ⟨tb, pb, sb⟩ := hb
  obtain ⟨tc, pc, sc⟩ := hc2
  obtain ⟨td, pd, sd⟩ := hd
  refine ⟨_, ps_asg pe (pg_tup hc (pgs_cons (pg_sub pa pb set_list hA) (pgs_cons (pg_sub pc pd set_list hA2) pgs_nil he2) he1) hl hst) hs hw hq, fun H0 G S sg H rho st E h => ?_⟩
  show te sg H _
  unfold mSwap at h
  refine se H0 G S sg H rho st _ ?_
  split at h
  · rename_i x y S1 em
    rw [em]
    split at h
    · rename_i G2 S2 e2
      obtain rfl := stIx_G e2
      split at h
      · rename_i G3 S3 e3
        obtain rfl := stIx_G e3
        intro v H1 rho1 s1 t1 r1
        have st1 := st.step s1 t1
        obtain ⟨q, vs, rfl, hqt, r⟩ := tup_at r1
        obtain ⟨w1, w2, rfl, q1, q2⟩ := reps2 r
        refine ⟨q, [w1, w2], rfl, hqt, rfl, w1, [w2], rfl, ?_⟩
        refine st_sim (W := W) sa sb st1 q1 e2 fun H2 rho2 st2 t2 => ⟨w2, [], rfl, ?_⟩
        exact st_sim (W := W) sc sd st2 (Rep.keep s1 t2 _ _ q2) e3 fun H3 rho3 st3 t3 => ⟨rfl, SPost.here st3 (SPost.step (t1.trans (t2.trans t3)) h)⟩
      · exact h.elim
    · exact h.elim
  · exact h.elim
end
end Ab
namespace Ab
open PySem PySem.Spec PyProof.Rows L2
/-- by the first, then by the second -/
def leP (p q : Int × Int) : Bool := decide (p.1 < q.1) || (decide (p.1 = q.1) && decide (p.2 ≤ q.2))
theorem leP_iff {p q : Int × Int} : leP p q = true ↔ p.1 < q.1 ∨ (p.1 = q.1 ∧ p.2 ≤ q.2) := by simp [leP]
def pairD (p : Int × Int) : D := .tup [.int p.1, .int p.2]
def sortP (ps : List (Int × Int)) : List (Int × Int) := ps.mergeSort leP
theorem sortP_perm (ps : List (Int × Int)) : (sortP ps).Perm ps := List.mergeSort_perm ps _
theorem sortP_pw (ps : List (Int × Int)) : (sortP ps).Pairwise (fun a b => leP a b = true) :=
  List.pairwise_mergeSort (le := leP) (fun a b c h1 h2 => by rw [leP_iff] at *; omega) (fun a b => by
    have : leP a b = true ∨ leP b a = true := by rw [leP_iff, leP_iff]; omega
    rcases this with h | h <;> simp [h]) ps
theorem sortP_eq {ps qs : List (Int × Int)} (hp : qs.Perm ps) (hs : qs.Pairwise (fun a b => leP a b = true)) : qs = sortP ps :=
  (hp.trans (sortP_perm ps).symm).eq_of_pairwise (fun a b _ _ h1 h2 => by
    rw [leP_iff] at h1 h2
    obtain ⟨a1, a2⟩ := a
    obtain ⟨b1, b2⟩ := b
    simp only at h1 h2
    have e1 : a1 = b1 := by omega
    have e2 : a2 = b2 := by omega
    rw [e1, e2]) hs (sortP_pw ps)
def pairsD : List D → Option (List (Int × Int))
  | [] => some []
  | .tup [.int i, .int j] :: r => (match pairsD r with
    | some l => some ((i, j) :: l)
    | none => none)
  | _ :: _ => none
theorem pairsD_eq : ∀ {ds : List D} {ps : List (Int × Int)}, pairsD ds = some ps → ds = ps.map pairD
  | [], ps, h => by simp only [pairsD, Option.some.injEq] at h; subst h; rfl
  | d :: r, ps, h => by
    unfold pairsD at h
    split at h
    · rename_i he
      cases he
    · rename_i i j r2 he
      cases he
      split at h
      · rename_i l hl
        cases h
        rw [pairsD_eq hl]; rfl
      · cases h
    · cases h
theorem pairsD_map : ∀ ps : List (Int × Int), pairsD (ps.map pairD) = some ps
  | [] => rfl
  | p :: ps => by simp [pairsD, pairD, pairsD_map ps]
def fSortedP (o : Bool) : List D → Sto → ER := fun ds S => match ds with
  | [d] => (match (seqL S d).bind pairsD with
    | some ps => if ps.length ≤ big then nw o ((sortP ps).map pairD) S else .err
    | none => .err)
  | _ => .err
def rSortedPT (K : PySem.W.Frag) : List V → Hp → VK → Prop := fun vs H Q => ∃ (a : Addr) (zs : List (V × (Int × Int))), vs = [V.ref a] ∧ SqL K H a (zs.map (·.1)) ∧ (∀ z ∈ zs, ∃ t, z.1 = V.ref t ∧ SqT K H t [.int z.2.1, .int z.2.2]) ∧
  ∀ (ws : List (V × (Int × Int))) p, ws.Perm zs → (ws.map (·.2)).Pairwise (fun a b => leP a b = true) → H p = none → Q (.ref p) (upd H p (.lst (ws.map (·.1))))
theorem cr_sortedPT {X : Cx} : CallR X (.builtin "sorted") (rSortedPT X.K) := by
  intro pins s σ H vs us Q I r h
  obtain ⟨a, zs, rfl, hs, hx, q⟩ := h
  obtain ⟨its, rv, hl, hz⟩ := I.list hs
  obtain ⟨u, rfl, ru⟩ := vals1 r
  obtain rfl : u = Value.ref a := ru
  have hx1 : ∀ x ∈ zs.map (·.1), ∃ a, x = V.ref a := fun x m => by
    obtain ⟨z, hz, rfl⟩ := List.mem_map.mp m
    obtain ⟨t, e, _⟩ := hx z hz
    exact ⟨t, e⟩
  obtain ⟨e1, e2⟩ := refs_back rv hx1
  obtain ⟨k, hk⟩ : ∃ k : V → Int × Int, ∀ z ∈ zs, k z.1 = z.2 := by
    refine ⟨fun x => if h : ∃ z ∈ zs, z.1 = x then (Classical.choose h).2 else (0, 0), fun z hz => ?_⟩
    have h : ∃ y ∈ zs, y.1 = z.1 := ⟨z, hz, rfl⟩
    simp only [dif_pos h]
    obtain ⟨hy, e⟩ := Classical.choose_spec h
    generalize Classical.choose h = y at hy e
    obtain ⟨t, et, ht⟩ := hx z hz
    obtain ⟨t', et', ht'⟩ := hx y hy
    rw [e, et] at et'
    cases et'
    have := I.tuple_inj ht ht'
    simp only [List.cons.injEq, V.int.injEq, and_true] at this
    exact (Prod.ext this.1 this.2).symm
  refine SrtO.sorted_pairsO (k := fun u => k (backV u)) hl.isList (by rw [← rv.length]; exact hz) (fun v hv => ?_) fun h' d out h1 h2 kp hd hn => ?_
  · obtain ⟨t, rfl⟩ := e2 v hv
    have hm : V.ref t ∈ zs.map (·.1) := by rw [e1]; exact List.mem_map.mpr ⟨_, hv, rfl⟩
    obtain ⟨z, hz, ez⟩ := List.mem_map.mp hm
    obtain ⟨t', e, ht⟩ := hx z hz
    rw [ez] at e
    cases e
    obtain ⟨its2, r2, ⟨o, ho, hc, n, hd⟩, _⟩ := I.tuple ht
    obtain ⟨u1, u2, rfl, ri, rj⟩ := vals2 r2
    obtain ⟨t1, rfl⟩ := ri
    obtain ⟨t2, rfl⟩ := rj
    have hkz := hk z hz
    rw [ez] at hkz
    exact ⟨t, o, t1, t2, n, rfl, ho, hc, by
      show o.data = .seq #[.int (k (V.ref t)).1 t1, .int (k (V.ref t)).2 t2] n
      rw [hkz]; exact hd⟩
  · have h3 : ∀ u ∈ out, ∃ a, u = Value.ref a := fun u hu => e2 u (h2.perm.mem_iff.mp hu)
    obtain ⟨n, hn⟩ := hn
    have hp : (out.map backV).Perm (zs.map (·.1)) := by rw [e1]; exact h2.perm.map backV
    have hsz : out.length = zs.length := by
      have := hp.length_eq
      simpa using this
    have hlz : zs.length ≤ sizeLine := by
      have := rv.length
      rw [List.length_map] at this
      have h4 := hz
      rw [List.length_map] at h4
      exact h4
    refine ⟨.ref d, upd H d (.lst (out.map backV)), I.laid (t' := s.toks) kp hd ⟨by rw [List.length_map, hsz]; exact hlz, out, n, vals_back h3, hn⟩, rfl, ?_⟩
    have := q ((out.map backV).map fun x => (x, k x)) d (by
      have e5 : zs = (zs.map (·.1)).map fun x => (x, k x) := by
        rw [List.map_map]
        conv => lhs; rw [← List.map_id zs]
        exact List.map_congr_left fun z hz => by
          simp only [id, Function.comp]
          rw [hk z hz]
      rw [e5]
      exact hp.map _) (by
      rw [List.map_map, List.map_map]
      have h1' : (out.map fun u => k (backV u)).Pairwise (fun a b => leP a b = true) := by
        rw [List.pairwise_map]
        refine h1.imp fun {a b} hab => ?_
        have := SrtO.lexB_no.mp hab
        rw [leP_iff]; omega
      exact h1') (I.hok.fresh hd)
    rw [List.map_map] at this
    have e6 : (out.map backV).map ((fun z : V × (Int × Int) => z.1) ∘ fun x => (x, k x)) = out.map backV := by
      have : ((fun z : V × (Int × Int) => z.1) ∘ fun x => (x, k x)) = id := rfl
      rw [this, List.map_id]
    rw [e6] at this
    exact this
theorem sim_sortedP {K : PySem.W.Frag} (o : Bool) : SimC K (rSortedPT K) (fSortedP o) := fun H0 H rho S W ds vs s rd Q q => by
  unfold fSortedP at q
  split at q
  · obtain ⟨v, rfl, r⟩ := reps1 rd
    split at q
    · rename_i ps hx
      split at q
      · obtain ⟨xs, h1, h2⟩ := Option.bind_eq_some_iff.mp hx
        obtain rfl := pairsD_eq h2
        obtain ⟨a, us, rfl, hq, ru⟩ := seqL_at s h1 r
        have key : ∀ (ps : List (Int × Int)) (us : List V), Reps K H0 H rho (ps.map pairD) us → (us.zip ps).map (·.1) = us ∧ (us.zip ps).map (·.2) = ps ∧ ∀ z ∈ us.zip ps, (∃ t, z.1 = V.ref t ∧ SqT K H t [.int z.2.1, .int z.2.2]) ∧ Rep K H0 H rho (pairD z.2) z.1 := by
          intro ps
          induction ps with
          | nil => intro us h; simp only [List.map_nil, Reps] at h; subst h; simp
          | cons p ps ih =>
            intro us h
            simp only [List.map_cons, Reps] at h
            obtain ⟨v, w, rfl, h1, h2⟩ := h
            obtain ⟨i1, i2, i3⟩ := ih w h2
            refine ⟨by simp [i1], by simp [i2], fun z hz => ?_⟩
            rw [List.zip_cons_cons] at hz
            rcases List.mem_cons.mp hz with rfl | hz
            · refine ⟨?_, h1⟩
              obtain ⟨t, ws, rfl, ht, rt⟩ := tup_at (xs := [.int p.1, .int p.2]) h1
              obtain ⟨w1, w2, rfl, q1, q2⟩ := reps2 rt
              simp only [Rep] at q1 q2
              subst q1 q2
              exact ⟨t, rfl, ht⟩
            · exact i3 z hz
        obtain ⟨k1, k2, k3⟩ := key ps us ru
        refine ⟨a, us.zip ps, rfl, by rw [k1]; exact hq, fun z hz => (k3 z hz).1, fun ws p hp hs hn => ?_⟩
        have e : ws.map (·.2) = sortP ps := sortP_eq (by have := hp.map (·.2); rw [k2] at this; exact this) hs
        rw [← e] at q
        have key2 : ∀ ws : List (V × (Int × Int)), (∀ z ∈ ws, Rep K H0 H rho (pairD z.2) z.1) → Reps K H0 H rho ((ws.map (·.2)).map pairD) (ws.map (·.1)) := by
          intro ws
          induction ws with
          | nil => intro _; exact .nil
          | cons w ws ih => intro h; exact .cons (h w List.mem_cons_self) (ih fun z hz => h z (List.mem_cons_of_mem _ hz))
        exact new_lst s hn (key2 ws fun z hz => (k3 z (hp.mem_iff.mp hz)).2) q
      · exact q.elim
    · exact q.elim
  · exact q.elim
section
variable {X : Cx} {W : WX} {p pos : Pos} {e : Expr} {es : List Expr} {m : AM}
theorem je_sortedP (o : Bool) (hg : Gl X "sorted") (hm : X.mg "sorted" = none) (ha : JA X W (e :: es) m) (h1 : starEach (e :: es) X.env = (false, eval e X.env) :: starEach es X.env := by rfl) (h2 : (backTo pos (starEach es X.env)).any (·.1) = false := by rfl) :
    JE X W (.Call (.Name "sorted" p) (e :: es) [] pos) (mCall (fSortedP o) m) := je_callB cr_sortedPT (sim_sortedP o) hg hm (by decide +kernel) ha (by decide) (by decide) h1 h2
end
end Ab

end
section
set_option Elab.async false
set_option linter.all false
set_option maxRecDepth 100000
namespace Ab
open PySem PySem.Spec PyProof.Rows L2
section
variable {G : Gam} {S S' : Sto} {d e x y : D} {as ds es xs ys : List D} {n : Nat} {α β : Type} {F : Fn} {c : Str} {a f g : Bool}
def cmpF (neg : Bool) (d e : Option D) (S : Sto) : ER := match d, e with
  | some d', some e' => if okE d' && okE e' && decide (min (dep d') (dep e') ≤ 190) then .ok (.bl (if neg then !eqd d' e' else eqd d' e')) S else .err
  | _, _ => .err
@[simp] theorem ev_eqT1 : fEq a (.tup xs) e S = cmpF a (argD S (.tup xs)) (argD S e) S := by cases e <;> rfl
@[simp] theorem ev_eqL1 : fEq a (.lst f xs) e S = cmpF a (argD S (.lst f xs)) (argD S e) S := by cases e <;> rfl
@[simp] theorem ev_eqO1 : fEq a (.obj n) e S = cmpF a (argD S (.obj n)) (argD S e) S := by cases e <;> rfl
@[simp] theorem ev_eqN1 : fEq a .non e S = cmpF a (argD S .non) (argD S e) S := by cases e <;> rfl
@[simp] theorem ev_eqT2 : fEq a d (.tup xs) S = cmpF a (argD S d) (argD S (.tup xs)) S := by cases d <;> rfl
@[simp] theorem ev_eqL2 : fEq a d (.lst f xs) S = cmpF a (argD S d) (argD S (.lst f xs)) S := by cases d <;> rfl
@[simp] theorem ev_eqO2 : fEq a d (.obj n) S = cmpF a (argD S d) (argD S (.obj n)) S := by cases d <;> rfl
@[simp] theorem ev_eqN2 : fEq a d .non S = cmpF a (argD S d) (argD S .non) S := by cases d <;> rfl
@[simp] theorem ev_cmpF : cmpF a (some d) (some e) S = if okE d && okE e && decide (min (dep d) (dep e) ≤ 190) then .ok (.bl (if a then !eqd d e else eqd d e)) S else .err := (rfl)
@[simp] theorem okE_tup : okE (.tup xs) = okEs xs := (rfl)
@[simp] theorem okE_lst : okE (.lst f xs) = okEs xs := (rfl)
@[simp] theorem okE_int {i : Int} : okE (.int i) = true := (rfl)
@[simp] theorem okE_bl {b : Bool} : okE (.bl b) = true := (rfl)
@[simp] theorem okE_non : okE .non = true := (rfl)
@[simp] theorem okE_str {s : Str} : okE (.str s) = PyData.strOk s := (rfl)
@[simp] theorem okEs_nil : okEs [] = true := (rfl)
@[simp] theorem okEs_cons : okEs (d :: ds) = (okE d && okEs ds) := (rfl)
@[simp] theorem dep_tup : dep (.tup xs) = deps xs + 1 := (rfl)
@[simp] theorem dep_lst : dep (.lst f xs) = deps xs + 1 := (rfl)
@[simp] theorem dep_int {i : Int} : dep (.int i) = 0 := (rfl)
@[simp] theorem dep_bl {b : Bool} : dep (.bl b) = 0 := (rfl)
@[simp] theorem dep_non : dep .non = 0 := (rfl)
@[simp] theorem dep_str {s : Str} : dep (.str s) = 0 := (rfl)
@[simp] theorem deps_nil : deps [] = 0 := (rfl)
@[simp] theorem deps_cons : deps (d :: ds) = max (dep d) (deps ds) := (rfl)
@[simp] theorem eqd_tt : eqd (.tup xs) (.tup ys) = eqds xs ys := (rfl)
@[simp] theorem eqd_ll : eqd (.lst f xs) (.lst g ys) = eqds xs ys := (rfl)
@[simp] theorem eqd_nn : eqd .non .non = true := (rfl)
@[simp] theorem eqd_nt : eqd .non (.tup xs) = false := (rfl)
@[simp] theorem eqd_tn : eqd (.tup xs) .non = false := (rfl)
@[simp] theorem eqd_ns {s : Str} : eqd .non (.str s) = false := (rfl)
@[simp] theorem eqd_ts {s : Str} : eqd (.tup xs) (.str s) = false := (rfl)
@[simp] theorem eqd_st {s : Str} : eqd (.str s) (.tup xs) = false := (rfl)
@[simp] theorem eqd_sn {s : Str} : eqd (.str s) .non = false := (rfl)
@[simp] theorem eqd_tl : eqd (.tup xs) (.lst f ys) = false := (rfl)
@[simp] theorem eqd_ii {i j : Int} : eqd (.int i) (.int j) = decide (i = j) := by simp only [eqd]; rfl
@[simp] theorem eqd_bb {i j : Bool} : eqd (.bl i) (.bl j) = (i == j) := (rfl)
@[simp] theorem eqd_ss {i j : Str} : eqd (.str i) (.str j) = (i == j) := (rfl)
@[simp] theorem eqds_nil : eqds [] [] = true := (rfl)
@[simp] theorem eqds_cons : eqds (d :: ds) (e :: es) = (eqd d e && eqds ds es) := (rfl)
@[simp] theorem eqds_cn : eqds (d :: ds) [] = false := (rfl)
@[simp] theorem eqds_nc : eqds [] (d :: ds) = false := (rfl)
theorem okEs_map {h : α → D} (H : ∀ x, okE (h x) = true) : ∀ l : List α, okEs (l.map h) = true
  | [] => rfl
  | x :: l => by simp [H x, okEs_map H l]
theorem deps_map {h : α → D} {k : Nat} (H : ∀ x, dep (h x) ≤ k) : ∀ l : List α, deps (l.map h) ≤ k
  | [] => Nat.zero_le _
  | x :: l => by
    have := deps_map H l
    have := H x
    simp; omega
theorem eqds_map [DecidableEq α] {h : α → D} (H : ∀ x y, eqd (h x) (h y) = decide (x = y)) : ∀ l m : List α, eqds (l.map h) (m.map h) = decide (l = m)
  | [], [] => rfl
  | [], y :: m => by simp
  | x :: l, [] => by simp
  | x :: l, y :: m => by
    simp only [List.map_cons, eqds_cons, H x y, eqds_map H l m, List.cons.injEq, Bool.decide_and]
@[simp] theorem okEs_ints (ns : List Int) : okEs (ns.map D.int) = true := okEs_map (fun _ => rfl) ns
@[simp] theorem deps_ints (ns : List Int) : deps (ns.map D.int) = 0 := Nat.le_zero.mp (deps_map (h := D.int) (k := 0) (fun _ => Nat.le_refl 0) ns)
@[simp] theorem eqds_ints (l m : List Int) : eqds (l.map D.int) (m.map D.int) = decide (l = m) := eqds_map (fun x y => by simp) l m
@[simp] theorem okEs_pairs (ns : List (Int × Int)) : okEs (ns.map pairD) = true := okEs_map (fun _ => rfl) ns
theorem deps_pairs (ns : List (Int × Int)) : deps (ns.map pairD) ≤ 1 := deps_map (fun _ => by simp [pairD]) ns
@[simp] theorem eqds_pairs (l m : List (Int × Int)) : eqds (l.map pairD) (m.map pairD) = decide (l = m) := eqds_map (fun x y => by
  obtain ⟨a, b⟩ := x
  obtain ⟨c, d⟩ := y
  simp only [pairD, eqd_tt, eqds_cons, eqd_ii, eqds_nil, Bool.and_true, Prod.mk.injEq, Bool.decide_and]) l m
@[simp] theorem sub_pair {h : Bool → Option Bool} {k : Nat → Option D} (t : Int × Int) : sub h k (pairD t) = some (pairD t) := by simp [pairD]
@[simp] theorem subs_pairs (h : Bool → Option Bool) (k : Nat → Option D) (l : List (Int × Int)) : subs h k (l.map pairD) = some (l.map pairD) := subs_map h k pairD l fun _ _ => sub_pair _
@[simp] theorem imms_pairs (l : List (Int × Int)) : imms (l.map pairD) = true := by
  induction l with
  | nil => rfl
  | cons t l ih => simp [pairD, ih]
@[simp] theorem allTs_pairs (l : List (Int × Int)) : allTs (l.map pairD) = true := allTs_imms _ (imms_pairs l)
@[simp] theorem objLts_pairs (l : List (Int × Int)) : objLts n (l.map pairD) = true := objLts_imms n _ (imms_pairs l)
@[simp] theorem oLt_pairs (l : List (Int × Int)) : oLt n (.lst (l.map pairD)) = true := objLts_pairs l
def natD (l : List Nat) : List D := l.map fun n : Nat => D.int (n : Int)
theorem rgD_nat (n : Nat) : rgD 0 n = natD (List.range n) := by simp [rgD, natD]
@[simp] theorem natD_len (l : List Nat) : (natD l).length = l.length := by simp [natD]
theorem natD_int (l : List Nat) : natD l = (l.map fun n : Nat => (n : Int)).map D.int := by simp [natD]
theorem natD_get {l : List Nat} {i : Nat} {v : Nat} (h : l[i]? = some v) : (natD l)[i]? = some (.int v) := by simp [natD, h]
theorem atI_natD {l : List Nat} {i : Int} {k v : Nat} (hi : i = k) (h : l[k]? = some v) : L2.atI (natD l) i = some (.int v) := by
  subst hi; exact atI_nat (natD_get h)
@[simp] theorem subs_natD (h : Bool → Option Bool) (k : Nat → Option D) (l : List Nat) : subs h k (natD l) = some (natD l) := by rw [natD_int]; exact subs_ints _ _ _
@[simp] theorem imms_natD (l : List Nat) : imms (natD l) = true := by rw [natD_int]; exact imms_ints _
@[simp] theorem allTs_natD (l : List Nat) : allTs (natD l) = true := allTs_imms _ (imms_natD l)
@[simp] theorem objLts_natD (l : List Nat) : objLts n (natD l) = true := objLts_imms n _ (imms_natD l)
@[simp] theorem oLt_natD (l : List Nat) : oLt n (.lst (natD l)) = true := objLts_natD l
@[simp] theorem okEs_natD (l : List Nat) : okEs (natD l) = true := okEs_map (fun _ => rfl) l
@[simp] theorem deps_natD (l : List Nat) : deps (natD l) = 0 := Nat.le_zero.mp (deps_map (h := fun n : Nat => D.int (n : Int)) (k := 0) (fun _ => Nat.le_refl 0) l)
@[simp] theorem eqds_natD (l m : List Nat) : eqds (natD l) (natD m) = decide (l = m) := eqds_map (fun x y => by simp only [eqd_ii, decide_eq_decide]; omega) l m
theorem intsD_natD (l : List Nat) : intsD (natD l) = some (l.map fun n : Nat => (n : Int)) := by rw [natD_int]; exact intsD_map _
theorem while_step {c : EM} {q : SM} {G' : Gam} (hc : c G S = .ok (.bl true) S) (hb : q G S = .nx G' S' ∨ q G S = .ct G' S') : mWhile c q (n + 1) G S = mWhile c q n G' S' := by
  simp only [mWhile, hc, ev_bindTS_ok, if_true]
  rcases hb with hb | hb <;> simp only [hb]
theorem while_rt {c : EM} {q : SM} (hc : c G S = .ok (.bl true) S) (hb : q G S = .rt d S') : mWhile c q (n + 1) G S = .rt d S' := by
  simp only [mWhile, hc, ev_bindTS_ok, if_true, hb]
theorem while_bk {c : EM} {q : SM} {G' : Gam} (hc : c G S = .ok (.bl true) S) (hb : q G S = .bk G' S') : mWhile c q (n + 1) G S = .nx G' S' := by
  simp only [mWhile, hc, ev_bindTS_ok, if_true, hb]
theorem while_end {c : EM} {q : SM} (hc : c G S = .ok (.bl false) S) : mWhile c q (n + 1) G S = .nx G S := by
  simp only [mWhile, hc, ev_bindTS_ok]
  rfl
end
end Ab

end
section
set_option Elab.async false
set_option linter.all false
set_option maxRecDepth 100000
namespace Ab
open PySem PySem.Spec PyProof.Rows L2

/-- an error's class c stands under the class C -/
def subE (c C : Str) : Bool := decide (c = C) || decide (C = "TurnError") || decide (C = "ValueError")
def clsV (K : PySem.W.Frag) (C : Str) : Value := if C = "ValueError" then .type "ValueError" else .ref (He.ga K C)
def clsW (K : PySem.W.Frag) (C : Str) : V := if C = "ValueError" then .ty "ValueError" else .ref (He.ga K C)
theorem clsW_rel (K : PySem.W.Frag) (C : Str) : RelV (clsW K C) (clsV K C) := by
  unfold clsW clsV
  split <;> rfl
theorem clsW_only {K : PySem.W.Frag} {C : Str} {u : Value} (h : RelV (clsW K C) u) : u = clsV K C := by
  unfold clsW at h
  unfold clsV
  split at h
  · rename_i e; rw [if_pos e]; exact h
  · rename_i e; rw [if_neg e]; exact h
theorem clsW_V (K : PySem.W.Frag) (C : Str) : ClsV (clsW K C) (clsV K C) := by
  unfold clsW clsV
  split
  · exact .ty "ValueError"
  · exact .own _
def excCb (K : PySem.W.Frag) (D : Addr) : Bool := decide (PySem.W.findIn K (.ref D) "__getattribute__" = some (some (.builtin "BaseException.__getattribute__"))) && (decide (PySem.W.findIn K (.ref D) "__getattr__" = some none) && (decide (PySem.W.subIn K (.ref D) (.type "BaseException") = some true) &&
  (PySem.W.hasDictIn K D && (decide (PySem.W.findIn K (.ref D) "__class__" = some (some (.builtin "object.__class__"))) && (decide (PySem.W.specialIn K (.builtin "object.__class__") "__get__" = some (some (.builtin "getset_descriptor.__get__"))) &&
  (decide (PySem.W.takesIn K (.builtin "object.__class__") = some true) && decide (PySem.W.mroIn K D (.type "object") = some true)))))))
theorem excCb_ok {K : PySem.W.Frag} {D : Addr} (h : excCb K D = true) : ExcC K D := by
  unfold excCb at h
  obtain ⟨h1, h⟩ := He.ba h
  obtain ⟨h2, h⟩ := He.ba h
  obtain ⟨h3, h⟩ := He.ba h
  obtain ⟨h4, h⟩ := He.ba h
  obtain ⟨h5, h⟩ := He.ba h
  obtain ⟨h6, h⟩ := He.ba h
  obtain ⟨h7, h8⟩ := He.ba h
  exact ⟨of_decide_eq_true h1, of_decide_eq_true h2, of_decide_eq_true h3, h4, of_decide_eq_true h5, of_decide_eq_true h6, of_decide_eq_true h7, of_decide_eq_true h8⟩
/-- what the text's classes tell of errors of these, asked for those -/
structure ExK (K : PySem.W.Frag) (cs Cs : List Str) : Prop where
  c : ∀ x ∈ cs, ExcC K (He.ga K x)
  k : ∀ x ∈ cs, ∀ C ∈ Cs, PySem.W.kitOne K (.ref (He.ga K x)) (clsV K C) = some (subE x C)
  m : ∀ x ∈ cs, ∀ C ∈ Cs, C ≠ "ValueError" → PySem.W.exmOne K (.ref (He.ga K x)) (.ref (He.ga K C)) = some (subE x C)
def exB (cs Cs : List Str) (K : PySem.W.Frag) : Bool := cs.all fun x => excCb K (He.ga K x) && Cs.all fun C => decide (PySem.W.kitOne K (.ref (He.ga K x)) (clsV K C) = some (subE x C)) && (decide (C = "ValueError") || decide (PySem.W.exmOne K (.ref (He.ga K x)) (.ref (He.ga K C)) = some (subE x C)))
theorem exB_ok {cs Cs : List Str} {K : PySem.W.Frag} (h : exB cs Cs K = true) : ExK K cs Cs := by
  have h1 := List.all_eq_true.mp h
  refine ⟨fun x hx => excCb_ok (He.ba (h1 x hx)).1, fun x hx C hC => ?_, fun x hx C hC hn => ?_⟩
  · have h2 := List.all_eq_true.mp (He.ba (h1 x hx)).2 C hC
    exact of_decide_eq_true (He.ba h2).1
  · have h2 := List.all_eq_true.mp (He.ba (h1 x hx)).2 C hC
    rcases Bool.or_eq_true_iff.mp (He.ba h2).2 with h3 | h3
    · exact absurd (of_decide_eq_true h3) hn
    · exact of_decide_eq_true h3

abbrev Wn : WX := fun _ _ _ _ => False
def SimEe (K : PySem.W.Frag) (i : Nat) (a : Addr) (te : TE) (m : EM) : Prop := ∀ H0 G S sg H rho, Sat K H0 G S sg H rho → sg[i]? = some (some (.ref a)) → ∀ Q : VK, EPost K H0 H rho (fun _ _ _ => False) (m G S) Q → te sg H Q
def JEe (X : Cx) (i : Nat) (a : Addr) (e : Expr) (m : EM) : Prop := ∃ te, PE X e te ∧ SimEe X.K i a te m
def SimAe (K : PySem.W.Frag) (i : Nat) (a : Addr) (te : TA) (m : AM) : Prop := ∀ H0 G S sg H rho, Sat K H0 G S sg H rho → sg[i]? = some (some (.ref a)) → ∀ Q : List V → Hp → Prop, APost K H0 H rho (fun _ _ _ => False) (m G S) Q → te sg H Q
def JAe (X : Cx) (i : Nat) (a : Addr) (es : List Expr) (m : AM) : Prop := ∃ te, PA X es te ∧ SimAe X.K i a te m
def NPost (K : PySem.W.Frag) (H0 H : Hp) (rho : List Addr) (i : Nat) (a : Addr) (r : SR) (E : Ends) : Prop := match r with
  | .nx G' S' => ∀ sg' H' rho', Sat K H0 G' S' sg' H' rho' → sg'[i]? = some (some (.ref a)) → Stp H rho H' rho' → E.nx sg' H'
  | _ => False
def SimSe (K : PySem.W.Frag) (i : Nat) (a : Addr) (ts : TS) (m : SM) : Prop := ∀ H0 G S sg H rho, Sat K H0 G S sg H rho → sg[i]? = some (some (.ref a)) → ∀ E : Ends, NPost K H0 H rho i a (m G S) E → ts E sg H
def JSe (X : Cx) (i : Nat) (a : Addr) (st : Stmt) (m : SM) : Prop := ∃ ts, PS X st ts ∧ SimSe X.K i a ts m
def JSse (X : Cx) (i : Nat) (a : Addr) (sts : List Stmt) (m : SM) : Prop := ∃ ts, PSs X sts ts ∧ SimSe X.K i a ts m
section
variable {X : Cx} {i : Nat} {a : Addr} {e : Expr} {es : List Expr} {m : EM} {am : AM} {p pos : Pos}
theorem jee_of (h : JE X Wn e m) : JEe X i a e m := by
  obtain ⟨te, pe, se⟩ := h
  exact ⟨te, pe, fun H0 G S sg H rho st _ Q q => se H0 G S sg H rho st Q q⟩
theorem jae_nil : JAe X i a [] aNil := ⟨_, pa_nil, fun H0 G S sg H rho st _ Q h => h [] H rho st.s (Stp.refl st.s) .nil⟩
theorem jae_cons (he : JEe X i a e m) (ha : JAe X i a es am) (hs : starEach (e :: es) X.env = (false, eval e X.env) :: starEach es X.env := by rfl) : JAe X i a (e :: es) (aCons m am) := by
  obtain ⟨te, pe, se⟩ := he
  obtain ⟨ta, pa, sa⟩ := ha
  refine ⟨_, pa_cons pe pa hs, fun H0 G S sg H rho st hi Q h => se H0 G S sg H rho st hi _ ?_⟩
  unfold aCons at h
  cases e1 : m G S with
  | ok d S1 =>
    rw [e1] at h
    intro v H1 rho1 s1 t1 r1
    refine sa H0 G S1 sg H1 rho1 (st.step s1 t1) hi _ ?_
    dsimp only at h
    cases e2 : am G S1 with
    | ok ds S2 =>
      rw [e2] at h
      intro vs H2 rho2 s2 t2 r2
      exact h (v :: vs) H2 rho2 s2 (t1.trans t2) (.cons (Rep.keep s1 t2 d v r1) r2)
    | ex c S2 =>
      rw [e2] at h
      exact fun H2 rho2 s2 t2 => h H2 rho2 s2 (t1.trans t2)
    | err => rw [e2] at h; exact h.elim
  | ex c S1 => rw [e1] at h; exact h
  | err => rw [e1] at h; exact h.elim
theorem jee_lst (o : Bool) (h : JAe X i a es am) : JEe X i a (.List es pos) (mLst o am) := by
  obtain ⟨ta, pa, sa⟩ := h
  refine ⟨_, pe_lst pa, fun H0 G S sg H rho st hi Q h => sa H0 G S sg H rho st hi _ (bindA h fun ds S1 vs H1 rho1 s1 t1 r1 h1 => ?_)⟩
  split at h1
  · rename_i hl
    exact ⟨by rw [← r1.length]; exact big_le hl, fun p hp => new_lst s1 hp r1 h1⟩
  · exact h1.elim
theorem jee_append {ma : EM} {a1 : Expr} {apos : Pos} (ho : JE X Wn a1 ma) (ha : JAe X i a (e :: es) am) (hb : attributeBase a1 "append" X.env (eval a1 X.env) = eval a1 X.env := by rfl)
    (hf : ((backTo pos (starEach (e :: es) X.env)).all (fun x => !x.1) && (backToKw pos (keywordEach [] X.env)).all (fun x => x.1.isSome) && decide ((e :: es).length + ([] : List Keyword).length + (if ([] : List Keyword).isEmpty then 0 else 1) < 30)) = true := by rfl)
    (hl : (apos.endLine == pos.line) = true := by rfl) (h1 : starEach (e :: es) X.env = (false, eval e X.env) :: starEach es X.env := by rfl) (h2 : (backTo pos (starEach es X.env)).any (·.1) = false := by rfl) :
    JEe X i a (.Call (.Attribute a1 "append" apos) (e :: es) [] pos) (mMeth fAppend ma am) := by
  obtain ⟨ta, pa, sa⟩ := ho
  obtain ⟨tl, pl, sl⟩ := ha
  refine ⟨_, pe_bm PySem.F.plainAttrs_list PySem.F.slot_list_append PySem.F.type_list_append mt_append pa pl hb hf hl h1 h2, fun H0 G S sg H rho st hi Q h => sa H0 G S sg H rho st _ (bindE h fun d S1 v H1 rho1 s1 t1 r1 h1 => ?_)⟩
  split at h1
  · rename_i hl
    refine ⟨isLst_ty s1 hl r1, sl H0 G S1 sg H1 rho1 (st.step s1 t1) hi _ (bindA h1 fun ds S2 vs H2 rho2 s2 t2 r2 h2 => ?_)⟩
    exact sim_append H0 H2 rho2 S2 _ d ds v vs s2 (Rep.keep s1 t2 _ _ r1) r2 Q h2
  · exact h1.elim
/-- l + e, lists -/
theorem jee_add (o : Bool) {ma : EM} {a1 : Expr} (ho : JE X Wn a1 ma) (ha : JEe X i a e m) : JEe X i a (.BinOp a1 .Add e pos) (mBin (fCat o) ma m) := by
  obtain ⟨ta, pa, sa⟩ := ho
  obtain ⟨tl, pl, sl⟩ := ha
  refine ⟨_, pe_op op_cat pa pl, fun H0 G S sg H rho st hi Q h => sa H0 G S sg H rho st _ (bindE h fun d S1 v H1 rho1 s1 t1 r1 h1 => ?_)⟩
  refine sl H0 G S1 sg H1 rho1 (st.step s1 t1) hi _ (bindE h1 fun d2 S2 v2 H2 rho2 s2 t2 r2 h2 => ?_)
  exact sim_cat o H0 H2 rho2 S2 _ d d2 v v2 s2 (Rep.keep s1 t2 _ _ r1) r2 Q h2
end
/-- a class's name in an except suite's tests -/
def NamesC (X : Cx) (C : Str) : Prop := Gl X C ∧ (C == ("__debug__" : Str)) = false ∧ ((C ≠ "ValueError" ∧ X.mg C = some (.ref (He.ga X.K C))) ∨ (C = "ValueError" ∧ X.mg C = none))
section
variable {X : Cx} {C : Str} {p pos : Pos}
theorem pe_cls (h : NamesC X C) : PE X (.Name C p) (tC (clsW X.K C)) := by
  obtain ⟨hg, hd, ⟨hn, hm⟩ | ⟨rfl, hm⟩⟩ := h
  · have e : clsW X.K C = .ref (He.ga X.K C) := if_neg hn
    rw [e]
    exact pe_glob (v := .ref (He.ga X.K C)) hg hm rfl hd
  · have e : clsW X.K "ValueError" = .ty "ValueError" := if_pos rfl
    rw [e]
    exact pe_bltn (v := .ty "ValueError") hg hm (by decide +kernel) rfl (by decide) hd
end
section
variable {X : Cx} {i : Nat} {a : Addr} {oe : Obj} {pn : List (Addr × Obj)} {c n C : Str} {cs Cs : List Str} {p p2 p3 pos : Pos}
/-- isinstance(e, C) -/
theorem jee_is (hK : ExK X.K cs Cs) (hc : c ∈ cs) (hC : C ∈ Cs) (hz : Zc (.ref (He.ga X.K c)) none oe) (hf : ∃ vs, oe.data = .fields vs) (hg : Gl X "isinstance") (hm : X.mg "isinstance" = none) (hN : X.N[i]? = some n) (hv : Vis X.env.scope n) (nC : NamesC X C)
    (hd : (n == ("__debug__" : Str)) = false := by decide) (hcd : (n == ("__classdict__" : Str)) = false := by decide)
    (h1 : starEach [.Name n p2, .Name C p3] X.env = (false, eval (.Name n p2) X.env) :: starEach [.Name C p3] X.env := by rfl) (h2 : (backTo pos (starEach [.Name C p3] X.env)).any (·.1) = false := by rfl) (h3 : starEach [.Name C p3] X.env = (false, eval (.Name C p3) X.env) :: starEach [] X.env := by rfl) :
    JEe (X.suite a ((a, oe) :: pn)) i a (.Call (.Name "isinstance" p) [.Name n p2, .Name C p3] [] pos) (mC (.bl (subE c C))) := by
  refine ⟨_, pe_callB (X := X.suite a ((a, oe) :: pn)) (call_isE (hK.c c hc) hz hf) hg hm (by decide +kernel) (pa_cons (pe_var (X := X.suite a ((a, oe) :: pn)) hN hv hd hcd) (pa_cons (pe_cls (X := X.suite a ((a, oe) :: pn)) nC) pa_nil h3) h1) (by decide) (by decide) h1 h2, fun H0 G S sg H rho st hi Q h => ?_⟩
  refine ⟨.ref a, hi, ?_⟩
  exact ⟨clsW X.K C, clsV X.K C, subE c C, rfl, fun u hu => clsW_only hu, hK.k c hc C hC, EPost.done st.s (rep_scal (d := .bl _) rfl) h⟩
/-- isinstance(e, (C, ..)) of the error that the suite holds -/
def rIsET (K : PySem.W.Frag) (D a : Addr) : List V → Hp → VK → Prop := fun xs H Q => ∃ (tp : Addr) (cs : List V) (us : List Value) (b : Bool), xs = [.ref a, .ref tp] ∧ H tp = some (.tup cs) ∧ Paired ClsV cs us ∧ PySem.W.kitAny K (.ref D) us = some b ∧ Q (.bl b) H
theorem call_isET {D : Addr} (C : ExcC X.K D) (hz : Zc (.ref D) none oe) (hf : ∃ vs, oe.data = .fields vs) : CallR (X.suite a ((a, oe) :: pn)) (.builtin "isinstance") (rIsET X.K D a) := by
  intro pins s σ H xs us Q I r h
  obtain ⟨tp, ds, ws, b, rfl, hT, k, e, q⟩ := h
  obtain ⟨u1, u2, rfl, r1, r2⟩ := vals2 r
  cases (show u2 = Value.ref tp from r2)
  cases (show u1 = Value.ref a from r1)
  obtain ⟨_, its, rv, o, h1, h2, n, h3⟩ := (show ObjOk X.prog X.w H s.heap tp (.tup ds) from I.hok tp _ hT)
  have e3 := ClsV.all k rv
  subst e3
  obtain ⟨oc, od, dt, sl⟩ := o
  simp only at h2 h3
  subst h2 h3
  obtain ⟨hget, _⟩ := I.pin (a, oe) (List.mem_append.mpr (.inl List.mem_cons_self))
  obtain ⟨vs, hv⟩ := hf
  have J : PySem.W.InstAt s.heap a oe D none := by
    obtain ⟨oc, od, oda, osl⟩ := oe
    obtain ⟨h1, h2⟩ := hz
    dsimp only at h1 h2 hv
    subst h1 h2 hv
    exact ⟨hget, rfl, rfl, trivial⟩
  exact PySem.W.kia_tup (PySem.W.handS_kitx_exc C.hg C.hk C.hs C.hd C.ha C.hn C.ht C.hm) I.kIn J h1 e (fun z => nomatch z) fun tk => ⟨.bl b, H, I.tok tk, rfl, q⟩
inductive NamesCs (X : Cx) : List Expr → List Str → Prop
  | nil : NamesCs X [] []
  | cons {C : Str} {p : Pos} {es : List Expr} {Cs : List Str} (h : NamesC X C) (hs : starEach (.Name C p :: es) X.env = (false, eval (.Name C p) X.env) :: starEach es X.env) (r : NamesCs X es Cs) : NamesCs X (.Name C p :: es) (C :: Cs)
theorem NamesCs.pa {es : List Expr} {Ds : List Str} (h : NamesCs X es Ds) : ∃ ta, PA X es ta ∧ ∀ sg H (Q : List V → Hp → Prop), Q (Ds.map (clsW X.K)) H → ta sg H Q := by
  induction h with
  | nil => exact ⟨_, pa_nil, fun sg H Q h => h⟩
  | cons h hs r ih =>
    obtain ⟨ta, p, q⟩ := ih
    exact ⟨_, pa_cons (pe_cls h) p hs, fun sg H Q h => q sg H _ h⟩
theorem NamesCs.len {es : List Expr} {Ds : List Str} (h : NamesCs X es Ds) : es.length = Ds.length := by
  induction h with
  | nil => rfl
  | cons h hs r ih => simp [ih]
theorem cls_all (K : PySem.W.Frag) : ∀ Ds : List Str, Paired ClsV (Ds.map (clsW K)) (Ds.map (clsV K))
  | [] => .nil
  | D :: Ds => .cons (clsW_V K D) (cls_all K Ds)
theorem kit_any {K : PySem.W.Frag} {c : Str} : ∀ {Ds : List Str}, (∀ C ∈ Ds, PySem.W.kitOne K (.ref (He.ga K c)) (clsV K C) = some (subE c C)) → PySem.W.kitAny K (.ref (He.ga K c)) (Ds.map (clsV K)) = some (Ds.any (subE c))
  | [], _ => rfl
  | D :: Ds, h => by
    have h1 := h D List.mem_cons_self
    have h2 := kit_any (K := K) (c := c) (Ds := Ds) fun C hC => h C (List.mem_cons_of_mem _ hC)
    simp only [List.map_cons, PySem.W.kitAny, h1, List.any_cons]
    cases subE c D with
    | true => rfl
    | false => simpa using h2
theorem jee_isT {es : List Expr} {Ds : List Str} {k : Nat} (hK : ExK X.K cs Cs) (hc : c ∈ cs) (hC : ∀ C ∈ Ds, C ∈ Cs) (hl : Ds.length ≤ big) (hz : Zc (.ref (He.ga X.K c)) none oe) (hf : ∃ vs, oe.data = .fields vs) (hg : Gl X "isinstance") (hm : X.mg "isinstance" = none) (hN : X.N[i]? = some n) (hv : Vis X.env.scope n) (nC : NamesCs X es Ds)
    (hd : (n == ("__debug__" : Str)) = false := by decide) (hcd : (n == ("__classdict__" : Str)) = false := by decide)
    (h1 : starEach [.Name n p2, .Tuple es k p3] X.env = (false, eval (.Name n p2) X.env) :: starEach [.Tuple es k p3] X.env := by rfl) (h2 : (backTo pos (starEach [.Tuple es k p3] X.env)).any (·.1) = false := by rfl) (h3 : starEach [.Tuple es k p3] X.env = (false, eval (.Tuple es k p3) X.env) :: starEach [] X.env := by rfl) :
    JEe (X.suite a ((a, oe) :: pn)) i a (.Call (.Name "isinstance" p) [.Name n p2, .Tuple es k p3] [] pos) (mC (.bl (Ds.any (subE c)))) := by
  have nC' : NamesCs (X.suite a ((a, oe) :: pn)) es Ds := by
    clear hC hl h1 h2 h3
    induction nC with
    | nil => exact .nil
    | cons h hs r ih => exact .cons h hs ih
  obtain ⟨ta, pa, qa⟩ := nC'.pa
  refine ⟨_, pe_callB (X := X.suite a ((a, oe) :: pn)) (call_isET (hK.c c hc) hz hf) hg hm (by decide +kernel) (pa_cons (pe_var (X := X.suite a ((a, oe) :: pn)) hN hv hd hcd) (pa_cons (pe_tup pa) pa_nil h3) h1) (by decide) (by decide) h1 h2, fun H0 G S sg H rho st hi Q h => ?_⟩
  refine ⟨.ref a, hi, ?_⟩
  refine qa sg H _ ⟨by simpa using big_le hl, fun q hq => ?_⟩
  refine ⟨q, Ds.map (clsW X.K), Ds.map (clsV X.K), Ds.any (subE c), rfl, upd_same, cls_all X.K Ds, kit_any fun C h => hK.k c hc C (hC C h), ?_⟩
  exact h _ _ rho (st.s.laid hq _) (Stp.new st.s hq _) (rep_scal (d := .bl _) rfl)
end
section
variable {X : Cx} {i j : Nat} {a : Addr} {e : Expr} {es : List Expr} {m : EM} {q r : SM} {p pos : Pos} {st : Stmt} {rest : List Stmt}
theorem jse_cons (h1 : JSe X i a st q) (h2 : JSse X i a rest r) : JSse X i a (st :: rest) (mSeq q r) := by
  obtain ⟨t, p, s⟩ := h1
  obtain ⟨u, w, z⟩ := h2
  refine ⟨_, pss_cons p w, fun H0 G S sg H rho st hi E h => s H0 G S sg H rho st hi _ ?_⟩
  unfold mSeq at h
  cases e : q G S with
  | nx G' S' =>
    rw [e] at h
    intro sg' H' rho' s' hi' t'
    refine z H0 G' S' sg' H' rho' s' hi' E ?_
    cases e2 : r G' S' with
    | nx G2 S2 =>
      dsimp only at h
      rw [e2] at h
      exact fun sg2 H2 rho2 s2 hi2 t2 => h sg2 H2 rho2 s2 hi2 (t'.trans t2)
    | _ => dsimp only at h; rw [e2] at h; exact h.elim
  | _ => rw [e] at h; exact h.elim
theorem jse_one (h1 : JSe X i a st q) : JSse X i a [st] q := let ⟨t, p, s⟩ := h1; ⟨t, pss_one p, s⟩
theorem nset {sg : L2.St} {o : Option V} (h : sg[i]? = some (some (.ref a))) (hj : (j == i) = false) : (sg.set j o)[i]? = some (some (.ref a)) := by
  have hj' : j ≠ i := by simpa using hj
  rw [List.getElem?_set_ne hj']; exact h
theorem jse_set (j : Nat) {x : Str} {pos' : Pos} (hj : (j == i) = false) (hN : X.N.Nodup) (hx0 : X.N[j]? = some x) (hx : Loc X.env.scope x) (ha : JEe X i a e m) (hs : swapsWith e (some (.Name x pos')) pos.line X.env = pure false := by rfl) (hf : X.fn x = true ∨ X.env.scope.names.lookup x = some .local := by first | exact .inl rfl | exact .inr rfl | assumption) :
    JSe X i a (.Assign [.Name x pos'] e pos) (mSet j m) := by
  obtain ⟨ta, pa, sa⟩ := ha
  refine ⟨_, ps_set hN hx0 hx pa hs hf, fun H0 G S sg H rho st hi E h => sa H0 G S sg H rho st hi _ ?_⟩
  unfold mSet at h
  cases e : m G S with
  | ok d S1 =>
    rw [e] at h
    exact fun v H1 rho1 s1 t1 r1 => h _ H1 rho1 ((st.step s1 t1).set j r1) (nset hi hj) t1
  | ex c S1 => rw [e] at h; exact h.elim
  | err => rw [e] at h; exact h.elim
theorem jse_expr (ha : JEe X i a e m) (hs : swapsWith e none pos.line X.env = pure false := by rfl) : JSe X i a (.Expr e pos) (mExpr m) := by
  obtain ⟨ta, pa, sa⟩ := ha
  refine ⟨_, ps_expr pa hs, fun H0 G S sg H rho st hi E h => sa H0 G S sg H rho st hi _ ?_⟩
  unfold mExpr at h
  cases e : m G S with
  | ok d S1 =>
    rw [e] at h
    exact fun v H1 rho1 s1 t1 r1 => h _ H1 rho1 (st.step s1 t1) hi t1
  | ex c S1 => rw [e] at h; exact h.elim
  | err => rw [e] at h; exact h.elim
end
def cS (K : PySem.W.Frag) (W : WX) (m : SM) : TS := fun D sg H => ∃ H0 G S rho, Sat K H0 G S sg H rho ∧ SPost K H0 H rho W (m G S) D
theorem JSs.can {X : Cx} {W : WX} {sts : List Stmt} {m : SM} (h : JSs X W sts m) : PSs X sts (cS X.K W m) := by
  obtain ⟨ts, p, s⟩ := h
  exact ⟨fun pins sh sg H D I ⟨H0, G, S, rho, st, q⟩ => p.run pins sh sg H D I (s H0 G S sg H rho st D q)⟩
def cSe (K : PySem.W.Frag) (i : Nat) (cs : List Str) (m : Str → SM) : Addr → Value → Option Addr → TS := fun a cls d D sg H => ∃ c, c ∈ cs ∧ cls = .ref (He.ga K c) ∧ d = none ∧ ∃ H0 G S rho, Sat K H0 G S sg H rho ∧ sg[i]? = some (some (.ref a)) ∧ NPost K H0 H rho i a (m c G S) D
/-- try: q / except C as (slot i): su -/
def mTryAs (q : SM) (i : Nat) (cs : List Str) (C : Str) (su : Str → SM) : SM := fun G S => match q G S with
  | .ex c G' S' => if cs.contains c && decide (i < G'.length) then (if subE c C then (match su c (G'.set i none) S' with
    | .nx G2 S2 => .nx (G2.set i none) S2
    | _ => .err) else .ex c G' S') else .err
  | r => r
theorem Sat.hide {K : PySem.W.Frag} {H0 H : Hp} {rho : List Addr} {G : Gam} {S : Sto} {sg : L2.St} (a : Sat K H0 G S sg H rho) (i : Nat) (v : Option V) : Sat K H0 (G.set i Option.none) S (sg.set i v) H rho := by
  refine ⟨a.s, by simp [a.len], fun j e h => ?_⟩
  by_cases q : i = j
  · subst q
    by_cases hl : i < G.length
    · rw [List.getElem?_set_self hl] at h; cases h
    · rw [List.getElem?_eq_none (by simpa using hl)] at h; cases h
  · rw [List.getElem?_set_ne q] at h
    obtain ⟨w, e1, e2⟩ := a.sl j e h
    exact ⟨w, by rw [List.getElem?_set_ne q]; exact e1, e2⟩
section
variable {X : Cx} {W : WX} {x n : Str} {i : Nat} {cs Cs : List Str} {body suite : List Stmt} {b₀ : Stmt} {np pos pos' : Pos} {q : SM} {su : Str → SM}
theorem js_tryAs (hs : X.stack = X.env :: X.outer) (hf : X.env.frame = some X.env.locals) (hN : X.N.Nodup) (hi : X.N[i]? = some n) (hln : X.env.kindOf n = some .local) (gx : Gl X x) (mx : X.mg x = some (.ref (He.ga X.K x))) (hK : ExK X.K cs Cs) (hx : x ∈ Cs) (tk : Takes X W)
    (hb : ∀ (W : WX) (pn : List (Addr × Obj)) (xe : Value → Shared → Prop), Takes (X.tr pn xe) W → PassesOwn (model X.prog X.w) X.A X.env xe → JSs (X.tr pn xe) W body q)
    (hsu : ∀ (a : Addr) (oe : Obj) (pn : List (Addr × Obj)) (c : Str), c ∈ cs → Zc (.ref (He.ga X.K c)) none oe → (∃ vs, oe.data = .fields vs) → JSse (X.suite a ((a, oe) :: pn)) i a (b₀ :: suite) (su c))
    (hnv : x ≠ "ValueError" := by decide) (hdb : (x == ("__debug__" : Str)) = false := by decide) :
    JS X W (.Try body [.ExceptHandler (some (.Name x np)) (some n) (b₀ :: suite) pos'] [] [] pos) (mTryAs q i cs x su) := by
  refine ⟨_, ps_try_as (tb := fun W' => cS X.K W' q) (ts := cSe X.K i cs su) (Wout := W) hs hf hN hi hln ⟨gx, hdb, .inl mx⟩ tk (fun W' pn xe tk' po => (hb W' pn xe tk' po).can) (fun a oe cls d pn hz hff => ?_), fun H0 G S sg H rho st E h => ?_⟩
  · refine ⟨fun pins sh sg H D I ⟨c, hc, e1, e2, H0, G, S, rho, st, hi', np⟩ => ?_⟩
    subst e1 e2
    obtain ⟨ts, p, s⟩ := hsu a oe pn c hc hz hff
    exact p.run pins sh sg H D I (s H0 G S sg H rho st hi' D np)
  · refine ⟨H0, G, S, rho, st, ?_⟩
    unfold mTryAs at h
    cases e : q G S with
    | ex c G' S' =>
      rw [e] at h
      dsimp only at h
      split at h
      · rename_i hcl
        obtain ⟨hc0, hlen⟩ := He.ba hcl
        have hlen2 : i < G'.length := of_decide_eq_true hlen
        have hc : c ∈ cs := by simpa using hc0
        intro sg' H' rho' s' t'
        refine ⟨subE c x, hK.m c hc x hx hnv, fun hy a ha => ?_, fun hno => ?_⟩
        · rw [if_pos hy] at h
          refine ⟨c, hc, rfl, rfl, H0, G'.set i none, S', rho', s'.hide i _, ?_, ?_⟩
          · rw [List.getElem?_set_self (by rw [← s'.len]; exact hlen2)]
          · cases e2 : su c (G'.set i none) S' with
            | nx G2 S2 =>
              rw [e2] at h
              exact fun sg2 H2 rho2 s2 _ t2 => h _ H2 rho2 (s2.hide i none) (t'.trans t2)
            | _ => rw [e2] at h; exact h.elim
        · rw [if_neg (by rw [hno]; decide)] at h
          exact h sg' H' rho' s' t'
      · exact h.elim
    | nx G' S' => rw [e] at h; exact h
    | rt d S' => rw [e] at h; exact h
    | bk G' S' => rw [e] at h; exact h
    | ct G' S' => rw [e] at h; exact h
    | err => rw [e] at h; exact h.elim
theorem Cal.tr {x : Str} {F : Fn} {pn : List (Addr × Obj)} {xe : Value → Shared → Prop} (c : Cal X x F) : Cal (X.tr pn xe) x F := ⟨c.ex, c.mg, c.kp⟩
end
/-- .. without a name, several clauses, each with a suite that asks nothing of the error -/
def mTryN (q : SM) (cs : List Str) (hs : List (Str × SM)) : SM := fun G S => match q G S with
  | .ex c G' S' => if cs.contains c then (match hs.find? (fun h => subE c h.1) with
    | some h => (match h.2 G' S' with
      | .ex _ _ _ => .err
      | r => r)
    | none => .ex c G' S') else .err
  | r => r
/-- the clauses say what these do -/
inductive JHs (X : Cx) (Cs : List Str) : List ExceptHandler → List (Str × SM) → Prop
  | nil : JHs X Cs [] []
  | cons {x : Str} {m : SM} {b₀ : Stmt} {suite : List Stmt} {np pos' : Pos} {hds : List ExceptHandler} {l : List (Str × SM)} (gx : Gl X x) (mx : X.mg x = some (.ref (He.ga X.K x))) (hx : x ∈ Cs) (hnv : x ≠ "ValueError") (hdb : (x == ("__debug__" : Str)) = false)
      (hsu : ∀ (a : Addr) (oe : Obj) (pn : List (Addr × Obj)), JSs (X.suite a ((a, oe) :: pn)) Wn (b₀ :: suite) m) (r : JHs X Cs hds l) :
      JHs X Cs (.ExceptHandler (some (.Name x np)) none (b₀ :: suite) pos' :: hds) ((x, m) :: l)
def tsN (K : PySem.W.Frag) (l : List (Str × SM)) : List (Value × (Addr → Value → Option Addr → TS)) := l.map fun h => (.ref (He.ga K h.1), fun _ _ _ => cS K Wn h.2)
section
variable {X : Cx} {W : WX} {cs Cs : List Str} {body : List Stmt} {h₀ : ExceptHandler} {hds : List ExceptHandler} {l : List (Str × SM)} {pos : Pos} {q : SM}
theorem JHs.ok {hds : List ExceptHandler} {l : List (Str × SM)} (h : JHs X Cs hds l) : HdsOk X hds (tsN X.K l) := by
  induction h with
  | nil => exact .nil
  | cons gx mx hx hnv hdb hsu r ih => exact .cons ⟨gx, hdb, .inl mx⟩ (fun a oe cls d pn hz hf => (hsu a oe pn).can) ih
theorem JHs.names {hds : List ExceptHandler} {l : List (Str × SM)} (h : JHs X Cs hds l) : ∀ x ∈ l, x.1 ∈ Cs ∧ x.1 ≠ "ValueError" := by
  induction h with
  | nil => intro x hx; cases hx
  | cons gx mx hx hnv hdb hsu r ih =>
    intro y hy
    rcases List.mem_cons.mp hy with e | e
    · subst e; exact ⟨hx, hnv⟩
    · exact ih y e
theorem many_ok {K : PySem.W.Frag} {H0 H : Hp} {rho : List Addr} {G : Gam} {S : Sto} {sg : L2.St} (st : Sat K H0 G S sg H rho) {c : Str} (hK : ExK K cs Cs) (hc : c ∈ cs) {E : Ends} : ∀ {l : List (Str × SM)}, (∀ x ∈ l, x.1 ∈ Cs ∧ x.1 ≠ "ValueError") →
    SPost K H0 H rho W (match l.find? (fun h => subE c h.1) with
      | some h => (match h.2 G S with
        | .ex _ _ _ => .err
        | r => r)
      | none => .ex c G S) E → wMany K W E (tsN K l) (.ref (He.ga K c)) none sg H
  | [], _, h => h sg H rho st (Stp.refl st.s)
  | (x, m) :: l, hn, h => by
    refine ⟨subE c x, hK.m c hc x (hn _ List.mem_cons_self).1 (hn _ List.mem_cons_self).2, fun hy a ha => ?_, fun hno => ?_⟩
    · rw [List.find?_cons_of_pos (by exact hy)] at h
      refine ⟨H0, G, S, rho, st, ?_⟩
      dsimp only at h
      show SPost K H0 H rho Wn (m G S) E
      cases e : m G S with
      | ex c2 G2 S2 => rw [e] at h; exact h.elim
      | nx G2 S2 => rw [e] at h; exact h
      | rt d S2 => rw [e] at h; exact h
      | bk G2 S2 => rw [e] at h; exact h
      | ct G2 S2 => rw [e] at h; exact h
      | err => rw [e] at h; exact h.elim
    · rw [List.find?_cons_of_neg (by simpa using hno)] at h
      exact many_ok st hK hc (fun y hy => hn y (List.mem_cons_of_mem _ hy)) h
theorem js_tryN (hs : X.stack = X.env :: X.outer) (hf : X.env.frame = some X.env.locals) (hK : ExK X.K cs Cs) (tk : Takes X W)
    (hb : ∀ (W : WX) (pn : List (Addr × Obj)) (xe : Value → Shared → Prop), Takes (X.tr pn xe) W → PassesOwn (model X.prog X.w) X.A X.env xe → JSs (X.tr pn xe) W body q)
    (hh : JHs X Cs (h₀ :: hds) l) : JS X W (.Try body (h₀ :: hds) [] [] pos) (mTryN q cs l) := by
  refine ⟨_, ps_try_many (tb := fun W' => cS X.K W' q) (Wout := W) hs hf tk (fun W' pn xe tk' po => (hb W' pn xe tk' po).can) hh.ok, fun H0 G S sg H rho st E h => ?_⟩
  refine ⟨H0, G, S, rho, st, ?_⟩
  unfold mTryN at h
  cases e : q G S with
  | ex c G' S' =>
    rw [e] at h
    dsimp only at h
    split at h
    · rename_i hcl
      have hc : c ∈ cs := by simpa using hcl
      exact fun sg' H' rho' s' t' => many_ok s' hK hc hh.names (SPost.step t' h)
    · exact h.elim
  | nx G' S' => rw [e] at h; exact h
  | rt d S' => rw [e] at h; exact h
  | bk G' S' => rw [e] at h; exact h
  | ct G' S' => rw [e] at h; exact h
  | err => rw [e] at h; exact h.elim
end
def obsE (fa : List He.Fa) (fn : List He.DefD) (ex : PySem.W.Frag → Bool) (K : PySem.W.Frag) : He.AlD × Bool := (He.obsD fa fn K, ex K)
def obsEG (n : Nat) (fa : List He.Fa) (fn : List He.DefD) (ex : PySem.W.Frag → Bool) (g : Addr → Option Obj) : He.AlD × Bool := obsE fa fn ex (He.frG g (He.asD g n))
def hookE (n : Nat) (fa : List He.Fa) (fn : List He.DefD) (ex : PySem.W.Frag → Bool) : PySem.W.Hook where
  α := He.AlD × Bool
  obs := fun s => obsEG n fa fn ex s.heap.get?
  val := fun _ => (He.valD fn, true)
  says := fun _ h => ∃ K : PySem.W.Frag, K.In h ∧ (He.SaysD fa fn K ∧ ex K = true)
  of := fun _ _ e => ⟨_, He.frG_in, congrArg (fun z : He.AlD × Bool => z.1) e, congrArg (fun z : He.AlD × Bool => z.2) e⟩
  keeps := fun _ _ _ ⟨K, hK, c⟩ k => ⟨K, PySem.W.Frag.In.keeps hK k, c⟩
theorem obsEG_eq {n : Nat} {fa : List He.Fa} {fn : List He.DefD} {ex : PySem.W.Frag → Bool} {g : Addr → Option Obj} {s : Shared} (h : ∀ a, g a = s.heap.get? a) : obsEG n fa fn ex g = (hookE n fa fn ex).obs s := by
  have e : g = s.heap.get? := funext h
  rw [e] <;> rfl
end Ab

end
section
set_option Elab.async false
set_option linter.all false
set_option maxRecDepth 100000
namespace Ab
open PySem PySem.Spec PyProof.Rows L2
section
variable {P : Program} {w : World} {K : PySem.W.Frag} {mg : Str → Option Value} {base : Heap}
theorem mk_fnA {x nm qual : Str} {params : Arguments} {body : List Stmt} {scope : Scope} {fd : FuncData} {N ps : List Str} {k : Nat} (D : FunD K nm qual params body scope [] [] (He.ga K x) fd) (S : FnScope N ps scope) (m : SM)
    (hbody : ∀ (cdv : Value) (A : Around) (outer : List Env) (s : Shared) (H : Hp) (E : XK), Room k (A.deeper (envOfC qual scope s.heap.objs.size (He.ga K x) cdv)) → JSs (cxOf (L2.CX P w) P w K mg base N qual scope (He.ga K x) cdv A outer s H E) (WD E) body m) :
    FnOk P w K mg base (L2.CX P w) (k + 1) (He.ga K x) fd ps (spS K (runF ps.length N.length m)) := by
  refine D.ok S (fun vs H Q E h => ?_) (fun cdv A outer s H vs Q E hr h => ?_)
  · obtain ⟨H0, rho, St, ds, so, r, q⟩ := h
    unfold runF at q
    split at q
    · rename_i hl
      rw [← r.length]; exact hl
    · exact q.elim
  · obtain ⟨ts, p, si⟩ := hbody cdv A outer s H E hr
    refine ⟨ts, p, ?_⟩
    obtain ⟨H0, rho, St, ds, so, r, q⟩ := h
    unfold runF at q
    split at q
    · rename_i hl
      refine si H0 _ St _ H rho (start_sat N so r) _ ?_
      rw [hl]
      generalize m (ds.map some ++ List.replicate (N.length - ps.length) none) St = z at q
      cases z with
      | nx G' S' => exact fun sg' H' rho' s' t' => q .non H' rho' s'.s t' (by simp [Rep])
      | rt d S' => exact q
      | ex c G' S' => exact fun sg' H' rho' s' t' => q H' rho' S' s'.s t'
      | bk G' S' => exact q.elim
      | ct G' S' => exact q.elim
      | err => exact q.elim
    · exact q.elim
theorem mk_fxA {x nm qual : Str} {params : Arguments} {body : List Stmt} {scope : Scope} {fd : FuncData} {N ps : List Str} {k : Nat} (D : FunD K nm qual params body scope [] [] (He.ga K x) fd) (S : FnScope N ps scope) (hg : mg x = some (.ref (He.ga K x))) (hb : Binds K fd ps []) (m : SM)
    (hbody : ∀ (cdv : Value) (A : Around) (outer : List Env) (s : Shared) (H : Hp) (E : XK), Room k (A.deeper (envOfC qual scope s.heap.objs.size (He.ga K x) cdv)) → JSs (cxOf (L2.CX P w) P w K mg base N qual scope (He.ga K x) cdv A outer s H E) (WD E) body m) :
    Fx P w K mg base x (runF ps.length N.length m) (k + 1) := ⟨⟨fd, ps, mk_fnA D S m hbody, hb⟩, hg, D.kp⟩
end
end Ab

end
section
set_option Elab.async false
set_option linter.all false
set_option maxRecDepth 100000
namespace Ab
open PySem PySem.Spec PyProof.Rows L2

def gmLst (is : List Nat) : GM := fun d G => match d with
  | .lst _ xs => setAll is xs G
  | _ => none
theorem simg_lst {K : PySem.W.Frag} (is : List Nat) : SimG K (gLst K is.length (gNames is)) (gmLst is) := fun H0 G S sg H rho d v G' st r e Q q => by
  unfold gmLst at e
  split at e
  · rename_i f xs
    simp only [Rep] at r
    obtain ⟨a, vs, rfl, q1, _, r⟩ := r
    exact ⟨a, vs, rfl, q1.sq, by rw [← r.length]; exact (setAll_len e).symm, names_ok st r e q⟩
  · cases e
def mUnpL (is : List Nat) (m : EM) : SM := fun G S => (m G S).bindS G fun d S1 => match seqL S1 d with
  | some xs => (match setAll is xs G with
    | some G' => .nx G' S1
    | none => .err)
  | none => .err
section
variable {X : Cx} {W : WX} {a b c : Expr} {ma mb mc : EM} {pos : Pos}
theorem jg_lst (is : List Nat) {es : List Expr} {k : Nat} {p : Pos} (hc : X.calm = true) (h : PGs X es (gNames is)) (hn : (assignEach es X.env).length = is.length := by rfl) (hst : (assignEach es X.env).findIdx? (·.1) = none := by rfl) : JG X (.Tuple es k p) (gmLst is) :=
  ⟨_, pg_lst hc h hn hst, simg_lst is⟩
theorem js_unpL (is : List Nat) {es : List Expr} {k : Nat} {tp : Pos} (hc : X.calm = true) (hg : PGs X es (gNames is)) (ha : JE X W a ma) (hl : (assignEach es X.env).length = is.length := by rfl) (hst : (assignEach es X.env).findIdx? (·.1) = none := by rfl)
    (hs : swapsWithSole [.Tuple es k tp] a pos.line X.env = pure false := by rfl) (hw : swappedStores [.Tuple es k tp] a X.env = pure none := by rfl)
    (h1 : (assignEach [.Tuple es k tp] X.env).map (·.2) = [assign (.Tuple es k tp) X.env] := by rfl) : JS X W (.Assign [.Tuple es k tp] a pos) (mUnpL is ma) := by
  obtain ⟨ta, pa, sa⟩ := ha
  refine ⟨_, ps_asg pa (pg_lst hc hg hl hst) hs hw h1, fun H0 G S sg H rho st E h => sa H0 G S sg H rho st _ (bindES st h fun d S1 v H1 rho1 s1 t1 r1 h1 => ?_)⟩
  split at h1
  · rename_i xs hx
    split at h1
    · rename_i G' e
      obtain ⟨p, vs, rfl, hp, r⟩ := seqL_at s1.s hx r1
      refine ⟨p, vs, rfl, hp, by rw [← r.length]; exact (setAll_len e).symm, names_ok s1 r e fun sg' s' => SPost.here s' h1⟩
    · exact h1.elim
  · exact h1.elim
end

def mAugIx (mo mi mv : EM) : SM := fun G S => (mo G S).bindS G fun o S1 => (mi G S1).bindS G fun i S2 => match o, i with
  | .obj j, .int k => (match S2[j]? with
    | some (.lst xs) => (match ixN xs.length k with
      | some n => (match xs[n]? with
        | some (.int x) => (mv G S2).bindS G fun v S3 => (match v, S3[j]? with
          | .int y, some (.lst ys) => (match ixN ys.length k with
            | some m => .nx G (S3.set j (.lst (ys.set m (.int (x + y)))))
            | none => .err)
          | _, _ => .err)
        | _ => .err)
      | none => .err)
    | _ => .err)
  | _, _ => .err

def pickL {α : Type} (xs : List α) (lo hi st : Option Int) : List α := (sliceRange (sliceBounds lo hi st xs.length).1 (sliceBounds lo hi st xs.length).2.1 (sliceBounds lo hi st xs.length).2.2).filterMap (xs[·]?)
theorem pick_vals {xs : List V} {us : List Value} (r : Vals xs us) (lo hi st : Option Int) : Vals (pickL xs lo hi st) (slicePick us.toArray lo hi st).toList := by
  unfold pickL slicePick
  have e : us.toArray.size = xs.length := by rw [List.size_toArray, r.length]
  rw [e]
  simp only [List.getElem?_toArray]
  generalize sliceRange _ _ _ = l
  induction l with
  | nil => exact .nil
  | cons i l ih =>
    rw [List.filterMap_cons, List.filterMap_cons]
    cases h : xs[i]? with
    | none =>
      have h2 : us[i]? = none := by
        rw [List.getElem?_eq_none_iff] at h ⊢
        rw [← r.length]; exact h
      rw [h2]; exact ih
    | some x =>
      obtain ⟨u, hu, ru⟩ := r.get h
      rw [hu]
      exact .cons ru ih
theorem pick_reps {K : PySem.W.Frag} {H0 H : Hp} {rho : List Addr} {xs : List D} {vs : List V} (r : Reps K H0 H rho xs vs) (lo hi st : Option Int) : Reps K H0 H rho (pickL xs lo hi st) (pickL vs lo hi st) := by
  unfold pickL
  rw [r.length]
  generalize sliceRange _ _ _ = l
  induction l with
  | nil => exact .nil
  | cons i l ih =>
    rw [List.filterMap_cons, List.filterMap_cons]
    cases h : xs[i]? with
    | none =>
      have h2 : vs[i]? = none := by
        rw [List.getElem?_eq_none_iff] at h ⊢
        rw [← r.length]; exact h
      rw [h2]; exact ih
    | some x =>
      obtain ⟨u, hu, ru⟩ := r.get h
      rw [hu]
      exact .cons ru ih
def tSlStep (K : PySem.W.Frag) (te : TE) (tl th tst : TO) : TE := fun σ H Q => te σ H fun x H1 => tl σ H1 fun lo H2 => th σ H2 fun hi H3 => tst σ H3 fun st H4 => ∃ a xs, x = .ref a ∧ SqL K H4 a xs ∧ st ≠ some 0 ∧ ∀ p, H4 p = none → Q (.ref p) (upd H4 p (.lst (pickL xs lo hi st)))
section
variable {X : Cx} {W : WX} {a b c : Expr} {ma mb mc : EM} {pos : Pos}
theorem pe_slStep {e : Expr} {lo hi : Option Expr} {s : Expr} {te : TE} {tl th tst : TO} {p2 : Pos} (he : PE X e te) (hl : PO X lo tl) (hh : PO X hi th) (hs : PO X (some s) tst)
    (ht : ∀ a sl, subscripted (.Slice lo hi (some s) p2) false (.ref a) sl = operate [.ref a, sl] (getItem (.ref a) sl) := by intros; with_unfolding_all rfl) : PE X (.Subscript e (.Slice lo hi (some s) p2) pos) (tSlStep X.K te tl th tst) := by
  refine ⟨fun pins sh σ H Q I h => ?_⟩
  refine Subscript_ (thn (he.run pins sh σ H _ I h) fun v s1 ⟨x, H1, I1, r1, q1⟩ => ?_)
  refine wpAny_Slice (thn (hl.run pins s1 σ H1 _ I1 q1) fun vl s2 ⟨l, H2, I2, pl, q2⟩ => ?_)
  refine thn (hh.run pins s2 σ H2 _ I2 q2) fun vu s3 ⟨u, H3, I3, pu, q3⟩ => ?_
  refine thn (hs.run pins s3 σ H3 _ I3 q3) fun vs s4 ⟨o, H4, I4, ps, q4⟩ => ?_
  obtain ⟨a, xs, rfl, hx, h0, q⟩ := q4
  cases r1
  have I5 : Inv X pins σ H4 { s4 with heap := s4.heap.push { cls := .type "slice", data := .fields #[vl, vu, vs] } } := I4.kept (t' := s4.toks) fun b ob q => Heap.get?_push_of_some _ q
  obtain ⟨its, r, ht', hz⟩ := I5.list hx
  have hlen := r.length
  refine tail_any (ops := [.ref a, .ref s4.heap.objs.size]) ht'.isList.typeIs (PySem.slot_list_getitem.lookup) ?_ (ht _ _)
  refine wpAny_getItem_list_slice ht'.isList (Heap.IsSliceOf.new _ vl vu vs) pl pu ps h0 ?_ (by rw [List.size_toArray]; omega)
  have rp := pick_vals r l u o
  refine ⟨.ref _, _, I5.laid (t' := s4.toks) (o := .lst (pickL xs l u o)) (fun b ob q => Heap.get?_push_of_some _ q) (Nat.le_refl _) ?_, rfl, q _ (I5.hok.fresh (Nat.le_refl _))⟩
  refine ⟨?_, _, 0, rp, Heap.get?_push_size _ rfl⟩
  have h1 := slicePick_size_le its.toArray l u o
  have h2 := rp.length
  have h3 : (slicePick its.toArray l u o).toList.length = (slicePick its.toArray l u o).size := Array.length_toList ..
  have h4 : its.toArray.size = its.length := List.size_toArray ..
  show (pickL xs l u o).length ≤ sizeLine
  rw [h2, h3]
  omega
def mSlS (o : Bool) (m : EM) (ml mh ms : OM) : EM := fun G S => (m G S).bind fun d S1 => (ml G S1).bind fun lo S2 => (mh G S2).bind fun hi S3 => (ms G S3).bind fun st S4 => match seqL S4 d with
  | some xs => if st = some 0 then .err else nw o (pickL xs lo hi st) S4
  | none => .err
theorem je_slS (o : Bool) {lo hi : Option Expr} {s : Expr} {ml mh ms : OM} {p2 : Pos} (ha : JE X W a ma) (hl : JO X W lo ml) (hh : JO X W hi mh) (hs : JO X W (some s) ms)
    (ht : ∀ a sl, subscripted (.Slice lo hi (some s) p2) false (.ref a) sl = operate [.ref a, sl] (getItem (.ref a) sl) := by intros; with_unfolding_all rfl) : JE X W (.Subscript a (.Slice lo hi (some s) p2) pos) (mSlS o ma ml mh ms) := by
  obtain ⟨ta, pa, sa⟩ := ha
  obtain ⟨tl, pl, sl⟩ := hl
  obtain ⟨th, ph, sh⟩ := hh
  obtain ⟨ts, ps, ss⟩ := hs
  refine ⟨_, pe_slStep pa pl ph ps ht, fun H0 G S sg H rho st Q h => sa H0 G S sg H rho st _ (bindE h fun d S1 v H1 rho1 s1 t1 r1 h1 => ?_)⟩
  refine sl H0 G S1 sg H1 rho1 (st.step s1 t1) _ (bindO h1 fun l S2 H2 rho2 s2 t2 h2 => ?_)
  refine sh H0 G S2 sg H2 rho2 ((st.step s1 t1).step s2 t2) _ (bindO h2 fun u S3 H3 rho3 s3 t3 h3 => ?_)
  refine ss H0 G S3 sg H3 rho3 (((st.step s1 t1).step s2 t2).step s3 t3) _ (bindO h3 fun z S4 H4 rho4 s4 t4 h4 => ?_)
  have r4 := Rep.keep s3 t4 _ _ (Rep.keep s2 t3 _ _ (Rep.keep s1 t2 _ _ r1))
  split at h4
  · rename_i xs hx
    split at h4
    · exact h4.elim
    · rename_i h0
      obtain ⟨p, vs, rfl, hq, r⟩ := seqL_at s4 hx r4
      exact ⟨p, vs, rfl, hq, h0, fun p hp => new_lst s4 hp (pick_reps r l u z) h4⟩
  · exact h4.elim
end
def fCountI : D → List D → Sto → ER := fun d ds S => match (seqL S d).bind intsD, ds with
  | some ns, [.int k] => .ok (.int (ns.count k : Nat)) S
  | _, _ => .err
def fCountS : D → List D → Sto → ER := fun d ds S => match (seqL S d).bind strsD, ds with
  | some ns, [.str k] => .ok (.int (ns.count k : Nat)) S
  | _, _ => .err
def rCntS (K : PySem.W.Frag) : V → List V → Hp → VK → Prop := fun x xs H Q => ∃ (p : Addr) (ns : List Str) (k : Str), x = .ref p ∧ xs = [.str k] ∧ SqL K H p (ns.map V.str) ∧ Q (.int (ns.count k : Nat)) H
theorem eqU_str (k z : Str) (t : Tok) : eqU (.str k) (.str z t) = (z == k) := rfl
theorem countU {k : Str} : ∀ {ns : List Str} {us : List Value}, Vals (ns.map V.str) us → us.countP (eqU (.str k)) = ns.count k
  | [], _, .nil => rfl
  | n :: ns, u :: us, .cons r t => by
    obtain ⟨tk, rfl⟩ := r
    rw [List.countP_cons, List.count_cons, countU t, eqU_str]
theorem mt_lcountS {X : Cx} : MtR X "list.count" (rCntS X.K) := by
  intro pins s σ H x xs v us Q I rx rxs h
  obtain ⟨p, ns, k, rfl, rfl, hs, q⟩ := h
  cases rx
  obtain ⟨u, rfl, ru⟩ := rxs.one
  obtain ⟨t, rfl⟩ := ru
  obtain ⟨its, rv, ⟨⟨cls, dd, data, sl⟩, n, ho, hc, hdn, hd⟩, hlen⟩ := I.list hs
  simp only at hc hd
  subst hc hd
  refine call_meets PySem.F.slot_list_count ⟨_, ho, rfl⟩ PySem.F.entry_list_count (PySem.F.args_list_count_2 _ _)
    (SeqAt.list_countAt p its.toArray n dd sl (.str k t) (eqU (.str k))) ⟨ho, fun y hy => mem_eqAt (x := .str k) ⟨t, rfl⟩ rfl rv (flat_strs ns) y (by simpa using hy), ?_⟩
  have ec : its.toArray.toList.countP (eqU (.str k)) = ns.count k := countU rv
  refine ⟨.int (ns.count k : Nat), H, I.tok _, ⟨s.toks, ?_⟩, q⟩
  show Value.int ((its.toArray.toList.countP (eqU (.str k)) : Nat) : Int) s.toks = Value.int ((ns.count k : Nat) : Int) s.toks
  rw [ec]
section
variable {X : Cx} {W : WX} {a b c e : Expr} {es : List Expr} {ma mb mc : EM} {m : AM} {apos p pos : Pos}
theorem sim_countS {K : PySem.W.Frag} : SimM K (rCntS K) fCountS := fun H0 H rho S W d ds v vs s rd rs Q q => by
  unfold fCountS at q
  split at q
  · rename_i ns k hx
    obtain ⟨xs, h1, h2⟩ := Option.bind_eq_some_iff.mp hx
    obtain ⟨p, us, rfl, hq, r⟩ := seqL_at s h1 rd
    obtain ⟨u, rfl, ru⟩ := reps1 rs
    simp only [Rep] at ru
    subst ru
    have e := strs_rep h2 r
    subst e
    exact ⟨p, ns, k, rfl, rfl, hq, EPost.done s (rep_scal (d := .int _) rfl) q⟩
  · exact q.elim
theorem sim_countI {K : PySem.W.Frag} : SimM K (rCntI K) fCountI := fun H0 H rho S W d ds v vs s rd rs Q q => by
  unfold fCountI at q
  split at q
  · rename_i ns k hx
    obtain ⟨xs, h1, h2⟩ := Option.bind_eq_some_iff.mp hx
    obtain ⟨p, us, rfl, hq, r⟩ := seqL_at s h1 rd
    obtain ⟨u, rfl, ru⟩ := reps1 rs
    simp only [Rep] at ru
    subst ru
    rw [intsD_eq h2] at r
    have e := Reps.ints r
    subst e
    exact ⟨p, ns, k, rfl, rfl, hq, EPost.done s (rep_scal (d := .int _) rfl) q⟩
  · exact q.elim
theorem je_countS (ho : JE X W a ma) (ha : JA X W (e :: es) m) (hb : attributeBase a "count" X.env (eval a X.env) = eval a X.env := by rfl)
    (hf : ((backTo pos (starEach (e :: es) X.env)).all (fun x => !x.1) && (backToKw pos (keywordEach [] X.env)).all (fun x => x.1.isSome) && decide ((e :: es).length + ([] : List Keyword).length + (if ([] : List Keyword).isEmpty then 0 else 1) < 30)) = true := by rfl)
    (hl : (apos.endLine == pos.line) = true := by rfl) (h1 : starEach (e :: es) X.env = (false, eval e X.env) :: starEach es X.env := by rfl) (h2 : (backTo pos (starEach es X.env)).any (·.1) = false := by rfl) :
    JE X W (.Call (.Attribute a "count" apos) (e :: es) [] pos) (mMeth fCountS ma m) := je_meth PySem.F.slot_list_count PySem.F.type_list_count mt_lcountS sim_countS ho ha hb hf hl h1 h2
/-- x.count(y), texts -/
def mCountT (m : EM) (a : AM) : EM := fun G S => (m G S).bind fun d S1 => match d with
  | .str x => (a G S1).bind fun ds S2 => (match ds with
    | [.str y] => .ok (.int (Txt.count x y)) S2
    | _ => .err)
  | _ => .err
theorem je_countT (ho : JE X W a ma) (ha : JE X W e mb) (hs : starEach [e] X.env = [(false, eval e X.env)] := by rfl) (hb : attributeBase a "count" X.env (eval a X.env) = eval a X.env := by rfl) (hl : (apos.endLine == pos.line) = true := by rfl) :
    JE X W (.Call (.Attribute a "count" apos) [e] [] pos) (mCountT ma (aCons mb aNil)) := by
  obtain ⟨ta, pa, sa⟩ := ho
  obtain ⟨tb, pb, sb⟩ := ha
  refine ⟨_, pe_m1 PySem.F.slot_str_count PySem.F.type_str_count mt_count pa pb hs hb hl, fun H0 G S sg H rho st Q h => sa H0 G S sg H rho st _ (bindE h fun d S1 v H1 rho1 s1 t1 r1 h1 => ?_)⟩
  split at h1
  · rename_i x
    simp only [Rep] at r1
    refine ⟨⟨x, r1⟩, ?_⟩
    have h2 : EPost X.K H0 H1 rho1 (fun c d h => W c d sg h) ((mb G S1).bind fun f S2 => match f with
      | .str y => .ok (.int (Txt.count x y)) S2
      | _ => .err) Q := by
      revert h1
      unfold aCons aNil
      cases hm : mb G S1 with
      | ok d S2 => cases d <;> exact fun h => h
      | ex c S2 => exact fun h => h
      | err => exact fun h => h
    refine sb H0 G S1 sg H1 rho1 (st.step s1 t1) _ (bindE h2 fun f S2 w H2 rho2 s2 t2 r2 h2 => ?_)
    split at h2
    · rename_i y
      simp only [Rep] at r2
      exact ⟨x, y, r1, by rw [r2], EPost.done s2 (rep_scal (d := .int _) rfl) h2⟩
    · exact h2.elim
  · exact h1.elim
end
end Ab

end
section
set_option Elab.async false
set_option linter.all false
set_option maxRecDepth 100000
namespace TRv
open PySem PySem.Spec PyProof.Rows L2 HT
section
variable {prog : Program} {w : World} {A : Around} {E : Value → Shared → Prop} {s : Shared}
theorem applied_rev {sl : Addr} {vs : Value} {n : Nat} {Q : Int × Int × Nat → Shared → Prop} (hs : s.heap.IsSliceOf sl .none .none vs) (ps : IsPart vs (some (-1)))
    (h : Q ((n : Int) - 1, -1, n) s) : wpAny (model prog w) A (Builtin.Slice.sliceApplied (.ref sl) (pure (n : Int))) Q E s := by
  obtain ⟨os, hos, hcs, hds⟩ := id hs
  unfold Builtin.Slice.sliceApplied Builtin.Slice.sliceFields
  refine wpAny_bind (wpAny_bind (wpAny_field hos hds (x := .none) rfl (wpAny_bind (wpAny_field hos hds (x := .none) rfl (wpAny_bind (wpAny_field hos hds (x := vs) rfl (wpAny_pure ?_)))))))
  refine wpAny_bind (slicePart_ ps ?_)
  show wpAny _ _ (if ((-1 : Int) == 0) = true then _ else _) _ _ s
  rw [if_neg (by decide)]
  refine wpAny_bind (slicePart_none (wpAny_bind (slicePart_none (wpAny_bind (wpAny_pure ?_)))))
  show wpAny _ _ (match Builtin.Slice.sliceAdjust none none (-1) (n : Int) with | (lo, hi) => pure (lo, (-1 : Int), Builtin.Slice.slicePlaces lo hi (-1))) _ _ s
  have e1 : Builtin.Slice.sliceAdjust none none (-1) (n : Int) = ((n : Int) - 1, -1) := by
    simp [Builtin.Slice.sliceAdjust]
  have e2 : Builtin.Slice.slicePlaces ((n : Int) - 1) (-1) (-1) = n := by
    unfold Builtin.Slice.slicePlaces
    rw [if_neg (by decide)]
    split
    · have : ((n : Int) - 1 - -1 - 1) / (- -1) = (n : Int) - 1 := by
        rw [show (- -1 : Int) = 1 by decide, Int.ediv_one]; omega
      rw [this]; omega
    · omega
  rw [e1]
  show wpAny _ _ (pure ((n : Int) - 1, (-1 : Int), Builtin.Slice.slicePlaces ((n : Int) - 1) (-1) (-1))) _ _ s
  rw [e2]
  exact wpAny_pure h
theorem fm_congr {α β : Type} {f g : α → Option β} : ∀ {l : List α}, (∀ x ∈ l, f x = g x) → l.filterMap f = l.filterMap g
  | [], _ => rfl
  | x :: l, h => by
    rw [List.filterMap_cons, List.filterMap_cons, h x List.mem_cons_self, fm_congr fun y hy => h y (List.mem_cons_of_mem _ hy)]
theorem pick_rev (xs : Array Value) : ((List.range xs.size).filterMap fun (m : Nat) => xs[((xs.size : Int) - 1 + (m : Int) * -1).toNat]?).toArray = xs.toList.reverse.toArray := by
  have e : (List.range xs.size).filterMap (fun (m : Nat) => xs[((xs.size : Int) - 1 + (m : Int) * -1).toNat]?) = ((List.range xs.size).map fun k => xs.size - 1 - k).filterMap (xs[·]?) := by
    rw [List.filterMap_map]
    refine fm_congr fun m hm => ?_
    have := List.mem_range.mp hm
    have e : ((xs.size : Int) - 1 + (m : Int) * -1).toNat = xs.size - 1 - m := by omega
    rw [e]; rfl
  rw [e, PySem.W.krv_range, List.filterMap_reverse, PySem.W.krv_all]
theorem getItem_tuple_rev {t sl : Addr} {items : Array Value} {vs : Value} {Q : Value → Shared → Prop} (ht : IsTup s.heap t items) (hs : s.heap.IsSliceOf sl .none .none vs) (ps : IsPart vs (some (-1))) (hz : items.size ≤ sizeLine)
    (h : Q (.ref s.heap.objs.size) { s with heap := s.heap.push { cls := .type "tuple", data := .seq items.toList.reverse.toArray } }) : wpAny (model prog w) A (getItem (.ref t) (.ref sl)) Q E s := by
  obtain ⟨os, hos, hcs, hds⟩ := id hs
  have hTs : s.TypeIs (.ref sl) "slice" := ⟨os, hos, hcs⟩
  unfold getItem
  try with_reducible refine wpAny_holding ?_
  first | refine wpAny_bind (wpAny_pure ?_) | skip
  refine wpAny_bind (wpAny_sequenceKey ht.typeIs (by decide) ?_)
  refine wpAny_bind (wpAny_callSpecial?_slot (name := Str.ofString "__getitem__") ht.typeIs PyProof.Rows.slot_tuple_getitem
    (wpAny_call_entry PyProof.Rows.slot_tuple_getitem ht.typeIs entry_tuple_getitem ?_ (args_tuple_getitem _ _)))
  show wpAny _ _ (Builtin.Tuple.tupleItemsOf (.ref t) >>= _) _ _ s
  refine wpAny_bind (tupleItemsOf_ ht ?_)
  refine wpAny_bind (wpAny_typeOf hTs ?_)
  rw [if_pos (by decide)]
  refine wpAny_bind (applied_rev hs ps ?_)
  have hno : ¬ (((items.size : Int) - 1 == 0 && (-1 : Int) == 1 && items.size == items.size) = true) := by
    intro q
    rw [Bool.and_eq_true, Bool.and_eq_true] at q
    exact absurd q.1.2 (by decide)
  show wpAny _ _ (if ((items.size : Int) - 1 == 0 && (-1 : Int) == 1 && items.size == items.size) = true then _ else _) _ _ s
  rw [if_neg hno, pick_rev]
  have hz2 : items.toList.reverse.toArray.size ≤ sizeLine := by simpa using hz
  first
    | exact wpAny_bind (m := Builtin.Tuple.tupleExact _) (wpAny_newObj_type (wpAny_pure ⟨_, rfl, wpAny_pure h⟩) hz2)
    | exact wpAny_bind (m := Builtin.Tuple.tupleExact _) (wpAny_newObj_type (wpAny_bind (wpAny_pure (wpAny_pure ⟨_, rfl, wpAny_pure h⟩))) hz2)
    | exact wpAny_bind (wpAny_bind (m := Builtin.Tuple.tupleExact _) (wpAny_newObj_type (wpAny_pure (wpAny_pure ⟨_, rfl, wpAny_pure h⟩)) hz2))
    | exact wpAny_bind (wpAny_bind (m := Builtin.Tuple.tupleExact _) (wpAny_newObj_type (wpAny_pure ⟨_, rfl, wpAny_pure h⟩) hz2))
end
def tRevT (K : PySem.W.Frag) (te : TE) : TE := fun σ H Q => te σ H fun x H1 => ∃ a xs, x = .ref a ∧ SqT K H1 a xs ∧ ∀ p, H1 p = none → Q (.ref p) (upd H1 p (.tup xs.reverse))
theorem pe_revT {X : Cx} {e : Expr} {te : TE} {k : Nat} {p1 p2 p3 pos : Pos} (he : PE X e te) : PE X (.Subscript e (.Slice none none (some (.UnaryOp .USub (.Constant (.int 1) k p1) p2)) p3) pos) (tRevT X.K te) := by
  refine ⟨fun pins s σ H Q I h => ?_⟩
  refine Subscript_ (thn (he.run pins s σ H _ I h) fun v s1 ⟨x, H1, I1, r1, q1⟩ => ?_)
  obtain ⟨a, xs, ex, hx, q⟩ := q1
  subst ex
  cases r1
  have hst : PO X (some (.UnaryOp .USub (.Constant (.int 1) k p1) p2)) (tPart (tUn (rU fun i => .int (-i)) (tC (.int 1)))) := po_some (pe_un un_neg pe_int)
  refine wpAny_Slice (thn (po_none.run pins s1 σ H1 (fun o H2 => o = none ∧ H2 = H1) I1 ⟨rfl, rfl⟩) fun vl s2 ⟨l, H2, I2, pl, el, e2⟩ => ?_)
  subst el e2
  refine thn (po_none.run pins s2 σ H2 (fun o H3 => o = none ∧ H3 = H2) I2 ⟨rfl, rfl⟩) fun vu s3 ⟨u, H3, I3, pu, eu, e3⟩ => ?_
  subst eu e3
  refine thn (hst.run pins s3 σ H3 (fun o H4 => o = some (-1) ∧ H4 = H3) I3 ⟨1, rfl, -1, rfl, rfl, rfl⟩) fun vs s4 ⟨o, H4, I4, ps, eo, e4⟩ => ?_
  subst eo e4
  have I5 : Inv X pins σ H4 { s4 with heap := s4.heap.push { cls := .type "slice", data := .fields #[vl, vu, vs] } } := I4.kept (t' := s4.toks) fun b ob q => Heap.get?_push_of_some _ q
  obtain ⟨its, r, ht, hz⟩ := I5.tuple hx
  have hlen := r.length
  cases pl
  cases pu
  show wpAny (model X.prog X.w) X.A (subscriptTail e (.Slice none none (some (.UnaryOp .USub (.Constant (.int 1) k p1) p2)) p3) (.ref a) (.ref s4.heap.objs.size)) (EP X pins σ Q) X.xe { s4 with heap := s4.heap.push { cls := .type "slice", data := .fields #[.none, .none, vs] } }
  refine tail_any (ops := [.ref a, .ref s4.heap.objs.size]) ht.typeIs (PyProof.Rows.slot_tuple_getitem.lookup) ?_ (by with_unfolding_all rfl)
  refine getItem_tuple_rev ht (Heap.IsSliceOf.new _ .none .none vs) ps (by rw [List.size_toArray]; omega) ?_
  refine ⟨.ref _, _, I5.laid (t' := s4.toks) (o := .tup xs.reverse) (fun b ob q => Heap.get?_push_of_some _ q) (Nat.le_refl _) ?_, rfl, q _ (I5.hok.fresh (Nat.le_refl _))⟩
  exact ⟨by rw [List.length_reverse]; exact hz, _, r.reverse, ⟨_, Heap.get?_push_size _ rfl, rfl, _, rfl⟩⟩
end TRv
namespace Ab
open PySem PySem.Spec PyProof.Rows L2
def mRevT (m : EM) : EM := fun G S => (m G S).bind fun d S1 => match d with
  | .tup xs => .ok (.tup xs.reverse) S1
  | _ => .err
section
variable {X : Cx} {W : WX} {a b c e : Expr} {es : List Expr} {ma mb mc : EM} {m : AM} {apos p pos : Pos}
theorem je_revT {k : Nat} {p1 p2 p3 : Pos} (ha : JE X W a ma) : JE X W (.Subscript a (.Slice none none (some (.UnaryOp .USub (.Constant (.int 1) k p1) p2)) p3) pos) (mRevT ma) := by
  obtain ⟨ta, pa, sa⟩ := ha
  refine ⟨_, TRv.pe_revT pa, fun H0 G S sg H rho st Q h => sa H0 G S sg H rho st _ (bindE h fun d S1 v H1 rho1 s1 t1 r1 h1 => ?_)⟩
  split at h1
  · rename_i xs
    obtain ⟨a, vs, rfl, q, r⟩ := tup_at r1
    exact ⟨a, vs, rfl, q, fun p hp => new_tup s1 hp r.reverse h1⟩
  · exact h1.elim
end
/-- a list's item, by values, at a place that is there -/
def rGetL (K : PySem.W.Frag) : V → V → Hp → VK → Prop := fun o i H Q => ∃ p xs k v, o = .ref p ∧ i = .int k ∧ 0 ≤ k ∧ k < 2 ^ 63 ∧ SqL K H p xs ∧ xs[k.toNat]? = some v ∧ Q v H
theorem get_list {X : Cx} : PGet X (rGetL X.K) := by
  intro pins s σ H o i ov iv Q I ro ri h
  obtain ⟨p, xs, k, v, rfl, rfl, h0, h63, hq, hv, q⟩ := h
  cases ro
  obtain ⟨t, rfl⟩ := ri
  obtain ⟨its, r, pl, hz⟩ := I.list hq
  obtain ⟨w, ew, rw'⟩ := r.get hv
  exact wpAny_getItem_list pl.isList h0 h63 (by simpa using ew) ⟨v, H, I, rw', q⟩
def mAugIxN (mo mi mv : EM) : SM := fun G S => (mo G S).bindS G fun o S1 => (mi G S1).bindS G fun i S2 => match o, i with
  | .obj j, .int k => (match S2[j]? with
    | some (.lst xs) => if 0 ≤ k ∧ k < 100000 then (match xs[k.toNat]? with
        | some (.int x) => (mv G S2).bindS G fun v S3 => (match v, S3[j]? with
          | .int y, some (.lst ys) => if k.toNat < ys.length then .nx G (S3.set j (.lst (ys.set k.toNat (.int (x + y))))) else .err
          | _, _ => .err)
        | _ => .err) else .err
    | _ => .err)
  | _, _ => .err
section
variable {X : Cx} {W : WX} {a b c : Expr} {ma mb mc : EM} {pos : Pos}
theorem js_augIx {tp : Pos} (ho : JE X W b mb) (hi : JE X W c mc) (hv : JE X W a ma)
    (ha : ∀ ov iv new, augStore c ov iv new = (do holding [new, ov, iv] (setItem ov iv new); release [new, ov, iv] []; pure .next) := by intros; rfl) : JS X W (.AugAssign (.Subscript b c tp) .Add a pos) (mAugIxN mb mc ma) := by
  obtain ⟨ta, pa, sa⟩ := hv
  obtain ⟨tb, pb, sb⟩ := ho
  obtain ⟨tc, pc, sc⟩ := hi
  refine ⟨_, ps_augS pb pc get_list pa ip_add set_list ha, fun H0 G S sg H rho st E h => ?_⟩
  refine sb H0 G S sg H rho st _ (bindES st h fun o S1 y H1 rho1 s1 t1 r1 h1 => ?_)
  refine sc H0 G S1 sg H1 rho1 s1 _ (bindES s1 h1 fun i S2 z H2 rho2 s2 t2 r2 h2 => ?_)
  split at h2
  · rename_i j k
    split at h2
    · rename_i xs hx
      split at h2
      · rename_i hk
        split at h2
        · rename_i x hxk
          obtain ⟨p, vs, rfl, hp, hH, r⟩ := obj_at s2.s hx (Rep.keep s1.s t2 _ _ r1)
          simp only [Rep] at r2
          obtain ⟨v, hv, rv⟩ := r.get hxk
          simp only [Rep] at rv
          subst rv
          refine ⟨p, vs, k, .int x, rfl, r2, hk.1, by omega, .of hH, hv, ?_⟩
          refine sa H0 G S2 sg H2 rho2 s2 _ (bindES s2 h2 fun w S3 u H3 rho3 s3 t3 r3 h3 => ?_)
          split at h3
          · rename_i yy ys hy
            split at h3
            · rename_i hl
              simp only [Rep] at r3
              refine ⟨x, yy, rfl, r3, ?_⟩
              have r1' := Rep.keep s2.s t3 _ _ (Rep.keep s1.s t2 _ _ r1)
              obtain ⟨p', us, e', hp', hH', r'⟩ := obj_at s3.s hy r1'
              cases e'
              have hl2 : k.toNat < us.length := by rw [← r'.length]; exact hl
              refine ⟨p, us, k, k.toNat, rfl, r2, hH', ?_, ?_⟩
              · unfold ixN
                rw [if_pos hk.1, if_pos (by omega)]
              · obtain ⟨s4, t4⟩ := wr_ok s3.s hp' (r'.set k.toNat (d := .int (x + yy)) (v := .int (x + yy)) (by simp [Rep]))
                exact h3 sg _ rho3 (s3.step s4 t4) t4
            · exact h3.elim
          · exact h3.elim
        · exact h2.elim
      · exact h2.elim
    · exact h2.elim
  · exact h2.elim
end
def lexI : List Int → List Int → Bool
  | [], [] => false
  | [], _ :: _ => true
  | _ :: _, [] => false
  | x :: xs, y :: ys => decide (x < y) || (decide (x = y) && lexI xs ys)
open PySem.W in
theorem lex_toks : ∀ ns ms : List Int, PyProof.Rows.lexLt itemOrd (keyToksAll (ns.map PyData.int)) (keyToksAll (ms.map PyData.int)) = lexI ns ms
  | [], [] => by
    simp only [List.map_nil, keyToksAll, lexI]
    rfl
  | [], y :: ms => by
    simp only [List.map_nil, List.map_cons, keyToksAll, lexI]
    rfl
  | x :: ns, [] => by
    simp only [List.map_nil, List.map_cons, keyToksAll, lexI]
    rfl
  | x :: ns, y :: ms => by
    simp only [List.map_cons, keyToksAll, keyToks, lexI, List.singleton_append]
    rw [← lex_toks ns ms]
    show (decide ((1 : Int) < 1) || (!decide ((1 : Int) < 1) && (decide (x < y) || (!decide (y < x) && PyProof.Rows.lexLt itemOrd (keyToksAll (ns.map PyData.int)) (keyToksAll (ms.map PyData.int)))))) = _
    by_cases h1 : x < y
    · simp [h1]
    · by_cases h2 : x = y
      · subst h2; simp
      · have h3 : y < x := by omega
        simp [h1, h2, h3]
def rLtA (K : PySem.W.Frag) : R2 := fun x y H Q => ∃ ns ms : List Int, Dp K H x (.list (ns.map PyData.int)) ∧ Dp K H y (.list (ms.map PyData.int)) ∧ Q (.bl (lexI ns ms)) H
open PySem.W in
theorem alike_ints : ∀ ns ms : List Int, alikeAll (ns.map PyData.int) (ms.map PyData.int) = true
  | [], _ => by simp [alikeAll]
  | _ :: _, [] => by simp [alikeAll]
  | x :: ns, y :: ms => by simp [alikeAll, alike, alike_ints ns ms]
theorem depth_ints : ∀ ns : List Int, PyData.depthAll (ns.map PyData.int) = 0
  | [] => rfl
  | x :: ns => by simp [PyData.depthAll, PyData.depth, depth_ints ns]
theorem op_ltA {X : Cx} (hu : X.A.units + 190 < cLine) : OpR X (compareOp .Lt) (rLtA X.K) := by
  intro pins s σ H x y v u Q I rx ry h
  obtain ⟨ns, ms, hd, he, q⟩ := h
  obtain ⟨as, r1⟩ := Dp.reads I _ x v hd rx
  obtain ⟨bs, r2⟩ := Dp.reads I _ y u he ry
  refine PySem.W.lt_data r1 r2 (alike_ints ns ms) (fun z => nomatch z) (by
    have e1 : (PyData.list (ns.map PyData.int)).depth = 1 := by simp [PyData.depth, depth_ints]
    rw [e1]; omega) ⟨.bl _, H, I, ?_, q⟩
  show Value.bool _ = Value.bool _
  unfold PySem.W.dataLt
  simp only [PySem.W.keyToks]
  rw [lex_toks]
theorem pyds_ints (ns : List Int) : pyds (ns.map D.int) = ns.map PyData.int := by
  induction ns with
  | nil => rfl
  | cons n ns ih => simp [pyds, pyd, ih]
def fLtL : D → D → Sto → ER := fun d e S => match argD S d, argD S e with
  | some (.lst _ xs), some (.lst _ ys) => (match intsD xs, intsD ys with
    | some ns, some ms => .ok (.bl (lexI ns ms)) S
    | _, _ => .err)
  | _, _ => .err
theorem sim_ltL {K : PySem.W.Frag} : SimR K (rLtA K) fLtL := fun H0 H rho S W d e x y s rd re Q q => by
  unfold fLtL at q
  split at q
  · rename_i f xs g ys h1 h2
    split at q
    · rename_i ns ms e1 e2
      have k1 := intsD_eq e1
      have k2 := intsD_eq e2
      subst k1 k2
      have p1 := pyd_rep _ x (by simp) (argD_ok s h1 rd)
      have p2 := pyd_rep _ y (by simp) (argD_ok s h2 re)
      simp only [pyd, pyds_ints] at p1 p2
      exact ⟨ns, ms, p1, p2, EPost.done s (rep_scal (d := .bl _) rfl) q⟩
    · exact q.elim
  · exact q.elim
theorem cr_ltL {X : Cx} (hu : X.A.units + 190 < cLine) : CmpR X .Lt fLtL := ⟨_, op_ltA hu, sim_ltL⟩
def tSorSet (K : PySem.W.Frag) (te : TE) : TE := fun σ H Q => te σ H fun v H1 => ∃ (p : Addr) (ns : List Int), v = .ref p ∧ SqT K H1 p (ns.map V.int) ∧ ns.length < 60 ∧ ∀ (ms : List Int) (q : Addr), ms.Pairwise (· < ·) → (∀ k : Int, k ∈ ms ↔ k ∈ ns) → H1 q = none → Q (.ref q) (upd H1 q (.lst (ms.map V.int)))
section
variable {X : Cx} {W : WX} {a e : Expr} {te : TE} {ma : EM} {p p2 pos pos2 : Pos}
theorem pe_sorSet (hc : X.calm = true) (hg : Gl X "sorted") (hm : X.mg "sorted" = none) (hg2 : Gl X "set") (hm2 : X.mg "set" = none) (he : PE X e te)
    (hs : starEach [e] X.env = (false, eval e X.env) :: starEach [] X.env := by rfl)
    (hs2 : starEach [.Call (.Name "set" p2) [e] [] pos2] X.env = (false, eval (.Call (.Name "set" p2) [e] [] pos2) X.env) :: starEach [] X.env := by rfl) :
    PE X (.Call (.Name "sorted" p) [.Call (.Name "set" p2) [e] [] pos2] [] pos) (tSorSet X.K te) := by
  refine ⟨fun pins s σ H Q I h => ?_⟩
  refine Call_ (ld_blt I hg hm (by decide +kernel : bootBuiltins "sorted" = some (.builtin "sorted")) (PyProof.Rows.callWith_builtin1 (args_cons (Call_ (ld_blt I hg2 hm2 PyProof.Rows.boot_set (PyProof.Rows.callWith_type1 (args_cons (thn (he.run pins s σ H _ I h) fun u s1 ⟨v, H1, I1, r1, q1⟩ => args_nil ?_) hs) hs rfl))) hs2) hs2 rfl))
  obtain ⟨p0, ns, ev, hq, hl, q⟩ := q1
  subst ev
  obtain rfl : u = Value.ref p0 := r1
  obtain ⟨its, rv, pt, hz⟩ := I1.tuple hq
  have hi : IntsAre its.toArray.toList ns := ints_of_vals rv
  have hd := I1.ok.hd hc
  refine call_set_tupI ns hd (show s1.heap.IsTuple p0 its.toArray from pt) hi (by unfold scanBound; omega) fun h' tk c R1 hcn k => args_nil ?_
  have J0 : Inv X pins σ H1 { s1 with heap := h', toks := tk } := I1.kept (t' := tk) fun b o e => k b o e
  refine sorted_set (s := { s1 with heap := h', toks := tk }) R1 (J0.ok.hd hc) (by omega) fun s' p out c ms kk g o hp hg' hi' hs' hm' hl' => ?_
  have hn : H1 p = none := J0.hok.fresh hp
  have hlen : (ms.map V.int).length ≤ sizeLine := by rw [List.length_map, hl', sizeLine_eq]; omega
  have J : Inv X pins σ (upd H1 p (.lst (ms.map V.int))) { ({ s1 with heap := h', toks := tk } : Shared) with heap := s'.heap, gens := s'.gens, drawn := s'.drawn, toks := s'.toks } :=
    J0.call (ch := []) (Un.laid kk hp hn) (J0.hok.laid kk hp ⟨hlen, out.toList, c, vals_of_ints hi', hg'⟩) (by rw [g]; exact J0.bare) (fun _ z => nomatch z)
  have e : s' = { s1 with heap := s'.heap, gens := s'.gens, drawn := s'.drawn, toks := s'.toks } := by
    cases s'
    cases s1
    cases o
    rfl
  rw [e]
  exact ⟨.ref p, _, J, rfl, q ms p hs' (fun j => by rw [hm' j, decide_eq_true_eq]) hn⟩
/-- the ints of a list, each once, rising -/
def upI (ns : List Int) : List Int := (ns.mergeSort (fun a b => decide (a ≤ b))).eraseDups
def mSorSet (o : Bool) (m : EM) : EM := fun G S => (m G S).bind fun d S1 => match d with
  | .tup xs => (match intsD xs with
    | some ns => if ns.length < 60 ∧ (upI ns).Pairwise (· < ·) ∧ (upI ns).all (ns.contains ·) = true ∧ ns.all ((upI ns).contains ·) = true then nw o ((upI ns).map .int) S1 else .err
    | none => .err)
  | _ => .err
theorem sorted_same : ∀ {l m : List Int}, l.Pairwise (· < ·) → m.Pairwise (· < ·) → (∀ k, k ∈ l ↔ k ∈ m) → l = m
  | [], [], _, _, _ => rfl
  | [], y :: m, _, _, h => absurd ((h y).mpr List.mem_cons_self) (by simp)
  | x :: l, [], _, _, h => absurd ((h x).mp List.mem_cons_self) (by simp)
  | x :: l, y :: m, hl, hm, h => by
    obtain ⟨hl1, hl2⟩ := List.pairwise_cons.mp hl
    obtain ⟨hm1, hm2⟩ := List.pairwise_cons.mp hm
    have e : x = y := by
      rcases List.mem_cons.mp ((h x).mp List.mem_cons_self) with e | e
      · exact e
      · rcases List.mem_cons.mp ((h y).mpr List.mem_cons_self) with e2 | e2
        · exact e2.symm
        · have := hm1 x e; have := hl1 y e2; omega
    subst e
    rw [sorted_same hl2 hm2 fun k => ?_]
    have := h k
    constructor
    · intro hk
      rcases List.mem_cons.mp (this.mp (List.mem_cons_of_mem _ hk)) with e | e
      · have := hl1 k hk; omega
      · exact e
    · intro hk
      rcases List.mem_cons.mp (this.mpr (List.mem_cons_of_mem _ hk)) with e | e
      · have := hm1 k hk; omega
      · exact e
theorem je_sorSet (o : Bool) (hc : X.calm = true) (hg : Gl X "sorted") (hm : X.mg "sorted" = none) (hg2 : Gl X "set") (hm2 : X.mg "set" = none) (ha : JE X W a ma)
    (hs : starEach [a] X.env = (false, eval a X.env) :: starEach [] X.env := by rfl)
    (hs2 : starEach [.Call (.Name "set" p2) [a] [] pos2] X.env = (false, eval (.Call (.Name "set" p2) [a] [] pos2) X.env) :: starEach [] X.env := by rfl) :
    JE X W (.Call (.Name "sorted" p) [.Call (.Name "set" p2) [a] [] pos2] [] pos) (mSorSet o ma) := by
  obtain ⟨ta, pa, sa⟩ := ha
  refine ⟨_, pe_sorSet hc hg hm hg2 hm2 pa hs hs2, fun H0 G S sg H rho st Q h => sa H0 G S sg H rho st _ (bindE h fun d S1 v H1 rho1 s1 t1 r1 h1 => ?_)⟩
  split at h1
  · rename_i xs
    split at h1
    · rename_i ns hns
      split at h1
      · rename_i hok
        obtain ⟨h60, hp, h2, h3⟩ := hok
        have k1 := intsD_eq hns
        subst k1
        obtain ⟨q, vs, rfl, hq, r⟩ := tup_at r1
        have e := Reps.ints r
        subst e
        refine ⟨q, ns, rfl, hq, h60, fun ms z hms hmem hz => ?_⟩
        have em : ms = upI ns := sorted_same hms hp fun k => by
          rw [hmem k]
          constructor
          · intro hk
            have := List.all_eq_true.mp h3 k hk
            simpa using this
          · intro hk
            have := List.all_eq_true.mp h2 k hk
            simpa using this
        rw [em]
        exact new_lst s1 hz (Reps.ofInts _) h1
      · exact h1.elim
    · exact h1.elim
  · exact h1.elim
end
def resDk (k : Nat) (S : Sto) (d : D) : Option D := sub gRes (frz gRes true S k) d
theorem resDk_ok {K : PySem.W.Frag} {H0 H : Hp} {rho : List Addr} {S : Sto} (k : Nat) (s : SOk K H0 H rho S) {d e : D} {v : V} (h : resDk k S d = some e) (r : Rep K H0 H rho d v) : Rep K H0 H [] e v :=
  sub_ok (fun b z => by cases b <;> simp [gRes] at z ⊢) (frz_ok s (fun b z => by cases b <;> simp [gRes] at z ⊢) (fun _ => rfl) k) d e v h r
def callPd (F : Fn) (ds : List D) (S : Sto) : ER := match argDs S ds with
  | some as => (match F as [] with
    | .rt d S' => (match resDk 130 S' d with
      | some e => if allT e then .ok e S else .err
      | none => .err)
    | .ex c => .ex c S
    | .err => .err)
  | none => .err
theorem callPd_ok {K : PySem.W.Frag} {H0 H : Hp} {rho : List Addr} {S : Sto} {W : Value → Option Addr → Hp → Prop} {Q : VK} {F : Fn} {ds : List D} {vs : List V} (s : SOk K H0 H rho S) (r : Reps K H0 H rho ds vs) (h : EPost K H0 H rho W (callPd F ds S) Q) : spS K F vs H Q W := by
  unfold callPd at h
  split at h
  · rename_i as has
    refine ⟨H, [], [], as, base0 H, argDs_ok s has r, ?_⟩
    cases hF : F as [] with
    | rt d S' =>
      rw [hF] at h
      dsimp only at h
      intro v H' rho' s' t' r'
      cases he : resDk 130 S' d with
      | none => rw [he] at h; exact h.elim
      | some e =>
        rw [he] at h
        dsimp only at h
        split at h
        · rename_i ht
          have g := s'.ext
          exact h v H' rho (s.grow g) (.grow s g) (back_ok s.out e v ht (resDk_ok 130 s' he r'))
        · exact h.elim
    | ex c =>
      rw [hF] at h
      intro H' rho' S' s' t'
      exact h H' rho (s.grow s'.ext) (.grow s s'.ext)
    | err => rw [hF] at h; exact h.elim
  · exact h.elim
theorem je_callD {X : Cx} {W : WX} {x : Str} {F : Fn} {p pos : Pos} {e : Expr} {es : List Expr} {m : AM} (c : Cal X x F) (tk : Takes X W) (hg : Gl X x) (ha : JA X W (e :: es) m)
    (hdb : (x == ("__debug__" : Str)) = false := by decide) (he : starEach (e :: es) X.env = (false, eval e X.env) :: starEach es X.env := by rfl) (hpl : (backTo pos (starEach es X.env)).any (·.1) = false := by rfl) : JE X W (.Call (.Name x p) (e :: es) [] pos) (mCall (callPd F) m) :=
  je_callG callPd_ok c tk hg ha hdb he hpl
end Ab

end
section
set_option Elab.async false
set_option linter.all false
set_option maxRecDepth 100000
namespace Ab
open PySem PySem.Spec PyProof.Rows L2
def rEmp (K : PySem.W.Frag) (neg : Bool) : R2 := fun x y H Q => ∃ a b xs, x = .ref a ∧ y = .ref b ∧ SqL K H a xs ∧ SqL K H b [] ∧ Q (.bl (if neg then !xs.isEmpty else xs.isEmpty)) H
theorem op_eqE {X : Cx} (hu : X.A.units + 190 < cLine) : OpR X (compareOp .Eq) (rEmp X.K false) := by
  intro pins s σ H x y v u Q I rx ry h
  obtain ⟨a, b, xs, rfl, rfl, ha, hb, q⟩ := h
  cases rx
  cases ry
  obtain ⟨its, r1, p1, _⟩ := I.list ha
  obtain ⟨its2, r2, p2, _⟩ := I.list hb
  have e2 : its2.toArray.size = 0 := by
    have := r2.length
    rw [List.size_toArray, ← this]; rfl
  have e1 : its.toArray.size = xs.length := by rw [List.size_toArray, r1.length]
  cases xs with
  | nil =>
    have e1 : its.toArray.size = 0 := by rw [e1]; rfl
    refine SeqAt.eq_listAt (e := fun _ => true) p1.isList p2.isList (by rw [e1, e2]) (by omega) (fun j h1 => absurd h1 (by rw [e1]; exact Nat.not_lt_zero _)) ⟨.bl true, H, I, ?_, q⟩
    rw [e1]; rfl
  | cons x xs =>
    refine SeqAt.eq_list_lengthsAt p1.isList p2.isList (by rw [e1, e2]; simp) (by omega) ⟨.bl false, H, I, rfl, q⟩
theorem op_neE {X : Cx} (hu : X.A.units + 190 < cLine) : OpR X (compareOp .NotEq) (rEmp X.K true) := by
  intro pins s σ H x y v u Q I rx ry h
  obtain ⟨a, b, xs, rfl, rfl, ha, hb, q⟩ := h
  cases rx
  cases ry
  obtain ⟨its, r1, p1, _⟩ := I.list ha
  obtain ⟨its2, r2, p2, _⟩ := I.list hb
  have e2 : its2.toArray.size = 0 := by
    have := r2.length
    rw [List.size_toArray, ← this]; rfl
  have e1 : its.toArray.size = xs.length := by rw [List.size_toArray, r1.length]
  cases xs with
  | nil =>
    have e1 : its.toArray.size = 0 := by rw [e1]; rfl
    refine SeqAt.RcNeAt.lists (A := X.A) (e := fun _ => true) p1.isList p2.isList (by rw [e1, e2]) (by omega) (fun j h1 => absurd h1 (by rw [e1]; exact Nat.not_lt_zero _)) X.prog X.w X.xe _ ⟨.bl false, H, I, ?_, q⟩
    rw [e1]; rfl
  | cons x xs =>
    exact SeqAt.RcNeAt.lists_lengths (A := X.A) p1.isList p2.isList (by rw [e1, e2]; simp) (by omega) X.prog X.w X.xe _ ⟨.bl true, H, I, rfl, q⟩
/-- beside the empty list: by its length, whatever it holds; else as fEq -/
def fEqE (neg : Bool) : D → D → Sto → ER := fun d e S => match seqL S d, seqL S e with
  | some xs, some [] => .ok (.bl (if neg then !xs.isEmpty else xs.isEmpty)) S
  | _, _ => .err
theorem sim_eqE {K : PySem.W.Frag} (neg : Bool) : SimR K (rEmp K neg) (fEqE neg) := fun H0 H rho S W d e x y s rd re Q q => by
  unfold fEqE at q
  split at q
  · rename_i xs h1 h2
    obtain ⟨a, vs, rfl, ha, ra⟩ := seqL_at s h1 rd
    obtain ⟨b, ws, rfl, hb, rb⟩ := seqL_at s h2 re
    simp only [Reps] at rb
    subst rb
    refine ⟨a, b, vs, rfl, rfl, ha, hb, ?_⟩
    have e : vs.isEmpty = xs.isEmpty := by
      have := ra.length
      cases xs <;> cases vs <;> simp at this ⊢
    rw [e]
    exact EPost.done s (rep_scal (d := .bl _) rfl) q
  · exact q.elim
def fEqX (neg : Bool) : D → D → Sto → ER := orR (fEqE neg) (fEq neg)
theorem cr_eqE {X : Cx} (hu : X.A.units + 190 < cLine) : CmpR X .Eq (fEqX false) := ⟨_, (op_eqE hu).or (op_eq.or (op_eqA hu)), (sim_eqE false).or sim_eq⟩
theorem cr_neE {X : Cx} (hu : X.A.units + 190 < cLine) : CmpR X .NotEq (fEqX true) := ⟨_, (op_neE hu).or (op_ne.or (op_neA hu)), (sim_eqE true).or sim_ne⟩
section
variable {S : Sto} {d e : D} {xs : List D} {a b f : Bool} {n : Nat}
@[simp] theorem ev_eqX : fEqX a d (.lst b []) S = (match seqL S d with
  | some xs => .ok (.bl (if a then !xs.isEmpty else xs.isEmpty)) S
  | none => fEq a d (.lst b []) S) := by
  unfold fEqX orR fEqE
  rw [ev_seqLl]
  cases seqL S d <;> rfl
@[simp] theorem ev_seqLtup : seqL S (.tup xs) = none := (rfl)
@[simp] theorem ev_seqLnon : seqL S .non = none := (rfl)
@[simp] theorem ev_seqLint {i : Int} : seqL S (.int i) = none := (rfl)
@[simp] theorem ev_seqLstr {i : Str} : seqL S (.str i) = none := (rfl)
@[simp] theorem ev_seqLbl {i : Bool} : seqL S (.bl i) = none := (rfl)
@[simp] theorem ev_seqLemp {i : Bool} : seqL S (.emp i) = none := (rfl)
end
def rCatL (K : PySem.W.Frag) : R2 := fun x y H Q => ∃ l b xs zs, x = .ref l ∧ y = .ref b ∧ SqL K H l xs ∧ SqL K H b zs ∧ xs.length + zs.length ≤ sizeLine ∧ ∀ p, H p = none → Q (.ref p) (upd H p (.lst (xs ++ zs)))
theorem op_catL {X : Cx} : OpR X (binaryOp .Add) (rCatL X.K) := by
  intro pins s σ H x y v u Q I rx ry h
  obtain ⟨l, b, xs, zs, rfl, rfl, hH, hB, hz, q⟩ := h
  cases rx
  cases ry
  obtain ⟨its, r, p1, z1⟩ := I.list hH
  obtain ⟨its2, r2, p2, z2⟩ := I.list hB
  have l1 := r.length
  have l2 := r2.length
  obtain ⟨⟨cls, dd, data, sl⟩, ho, hc, n, hd⟩ := id p1.isList
  obtain ⟨⟨cls2, dd2, data2, sl2⟩, ho2, hc2, n2, hd2⟩ := id p2.isList
  simp only at hc hd hc2 hd2
  subst hc hd hc2 hd2
  refine concat_meets ⟨_, ho, rfl⟩ ⟨_, ho2, rfl⟩ noFill_list_add seq_list_add PySem.F.slot_list_add PySem.F.entry_list_add (PySem.F.args_list_add_2 _ _) (list_addW l b its.toArray its2.toArray n n2 dd dd2 sl sl2 (by rw [List.size_toArray, List.size_toArray]; omega)) ⟨ho, ho2, ?_⟩
  have ea : its.toArray ++ its2.toArray = (its ++ its2).toArray := by simp
  rw [ea]
  exact ⟨.ref _, _, I.lnew (t' := s.toks) (r.append r2) (by rw [List.length_append]; omega), rfl, q _ I.fresh⟩
def fCatL (o : Bool) : D → D → Sto → ER := fun d e S => match seqL S d, seqL S e with
  | some xs, some ys => if xs.length + ys.length ≤ big then nw o (xs ++ ys) S else .err
  | _, _ => .err
theorem sim_catL {K : PySem.W.Frag} (o : Bool) : SimR K (rCatL K) (fCatL o) := fun H0 H rho S W d e x y s rd re Q q => by
  unfold fCatL at q
  split at q
  · rename_i xs ys h1 h2
    split at q
    · rename_i hl
      obtain ⟨a, vs, rfl, ha, ra⟩ := seqL_at s h1 rd
      obtain ⟨b, ws, rfl, hb, rb⟩ := seqL_at s h2 re
      exact ⟨a, b, vs, ws, rfl, rfl, ha, hb, by rw [← ra.length, ← rb.length]; exact big_le hl, fun p hp => new_lst s hp (ra.append rb) q⟩
    · exact q.elim
  · exact q.elim
section
variable {X : Cx} {W : WX} {a b : Expr} {ma mb : EM} {pos : Pos}
theorem je_catL (o : Bool) (ha : JE X W a ma) (hb : JE X W b mb) : JE X W (.BinOp a .Add b pos) (mBin (fCatL o) ma mb) := je_op op_catL (sim_catL o) ha hb
end
end Ab

end
section

end
section
set_option Elab.async false
set_option linter.all false
set_option maxRecDepth 100000
namespace Ab
open PySem PySem.Spec PyProof.Rows L2
inductive FRX where
  | rt (d : D) (S : Sto) | ex (c : Str) (S : Sto) | err
abbrev FnX := List D → Sto → FRX
def FPostX (K : PySem.W.Frag) (H0 H : Hp) (rho : List Addr) (r : FRX) (Q : VK) (E : XK) : Prop := match r with
  | .rt d S' => ∀ v H' rho', SOk K H0 H' rho' S' → Stp H rho H' rho' → Rep K H0 H' rho' d v → Q v H'
  | .ex c S' => ∀ H' rho', SOk K H0 H' rho' S' → Stp H rho H' rho' → E (.ref (He.ga K c)) none H'
  | .err => False
def spX (K : PySem.W.Frag) (F : FnX) : Sp := fun vs H Q E => ∃ H0 rho S ds, SOk K H0 H rho S ∧ Reps K H0 H rho ds vs ∧ FPostX K H0 H rho (F ds S) Q E
/-- a call that works on our things, and may raise -/
def callX (F : FnX) (ds : List D) (S : Sto) : ER := match F ds S with
  | .rt d S' => .ok d S'
  | .ex c S' => .ex c S'
  | .err => .err
section
variable {K : PySem.W.Frag} {H0 H : Hp} {rho : List Addr} {S : Sto} {W : Value → Option Addr → Hp → Prop} {Q : VK} {E : XK} {F : FnX} {ds : List D} {vs : List V}
theorem callX_ok (s : SOk K H0 H rho S) (r : Reps K H0 H rho ds vs) (h : EPost K H0 H rho W (callX F ds S) Q) : spX K F vs H Q W := by
  refine ⟨H0, rho, S, ds, s, r, ?_⟩
  unfold callX at h
  cases hF : F ds S with
  | rt d S' => rw [hF] at h; exact h
  | ex c S' => rw [hF] at h; exact h
  | err => rw [hF] at h; exact h.elim
end
structure CalX (X : Cx) (x : Str) (F : FnX) : Prop where
  ex : ∃ (k : Nat) (fd : FuncData) (ps : List Str), FnOk X.prog X.w X.K X.mg X.base (L2.CX X.prog X.w) k (He.ga X.K x) fd ps (spX X.K F) ∧ Room k X.A ∧ Binds X.K fd ps []
  mg : X.mg x = some (.ref (He.ga X.K x))
  kp : PySem.W.keepIn X.K (.ref (He.ga X.K x)) = true
theorem CalX.tr {X : Cx} {x : Str} {F : FnX} {pn : List (Addr × Obj)} {xe : Value → Shared → Prop} (c : CalX X x F) : CalX (X.tr pn xe) x F := ⟨c.ex, c.mg, c.kp⟩
section
variable {X : Cx} {W : WX}
theorem je_callX {x : Str} {F : FnX} {p pos : Pos} {e : Expr} {es : List Expr} {m : AM} (c : CalX X x F) (tk : Takes X W) (hg : Gl X x) (ha : JA X W (e :: es) m)
    (hdb : (x == ("__debug__" : Str)) = false := by decide) (he : starEach (e :: es) X.env = (false, eval e X.env) :: starEach es X.env := by rfl) (hpl : (backTo pos (starEach es X.env)).any (·.1) = false := by rfl) : JE X W (.Call (.Name x p) (e :: es) [] pos) (mCall (callX F) m) := by
  obtain ⟨⟨k, fd, ps, hF, hr, hb⟩, hm, hk⟩ := c
  obtain ⟨ta, pa, sa⟩ := ha
  refine ⟨_, pe_callS hF hr hg hm hk hb (fun σ => passAt tk σ) pa hdb he hpl, fun H0 G S sg H rho st Q h => ?_⟩
  exact sa H0 G S sg H rho st _ (bindA h fun ds S1 vs H1 rho1 s1 t1 r1 h1 => callX_ok s1 r1 h1)
end
def runX (n len : Nat) (m : SM) : FnX := fun ds S => if ds.length = n then (match m (ds.map some ++ List.replicate (len - n) none) S with
  | .nx _ S' => .rt .non S'
  | .rt d S' => .rt d S'
  | .ex c _ S' => .ex c S'
  | _ => .err) else .err
structure FxX (P : Program) (w : World) (K : PySem.W.Frag) (mg : Str → Option Value) (base : Heap) (x : Str) (F : FnX) (k : Nat) : Prop where
  ex : ∃ (fd : FuncData) (ps : List Str), FnOk P w K mg base (L2.CX P w) k (He.ga K x) fd ps (spX K F) ∧ Binds K fd ps []
  mg : mg x = some (.ref (He.ga K x))
  kp : PySem.W.keepIn K (.ref (He.ga K x)) = true
section
variable {P : Program} {w : World} {K : PySem.W.Frag} {mg : Str → Option Value} {base : Heap}
theorem FxX.cal {x : Str} {F : FnX} {j k : Nat} (h : FxX P w K mg base x F j) {N : List Str} {qual : Str} {scope : Scope} {f : Addr} {cdv : Value} {A : Around} {outer : List Env} {s : Shared} {H : Hp} {E : XK} (hr : Room k (A.deeper (envOfC qual scope s.heap.objs.size f cdv))) (hj : j ≤ k) :
    CalX (cxOf (L2.CX P w) P w K mg base N qual scope f cdv A outer s H E) x F := by
  obtain ⟨fd, ps, hF, hb⟩ := h.ex
  exact ⟨⟨j, fd, ps, hF, hr.mono hj, hb⟩, h.mg, h.kp⟩
theorem mk_fnX {x qual : Str} {params : Arguments} {body : List Stmt} {scope : Scope} {fd : FuncData} {N ps : List Str} {k : Nat} (D : FunD K x qual params body scope [] [] (He.ga K x) fd) (S : FnScope N ps scope) (m : SM)
    (hbody : ∀ (cdv : Value) (A : Around) (outer : List Env) (s : Shared) (H : Hp) (E : XK), Room k (A.deeper (envOfC qual scope s.heap.objs.size (He.ga K x) cdv)) → JSs (cxOf (L2.CX P w) P w K mg base N qual scope (He.ga K x) cdv A outer s H E) (WD E) body m) :
    FnOk P w K mg base (L2.CX P w) (k + 1) (He.ga K x) fd ps (spX K (runX ps.length N.length m)) := by
  refine D.ok S (fun vs H Q E h => ?_) (fun cdv A outer s H vs Q E hr h => ?_)
  · obtain ⟨H0, rho, St, ds, so, r, q⟩ := h
    unfold runX at q
    split at q
    · rename_i hl
      rw [← r.length]; exact hl
    · exact q.elim
  · obtain ⟨ts, p, si⟩ := hbody cdv A outer s H E hr
    refine ⟨ts, p, ?_⟩
    obtain ⟨H0, rho, St, ds, so, r, q⟩ := h
    unfold runX at q
    split at q
    · rename_i hl
      refine si H0 _ St _ H rho (start_sat N so r) _ ?_
      rw [hl]
      generalize m (ds.map some ++ List.replicate (N.length - ps.length) none) St = z at q
      cases z with
      | nx G' S' => exact fun sg' H' rho' s' t' => q .non H' rho' s'.s t' (by simp [Rep])
      | rt d S' => exact q
      | ex c G' S' => exact fun sg' H' rho' s' t' => q H' rho' s'.s t'
      | bk G' S' => exact q.elim
      | ct G' S' => exact q.elim
      | err => exact q.elim
    · exact q.elim
theorem mk_fxX {x qual : Str} {params : Arguments} {body : List Stmt} {scope : Scope} {fd : FuncData} {N ps : List Str} {k : Nat} (D : FunD K x qual params body scope [] [] (He.ga K x) fd) (S : FnScope N ps scope) (hg : mg x = some (.ref (He.ga K x))) (hb : Binds K fd ps []) (m : SM)
    (hbody : ∀ (cdv : Value) (A : Around) (outer : List Env) (s : Shared) (H : Hp) (E : XK), Room k (A.deeper (envOfC qual scope s.heap.objs.size (He.ga K x) cdv)) → JSs (cxOf (L2.CX P w) P w K mg base N qual scope (He.ga K x) cdv A outer s H E) (WD E) body m) :
    FxX P w K mg base x (runX ps.length N.length m) (k + 1) := ⟨⟨fd, ps, mk_fnX D S m hbody, hb⟩, hg, D.kp⟩
end
@[simp] theorem ev_callX {F : FnX} {ds : List D} {S : Sto} : callX F ds S = (match F ds S with
  | .rt d S' => .ok d S'
  | .ex c S' => .ex c S'
  | .err => .err) := (rfl)
theorem ev_runX {n len : Nat} {q : SM} {ds : List D} {S : Sto} : runX n len q ds S = if ds.length = n then (match q (ds.map some ++ List.replicate (len - n) none) S with
  | .nx _ S' => .rt .non S'
  | .rt d S' => .rt d S'
  | .ex c _ S' => .ex c S'
  | _ => .err) else .err := (rfl)
end Ab

end
section
set_option Elab.async false
set_option linter.all false
set_option maxRecDepth 100000
set_option maxHeartbeats 2000000
namespace Ab
open PySem PySem.Spec PyProof.Rows L2
/-- what a def promises of an error that is handed to it -/
def FnP (P : Program) (w : World) (K : PySem.W.Frag) (mg : Str → Option Value) (base : Heap) (CX : CXT) (k : Nat) (f : Addr) (fd : FuncData) (n : Str) (sp : Addr × Obj → Hp → VK → Prop) : Prop :=
  ∀ (A : Around) (outer : List Env) (s : Shared) (H : Hp) (args : Args) (Q : VK) (p : Addr × Obj), L2H.RoomH k A → L2H.PinOk outer H s p → Env0 P w K mg base A outer s H → BindsTo s fd args [(n, .ref p.1)] → sp p H Q →
    codeAny (model P w) A (.call (.ref f) args) (CR CX outer P w H s Q (fun _ _ _ => False)) s
section
variable {P : Program} {w : World} {K : PySem.W.Frag} {mg : Str → Option Value} {base : Heap}
theorem fnP_of {x qual n : Str} {params : Arguments} {body : List Stmt} {scope : Scope} {f : Addr} {fd : FuncData} {CX : CXT} {N : List Str} {k : Nat} {sp : Addr × Obj → Hp → VK → Prop} (D : FunD K x qual params body scope [] [] f fd) (S : FnScope N [n] scope)
    (hbody : ∀ (cdv : Value) (A : Around) (outer : List Env) (s : Shared) (H : Hp) (Q : VK) (p : Addr × Obj), L2H.RoomH k (A.deeper (envOfC qual scope s.heap.objs.size f cdv)) → sp p H Q →
      ∃ t, PSs (L2H.cxH CX P w K mg base N qual scope f cdv A outer s H (fun _ _ _ => False) p) body t ∧ t { nx := fun _ H' => Q .non H', rt := Q } (L2.start N [.ref p.1]) H) : FnP P w K mg base CX (k + 1) f fd n sp := by
  obtain ⟨oc, od, dV, kV, doc, pm, an, cdv, ct, osl, rfl, lk, hcd, _, _⟩ := D.ex
  intro A outer s H args Q p hr hpin e0 hb hsp
  have up : ∀ b o, base.get? b = some o → s.heap.get? b = some o := fun b o e => (e0.bs b o e).1
  have KX : K.In s.heap := e0.mod.kin.keeps up
  refine codeAny_call_function hr.depth (KX _ _ lk) rfl S.co S.gen rfl (PySem.W.codeRec_of KX hcd) (hb _ _ _ _ (wpAny_newFunctionEnv_cells S.kind (fun y hy => ?_) fun env he s1 x => ?_))
  · exact (S.par y.1 (List.of_mem_zip (show (y.1, y.2) ∈ [n].zip [Value.ref p.1] from hy)).1).elim .inl fun q => .inr ⟨q, PySem.W.cellsFrom_some _ _ _ (.inl q)⟩
  · subst he
    obtain ⟨t, ht, hq⟩ := hbody cdv A outer s H Q p (hr.deeper _) hsp
    have r : Vals [V.ref p.1] [Value.ref p.1] := .cons rfl .nil
    refine ⟨(e0.mod.nolimit.keeps up).keeps x.toInCall.keep, codeAny_func (wpAny_mono (ht.run [] s1 (L2.start N [.ref p.1]) H _ (L2H.inv_startH S hpin e0 rfl r x) hq) (fun fl s' hs => ?_) fun _ _ hs => hs)⟩
    match fl, hs with
    | .ret u, ⟨v, _, H', J, rv, q⟩ => exact ⟨v, H', J.os, J.bare, J.base, J.hok, rv, q⟩
    | .next, ⟨_, H', J, q⟩ => exact ⟨V.non, H', J.os, J.bare, J.base, J.hok, rfl, q⟩
    | .brk, ⟨_, _, _, q⟩ => exact q.elim
    | .cont, ⟨_, _, _, q⟩ => exact q.elim
end
section
variable {X : Cx} {CX : CXT} {k : Nat} {f : Addr} {fd : FuncData} {n x : Str} {sp : Addr × Obj → Hp → VK → Prop} {q pos : Pos} {e : Expr} {te : TE} {p : Addr × Obj}
theorem run_fnP {pins : List (Addr × Obj)} {σ : L2.St} {H : Hp} {s : Shared} {Q : VK} (F : FnP X.prog X.w X.K X.mg X.base CX k f fd n sp) (hr : L2H.RoomH k X.A) (hp : p ∈ X.pn) (hb : Binds X.K fd [n] []) (hx : PassesAt CX X σ (fun _ _ _ => False))
    (I : Inv X pins σ H s) (h : sp p H Q) : wpAny (model X.prog X.w) X.A (call (.ref f) [.ref p.1]) (EP X pins σ Q) X.xe s := by
  have b := hb s [.ref p.1] I.kIn rfl
  rw [List.append_nil] at b
  have P1 := I.pin p (List.mem_append_left _ hp)
  have hpin : L2H.PinOk X.stack H s p := ⟨P1.1, P1.2.1, fun hm => (List.mem_cons.mp (I.stkSub p.1 hm)).elim P1.2.2.1 P1.2.2.2.1, P1.2.2.2.2⟩
  refine wpAny_call (codeAny_mono (F X.A X.stack s H ⟨[.ref p.1], []⟩ Q p hr hpin I.env0 b h) fun r s' hq => ?_)
  match r, hq with
  | .error e, hq => exact hx pins H s e s' I hq
  | .ok (.ret u), hq => exact I.after hq
  | .ok .next, hq => exact False.elim hq
  | .ok .brk, hq => exact False.elim hq
  | .ok .cont, hq => exact False.elim hq
def tCallP (p : Addr × Obj) (sp : Addr × Obj → Hp → VK → Prop) (te : TE) : TE := fun σ H Q => tCons te tNil σ H fun vs H1 => vs = [V.ref p.1] ∧ sp p H1 Q
theorem pe_callP (F : FnP X.prog X.w X.K X.mg X.base CX k f fd n sp) (hr : L2H.RoomH k X.A) (hp : p ∈ X.pn) (hg : Gl X x) (hm : X.mg x = some (.ref f)) (hk : PySem.W.keepIn X.K (.ref f) = true) (hb : Binds X.K fd [n] []) (hx : ∀ σ, PassesAt CX X σ (fun _ _ _ => False))
    (ha : PE X e te) (hdb : (x == ("__debug__" : Str)) = false := by decide) (he : starEach [e] X.env = (false, eval e X.env) :: starEach [] X.env := by rfl) :
    PE X (.Call (.Name x q) [e] [] pos) (tCallP p sp te) := by
  refine ⟨fun pins s σ H Q I h => ?_⟩
  refine wpAny_Call_Name_kw (ld_glob I hg hm ?_ hdb)
  have pa : PA X [e] _ := pa_cons ha pa_nil he
  refine PySem.W.callWith_K (h₀ := X.base) I.ok.mod.kin hk (thn (pa.run pos pins s σ H (fun vs H1 => vs = [V.ref p.1] ∧ sp p H1 Q) I ?_) fun us s1 ⟨vs, H1, I1, r, q⟩ => ⟨I1.kIn, ?_⟩) he rfl
  · exact h
  · obtain ⟨rfl, q⟩ := q
    obtain ⟨u, rfl, ru⟩ := vals1 r
    obtain rfl : u = .ref p.1 := ru
    exact run_fnP F hr hp hb (hx σ) I1 q
end
section
variable {X : Cx} {i : Nat} {a : Addr} {oe : Obj} {c n C : Str} {cs Cs : List Str} {p p2 p3 pos : Pos}
theorem call_isP {D : Addr} (hp : (a, oe) ∈ X.pn) (C : ExcC X.K D) (hz : Zc (.ref D) none oe) (hf : ∃ vs, oe.data = .fields vs) : CallR X (.builtin "isinstance") (rIsE X.K D a) := by
  intro pins s σ H xs us Q I r h
  obtain ⟨c, cv, b, rfl, hcv, e, q⟩ := h
  obtain ⟨u1, u2, rfl, r1, r2⟩ := vals2 r
  obtain rfl := hcv _ r2
  cases (show u1 = Value.ref a from r1)
  have hget := (I.pin (a, oe) (List.mem_append_left _ hp)).1
  have J : PySem.W.InstAt s.heap a oe D none := by
    obtain ⟨vs, hv⟩ := hf
    obtain ⟨oc, od, oda, osl⟩ := oe
    obtain ⟨h1, h2⟩ := hz
    dsimp only at h1 h2 hv
    subst h1 h2 hv
    exact ⟨hget, rfl, rfl, trivial⟩
  exact PySem.W.kia_one (PySem.W.handS_kitx_exc C.hg C.hk C.hs C.hd C.ha C.hn C.ht C.hm) I.kIn J e (fun z => nomatch z) fun tk => ⟨.bl b, H, I.kept (t' := tk) fun _ _ z => z, rfl, q⟩
theorem call_isPT {D : Addr} (hp : (a, oe) ∈ X.pn) (C : ExcC X.K D) (hz : Zc (.ref D) none oe) (hf : ∃ vs, oe.data = .fields vs) : CallR X (.builtin "isinstance") (rIsET X.K D a) := by
  intro pins s σ H xs us Q I r h
  obtain ⟨tp, ds, ws, b, rfl, hT, k, e, q⟩ := h
  obtain ⟨u1, u2, rfl, r1, r2⟩ := vals2 r
  cases (show u2 = Value.ref tp from r2)
  cases (show u1 = Value.ref a from r1)
  obtain ⟨_, its, rv, o, h1, h2, n, h3⟩ := (show ObjOk X.prog X.w H s.heap tp (.tup ds) from I.hok tp _ hT)
  have e3 := ClsV.all k rv
  subst e3
  obtain ⟨oc, od, dt, sl⟩ := o
  simp only at h2 h3
  subst h2 h3
  have hget := (I.pin (a, oe) (List.mem_append_left _ hp)).1
  have J : PySem.W.InstAt s.heap a oe D none := by
    obtain ⟨vs, hv⟩ := hf
    obtain ⟨oc, od, oda, osl⟩ := oe
    obtain ⟨h1, h2⟩ := hz
    dsimp only at h1 h2 hv
    subst h1 h2 hv
    exact ⟨hget, rfl, rfl, trivial⟩
  exact PySem.W.kia_tup (PySem.W.handS_kitx_exc C.hg C.hk C.hs C.hd C.ha C.hn C.ht C.hm) I.kIn J h1 e (fun z => nomatch z) fun tk => ⟨.bl b, H, I.tok tk, rfl, q⟩
theorem jep_is (hp : (a, oe) ∈ X.pn) (hK : ExK X.K cs Cs) (hc : c ∈ cs) (hC : C ∈ Cs) (hz : Zc (.ref (He.ga X.K c)) none oe) (hf : ∃ vs, oe.data = .fields vs) (hg : Gl X "isinstance") (hm : X.mg "isinstance" = none) (hN : X.N[i]? = some n) (hv : Vis X.env.scope n) (nC : NamesC X C)
    (hd : (n == ("__debug__" : Str)) = false := by decide) (hcd : (n == ("__classdict__" : Str)) = false := by decide)
    (h1 : starEach [.Name n p2, .Name C p3] X.env = (false, eval (.Name n p2) X.env) :: starEach [.Name C p3] X.env := by rfl) (h2 : (backTo pos (starEach [.Name C p3] X.env)).any (·.1) = false := by rfl) (h3 : starEach [.Name C p3] X.env = (false, eval (.Name C p3) X.env) :: starEach [] X.env := by rfl) :
    JEe X i a (.Call (.Name "isinstance" p) [.Name n p2, .Name C p3] [] pos) (mC (.bl (subE c C))) := by
  refine ⟨_, pe_callB (call_isP hp (hK.c c hc) hz hf) hg hm (by decide +kernel) (pa_cons (pe_var hN hv hd hcd) (pa_cons (pe_cls nC) pa_nil h3) h1) (by decide) (by decide) h1 h2, fun H0 G S sg H rho st hi Q h => ?_⟩
  refine ⟨.ref a, hi, ?_⟩
  exact ⟨clsW X.K C, clsV X.K C, subE c C, rfl, fun u hu => clsW_only hu, hK.k c hc C hC, EPost.done st.s (rep_scal (d := .bl _) rfl) h⟩
theorem jep_isT {es : List Expr} {Ds : List Str} {k : Nat} (hp : (a, oe) ∈ X.pn) (hK : ExK X.K cs Cs) (hc : c ∈ cs) (hC : ∀ C ∈ Ds, C ∈ Cs) (hl : Ds.length ≤ big) (hz : Zc (.ref (He.ga X.K c)) none oe) (hf : ∃ vs, oe.data = .fields vs) (hg : Gl X "isinstance") (hm : X.mg "isinstance" = none) (hN : X.N[i]? = some n) (hv : Vis X.env.scope n) (nC : NamesCs X es Ds)
    (hd : (n == ("__debug__" : Str)) = false := by decide) (hcd : (n == ("__classdict__" : Str)) = false := by decide)
    (h1 : starEach [.Name n p2, .Tuple es k p3] X.env = (false, eval (.Name n p2) X.env) :: starEach [.Tuple es k p3] X.env := by rfl) (h2 : (backTo pos (starEach [.Tuple es k p3] X.env)).any (·.1) = false := by rfl) (h3 : starEach [.Tuple es k p3] X.env = (false, eval (.Tuple es k p3) X.env) :: starEach [] X.env := by rfl) :
    JEe X i a (.Call (.Name "isinstance" p) [.Name n p2, .Tuple es k p3] [] pos) (mC (.bl (Ds.any (subE c)))) := by
  obtain ⟨ta, pa, qa⟩ := nC.pa
  refine ⟨_, pe_callB (call_isPT hp (hK.c c hc) hz hf) hg hm (by decide +kernel) (pa_cons (pe_var hN hv hd hcd) (pa_cons (pe_tup pa) pa_nil h3) h1) (by decide) (by decide) h1 h2, fun H0 G S sg H rho st hi Q h => ?_⟩
  refine ⟨.ref a, hi, ?_⟩
  refine qa sg H _ ⟨by simpa using big_le hl, fun q hq => ?_⟩
  refine ⟨q, Ds.map (clsW X.K), Ds.map (clsV X.K), Ds.any (subE c), rfl, upd_same, cls_all X.K Ds, kit_any fun C h => hK.k c hc C (hC C h), ?_⟩
  exact h _ _ rho (st.s.laid hq _) (Stp.new st.s hq _) (rep_scal (d := .bl _) rfl)
end
def JSsR (X : Cx) (i : Nat) (a : Addr) (sts : List Stmt) (m : SM) : Prop := ∃ ts, PSs X sts ts ∧ ∀ H0 G S sg H rho, Sat X.K H0 G S sg H rho → sg[i]? = some (some (.ref a)) → ∀ E : Ends, SPost X.K H0 H rho Wn (m G S) E → ts E sg H
def mSeqR (q r : SM) : SM := fun G S => match q G S with
  | .nx G' S' => r G' S'
  | _ => .err
section
variable {X : Cx} {i : Nat} {a : Addr} {st : Stmt} {rest : List Stmt} {q r : SM}
theorem jsr_of (h : JSs X Wn rest r) : JSsR X i a rest r := let ⟨t, p, s⟩ := h; ⟨t, p, fun H0 G S sg H rho st _ E h => s H0 G S sg H rho st E h⟩
theorem jsr_cons (h1 : JSe X i a st q) (h2 : JSsR X i a rest r) : JSsR X i a (st :: rest) (mSeqR q r) := by
  obtain ⟨t, p, s⟩ := h1
  obtain ⟨u, w, z⟩ := h2
  refine ⟨_, pss_cons p w, fun H0 G S sg H rho st hi E h => s H0 G S sg H rho st hi _ ?_⟩
  unfold mSeqR at h
  cases e : q G S with
  | nx G' S' =>
    rw [e] at h
    exact fun sg' H' rho' s' hi' t' => z H0 G' S' sg' H' rho' s' hi' E (SPost.step t' h)
  | _ => rw [e] at h; exact h.elim
end
def resP (K : PySem.W.Frag) (H : Hp) (r : SR) (Q : VK) : Prop := match r with
  | .rt d S' => ∀ v H' rho', SOk K H H' rho' S' → Stp H [] H' rho' → Rep K H H' rho' d v → Q v H'
  | _ => False
def spP (K : PySem.W.Frag) (cs : List Str) (n : Nat) (m : Str → SM) (p : Addr × Obj) (H : Hp) (Q : VK) : Prop :=
  ∃ c, c ∈ cs ∧ Zc (.ref (He.ga K c)) none p.2 ∧ (∃ vs, p.2.data = .fields vs) ∧ resP K H (m c (List.replicate n none) []) Q
structure FxP (P : Program) (w : World) (K : PySem.W.Frag) (mg : Str → Option Value) (base : Heap) (x : Str) (cs : List Str) (n : Nat) (m : Str → SM) (k : Nat) : Prop where
  ex : ∃ (fd : FuncData) (q : Str), FnP P w K mg base (L2.CX P w) k (He.ga K x) fd q (spP K cs n m) ∧ Binds K fd [q] []
  mg : mg x = some (.ref (He.ga K x))
  kp : PySem.W.keepIn K (.ref (He.ga K x)) = true
section
variable {P : Program} {w : World} {K : PySem.W.Frag} {mg : Str → Option Value} {base : Heap}
theorem mk_fxP {x qual n : Str} {params : Arguments} {body : List Stmt} {scope : Scope} {fd : FuncData} {N : List Str} {k : Nat} {cs : List Str} (D : FunD K x qual params body scope [] [] (He.ga K x) fd) (S : FnScope N [n] scope) (hg : mg x = some (.ref (He.ga K x))) (hb : Binds K fd [n] []) (hN : 1 ≤ N.length) (m : Str → SM)
    (hbody : ∀ (cdv : Value) (A : Around) (outer : List Env) (s : Shared) (H : Hp) (p : Addr × Obj) (c : Str), c ∈ cs → Zc (.ref (He.ga K c)) none p.2 → (∃ vs, p.2.data = .fields vs) →
      JSsR (L2H.cxH (L2.CX P w) P w K mg base N qual scope (He.ga K x) cdv A outer s H (fun _ _ _ => False) p) 0 p.1 body (m c)) :
    FxP P w K mg base x cs N.length m (k + 1) := by
  refine ⟨⟨fd, n, fnP_of D S (fun cdv A outer s H Q p hr h => ?_), hb⟩, hg, D.kp⟩
  obtain ⟨c, hc, hz, hf, h⟩ := h
  obtain ⟨ts, ps, si⟩ := hbody cdv A outer s H p c hc hz hf
  refine ⟨ts, ps, si H (List.replicate N.length none) [] _ H [] ⟨base0 H, ?_, fun i d hd => ?_⟩ ?_ _ ?_⟩
  · simp [L2.start]; omega
  · have := List.mem_of_getElem? hd
    rw [List.mem_replicate] at this
    cases this.2
  · simp [L2.start]
  · unfold resP at h
    cases e : m c (List.replicate N.length none) [] with
    | rt d S' => rw [e] at h; exact h
    | _ => rw [e] at h; exact h.elim
def mKind (r : SR) : EM := fun _ S => match r with
  | .rt d S' => (match resD S' d with
    | some e => if allT e then .ok e S else .err
    | none => .err)
  | _ => .err
end
section
variable {X : Cx} {i n : Nat} {a : Addr} {oe : Obj} {pn : List (Addr × Obj)} {c x y : Str} {cs : List Str} {m : Str → SM} {k : Nat} {p p2 pos : Pos}
theorem jee_callP (F : FxP X.prog X.w X.K X.mg X.base x cs n m k) (hr : Room k X.A) (hc : c ∈ cs) (hz : Zc (.ref (He.ga X.K c)) none oe) (hf : ∃ vs, oe.data = .fields vs) (hg : Gl X x) (hN : X.N[i]? = some y) (hv : Vis X.env.scope y)
    (hd : (y == ("__debug__" : Str)) = false := by decide) (hcd : (y == ("__classdict__" : Str)) = false := by decide) (hdb : (x == ("__debug__" : Str)) = false := by decide)
    (he : starEach [.Name y p2] X.env = (false, eval (.Name y p2) X.env) :: starEach [] X.env := by rfl) :
    JEe (X.suite a ((a, oe) :: pn)) i a (.Call (.Name x p) [.Name y p2] [] pos) (mKind (m c (List.replicate n none) [])) := by
  obtain ⟨⟨fd, q, hF, hb⟩, hm, hk⟩ := F
  refine ⟨_, pe_callP (X := X.suite a ((a, oe) :: pn)) (p := (a, oe)) hF ⟨hr.dp, hr.un⟩ List.mem_cons_self hg hm hk hb (fun σ => passAt (W := Wn) (fun _ _ z => ?_) σ) (pe_var (X := X.suite a ((a, oe) :: pn)) hN hv hd hcd) hdb he, fun H0 G S sg H rho st hi Q h => ?_⟩
  · exact takes0 _ _ z
  · refine ⟨.ref a, hi, rfl, c, hc, hz, hf, ?_⟩
    unfold mKind at h
    unfold resP
    cases e : m c (List.replicate n none) [] with
    | rt d S' =>
      rw [e] at h
      dsimp only at h ⊢
      intro v H' rho' s' t' r'
      cases hres : resD S' d with
      | none => rw [hres] at h; exact h.elim
      | some e2 =>
        rw [hres] at h
        dsimp only at h
        split at h
        · rename_i ht
          exact h v H' rho (st.s.grow s'.ext) (.grow st.s s'.ext) (back_ok st.s.out e2 v ht (resD_ok s' hres r'))
        · exact h.elim
    | _ => rw [e] at h; exact h.elim
end
end Ab

end
section
set_option Elab.async false
set_option linter.all false
set_option maxRecDepth 100000
namespace Ab
open PySem PySem.Spec PyProof.Rows L2
def inO (x z : Str) : Bool := !(Builtin.Str.occurrences z x 0 z.length 1).isEmpty
def fInO (neg : Bool) : D → D → Sto → ER := fun d e S => match d, e with
  | .str x, .str z => .ok (.bl (if neg then !inO x z else inO x z)) S
  | _, _ => .err
section
variable {X : Cx}
theorem cr_inO : CmpR X .In (fInO false) := ⟨_, op_in_str, fun H0 H rho S W d e x y s rd re Q q => by
  unfold fInO at q
  split at q
  · simp only [Rep] at rd re
    exact ⟨_, _, rd, re, EPost.done s (rep_scal (d := .bl _) rfl) q⟩
  · exact q.elim⟩
theorem cr_notInO : CmpR X .NotIn (fInO true) := ⟨_, op_notin_str, fun H0 H rho S W d e x y s rd re Q q => by
  unfold fInO at q
  split at q
  · simp only [Rep] at rd re
    exact ⟨_, _, rd, re, EPost.done s (rep_scal (d := .bl _) rfl) q⟩
  · exact q.elim⟩
end
@[simp] theorem ev_inO {neg : Bool} {x z : Str} : fInO neg (.str x) (.str z) S = .ok (.bl (if neg then !inO x z else inO x z)) S := (rfl)
/-- what is found stands there, sign by sign -/
theorem inO_mem {x z : Str} (h : inO x z = true) : ∀ c ∈ x.cps.toList, c ∈ z.cps.toList := by
  intro c hc
  obtain ⟨i, _, h2⟩ := (PySem.StrLaws.found_iff z x).mp h
  have h3 : z.cps.extract i (i + x.length) = x.cps := eq_of_beq h2
  rw [← h3] at hc
  have h4 := Array.mem_toList_iff.mp hc
  obtain ⟨j, hj, e⟩ := Array.mem_iff_getElem.mp h4
  rw [Array.getElem_extract] at e
  rw [← e]
  exact Array.mem_toList_iff.mpr (Array.getElem_mem _)
end Ab

end
section
set_option Elab.async false
set_option linter.all false
set_option maxRecDepth 100000
namespace Ab
open PySem PySem.Spec PyProof.Rows L2
def SimGS (K : PySem.W.Frag) (g : TG) (m : Sto → GM) : Prop := ∀ H0 G S sg H rho d v G', Sat K H0 G S sg H rho → Rep K H0 H rho d v → m S d G = some G' → ∀ Q : L2.St → Hp → Prop, (∀ sg', Sat K H0 G' S sg' H rho → Q sg' H) → g v sg H Q
def turnS (g : Sto → GM) (q : SM) : D → SM := fun d G1 S2 => match g S2 d G1 with
  | some G2 => q G2 S2
  | none => .err
def mForS (i : IM) (g : Sto → GM) (body : SM) : SM := fun G S => match i G S with
  | .ok ds ck S1 => forRun ck (turnS g body) ds G S1
  | .ex c S1 => .ex c G S1
  | .err => .err
theorem for_simS {K : PySem.W.Frag} {W : WX} {wi : TI} {mi : IM} {g : TG} {gm : Sto → GM} {tb : TS} {body : SM} (hi : SimI K W wi mi) (hg : SimGS K g gm) (hb : SimS K W tb body) : SimS K W (tFor wi g tb) (mForS mi gm body) := fun H0 G S sg H rho st E h => by
  refine hi H0 G S sg H rho st _ ?_
  unfold mForS turnS at h
  cases e : mi G S with
  | err => rw [e] at h; exact h
  | ex c S1 =>
    rw [e] at h
    exact fun H' rho' s t => h sg H' rho' (st.step s t) t
  | ok ds ck S1 =>
    rw [e] at h
    dsimp only at h
    refine fun J H1 rho1 Src s1 t1 I src => ?_
    have h := SPost.step t1 h
    refine ⟨fun i m sg' H' => ∃ G' S' rho', Sat K H0 G' S' sg' H' rho' ∧ Src H' rho' S' ∧ m = ds.length - i ∧ i ≤ ds.length ∧ SPost K H0 H' rho' W (forRun ck (fun d G1 S2 => match gm S2 d G1 with
      | some G2 => body G2 S2
      | none => .err) (ds.drop i) G' S') E, ⟨ds.length, G, S1, rho1, st.step s1 t1, src, by simp, Nat.zero_le _, by simpa using h⟩, ?_⟩
    rintro i m sg' H' ⟨G', S', rho', s', src', rfl, hi, p⟩
    by_cases hl : i < ds.length
    · have ed : ds.drop i = ds[i] :: ds.drop (i + 1) := List.drop_eq_getElem_cons hl
      rw [ed] at p
      simp only [forRun] at p
      split at p
      · rename_i hc'
        obtain ⟨g1, g2⟩ := I.go i ds[i] H' rho' S' (List.getElem?_eq_getElem hl) s'.s src' hc'
        refine .inr ⟨g1, fun sg2 H2 => ∃ G2 S2 rho2, Sat K H0 G2 S2 sg2 H2 rho2 ∧ Src H2 rho2 S2 ∧ SPost K H0 H2 rho2 W (forRun ck (fun d G1 S2 => match gm S2 d G1 with
          | some G2 => body G2 S2
          | none => .err) (ds.drop (i + 1)) G2 S2) E, fun sg2 H2 ⟨G2, S2, rho2, q1, q2, q3⟩ => ⟨ds.length - (i + 1), by omega, G2, S2, rho2, q1, q2, rfl, hl, q3⟩, fun x H2 y => ?_⟩
        obtain ⟨s2, t2, r2⟩ := g2 x H2 y
        have p := SPost.step t2 p
        cases eg : gm S' ds[i] G' with
        | none => rw [eg] at p; exact p.elim
        | some G2 =>
          rw [eg] at p
          dsimp only at p
          have st2 := s'.step s2 t2
          refine hg H0 G' S' sg' H2 rho' ds[i] x G2 st2 r2 eg _ fun sg3 st3 => ?_
          refine hb H0 G2 S' sg3 H2 rho' st3 _ ?_
          -- the turn's end
          have goes : ∀ {G3 S3 sg4 H4 rho4}, SPost K H0 H4 rho4 W (forRun ck (fun d G1 S2 => match gm S2 d G1 with
              | some G2 => body G2 S2
              | none => .err) (ds.drop (i + 1)) G3 S3) E → Sat K H0 G3 S3 sg4 H4 rho4 → Stp H2 rho' H4 rho4 → ∃ G2 S2 rho2, Sat K H0 G2 S2 sg4 H4 rho2 ∧ Src H4 rho2 S2 ∧ SPost K H0 H4 rho2 W (forRun ck (fun d G1 S2 => match gm S2 d G1 with
              | some G2 => body G2 S2
              | none => .err) (ds.drop (i + 1)) G2 S2) E := fun {G3 S3 sg4 H4 rho4} p4 s4 t4 => by
            have hc4 : ck S3 := by
              cases e5 : ds.drop (i + 1) with
              | nil =>
                rw [e5] at p4
                simp only [forRun] at p4
                split at p4
                · assumption
                · exact p4.elim
              | cons d r =>
                rw [e5] at p4
                simp only [forRun] at p4
                split at p4
                · assumption
                · exact p4.elim
            exact ⟨G3, S3, rho4, s4, I.keep H' rho' S' H4 rho4 S3 s'.s src' s4.s (t2.trans t4) hc4, p4⟩
          generalize hbody : body G2 S' = z at p
          cases z with
          | nx G3 S3 => exact fun sg4 H4 rho4 s4 t4 => goes (SPost.step t4 p) s4 t4
          | ct G3 S3 => exact fun sg4 H4 rho4 s4 t4 => goes (SPost.step t4 p) s4 t4
          | bk G3 S3 => exact p
          | rt d S3 => exact p
          | ex c G3 S3 => exact p
          | err => exact p
      · exact p.elim
    · have e0 : i = ds.length := by omega
      subst e0
      rw [List.drop_length] at p
      simp only [forRun] at p
      split at p
      · rename_i hc'
        exact .inl ⟨I.stop H' rho' S' s'.s src' hc', SPost.here s' p⟩
      · exact p.elim
def gmLstS (is : List Nat) : Sto → GM := fun S d G => match seqL S d with
  | some xs => setAll is xs G
  | none => none
theorem simg_lstS {K : PySem.W.Frag} (is : List Nat) : SimGS K (gLst K is.length (gNames is)) (gmLstS is) := fun H0 G S sg H rho d v G' st r e Q q => by
  unfold gmLstS at e
  split at e
  · rename_i xs hx
    obtain ⟨p, vs, rfl, hp, r⟩ := seqL_at st.s hx r
    exact ⟨p, vs, rfl, hp, by rw [← r.length]; exact (setAll_len e).symm, names_ok st r e q⟩
  · cases e
section
variable {X : Cx} {W : WX} {tg iter : Expr} {body : List Stmt} {mi : IM} {m : SM} {pos : Pos}
theorem js_forLS (is : List Nat) {es : List Expr} {k : Nat} {p : Pos} (hp : PassesOwn (model X.prog X.w) X.A X.env X.xe) (hc : X.calm = true) (hi : JI X W (.Tuple es k p) iter mi) (h : PGs X es (gNames is)) (hb : JSs X W body m)
    (hn : (assignEach es X.env).length = is.length := by rfl) (hst : (assignEach es X.env).findIdx? (·.1) = none := by rfl) (hs : ∀ x, foldedSetIterable iter X.env x = pure x := by intro _; rfl) : JS X W (.For (.Tuple es k p) iter body [] pos) (mForS mi (gmLstS is) m) := by
  obtain ⟨wi, pi, si⟩ := hi
  obtain ⟨tb, pb, sb⟩ := hb
  exact ⟨_, ps_for hp hc pi (pg_lst hc h hn hst) pb hs, for_simS si (simg_lstS is) sb⟩
end
theorem ev_ForS {t : IM} {g : Sto → GM} {q : SM} {G : Gam} {S : Sto} : mForS t g q G S = (match t G S with
  | .ok ds ck S1 => forRun ck (turnS g q) ds G S1
  | .ex c S1 => .ex c G S1
  | .err => .err) := (rfl)
theorem ev_turnS {g : Sto → GM} {q : SM} {d : D} {G : Gam} {S : Sto} : turnS g q d G S = (match g S d G with
  | some G2 => q G2 S
  | none => .err) := (rfl)
end Ab

end
section
set_option Elab.async false
set_option linter.all false
set_option maxRecDepth 100000
namespace Ab
open PySem PySem.Spec PyProof.Rows L2
def b_are_numbers_1 : SM := mSeq (mIf (mOr (mNot (mIsi "int" (mVar 3))) (mIsi "bool" (mVar 3))) (mRet (mC (.bl false))) (mNext)) (mSeq (mIf (mOr (mBin fLt (mVar 3) (mC (.int 0))) (mOr (mBin fGe (mVar 3) (mVar 1)) (mBin (fInD false) (mVar 3) (mVar 2)))) (mRet (mC (.bl false))) (mNext)) (mDPut (mVar 2) (mVar 3) (mC (.bl true))))
def m_are_numbers : SM := mSeq (mSet 2 (mEmp true)) (mSeq (mFor (iAnyM (mVar 0)) (gmName 3) (b_are_numbers_1)) (mRet (mC (.bl true))))
def F_are_numbers : Fn := runF 2 4 m_are_numbers
def m_make_order : SM := mSeq (mIf (mOr (mBin fLt (mCall fLen (aCons (mVar 0) (aNil))) (mC (.int 1))) (mOr (mBin fGt (mCall fLen (aCons (mVar 0) (aNil))) (mC (.int 60))) (mNot (mCall (callP F_are_numbers) (aCons (mVar 0) (aCons (mCall fLen (aCons (mVar 0) (aNil))) (aNil))))))) (mRaise "NoOrder") (mNext)) (mRet (mCall fTuple (aCons (mVar 0) (aNil))))
def F_make_order : Fn := runF 1 1 m_make_order
def m_law_stir : SM := mSeq (mSet 2 (mBin fMod (mBin (fMul false) (mBin (fAdd false) (mBin (fAdd false) (mBin fMod (mVar 0) (mC (.int 2147483629))) (mBin (fMul false) (mC (.int 7919)) (mVar 1))) (mC (.int 1))) (mC (.int 48271))) (mC (.int 2147483647)))) (mSeq (mSet 2 (mBin fMod (mBin (fMul false) (mVar 2) (mVar 2)) (mC (.int 2147483629)))) (mRet (mBin fMod (mBin (fMul false) (mVar 2) (mC (.int 69621))) (mC (.int 2147483563)))))
def F_law_stir : Fn := runF 2 3 m_law_stir
def m_law_cell : SM := mSeq (mIf (mBin fLt (mVar 1) (mCall fLen (aCons (mVar 0) (aNil)))) (mRet (mBin fIx (mVar 0) (mVar 1))) (mNext)) (mSeq (mIf (mBin (fEq false) (mCall fLen (aCons (mVar 0) (aNil))) (mC (.int 0))) (mRet (mCall (callP F_law_stir) (aCons (mBin (fMul false) (mVar 1) (mVar 1)) (aCons (mVar 1) (aNil))))) (mNext)) (mRet (mCall (callP F_law_stir) (aCons (mBin fIx (mVar 0) (mBin fMod (mVar 1) (mCall fLen (aCons (mVar 0) (aNil))))) (aCons (mVar 1) (aNil))))))
def F_law_cell : Fn := runF 2 2 m_law_cell
def m_law_many : SM := mSeq (mIf (mBin (fEq false) (mBin fMod (mVar 0) (mC (.int 3))) (mC (.int 0))) (mRet (mBin (fAdd false) (mC (.int 1)) (mBin fMod (mBin fDiv (mVar 0) (mC (.int 3))) (mC (.int 6))))) (mNext)) (mSeq (mIf (mBin (fEq false) (mBin fMod (mVar 0) (mC (.int 3))) (mC (.int 1))) (mRet (mBin (fAdd false) (mC (.int 1)) (mBin fMod (mBin fDiv (mVar 0) (mC (.int 3))) (mC (.int 60))))) (mNext)) (mRet (mBin fSub (mC (.int 60)) (mBin fMod (mBin fDiv (mVar 0) (mC (.int 3))) (mC (.int 4))))))
def F_law_many : Fn := runF 1 1 m_law_many
def b_law_order_k01_1 : SM := mExpr (mMeth fAppend (mVar 4) (aCons (mMeth fPopAt (mVar 3) (aCons (mBin fMod (mCall (callP F_law_cell) (aCons (mVar 0) (aCons (mBin (fAdd false) (mVar 1) (mVar 5)) (aNil)))) (mCall fLen (aCons (mVar 3) (aNil)))) (aNil))) (aNil)))
def m_law_order_k01 : SM := mSeq (mSet 3 (mLstRg1 true (mVar 2))) (mSeq (mSet 4 (mLst true (aNil))) (mSeq (mFor (iRg1 (aCons (mVar 2) (aNil))) (gmName 5) (b_law_order_k01_1)) (mRet (mVar 4))))
def F_law_order_k01 : Fn := runF 3 6 m_law_order_k01
def c_back_1 : EM := mComp true (iAnyM (mVar 0)) (gmName 3) (eYes) (mC (.int 0)) [3]
def b_back_1 : SM := mSetIx (mVar 1) (mVar 3) (mVar 2)
def m_back : SM := mSeq (mSet 1 (c_back_1)) (mSeq (mFor (iEnumM (aCons (mVar 0) (aNil))) (gmTup [2, 3]) (b_back_1)) (mRet (mCall fTuple (aCons (mVar 1) (aNil)))))
def F_back : Fn := runF 1 4 m_back
def m_mirror : SM := mRet (mRevT (mVar 0))
def F_mirror : Fn := runF 1 1 m_mirror
def b_law_told_k02_1 : SM := mIf (mOr (mNot (mIsi "int" (mVar 2))) (mIsi "bool" (mVar 2))) (mRet (mC (.bl false))) (mNext)
def m_law_told_k02 : SM := mSeq (mIf (mOr (mNot (mIsi "tuple" (mVar 0))) (mBin (fEq true) (mCall fLen (aCons (mVar 0) (aNil))) (mCall fLen (aCons (mVar 1) (aNil))))) (mRet (mC (.bl false))) (mNext)) (mSeq (mFor (iAnyM (mVar 0)) (gmName 2) (b_law_told_k02_1)) (mRet (mBin (fEq false) (mVar 0) (mCall fTuple (aCons (mVar 1) (aNil))))))
def F_law_told_k02 : Fn := runF 2 3 m_law_told_k02
def b_left_of_1 : SM := mDPut (mVar 2) (mVar 4) (mVar 3)
def c_left_of_1 : EM := mComp false (iAnyM (mVar 0)) (gmName 4) (mBin (fInD false) (mVar 4) (mVar 2)) (mDGet (mVar 2) (mVar 4)) [4]
def m_left_of : SM := mSeq (mIf (mOr (mBin fLt (mCall fLen (aCons (mVar 1) (aNil))) (mC (.int 1))) (mNot (mCall (callP F_are_numbers) (aCons (mVar 1) (aCons (mCall fLen (aCons (mVar 0) (aNil))) (aNil)))))) (mRaise "NoWords") (mNext)) (mSeq (mSet 2 (mEmp true)) (mSeq (mFor (iEnumM (aCons (mCall (fSorted false) (aCons (mVar 1) (aNil))) (aNil))) (gmTup [3, 4]) (b_left_of_1)) (mRet (mCall fTuple (aCons (c_left_of_1) (aNil))))))
def F_left_of : Fn := runF 2 5 m_left_of
def c_put_together_1 : EM := mComp false (iAnyM (mVar 1)) (gmName 4) (eYes) (mCall fLen (aCons (mVar 4) (aNil))) [4]
def b_put_together_1 : SM := mSeq (mExpr (mMeth fAppend (mVar 2) (aCons (mVar 3) (aNil)))) (mAug 3 (fun i j => i + j) (mCall fLen (aCons (mVar 4) (aNil))))
def c_put_together_2 : EM := mComp false (iAnyM (mBin fIx (mVar 1) (mVar 6))) (gmName 7) (eYes) (mBin (fAdd false) (mBin fIx (mVar 2) (mVar 6)) (mVar 7)) [7]
def b_put_together_2 : SM := mExpr (mMeth fExtend (mVar 5) (aCons (c_put_together_2) (aNil)))
def m_put_together : SM := mSeq (mIf (mOr (mBin (fEq true) (mCall fLen (aCons (mVar 1) (aNil))) (mCall fLen (aCons (mVar 0) (aNil)))) (mBin fGt (mCall fSum (aCons (c_put_together_1) (aNil))) (mC (.int 60)))) (mRaise "NoOrder") (mNext)) (mSeq (mSet 2 (mLst true (aNil))) (mSeq (mSet 3 (mC (.int 0))) (mSeq (mFor (iAnyM (mVar 1)) (gmName 4) (b_put_together_1)) (mSeq (mSet 5 (mLst true (aNil))) (mSeq (mFor (iAnyM (mVar 0)) (gmName 6) (b_put_together_2)) (mRet (mCall fTuple (aCons (mVar 5) (aNil)))))))))
def F_put_together : Fn := runF 2 8 m_put_together
def c_is_nest_1 : EM := mComp false (iAnyM (mVar 6)) (gmName 7) (eYes) (mTup (aCons (mVar 7) (aCons (mVar 5) (aNil)))) [7]
def b_is_nest_1 : SM := mSeq (mUnp [3, 4] (mMeth fPop (mVar 2) aNil)) (mSeq (mIf (mBin (fIsN false) (mVar 3) (mC .non)) (mSeq (mAug 1 (fun i j => i + j) (mC (.int 1))) (mSeq (mIf (mBin fGt (mVar 1) (mC (.int 60))) (mRet (mC (.bl false))) (mNext)) (mCont))) (mNext)) (mSeq (mIf (mOr (mNot (mIsi "tuple" (mVar 3))) (mOr (mBin (fEq true) (mCall fLen (aCons (mVar 3) (aNil))) (mC (.int 2))) (mNot (mIsi "str" (mBin fIx (mVar 3) (mC (.int 0))))))) (mRet (mC (.bl false))) (mNext)) (mSeq (mUnp [5, 6] (mVar 3)) (mSeq (mIf (mOr (mBin (fIn true) (mVar 5) (mTup (aCons (mC (.str "+")) (aCons (mC (.str "-")) (aNil))))) (mOr (mBin (fEq false) (mVar 5) (mVar 4)) (mOr (mNot (mIsi "tuple" (mVar 6))) (mBin fLt (mCall fLen (aCons (mVar 6) (aNil))) (mC (.int 2)))))) (mRet (mC (.bl false))) (mNext)) (mExpr (mMeth fExtend (mVar 2) (aCons (c_is_nest_1) (aNil))))))))
def m_is_nest : SM := mSeq (mSet 1 (mC (.int 0))) (mSeq (mSet 2 (mLst true (aCons (mTup (aCons (mVar 0) (aCons (mC (.str "")) (aNil)))) (aNil)))) (mSeq (mWhile (mBin (fEqX true) (mVar 2) (mLst false (aNil))) (b_is_nest_1) 1000) (mRet (mC (.bl true)))))
def F_is_nest : Fn := runF 1 8 m_is_nest
def b_law_more_1 : SM := mExpr (mMeth fExtend (mVar 1) (aCons (mLst false (aCons (mVar 2) (aCons (mBin fDiv (mVar 2) (mC (.int 4))) (aCons (mBin fDiv (mVar 2) (mC (.int 16))) (aNil))))) (aNil)))
def m_law_more : SM := mSeq (mSet 1 (mLst true (aNil))) (mSeq (mFor (iAnyM (mVar 0)) (gmName 2) (b_law_more_1)) (mRet (mVar 1)))
def F_law_more : Fn := runF 1 3 m_law_more
def b_law_lack_1 : SM := mSet 1 (mBin (fAdd false) (mVar 1) (mCall fMax2 (aCons (mC (.int 0)) (aCons (mBin fSub (mC (.int 1)) (mCall fLen (aCons (mVar 3) (aNil)))) (aNil)))))
def m_law_lack : SM := mSeq (mSet 1 (mCall fMax2 (aCons (mC (.int 0)) (aCons (mBin fSub (mC (.int 2)) (mCall fLen (aCons (mBin fIx (mBin fIx (mVar 0) (mNeg (mC (.int 1)))) (mC (.int 1))) (aNil)))) (aNil))))) (mSeq (mFor (iAnyM (mSl false (mVar 0) (oNone) (oSome (mNeg (mC (.int 1)))))) (gmLst [2, 3]) (b_law_lack_1)) (mRet (mVar 1)))
def F_law_lack : Fn := runF 1 4 m_law_lack
def b_law_nest_k11_1 : SM := mSeq (mSet 6 (mBin fSub (mBin fSub (mVar 2) (mVar 4)) (mCall (callP F_law_lack) (aCons (mVar 3) (aNil))))) (mIf (mAnd (mBin (fEq false) (mBin fMod (mVar 5) (mC (.int 4))) (mC (.int 0))) (mOr (mBin fGt (mVar 6) (mC (.int 1))) (mAnd (mBin (fEq false) (mVar 6) (mC (.int 1))) (mBin fLt (mCall fLen (aCons (mBin fIx (mBin fIx (mVar 3) (mNeg (mC (.int 1)))) (mC (.int 1))) (aNil))) (mC (.int 2)))))) (mExpr (mMeth fAppend (mVar 3) (aCons (mLst true (aCons (mBin fIx (mC (.str "+-")) (mCall fInt (aCons (mBin (fEq false) (mBin fIx (mBin fIx (mVar 3) (mNeg (mC (.int 1)))) (mC (.int 0))) (mC (.str "+"))) (aNil)))) (aCons (mLst true (aNil)) (aNil)))) (aNil)))) (mIf (mAnd (mBin (fEq false) (mBin fMod (mVar 5) (mC (.int 4))) (mC (.int 3))) (mAnd (mBin fGt (mCall fLen (aCons (mVar 3) (aNil))) (mC (.int 1))) (mBin fGt (mCall fLen (aCons (mBin fIx (mBin fIx (mVar 3) (mNeg (mC (.int 1)))) (mC (.int 1))) (aNil))) (mC (.int 1))))) (mSeq (mSet 7 (mMeth fPop (mVar 3) aNil)) (mExpr (mMeth fAppend (mBin fIx (mBin fIx (mVar 3) (mNeg (mC (.int 1)))) (mC (.int 1))) (aCons (mTup (aCons (mBin fIx (mVar 7) (mC (.int 0))) (aCons (mCall fTuple (aCons (mBin fIx (mVar 7) (mC (.int 1))) (aNil))) (aNil)))) (aNil))))) (mIf (mOr (mBin fGt (mVar 6) (mC (.int 0))) (mBin fLt (mCall fLen (aCons (mBin fIx (mBin fIx (mVar 3) (mNeg (mC (.int 1)))) (mC (.int 1))) (aNil))) (mC (.int 2)))) (mSeq (mExpr (mMeth fAppend (mBin fIx (mBin fIx (mVar 3) (mNeg (mC (.int 1)))) (mC (.int 1))) (aCons (mC .non) (aNil)))) (mSet 4 (mBin (fAdd false) (mVar 4) (mC (.int 1))))) (mNext))))
def b_law_nest_k11_2 : SM := mSeq (mSet 7 (mMeth fPop (mVar 3) aNil)) (mExpr (mMeth fAppend (mBin fIx (mBin fIx (mVar 3) (mNeg (mC (.int 1)))) (mC (.int 1))) (aCons (mTup (aCons (mBin fIx (mVar 7) (mC (.int 0))) (aCons (mCall fTuple (aCons (mBin (fAdd false) (mBin fIx (mVar 7) (mC (.int 1))) (mBin (fMul false) (mLst false (aCons (mC .non) (aNil))) (mBin fSub (mC (.int 2)) (mCall fLen (aCons (mBin fIx (mVar 7) (mC (.int 1))) (aNil)))))) (aNil))) (aNil)))) (aNil))))
def m_law_nest_k11 : SM := mSeq (mIf (mOr (mBin fLt (mVar 2) (mC (.int 2))) (mBin (fEqX false) (mVar 0) (mLst false (aNil)))) (mRet (mC .non)) (mNext)) (mSeq (mSet 3 (mLst true (aCons (mLst true (aCons (mVar 1) (aCons (mLst true (aNil)) (aNil)))) (aNil)))) (mSeq (mSet 4 (mC (.int 0))) (mSeq (mFor (iAnyM (mVar 0)) (gmName 5) (b_law_nest_k11_1)) (mSeq (mWhile (mBin fGt (mCall fLen (aCons (mVar 3) (aNil))) (mC (.int 1))) (b_law_nest_k11_2) 1000) (mRet (mTup (aCons (mVar 1) (aCons (mCall fTuple (aCons (mBin (fAdd false) (mBin fIx (mBin fIx (mVar 3) (mC (.int 0))) (mC (.int 1))) (mBin (fMul false) (mLst false (aCons (mC .non) (aNil))) (mBin fSub (mC (.int 2)) (mCall fLen (aCons (mBin fIx (mBin fIx (mVar 3) (mC (.int 0))) (mC (.int 1))) (aNil)))))) (aNil))) (aNil)))))))))
def F_law_nest_k11 : Fn := runF 3 8 m_law_nest_k11
def m_need_nest_k12 : SM := mSeq (mIf (mNot (mCall (callP F_is_nest) (aCons (mVar 0) (aNil)))) (mRaise "NoNest") (mNext)) (mRet (mVar 0))
def F_need_nest_k12 : Fn := runF 1 1 m_need_nest_k12
def b_seen_row_1 (self : Fn) : SM := mSeq (mExpr (mMeth fAppend (mVar 4) (aCons (mCall (callP self) (aCons (mVar 6) (aCons (mVar 5) (aNil)))) (aNil)))) (mAug 5 (fun i j => i + j) (mCall fLen (aCons (mBin fIx (mVar 4) (mNeg (mC (.int 1)))) (aNil))))
def b_seen_row_2 (self : Fn) : SM := mExpr (mMeth fExtend (mVar 7) (aCons (mVar 8) (aNil)))
def m_seen_row (self : Fn) : SM := mSeq (mIf (mBin (fIsN false) (mVar 0) (mC .non)) (mRet (mLst false (aCons (mVar 1) (aNil)))) (mNext)) (mSeq (mUnp [2, 3] (mVar 0)) (mSeq (mSet 4 (mLst true (aNil))) (mSeq (mSet 5 (mVar 1)) (mSeq (mFor (iAnyM (mVar 3)) (gmName 6) (b_seen_row_1 self)) (mSeq (mIf (mBin (fEq false) (mVar 2) (mC (.str "-"))) (mExpr (mMeth fReverse (mVar 4) aNil)) (mNext)) (mSeq (mSet 7 (mLst true (aNil))) (mSeq (mFor (iAnyM (mVar 4)) (gmName 8) (b_seen_row_2 self)) (mRet (mVar 7)))))))))
def F_seen_row : Nat → Fn
  | 0 => fun _ _ => .err
  | n + 1 => runF 2 9 (m_seen_row (F_seen_row n))
def m_seen : SM := mRet (mCall fTuple (aCons (mCall (callP (F_seen_row 70)) (aCons (mCall (callP F_need_nest_k12) (aCons (mVar 0) (aNil))) (aCons (mC (.int 0)) (aNil)))) (aNil)))
def F_seen : Fn := runF 1 1 m_seen
def b_law_ways_1 : SM := mExpr (mMeth fAppend (mVar 2) (aCons (mTup (aCons (mBin fIx (mBin fIx (mVar 3) (mC (.int 1))) (mVar 5)) (aCons (mBin (fAdd false) (mVar 4) (mTup (aCons (mBin fIx (mLst false (aCons (mVar 5) (aCons (mBin fSub (mC (.int 0)) (mVar 5)) (aNil)))) (mCall fInt (aCons (mBin (fEq false) (mBin fIx (mVar 3) (mC (.int 0))) (mC (.str "-"))) (aNil)))) (aNil)))) (aNil)))) (aNil)))
def b_law_ways_2 : SM := mSeq (mUnp [3, 4] (mMeth fPop (mVar 2) aNil)) (mIf (mBin (fIsN false) (mVar 3) (mC .non)) (mExpr (mMeth fAppend (mVar 1) (aCons (mVar 4) (aNil)))) (mFor (iRg3 (aCons (mBin fSub (mCall fLen (aCons (mBin fIx (mVar 3) (mC (.int 1))) (aNil))) (mC (.int 1))) (aCons (mNeg (mC (.int 1))) (aCons (mNeg (mC (.int 1))) (aNil))))) (gmName 5) (b_law_ways_1)))
def m_law_ways : SM := mSeq (mSet 1 (mLst true (aNil))) (mSeq (mSet 2 (mLst true (aCons (mTup (aCons (mVar 0) (aCons (mTup (aNil)) (aNil)))) (aNil)))) (mSeq (mWhile (mBin (fEqX true) (mVar 2) (mLst false (aNil))) (b_law_ways_2) 1000) (mRet (mVar 1))))
def F_law_ways : Fn := runF 1 6 m_law_ways
def c_count_words_1 (self : Fn) : EM := mComp false (iAnyM (mBin fIx (mVar 0) (mC (.int 1)))) (gmName 1) (eYes) (mCall (callP self) (aCons (mVar 1) (aNil))) [1]
def m_count_words (self : Fn) : SM := mSeq (mIf (mBin (fIsN false) (mVar 0) (mC .non)) (mRet (mC (.int 1))) (mNext)) (mRet (mCall fSum (aCons (c_count_words_1 self) (aNil))))
def F_count_words : Nat → Fn
  | 0 => fun _ _ => .err
  | n + 1 => runF 1 2 (m_count_words (F_count_words n))
def m_words_of : SM := mRet (mCall (callP (F_count_words 70)) (aCons (mCall (callP F_need_nest_k12) (aCons (mVar 0) (aNil))) (aNil)))
def F_words_of : Fn := runF 1 1 m_words_of
def c_deep_1 (self : Fn) : EM := mComp false (iAnyM (mBin fIx (mVar 0) (mC (.int 1)))) (gmName 1) (eYes) (mCall (callP self) (aCons (mVar 1) (aNil))) [1]
def m_deep (self : Fn) : SM := mSeq (mIf (mBin (fIsN false) (mVar 0) (mC .non)) (mRet (mC (.int 0))) (mNext)) (mRet (mBin (fAdd false) (mC (.int 1)) (mCall fMaxL (aCons (c_deep_1 self) (aNil)))))
def F_deep : Nat → Fn
  | 0 => fun _ _ => .err
  | n + 1 => runF 1 2 (m_deep (F_deep n))
def m_depth : SM := mRet (mCall (callP (F_deep 70)) (aCons (mCall (callP F_need_nest_k12) (aCons (mVar 0) (aNil))) (aNil)))
def F_depth : Fn := runF 1 1 m_depth
def c_written_1 (self : Fn) : EM := mComp false (iAnyM (mBin fIx (mVar 0) (mC (.int 1)))) (gmName 1) (eYes) (mCall (callP self) (aCons (mVar 1) (aNil))) [1]
def c_written_2 (self : Fn) : EM := mComp false (iAnyM (mBin fIx (mVar 0) (mC (.int 1)))) (gmName 1) (eYes) (mCall (callP self) (aCons (mVar 1) (aNil))) [1]
def m_written (self : Fn) : SM := mSeq (mIf (mBin (fIsN false) (mVar 0) (mC .non)) (mRet (mC (.str "."))) (mNext)) (mRet (mBin (fAdd false) (mBin (fAdd false) (mBin (fAdd false) (mC (.str "(")) (mBin fIx (mVar 0) (mC (.int 0)))) (mJoin (mC (.str "")) (aCons (c_written_1 self) (aNil)))) (mC (.str ")"))))
def F_written : Nat → Fn
  | 0 => fun _ _ => .err
  | n + 1 => runF 1 2 (m_written (F_written n))
def m_show_nest : SM := mRet (mCall (callP (F_written 70)) (aCons (mCall (callP F_need_nest_k12) (aCons (mVar 0) (aNil))) (aNil)))
def F_show_nest : Fn := runF 1 1 m_show_nest
def b_read_nest_1 : SM := mIf (mAnd (mVar 2) (mBin (fInS false) (mVar 3) (mC (.str "+-")))) (mSeq (mExpr (mMeth fAppend (mVar 1) (aCons (mTup (aCons (mVar 3) (aCons (mLst true (aNil)) (aNil)))) (aNil)))) (mSet 2 (mC (.bl false)))) (mIf (mVar 2) (mRaise "NoNest") (mIf (mBin (fEq false) (mVar 3) (mC (.str "("))) (mSet 2 (mC (.bl true))) (mIf (mBin (fEq false) (mVar 3) (mC (.str "."))) (mExpr (mMeth fAppend (mBin fIx (mBin fIx (mVar 1) (mNeg (mC (.int 1)))) (mC (.int 1))) (aCons (mC .non) (aNil)))) (mIf (mAnd (mBin (fEq false) (mVar 3) (mC (.str ")"))) (mBin fGt (mCall fLen (aCons (mVar 1) (aNil))) (mC (.int 1)))) (mSeq (mUnp [4, 5] (mMeth fPop (mVar 1) aNil)) (mExpr (mMeth fAppend (mBin fIx (mBin fIx (mVar 1) (mNeg (mC (.int 1)))) (mC (.int 1))) (aCons (mTup (aCons (mVar 4) (aCons (mCall fTuple (aCons (mVar 5) (aNil))) (aNil)))) (aNil))))) (mRaise "NoNest")))))
def m_read_nest : SM := mSeq (mIf (mNot (mIsi "str" (mVar 0))) (mRaise "NoNest") (mNext)) (mSeq (mSet 1 (mLst true (aCons (mTup (aCons (mC (.str "")) (aCons (mLst true (aNil)) (aNil)))) (aNil)))) (mSeq (mSet 2 (mC (.bl false))) (mSeq (mFor (iAnyM (mVar 0)) (gmName 3) (b_read_nest_1)) (mSeq (mIf (mOr (mVar 2) (mOr (mBin (fEq true) (mCall fLen (aCons (mVar 1) (aNil))) (mC (.int 1))) (mBin (fEq true) (mCall fLen (aCons (mBin fIx (mBin fIx (mVar 1) (mC (.int 0))) (mC (.int 1))) (aNil))) (mC (.int 1))))) (mRaise "NoNest") (mNext)) (mRet (mCall (callP F_need_nest_k12) (aCons (mBin fIx (mBin fIx (mBin fIx (mVar 1) (mC (.int 0))) (mC (.int 1))) (mC (.int 0))) (aNil))))))))
def F_read_nest : Fn := runF 1 6 m_read_nest
def b_kept_places_1 : SM := mSeq (mSet 2 (mCall fMax2 (aCons (mVar 2) (aCons (mBin fIx (mVar 0) (mBin fSub (mVar 3) (mC (.int 1)))) (aNil))))) (mIf (mBin (fEq false) (mVar 2) (mBin fSub (mVar 3) (mC (.int 1)))) (mExpr (mMeth fAppend (mVar 1) (aCons (mVar 3) (aNil)))) (mNext))
def m_kept_places : SM := mSeq (mSet 1 (mLst true (aNil))) (mSeq (mSet 2 (mNeg (mC (.int 1)))) (mSeq (mFor (iRg2 (aCons (mC (.int 1)) (aCons (mCall fLen (aCons (mVar 0) (aNil))) (aNil)))) (gmName 3) (b_kept_places_1)) (mRet (mCall fTuple (aCons (mVar 1) (aNil))))))
def F_kept_places : Fn := runF 1 4 m_kept_places
def b_turned_places_1 : SM := mSeq (mSet 2 (mCall fMin2 (aCons (mVar 2) (aCons (mBin fIx (mVar 0) (mBin fSub (mVar 3) (mC (.int 1)))) (aNil))))) (mIf (mBin (fEq false) (mVar 2) (mBin fSub (mCall fLen (aCons (mVar 0) (aNil))) (mVar 3))) (mExpr (mMeth fAppend (mVar 1) (aCons (mVar 3) (aNil)))) (mNext))
def m_turned_places : SM := mSeq (mSet 1 (mLst true (aNil))) (mSeq (mSet 2 (mCall fLen (aCons (mVar 0) (aNil)))) (mSeq (mFor (iRg2 (aCons (mC (.int 1)) (aCons (mCall fLen (aCons (mVar 0) (aNil))) (aNil)))) (gmName 3) (b_turned_places_1)) (mRet (mCall fTuple (aCons (mVar 1) (aNil))))))
def F_turned_places : Fn := runF 1 4 m_turned_places
def m_cuts : SM := mSeq (mSet 1 (mCall (callP F_kept_places) (aCons (mVar 0) (aNil)))) (mSeq (mIf (mBin fGt (mCall fLen (aCons (mVar 1) (aNil))) (mC (.int 0))) (mRet (mTup (aCons (mC (.str "+")) (aCons (mVar 1) (aNil))))) (mNext)) (mSeq (mSet 1 (mCall (callP F_turned_places) (aCons (mVar 0) (aNil)))) (mSeq (mIf (mBin fGt (mCall fLen (aCons (mVar 1) (aNil))) (mC (.int 0))) (mRet (mTup (aCons (mC (.str "-")) (aCons (mVar 1) (aNil))))) (mNext)) (mRet (mTup (aCons (mC (.str "")) (aCons (mTup (aNil)) (aNil))))))))
def F_cuts : Fn := runF 1 2 m_cuts
def m_law_cell_at : SM := mSeq (mIf (mBin fLt (mVar 1) (mCall fLen (aCons (mVar 0) (aNil)))) (mRet (mBin fIx (mVar 0) (mVar 1))) (mNext)) (mRet (mC (.int 0)))
def F_law_cell_at : Fn := runF 2 2 m_law_cell_at
def m_law_whole : SM := mRet (mAnd (mIsi "int" (mVar 0)) (mNot (mIsi "bool" (mVar 0))))
def F_law_whole : Fn := runF 1 1 m_law_whole
def b_law_join_1 : SM := mIf (mAnd (mBin (fIsN true) (mVar 4) (mC .non)) (mBin (fEq false) (mBin fIx (mVar 4) (mC (.int 0))) (mVar 0))) (mExpr (mMeth fExtendT (mVar 3) (aCons (mBin fIx (mVar 4) (mC (.int 1))) (aNil)))) (mExpr (mMeth fAppend (mVar 3) (aCons (mVar 4) (aNil))))
def m_law_join : SM := mSeq (mSet 3 (mLst true (aNil))) (mSeq (mFor (iAnyM (mTup (aCons (mVar 1) (aCons (mVar 2) (aNil))))) (gmName 4) (b_law_join_1)) (mRet (mTup (aCons (mVar 0) (aCons (mCall fTuple (aCons (mVar 3) (aNil))) (aNil))))))
def F_law_join : Fn := runF 3 5 m_law_join
def c_law_nest_k21_1 : EM := mComp false (iRg1 (aCons (mBin (fAdd false) (mCall fLen (aCons (mVar 0) (aNil))) (mC (.int 1))) (aNil))) (gmName 5) (eYes) (mC .non) [5]
def b_law_nest_k21_1 : SM := mSeq (mSet 3 (mBin fMod (mBin fDiv (mVar 2) (mC (.int 2))) (mBin fSub (mCall fLen (aCons (mVar 1) (aNil))) (mC (.int 1))))) (mSeq (mSet 4 (mCall (callP F_law_join) (aCons (mBin fIx (mC (.str "+-")) (mBin fMod (mVar 2) (mC (.int 2)))) (aCons (mBin fIx (mVar 1) (mVar 3)) (aCons (mBin fIx (mVar 1) (mBin (fAdd false) (mVar 3) (mC (.int 1)))) (aNil)))))) (mSet 1 (mBin (fAdd false) (mBin (fAdd false) (mSl false (mVar 1) (oNone) (oSome (mVar 3))) (mLst false (aCons (mVar 4) (aNil)))) (mSl false (mVar 1) (oSome (mBin (fAdd false) (mVar 3) (mC (.int 2)))) (oNone)))))
def m_law_nest_k21 : SM := mSeq (mSet 1 (c_law_nest_k21_1)) (mSeq (mFor (iAnyM (mVar 0)) (gmName 2) (b_law_nest_k21_1)) (mRet (mBin fIx (mVar 1) (mC (.int 0)))))
def F_law_nest_k21 : Fn := runF 1 6 m_law_nest_k21
def b_law_row_1 (self : Fn) : SM := mSeq (mSet 4 (mCall (callP self) (aCons (mVar 3) (aCons (mVar 1) (aNil))))) (mSeq (mExpr (mMeth fAppend (mVar 2) (aCons (mVar 4) (aNil)))) (mSet 1 (mBin (fAdd false) (mVar 1) (mCall fLen (aCons (mVar 4) (aNil))))))
def b_law_row_2 (self : Fn) : SM := mExpr (mMeth fExtend (mVar 5) (aCons (mVar 4) (aNil)))
def m_law_row (self : Fn) : SM := mSeq (mIf (mBin (fIsN false) (mVar 0) (mC .non)) (mRet (mLst false (aCons (mVar 1) (aNil)))) (mNext)) (mSeq (mSet 2 (mLst true (aNil))) (mSeq (mFor (iAnyM (mBin fIx (mVar 0) (mC (.int 1)))) (gmName 3) (b_law_row_1 self)) (mSeq (mIf (mBin (fEq false) (mBin fIx (mVar 0) (mC (.int 0))) (mC (.str "-"))) (mExpr (mMeth fReverse (mVar 2) aNil)) (mNext)) (mSeq (mSet 5 (mLst true (aNil))) (mSeq (mFor (iAnyM (mVar 2)) (gmName 4) (b_law_row_2 self)) (mRet (mVar 5)))))))
def F_law_row : Nat → Fn
  | 0 => fun _ _ => .err
  | n + 1 => runF 2 6 (m_law_row (F_law_row n))
def b_law_free_k21_1 : SM := mExpr (mMeth fAppend (mVar 2) (aCons (mMeth fPopAt (mVar 1) (aCons (mBin fMod (mBin fDiv (mVar 3) (mC (.int 4))) (mCall fLen (aCons (mVar 1) (aNil)))) (aNil))) (aNil)))
def m_law_free_k21 : SM := mSeq (mSet 1 (mLstRg1 true (mCall fLen (aCons (mVar 0) (aNil))))) (mSeq (mSet 2 (mLst true (aNil))) (mSeq (mFor (iAnyM (mVar 0)) (gmName 3) (b_law_free_k21_1)) (mRet (mVar 2))))
def F_law_free_k21 : Fn := runF 1 4 m_law_free_k21
def m_law_order_k21 : SM := mSeq (mSet 1 (mSl false (mVar 0) (oSome (mC (.int 2))) (oSome (mC (.int 62))))) (mSeq (mSet 2 (mBin fMod (mCall (callP F_law_cell_at) (aCons (mVar 0) (aCons (mC (.int 0)) (aNil)))) (mC (.int 4)))) (mSeq (mIf (mBin (fEqX false) (mVar 1) (mLst false (aNil))) (mRet (mTup (aCons (mC (.int 0)) (aNil)))) (mNext)) (mSeq (mIf (mBin (fEq false) (mVar 2) (mC (.int 0))) (mRet (mCall fTuple (aCons (mCall (callP F_law_free_k21) (aCons (mVar 1) (aNil))) (aNil)))) (mNext)) (mSeq (mSet 3 (mCall (callO (F_law_row 70)) (aCons (mCall (callP F_law_nest_k21) (aCons (mSl false (mVar 1) (oSome (mC (.int 1))) (oNone)) (aNil))) (aCons (mC (.int 0)) (aNil))))) (mSeq (mIf (mBin (fEq false) (mVar 2) (mC (.int 1))) (mSeq (mSet 4 (mBin fMod (mCall (callP F_law_cell_at) (aCons (mVar 0) (aCons (mC (.int 1)) (aNil)))) (mCall fLen (aCons (mVar 3) (aNil))))) (mSeq (mSet 5 (mBin fMod (mBin fDiv (mCall (callP F_law_cell_at) (aCons (mVar 0) (aCons (mC (.int 1)) (aNil)))) (mC (.int 60))) (mCall fLen (aCons (mVar 3) (aNil))))) (mSeq (mSet 6 (mBin fIx (mVar 3) (mVar 4))) (mSeq (mSetIx (mVar 3) (mVar 4) (mBin fIx (mVar 3) (mVar 5))) (mSetIx (mVar 3) (mVar 5) (mVar 6)))))) (mNext)) (mSeq (mIf (mBin (fEq false) (mVar 2) (mC (.int 2))) (mSeq (mSet 6 (mMeth fPopAt (mVar 3) (aCons (mBin fMod (mCall (callP F_law_cell_at) (aCons (mVar 0) (aCons (mC (.int 1)) (aNil)))) (mCall fLen (aCons (mVar 3) (aNil)))) (aNil)))) (mExpr (mMeth fInsert (mVar 3) (aCons (mBin fMod (mBin fDiv (mCall (callP F_law_cell_at) (aCons (mVar 0) (aCons (mC (.int 1)) (aNil)))) (mC (.int 60))) (mBin (fAdd false) (mCall fLen (aCons (mVar 3) (aNil))) (mC (.int 1)))) (aCons (mVar 6) (aNil)))))) (mNext)) (mRet (mCall fTuple (aCons (mVar 3) (aNil))))))))))
def F_law_order_k21 : Fn := runF 1 7 m_law_order_k21
def c_cut_at_1 : EM := mComp false (iAnyM (mVar 5)) (gmName 7) (eYes) (mBin fSub (mVar 7) (mVar 6)) [7]
def b_cut_at_1 : SM := mSeq (mSet 5 (mSl false (mVar 0) (oSome (mVar 3)) (oSome (mVar 4)))) (mSeq (mSet 6 (mCall fMinT (aCons (mVar 5) (aNil)))) (mSeq (mExpr (mMeth fAppend (mVar 2) (aCons (mCall fTuple (aCons (c_cut_at_1) (aNil))) (aNil)))) (mSet 3 (mVar 4))))
def m_cut_at : SM := mSeq (mSet 2 (mLst true (aNil))) (mSeq (mSet 3 (mC (.int 0))) (mSeq (mFor (iAnyM (mBin (fAdd false) (mVar 1) (mTup (aCons (mCall fLen (aCons (mVar 0) (aNil))) (aNil))))) (gmName 4) (b_cut_at_1)) (mRet (mVar 2))))
def F_cut_at : Fn := runF 2 8 m_cut_at
def b_nest_of_1 (self : Fn) : SM := mSeq (mSet 5 (mCall (callP self) (aCons (mVar 4) (aNil)))) (mSeq (mIf (mBin (fEq false) (mVar 5) (mC (.str "barred"))) (mRet (mC (.str "barred"))) (mNext)) (mExpr (mMeth fAppend (mVar 3) (aCons (mVar 5) (aNil)))))
def m_nest_of (self : Fn) : SM := mSeq (mIf (mBin (fEq false) (mCall fLen (aCons (mVar 0) (aNil))) (mC (.int 1))) (mRet (mC .non)) (mNext)) (mSeq (mUnp [1, 2] (mCall (callP F_cuts) (aCons (mVar 0) (aNil)))) (mSeq (mIf (mBin (fEq false) (mVar 1) (mC (.str ""))) (mRet (mC (.str "barred"))) (mNext)) (mSeq (mSet 3 (mLst true (aNil))) (mSeq (mFor (iAnyM (mCall (callP F_cut_at) (aCons (mVar 0) (aCons (mVar 2) (aNil))))) (gmName 4) (b_nest_of_1 self)) (mSeq (mIf (mBin (fEq false) (mVar 1) (mC (.str "-"))) (mExpr (mMeth fReverse (mVar 3) aNil)) (mNext)) (mRet (mTup (aCons (mVar 1) (aCons (mCall fTuple (aCons (mVar 3) (aNil))) (aNil))))))))))
def F_nest_of : Nat → Fn
  | 0 => fun _ _ => .err
  | n + 1 => runF 1 6 (m_nest_of (F_nest_of n))
def m_is_bar : SM := mSeq (mUnp [2, 3, 4, 5] (mVar 1)) (mSeq (mIf (mNot (mChain (mC (.int 0)) (cLink fLe (mVar 2) (cLink fLt (mVar 3) (cLink fLt (mVar 4) (cLink fLt (mVar 5) (cLast fLt (mCall fLen (aCons (mVar 0) (aNil)))))))))) (mRet (mC (.bl false))) (mNext)) (mSeq (mSet 6 (mBin fIx (mVar 0) (mVar 2))) (mSeq (mSet 7 (mBin fIx (mVar 0) (mVar 5))) (mSeq (mIf (mChain (mBin fIx (mVar 0) (mVar 4)) (cLink fLt (mVar 6) (cLink fLt (mVar 7) (cLast fLt (mBin fIx (mVar 0) (mVar 3)))))) (mRet (mC (.bl true))) (mNext)) (mRet (mChain (mBin fIx (mVar 0) (mVar 3)) (cLink fLt (mVar 7) (cLink fLt (mVar 6) (cLast fLt (mBin fIx (mVar 0) (mVar 4)))))))))))
def F_is_bar : Fn := runF 2 8 m_is_bar
def b_place_of_1 : SM := mIf (mChain (mVar 2) (cLink fLt (mBin fIx (mVar 0) (mVar 6)) (cLast fLt (mVar 3)))) (mIf (mOr (mBin (fIsN false) (mVar 5) (mC .non)) (mBin (fEq false) (mBin fLt (mBin fIx (mVar 0) (mVar 6)) (mBin fIx (mVar 0) (mVar 5))) (mBin (fEq false) (mVar 4) (mC (.str "least"))))) (mSet 5 (mVar 6)) (mNext)) (mNext)
def m_place_of : SM := mSeq (mSet 5 (mC .non)) (mSeq (mFor (iAnyM (mVar 1)) (gmName 6) (b_place_of_1)) (mRet (mVar 5)))
def F_place_of : Fn := runF 5 7 m_place_of
def m_bar_between : SM := mSeq (mSet 3 (mCall fMin2 (aCons (mBin fIx (mVar 0) (mVar 1)) (aCons (mBin fIx (mVar 0) (mVar 2)) (aNil))))) (mSeq (mSet 4 (mCall fMax2 (aCons (mBin fIx (mVar 0) (mVar 1)) (aCons (mBin fIx (mVar 0) (mVar 2)) (aNil))))) (mSeq (mSet 5 (mC (.str "least"))) (mSeq (mSet 6 (mC (.str "greatest"))) (mSeq (mIf (mBin fLt (mBin fIx (mVar 0) (mVar 1)) (mBin fIx (mVar 0) (mVar 2))) (mSeq (mSet 5 (mC (.str "greatest"))) (mSet 6 (mC (.str "least")))) (mNext)) (mSeq (mSet 7 (mCall (callP F_place_of) (aCons (mVar 0) (aCons (mLstRg1 false (mVar 1)) (aCons (mVar 3) (aCons (mVar 4) (aCons (mVar 5) (aNil)))))))) (mSeq (mSet 8 (mCall (callP F_place_of) (aCons (mVar 0) (aCons (mLstRg2 false (mBin (fAdd false) (mVar 2) (mC (.int 1))) (mCall fLen (aCons (mVar 0) (aNil)))) (aCons (mVar 3) (aCons (mVar 4) (aCons (mVar 6) (aNil)))))))) (mSeq (mIf (mOr (mBin (fIsN false) (mVar 7) (mC .non)) (mOr (mBin (fIsN false) (mVar 8) (mC .non)) (mNot (mCall (callP F_is_bar) (aCons (mVar 0) (aCons (mTup (aCons (mVar 7) (aCons (mVar 1) (aCons (mVar 2) (aCons (mVar 8) (aNil)))))) (aNil))))))) (mRet (mC .non)) (mNext)) (mRet (mTup (aCons (mVar 7) (aCons (mVar 1) (aCons (mVar 2) (aCons (mVar 8) (aNil))))))))))))))
def F_bar_between : Fn := runF 3 9 m_bar_between
def b_uncut_piece_1 : SM := mExpr (mMeth fAppend (mVar 1) (aCons (mTup (aCons (mBin (fAdd false) (mVar 2) (mVar 6)) (aCons (mVar 7) (aNil)))) (aNil)))
def b_uncut_piece_2 : SM := mSeq (mUnp [2, 3] (mMeth fPop (mVar 1) aNil)) (mSeq (mUnp [4, 5] (mCall (callP F_cuts) (aCons (mVar 3) (aNil)))) (mSeq (mIf (mAnd (mBin (fEq false) (mVar 4) (mC (.str ""))) (mBin fGt (mCall fLen (aCons (mVar 3) (aNil))) (mC (.int 1)))) (mRet (mTup (aCons (mVar 2) (aCons (mVar 3) (aNil))))) (mNext)) (mIf (mBin (fEq true) (mVar 4) (mC (.str ""))) (mFor (iZipM (aCons (mBin (fAdd false) (mTup (aCons (mC (.int 0)) (aNil))) (mVar 5)) (aCons (mCall (callP F_cut_at) (aCons (mVar 3) (aCons (mVar 5) (aNil)))) (aNil)))) (gmTup [6, 7]) (b_uncut_piece_1)) (mNext))))
def m_uncut_piece : SM := mSeq (mSet 1 (mLst true (aCons (mTup (aCons (mC (.int 0)) (aCons (mVar 0) (aNil)))) (aNil)))) (mSeq (mWhile (mBin (fEqX true) (mVar 1) (mLst false (aNil))) (b_uncut_piece_2) 1000) (mRet (mC .non)))
def F_uncut_piece : Fn := runF 1 8 m_uncut_piece
def b_bar_within_1 : SM := mSeq (mSet 3 (mCall (callP F_bar_between) (aCons (mVar 0) (aCons (mVar 2) (aCons (mVar 1) (aNil)))))) (mIf (mBin (fIsN true) (mVar 3) (mC .non)) (mRet (mVar 3)) (mNext))
def b_bar_within_2 : SM := mFor (iRg2 (aCons (mC (.int 1)) (aCons (mVar 1) (aNil)))) (gmName 2) (b_bar_within_1)
def m_bar_within : SM := mSeq (mFor (iRg2 (aCons (mC (.int 2)) (aCons (mCall fLen (aCons (mVar 0) (aNil))) (aNil)))) (gmName 1) (b_bar_within_2)) (mRet (mC .non))
def F_bar_within : Fn := runF 1 4 m_bar_within
def c_bar_of_1 : EM := mComp false (iAnyM (mCall (callP F_bar_within) (aCons (mVar 3) (aNil)))) (gmName 4) (eYes) (mBin (fAdd false) (mVar 2) (mVar 4)) [4]
def m_bar_of : SM := mSeq (mSet 1 (mCall (callP F_uncut_piece) (aCons (mVar 0) (aNil)))) (mSeq (mIf (mBin (fIsN false) (mVar 1) (mC .non)) (mRet (mC .non)) (mNext)) (mSeq (mUnp [2, 3] (mVar 1)) (mRet (mCall fTuple (aCons (c_bar_of_1) (aNil))))))
def F_bar_of : Fn := runF 1 5 m_bar_of
def b_law_is_nest_k23_1 : SM := mExpr (mMeth fAppend (mVar 1) (aCons (mTup (aCons (mVar 4) (aCons (mBin fIx (mVar 2) (mC (.int 0))) (aNil)))) (aNil)))
def b_law_is_nest_k23_2 : SM := mSeq (mUnp [2, 3] (mMeth fPop (mVar 1) aNil)) (mIf (mBin (fIsN true) (mVar 2) (mC .non)) (mSeq (mIf (mOr (mNot (mIsi "tuple" (mVar 2))) (mOr (mBin (fEq true) (mCall fLen (aCons (mVar 2) (aNil))) (mC (.int 2))) (mNot (mIsi "str" (mBin fIx (mVar 2) (mC (.int 0))))))) (mRet (mC (.bl false))) (mNext)) (mSeq (mIf (mOr (mBin (fIn true) (mBin fIx (mVar 2) (mC (.int 0))) (mLst false (aCons (mC (.str "+")) (aCons (mC (.str "-")) (aNil))))) (mBin (fEq false) (mBin fIx (mVar 2) (mC (.int 0))) (mVar 3))) (mRet (mC (.bl false))) (mNext)) (mSeq (mIf (mOr (mNot (mIsi "tuple" (mBin fIx (mVar 2) (mC (.int 1))))) (mBin fLt (mCall fLen (aCons (mBin fIx (mVar 2) (mC (.int 1))) (aNil))) (mC (.int 2)))) (mRet (mC (.bl false))) (mNext)) (mFor (iAnyM (mBin fIx (mVar 2) (mC (.int 1)))) (gmName 4) (b_law_is_nest_k23_1))))) (mNext))
def m_law_is_nest_k23 : SM := mSeq (mSet 1 (mLst true (aCons (mTup (aCons (mVar 0) (aCons (mC (.str "")) (aNil)))) (aNil)))) (mSeq (mWhile (mBin (fEqX true) (mVar 1) (mLst false (aNil))) (b_law_is_nest_k23_2) 1000) (mRet (mC (.bl true))))
def F_law_is_nest_k23 : Fn := runF 1 5 m_law_is_nest_k23
def m_alone : SM := mSeq (mIf (mBin (fEq false) (mVar 1) (mC (.int 1))) (mRet (mC (.int 1))) (mNext)) (mRet (mBin fIx (mVar 0) (mVar 1)))
def F_alone : Fn := runF 2 2 m_alone
def m_behind_first : SM := mSeq (mIf (mBin (fEq false) (mVar 1) (mC (.int 1))) (mRet (mC (.int 1))) (mNext)) (mRet (mBin (fMul false) (mC (.int 2)) (mBin fIx (mVar 0) (mVar 1))))
def F_behind_first : Fn := runF 2 2 m_behind_first
def c_kind_counts_1 : EM := mComp false (iRg2 (aCons (mC (.int 1)) (aCons (mVar 2) (aNil)))) (gmName 3) (eYes) (mBin (fMul false) (mCall (callP F_alone) (aCons (mVar 1) (aCons (mVar 3) (aNil)))) (mCall (callP F_behind_first) (aCons (mVar 1) (aCons (mBin fSub (mVar 2) (mVar 3)) (aNil))))) [3]
def b_kind_counts_1 : SM := mExpr (mMeth fAppend (mVar 1) (aCons (mCall fSum (aCons (c_kind_counts_1) (aNil))) (aNil)))
def m_kind_counts : SM := mSeq (mSet 1 (mLst true (aCons (mC (.int 0)) (aCons (mC (.int 0)) (aNil))))) (mSeq (mFor (iRg2 (aCons (mC (.int 2)) (aCons (mBin (fAdd false) (mVar 0) (mC (.int 1))) (aNil)))) (gmName 2) (b_kind_counts_1)) (mRet (mVar 1)))
def F_kind_counts : Fn := runF 1 4 m_kind_counts
def m_of_kind : SM := mRet (mBin fIx (mCall (callP F_kind_counts) (aCons (mVar 0) (aNil))) (mVar 0))
def F_of_kind : Fn := runF 1 1 m_of_kind
def m_how_many : SM := mSeq (mIf (mBin (fEq false) (mVar 0) (mC (.int 1))) (mRet (mC (.int 1))) (mNext)) (mRet (mBin (fMul false) (mC (.int 2)) (mCall (callP F_of_kind) (aCons (mVar 0) (aNil)))))
def F_how_many : Fn := runF 1 1 m_how_many
def m_goes_ahead : SM := mSeq (mIf (mOr (mBin fLe (mBin fIx (mVar 0) (mC (.int 1))) (mBin fIx (mVar 1) (mC (.int 0)))) (mBin fLe (mBin fIx (mVar 1) (mC (.int 1))) (mBin fIx (mVar 0) (mC (.int 0))))) (mRet (mC (.bl true))) (mNext)) (mRet (mAnd (mBin fLe (mBin fIx (mVar 0) (mC (.int 0))) (mBin fIx (mVar 1) (mC (.int 0)))) (mBin fLe (mBin fIx (mVar 1) (mC (.int 1))) (mBin fIx (mVar 0) (mC (.int 1))))))
def F_goes_ahead : Fn := runF 2 2 m_goes_ahead
def b_are_nested_1 : SM := mIf (mNot (mCall (callP F_goes_ahead) (aCons (mBin fIx (mVar 0) (mVar 2)) (aCons (mBin fIx (mVar 0) (mVar 1)) (aNil))))) (mRet (mC (.bl false))) (mNext)
def b_are_nested_2 : SM := mFor (iRg1 (aCons (mVar 1) (aNil))) (gmName 2) (b_are_nested_1)
def m_are_nested : SM := mSeq (mFor (iRg1 (aCons (mCall fLen (aCons (mVar 0) (aNil))) (aNil))) (gmName 1) (b_are_nested_2)) (mRet (mC (.bl true)))
def F_are_nested : Fn := runF 1 3 m_are_nested
def c_deepest_1 : EM := mComp false (iAnyM (mVar 0)) (gmName 4) (mAnd (mBin fLe (mBin fIx (mVar 4) (mC (.int 0))) (mVar 3)) (mBin fLt (mVar 3) (mBin fIx (mVar 4) (mC (.int 1))))) (mVar 4) [4]
def b_deepest_1 : SM := mSeq (mSet 3 (mBin fIx (mVar 2) (mC (.int 0)))) (mSet 1 (mCall fMax2 (aCons (mVar 1) (aCons (mCall fLen (aCons (c_deepest_1) (aNil))) (aNil)))))
def m_deepest : SM := mSeq (mSet 1 (mC (.int 0))) (mSeq (mFor (iAnyM (mVar 0)) (gmName 2) (b_deepest_1)) (mRet (mVar 1)))
def F_deepest : Fn := runF 1 5 m_deepest
def m_law_mix : SM := mSeq (mSet 2 (mBin fMod (mBin (fAdd false) (mBin (fMul false) (mBin fMod (mVar 0) (mC (.int 2147483647))) (mBin (fAdd false) (mBin (fMul false) (mVar 1) (mVar 1)) (mC (.int 48271)))) (mVar 1)) (mC (.int 2147483629)))) (mRet (mBin fDiv (mBin fMod (mBin (fMul false) (mVar 2) (mVar 2)) (mC (.int 2147483587))) (mC (.int 3))))
def F_law_mix : Fn := runF 2 3 m_law_mix
def b_law_fits_1 : SM := mSeq (mSet 3 (mOr (mBin fLe (mBin fIx (mVar 1) (mC (.int 1))) (mBin fIx (mVar 2) (mC (.int 0)))) (mBin fLe (mBin fIx (mVar 2) (mC (.int 1))) (mBin fIx (mVar 1) (mC (.int 0)))))) (mSeq (mSet 4 (mAnd (mBin fLe (mBin fIx (mVar 2) (mC (.int 0))) (mBin fIx (mVar 1) (mC (.int 0)))) (mBin fLe (mBin fIx (mVar 1) (mC (.int 1))) (mBin fIx (mVar 2) (mC (.int 1)))))) (mSeq (mSet 5 (mAnd (mBin fLe (mBin fIx (mVar 1) (mC (.int 0))) (mBin fIx (mVar 2) (mC (.int 0)))) (mBin fLe (mBin fIx (mVar 2) (mC (.int 1))) (mBin fIx (mVar 1) (mC (.int 1)))))) (mIf (mAnd (mNot (mVar 3)) (mAnd (mNot (mVar 4)) (mNot (mVar 5)))) (mRet (mC (.bl false))) (mNext))))
def m_law_fits : SM := mSeq (mFor (iAnyM (mVar 0)) (gmName 2) (b_law_fits_1)) (mRet (mC (.bl true)))
def F_law_fits : Fn := runF 2 6 m_law_fits
def b_law_turns_1 : SM := mSeq (mSet 4 (mC (.int 0))) (mSeq (mSet 5 (mVar 0)) (mSeq (mIf (mAnd (mBin (fEqX true) (mVar 2) (mLst false (aNil))) (mBin fGt (mBin fMod (mCall (callP F_law_mix) (aCons (mVar 3) (aCons (mC (.int 1)) (aNil)))) (mC (.int 3))) (mC (.int 0)))) (mUnp [4, 5] (mBin fIx (mVar 2) (mBin fMod (mCall (callP F_law_mix) (aCons (mVar 3) (aCons (mC (.int 2)) (aNil)))) (mCall fLen (aCons (mVar 2) (aNil)))))) (mNext)) (mIf (mBin fGt (mBin fSub (mVar 5) (mVar 4)) (mC (.int 1))) (mSeq (mSet 6 (mBin (fAdd false) (mVar 4) (mBin fMod (mCall (callP F_law_mix) (aCons (mVar 3) (aCons (mC (.int 3)) (aNil)))) (mBin fSub (mBin fSub (mVar 5) (mVar 4)) (mC (.int 1)))))) (mSeq (mSet 7 (mTup (aCons (mVar 6) (aCons (mBin (fAdd false) (mBin (fAdd false) (mVar 6) (mC (.int 2))) (mBin fMod (mCall (callP F_law_mix) (aCons (mVar 3) (aCons (mC (.int 4)) (aNil)))) (mBin fSub (mBin fSub (mVar 5) (mVar 6)) (mC (.int 1))))) (aNil))))) (mIf (mCall (callP F_law_fits) (aCons (mVar 2) (aCons (mVar 7) (aNil)))) (mExpr (mMeth fAppend (mVar 2) (aCons (mVar 7) (aNil)))) (mNext)))) (mNext))))
def c_law_turns_1 : EM := mComp false (iAnyM (mVar 2)) (gmTup [6, 9]) (eYes) (mTup (aCons (mVar 6) (aCons (mBin fSub (mC (.int 0)) (mVar 9)) (aNil)))) [6, 9]
def c_law_turns_2 : EM := mComp false (iAnyM (mCall (fSortedP false) (aCons (c_law_turns_1) (aNil)))) (gmTup [6, 8]) (eYes) (mTup (aCons (mVar 6) (aCons (mBin fSub (mC (.int 0)) (mVar 8)) (aNil)))) [6, 8]
def m_law_turns : SM := mSeq (mSet 2 (mLst true (aNil))) (mSeq (mFor (iAnyM (mVar 1)) (gmName 3) (b_law_turns_1)) (mRet (c_law_turns_2)))
def F_law_turns : Fn := runF 2 10 m_law_turns
def c_law_deepest_1 : EM := mComp false (iAnyM (mVar 1)) (gmName 4) (mAnd (mBin fLe (mBin fIx (mVar 4) (mC (.int 0))) (mVar 3)) (mBin fLt (mVar 3) (mBin fIx (mVar 4) (mC (.int 1))))) (mVar 4) [4]
def b_law_deepest_1 : SM := mSet 2 (mCall fMax2 (aCons (mVar 2) (aCons (mCall fLen (aCons (c_law_deepest_1) (aNil))) (aNil))))
def m_law_deepest : SM := mSeq (mSet 2 (mC (.int 0))) (mSeq (mFor (iRg1 (aCons (mVar 0) (aNil))) (gmName 3) (b_law_deepest_1)) (mRet (mVar 2)))
def F_law_deepest : Fn := runF 2 5 m_law_deepest
def b_law_nested_1 : SM := mSeq (mSet 3 (mOr (mBin fLe (mBin fIx (mBin fIx (mVar 0) (mVar 2)) (mC (.int 1))) (mBin fIx (mBin fIx (mVar 0) (mVar 1)) (mC (.int 0)))) (mBin fLe (mBin fIx (mBin fIx (mVar 0) (mVar 1)) (mC (.int 1))) (mBin fIx (mBin fIx (mVar 0) (mVar 2)) (mC (.int 0)))))) (mIf (mAnd (mNot (mVar 3)) (mOr (mBin fLt (mBin fIx (mBin fIx (mVar 0) (mVar 1)) (mC (.int 0))) (mBin fIx (mBin fIx (mVar 0) (mVar 2)) (mC (.int 0)))) (mBin fGt (mBin fIx (mBin fIx (mVar 0) (mVar 1)) (mC (.int 1))) (mBin fIx (mBin fIx (mVar 0) (mVar 2)) (mC (.int 1)))))) (mRet (mC (.bl false))) (mNext))
def b_law_nested_2 : SM := mFor (iRg1 (aCons (mVar 1) (aNil))) (gmName 2) (b_law_nested_1)
def m_law_nested : SM := mSeq (mFor (iRg1 (aCons (mCall fLen (aCons (mVar 0) (aNil))) (aNil))) (gmName 1) (b_law_nested_2)) (mRet (mC (.bl true)))
def F_law_nested : Fn := runF 1 4 m_law_nested
def b_is_turn_1 : SM := mIf (mOr (mNot (mIsi "int" (mVar 2))) (mIsi "bool" (mVar 2))) (mRet (mC (.bl false))) (mNext)
def m_is_turn : SM := mSeq (mIf (mOr (mNot (mIsi "tuple" (mVar 1))) (mBin (fEq true) (mCall fLen (aCons (mVar 1) (aNil))) (mC (.int 2)))) (mRet (mC (.bl false))) (mNext)) (mSeq (mFor (iAnyM (mVar 1)) (gmName 2) (b_is_turn_1)) (mRet (mAnd (mBin fLe (mC (.int 0)) (mBin fIx (mVar 1) (mC (.int 0)))) (mAnd (mBin fLe (mBin (fAdd false) (mBin fIx (mVar 1) (mC (.int 0))) (mC (.int 2))) (mBin fIx (mVar 1) (mC (.int 1)))) (mBin fLe (mBin fIx (mVar 1) (mC (.int 1))) (mVar 0))))))
def F_is_turn : Fn := runF 2 3 m_is_turn
def b_done_1 : SM := mIf (mNot (mCall (callP F_is_turn) (aCons (mVar 0) (aCons (mVar 2) (aNil))))) (mRaise "NoTurn") (mNext)
def b_done_2 : SM := mSet 3 (mBin (fAdd false) (mBin (fAdd false) (mSl false (mVar 3) (oNone) (oSome (mVar 4))) (mRev false (mSl false (mVar 3) (oSome (mVar 4)) (oSome (mVar 5))))) (mSl false (mVar 3) (oSome (mVar 5)) (oNone)))
def m_done : SM := mSeq (mFor (iAnyM (mVar 1)) (gmName 2) (b_done_1)) (mSeq (mSet 3 (mLstRg1 false (mVar 0))) (mSeq (mFor (iAnyM (mVar 1)) (gmTup [4, 5]) (b_done_2)) (mRet (mCall fTuple (aCons (mVar 3) (aNil))))))
def F_done : Fn := runF 2 6 m_done
def b_law_done_k32_1 : SM := mSeq (mSwap (mBin fIx (mVar 2) (mVar 5)) (mBin fIx (mVar 2) (mVar 3)) (mVar 2) (mVar 3) (mVar 2) (mVar 5)) (mSeq (mSet 3 (mBin (fAdd false) (mVar 3) (mC (.int 1)))) (mSet 5 (mBin fSub (mVar 5) (mC (.int 1)))))
def b_law_done_k32_2 : SM := mSeq (mSet 5 (mBin fSub (mVar 4) (mC (.int 1)))) (mWhile (mBin fLt (mVar 3) (mVar 5)) (b_law_done_k32_1) 1000)
def m_law_done_k32 : SM := mSeq (mSet 2 (mCall (fList true) (aCons (mVar 0) (aNil)))) (mSeq (mFor (iAnyM (mVar 1)) (gmTup [3, 4]) (b_law_done_k32_2)) (mRet (mVar 2)))
def F_law_done_k32 : Fn := runF 2 6 m_law_done_k32
def b_law_drawn_1 : SM := mIf (mBin fGt (mVar 0) (mC (.int 1))) (mSeq (mSet 4 (mBin fMod (mCall (callP F_law_mix) (aCons (mVar 3) (aCons (mC (.int 1)) (aNil)))) (mBin fSub (mVar 0) (mC (.int 1))))) (mExpr (mMeth fAppend (mVar 2) (aCons (mTup (aCons (mVar 4) (aCons (mBin (fAdd false) (mBin (fAdd false) (mVar 4) (mC (.int 2))) (mBin fMod (mCall (callP F_law_mix) (aCons (mVar 3) (aCons (mC (.int 2)) (aNil)))) (mBin fSub (mBin fSub (mVar 0) (mVar 4)) (mC (.int 1))))) (aNil)))) (aNil))))) (mNext)
def m_law_drawn : SM := mSeq (mSet 2 (mLst true (aNil))) (mSeq (mFor (iAnyM (mVar 1)) (gmName 3) (b_law_drawn_1)) (mRet (mVar 2)))
def F_law_drawn : Fn := runF 2 5 m_law_drawn
def c_size_in_1 (self : Fn) : EM := mComp false (iAnyM (mBin fIx (mVar 0) (mC (.int 1)))) (gmName 1) (eYes) (mCall (callP self) (aCons (mVar 1) (aNil))) [1]
def m_size_in (self : Fn) : SM := mSeq (mIf (mBin (fIsN false) (mVar 0) (mC .non)) (mRet (mC (.int 1))) (mNext)) (mRet (mCall fSum (aCons (c_size_in_1 self) (aNil))))
def F_size_in : Nat → Fn
  | 0 => fun _ _ => .err
  | n + 1 => runF 1 2 (m_size_in (F_size_in n))
def b_seen_parts_1 : SM := mSeq (mExpr (mMeth fAppend (mVar 2) (aCons (mTup (aCons (mVar 4) (aCons (mVar 1) (aNil)))) (aNil)))) (mSet 1 (mBin (fAdd false) (mVar 1) (mCall (callP (F_size_in 70)) (aCons (mVar 4) (aNil)))))
def m_seen_parts : SM := mSeq (mSet 2 (mLst true (aNil))) (mSeq (mSet 3 (mCall (fList false) (aCons (mBin fIx (mVar 0) (mC (.int 1))) (aNil)))) (mSeq (mIf (mBin (fEq false) (mBin fIx (mVar 0) (mC (.int 0))) (mC (.str "-"))) (mSet 3 (mRev false (mVar 3))) (mNext)) (mSeq (mFor (iAnyM (mVar 3)) (gmName 4) (b_seen_parts_1)) (mRet (mVar 2)))))
def F_seen_parts : Fn := runF 2 5 m_seen_parts
def b_turns_of_1 : SM := mSeq (mUnp [4, 5] (mMeth fPop (mVar 3) aNil)) (mIf (mBin (fIsN true) (mVar 4) (mC .non)) (mSeq (mSet 6 (mCall (callP (F_size_in 70)) (aCons (mVar 4) (aNil)))) (mSeq (mIf (mOr (mBin (fEq false) (mBin fIx (mVar 4) (mC (.int 0))) (mC (.str "-"))) (mBin fLt (mVar 6) (mVar 1))) (mExpr (mMeth fAppend (mVar 2) (aCons (mTup (aCons (mVar 5) (aCons (mBin (fAdd false) (mVar 5) (mVar 6)) (aNil)))) (aNil)))) (mNext)) (mExpr (mMeth fExtend (mVar 3) (aCons (mRev false (mCall (callP F_seen_parts) (aCons (mVar 4) (aCons (mVar 5) (aNil))))) (aNil)))))) (mNext))
def m_turns_of : SM := mSeq (mIf (mNot (mCall (callP F_is_nest) (aCons (mVar 0) (aNil)))) (mRaise "NoNest") (mNext)) (mSeq (mSet 1 (mCall (callP (F_size_in 70)) (aCons (mVar 0) (aNil)))) (mSeq (mSet 2 (mLst true (aNil))) (mSeq (mSet 3 (mLst true (aCons (mTup (aCons (mVar 0) (aCons (mC (.int 0)) (aNil)))) (aNil)))) (mSeq (mWhile (mBin (fEqX true) (mVar 3) (mLst false (aNil))) (b_turns_of_1) 1000) (mRet (mVar 2))))))
def F_turns_of : Fn := runF 1 7 m_turns_of
def m_law_closed_k33 : SM := mSeq (mSet 1 (mMeth fPop (mVar 0) aNil)) (mIf (mBin (fEq false) (mCall fLen (aCons (mVar 1) (aNil))) (mC (.int 1))) (mExpr (mMeth fAppend (mBin fIx (mVar 0) (mNeg (mC (.int 1)))) (aCons (mBin fIx (mVar 1) (mC (.int 0))) (aNil)))) (mIf (mBin fGt (mCall fLen (aCons (mVar 1) (aNil))) (mC (.int 1))) (mExpr (mMeth fAppend (mBin fIx (mVar 0) (mNeg (mC (.int 1)))) (aCons (mVar 1) (aNil)))) (mNext)))
def F_law_closed_k33 : Fn := runF 1 2 m_law_closed_k33
def b_law_lists_1 : SM := mIf (mBin (fEq false) (mBin fMod (mVar 2) (mC (.int 4))) (mC (.int 0))) (mExpr (mMeth fAppend (mVar 1) (aCons (mLst true (aNil)) (aNil)))) (mIf (mAnd (mBin (fEq false) (mBin fMod (mVar 2) (mC (.int 4))) (mC (.int 1))) (mBin fGt (mCall fLen (aCons (mVar 1) (aNil))) (mC (.int 1)))) (mExpr (mCall (callS F_law_closed_k33) (aCons (mVar 1) (aNil)))) (mExpr (mMeth fAppend (mBin fIx (mVar 1) (mNeg (mC (.int 1)))) (aCons (mC .non) (aNil)))))
def b_law_lists_2 : SM := mExpr (mCall (callS F_law_closed_k33) (aCons (mVar 1) (aNil)))
def m_law_lists : SM := mSeq (mSet 1 (mLst true (aCons (mLst true (aNil)) (aNil)))) (mSeq (mFor (iAnyM (mVar 0)) (gmName 2) (b_law_lists_1)) (mSeq (mWhile (mBin fGt (mCall fLen (aCons (mVar 1) (aNil))) (mC (.int 1))) (b_law_lists_2) 1000) (mRet (mBin fIx (mVar 1) (mC (.int 0))))))
def F_law_lists : Fn := runF 1 3 m_law_lists
def c_law_kinded_1 (self : Fn) : EM := mComp false (iAnyM (mVar 0)) (gmName 3) (eYes) (mCall (callP self) (aCons (mVar 3) (aCons (mVar 2) (aNil)))) [3]
def m_law_kinded (self : Fn) : SM := mSeq (mIf (mBin (fIsN false) (mVar 0) (mC .non)) (mRet (mC .non)) (mNext)) (mSeq (mSet 2 (mC (.str "+"))) (mSeq (mIf (mBin (fEq false) (mVar 1) (mC (.str "+"))) (mSet 2 (mC (.str "-"))) (mNext)) (mRet (mTup (aCons (mVar 1) (aCons (mCall fTuple (aCons (c_law_kinded_1 self) (aNil))) (aNil)))))))
def F_law_kinded : Nat → Fn
  | 0 => fun _ _ => .err
  | n + 1 => runF 2 4 (m_law_kinded (F_law_kinded n))
def m_law_nest_k33 : SM := mSeq (mSet 2 (mCall (callPd F_law_lists) (aCons (mVar 0) (aNil)))) (mSeq (mIf (mBin (fEq false) (mCall fLen (aCons (mVar 2) (aNil))) (mC (.int 0))) (mRet (mC .non)) (mNext)) (mSeq (mIf (mBin (fEq false) (mCall fLen (aCons (mVar 2) (aNil))) (mC (.int 1))) (mSet 2 (mBin fIx (mVar 2) (mC (.int 0)))) (mNext)) (mRet (mCall (callP (F_law_kinded 70)) (aCons (mVar 2) (aCons (mBin fIx (mC (.str "+-")) (mBin fMod (mVar 1) (mC (.int 2)))) (aNil)))))))
def F_law_nest_k33 : Fn := runF 2 3 m_law_nest_k33
def b_law_seen_k33_1 (self : Fn) : SM := mSeq (mExpr (mMeth fAppend (mVar 2) (aCons (mCall (callP self) (aCons (mVar 3) (aCons (mVar 1) (aNil)))) (aNil)))) (mSet 1 (mBin (fAdd false) (mVar 1) (mCall fLen (aCons (mBin fIx (mVar 2) (mNeg (mC (.int 1)))) (aNil)))))
def b_law_seen_k33_2 (self : Fn) : SM := mExpr (mMeth fExtend (mVar 4) (aCons (mVar 5) (aNil)))
def m_law_seen_k33 (self : Fn) : SM := mSeq (mIf (mBin (fIsN false) (mVar 0) (mC .non)) (mRet (mLst false (aCons (mVar 1) (aNil)))) (mNext)) (mSeq (mSet 2 (mLst true (aNil))) (mSeq (mFor (iAnyM (mBin fIx (mVar 0) (mC (.int 1)))) (gmName 3) (b_law_seen_k33_1 self)) (mSeq (mIf (mBin (fEq false) (mBin fIx (mVar 0) (mC (.int 0))) (mC (.str "-"))) (mExpr (mMeth fReverse (mVar 2) aNil)) (mNext)) (mSeq (mSet 4 (mLst true (aNil))) (mSeq (mFor (iAnyM (mVar 2)) (gmName 5) (b_law_seen_k33_2 self)) (mRet (mVar 4)))))))
def F_law_seen_k33 : Nat → Fn
  | 0 => fun _ _ => .err
  | n + 1 => runF 2 6 (m_law_seen_k33 (F_law_seen_k33 n))
def b_law_counts_1 : SM := mSeq (mSet 3 (mBin (fMul false) (mBin (fMul false) (mC (.int 3)) (mBin fSub (mBin (fMul false) (mC (.int 2)) (mVar 2)) (mC (.int 3)))) (mBin fIx (mVar 1) (mBin fSub (mVar 2) (mC (.int 1)))))) (mExpr (mMeth fAppend (mVar 1) (aCons (mBin fDiv (mBin fSub (mVar 3) (mBin (fMul false) (mBin fSub (mVar 2) (mC (.int 3))) (mBin fIx (mVar 1) (mBin fSub (mVar 2) (mC (.int 2)))))) (mVar 2)) (aNil))))
def m_law_counts : SM := mSeq (mSet 1 (mLst true (aCons (mC (.int 1)) (aCons (mC (.int 1)) (aCons (mC (.int 2)) (aNil)))))) (mSeq (mFor (iRg2 (aCons (mC (.int 3)) (aCons (mBin (fAdd false) (mVar 0) (mC (.int 1))) (aNil)))) (gmName 2) (b_law_counts_1)) (mRet (mVar 1)))
def F_law_counts : Fn := runF 1 4 m_law_counts
def b_row_number_1 (self : Fn) : SM := mAug 2 (fun i j => i + j) (mBin (fMul false) (mCall (callP F_alone) (aCons (mVar 0) (aCons (mVar 6) (aNil)))) (mCall (callP F_behind_first) (aCons (mVar 0) (aCons (mBin fSub (mVar 3) (mVar 6)) (aNil)))))
def b_row_number_2 (self : Fn) : SM := mSeq (mSet 5 (mCall (callP F_words_of) (aCons (mBin fIx (mVar 1) (mVar 4)) (aNil)))) (mSeq (mIf (mBin fLt (mVar 4) (mBin fSub (mCall fLen (aCons (mVar 1) (aNil))) (mC (.int 2)))) (mAug 2 (fun i j => i + j) (mBin fIx (mVar 0) (mVar 3))) (mNext)) (mSeq (mAug 2 (fun i j => i + j) (mBin (fMul false) (mCall (callP self) (aCons (mVar 0) (aCons (mBin fIx (mVar 1) (mVar 4)) (aNil)))) (mCall (callP F_behind_first) (aCons (mVar 0) (aCons (mVar 3) (aNil)))))) (mSeq (mAug 3 (fun i j => i + j) (mVar 5)) (mFor (iRg2 (aCons (mC (.int 1)) (aCons (mVar 5) (aNil)))) (gmName 6) (b_row_number_1 self)))))
def m_row_number (self : Fn) : SM := mSeq (mSet 2 (mCall (callP self) (aCons (mVar 0) (aCons (mBin fIx (mVar 1) (mNeg (mC (.int 1)))) (aNil))))) (mSeq (mSet 3 (mCall (callP F_words_of) (aCons (mBin fIx (mVar 1) (mNeg (mC (.int 1)))) (aNil)))) (mSeq (mFor (iRg3 (aCons (mBin fSub (mCall fLen (aCons (mVar 1) (aNil))) (mC (.int 2))) (aCons (mNeg (mC (.int 1))) (aCons (mNeg (mC (.int 1))) (aNil))))) (gmName 4) (b_row_number_2 self)) (mRet (mVar 2))))
def F_row_number_of (self : Fn) : Fn := runF 2 7 (m_row_number self)
def m_part_number (self : Fn) : SM := mSeq (mIf (mBin (fIsN false) (mVar 1) (mC .non)) (mRet (mC (.int 0))) (mNext)) (mRet (mCall (callP self) (aCons (mVar 0) (aCons (mBin fIx (mVar 1) (mC (.int 1))) (aNil)))))
def F_part_number : Nat → Fn
  | 0 => fun _ _ => .err
  | n + 1 => runF 2 2 (m_part_number (F_row_number_of (F_part_number n)))
def F_row_number (n : Nat) : Fn := F_row_number_of (F_part_number n)
def m_number_of : SM := mSeq (mSet 1 (mCall (callP F_kind_counts) (aCons (mCall (callP F_words_of) (aCons (mVar 0) (aNil))) (aNil)))) (mSeq (mSet 2 (mCall (callP (F_part_number 70)) (aCons (mVar 1) (aCons (mVar 0) (aNil))))) (mSeq (mIf (mAnd (mBin (fIsN true) (mVar 0) (mC .non)) (mBin (fEq false) (mBin fIx (mVar 0) (mC (.int 0))) (mC (.str "-")))) (mAug 2 (fun i j => i + j) (mBin fIx (mVar 1) (mNeg (mC (.int 1))))) (mNext)) (mRet (mVar 2))))
def F_number_of : Fn := runF 1 3 m_number_of
def b_row_at_1 (self : Fn) : SM := mSeq (mAug 6 (fun i j => i - j) (mBin (fMul false) (mCall (callP F_alone) (aCons (mVar 0) (aCons (mVar 7) (aNil)))) (mCall (callP F_behind_first) (aCons (mVar 0) (aCons (mBin fSub (mVar 2) (mVar 7)) (aNil)))))) (mAug 7 (fun i j => i + j) (mC (.int 1)))
def b_row_at_2 (self : Fn) : SM := mSeq (mSet 7 (mC (.int 1))) (mSeq (mWhile (mBin fGe (mVar 6) (mBin (fMul false) (mCall (callP F_alone) (aCons (mVar 0) (aCons (mVar 7) (aNil)))) (mCall (callP F_behind_first) (aCons (mVar 0) (aCons (mBin fSub (mVar 2) (mVar 7)) (aNil)))))) (b_row_at_1 self) 1000) (mSeq (mAug 2 (fun i j => i - j) (mVar 7)) (mSeq (mUnp [8, 6] (mCall fDivmod (aCons (mVar 6) (aCons (mCall (callP F_behind_first) (aCons (mVar 0) (aCons (mVar 2) (aNil)))) (aNil))))) (mSeq (mExpr (mMeth fAppend (mVar 5) (aCons (mCall (callP self) (aCons (mVar 0) (aCons (mVar 4) (aCons (mVar 7) (aCons (mVar 8) (aNil)))))) (aNil)))) (mSeq (mIf (mOr (mBin (fEq false) (mVar 2) (mC (.int 1))) (mBin fLt (mVar 6) (mBin fIx (mVar 0) (mVar 2)))) (mSeq (mExpr (mMeth fAppend (mVar 5) (aCons (mCall (callP self) (aCons (mVar 0) (aCons (mVar 4) (aCons (mVar 2) (aCons (mVar 6) (aNil)))))) (aNil)))) (mRet (mCall fTuple (aCons (mVar 5) (aNil))))) (mNext)) (mAug 6 (fun i j => i - j) (mBin fIx (mVar 0) (mVar 2))))))))
def m_row_at (self : Fn) : SM := mSeq (mSet 4 (mIfE (mBin (fEq false) (mVar 1) (mC (.str "+"))) (mC (.str "-")) (mC (.str "+")))) (mSeq (mSet 5 (mLst true (aNil))) (mSeq (mSet 6 (mVar 3)) (mWhile (mC (.bl true)) (b_row_at_2 self) 1000)))
def F_row_at_of (self : Fn) : Fn := runF 4 9 (m_row_at self)
def m_part_at (self : Fn) : SM := mSeq (mIf (mBin (fEq false) (mVar 2) (mC (.int 1))) (mRet (mC .non)) (mNext)) (mRet (mTup (aCons (mVar 1) (aCons (mCall (callP self) (aCons (mVar 0) (aCons (mVar 1) (aCons (mVar 2) (aCons (mVar 3) (aNil)))))) (aNil)))))
def F_part_at : Nat → Fn
  | 0 => fun _ _ => .err
  | n + 1 => runF 4 4 (m_part_at (F_row_at_of (F_part_at n)))
def F_row_at (n : Nat) : Fn := F_row_at_of (F_part_at n)
def m_nest_at : SM := mSeq (mIf (mOr (mBin fLt (mVar 1) (mC (.int 0))) (mBin fGe (mVar 1) (mCall (callP F_how_many) (aCons (mVar 0) (aNil))))) (mRaise "NoNumber") (mNext)) (mSeq (mIf (mBin (fEq false) (mVar 0) (mC (.int 1))) (mRet (mC .non)) (mNext)) (mSeq (mSet 2 (mCall (callP F_kind_counts) (aCons (mVar 0) (aNil)))) (mSeq (mIf (mBin fLt (mVar 1) (mBin fIx (mVar 2) (mVar 0))) (mRet (mTup (aCons (mC (.str "+")) (aCons (mCall (callP (F_row_at 70)) (aCons (mVar 2) (aCons (mC (.str "+")) (aCons (mVar 0) (aCons (mVar 1) (aNil)))))) (aNil))))) (mNext)) (mRet (mTup (aCons (mC (.str "-")) (aCons (mCall (callP (F_row_at 70)) (aCons (mVar 2) (aCons (mC (.str "-")) (aCons (mVar 0) (aCons (mBin fSub (mVar 1) (mBin fIx (mVar 2) (mVar 0))) (aNil)))))) (aNil))))))))
def F_nest_at : Fn := runF 2 3 m_nest_at
def m_law_size_k42 : SM := mRet (mCall fLen (aCons (mCall (callP (F_law_row 70)) (aCons (mVar 0) (aCons (mC (.int 0)) (aNil)))) (aNil)))
def F_law_size_k42 : Fn := runF 1 1 m_law_size_k42
def b_law_key_1 (self : Fn) : SM := mSeq (mIf (mBin fGt (mVar 2) (mC (.int 0))) (mExpr (mMeth fAppend (mVar 1) (aCons (mCall fInt (aCons (mBin fLt (mBin (fAdd false) (mVar 2) (mC (.int 1))) (mCall fLen (aCons (mBin fIx (mVar 0) (mC (.int 1))) (aNil)))) (aNil))) (aNil)))) (mNext)) (mSeq (mIf (mBin fLt (mBin (fAdd false) (mVar 2) (mC (.int 1))) (mCall fLen (aCons (mBin fIx (mVar 0) (mC (.int 1))) (aNil)))) (mExpr (mMeth fAppend (mVar 1) (aCons (mCall (callP F_law_size_k42) (aCons (mBin fIx (mBin fIx (mVar 0) (mC (.int 1))) (mVar 2)) (aNil))) (aNil)))) (mNext)) (mExpr (mMeth fExtend (mVar 1) (aCons (mCall (callP self) (aCons (mBin fIx (mBin fIx (mVar 0) (mC (.int 1))) (mVar 2)) (aNil))) (aNil)))))
def m_law_key (self : Fn) : SM := mSeq (mSet 1 (mLst true (aNil))) (mSeq (mIf (mBin (fIsN true) (mVar 0) (mC .non)) (mFor (iRg1 (aCons (mCall fLen (aCons (mBin fIx (mVar 0) (mC (.int 1))) (aNil))) (aNil))) (gmName 2) (b_law_key_1 self)) (mNext)) (mRet (mVar 1)))
def F_law_key : Nat → Fn
  | 0 => fun _ _ => .err
  | n + 1 => runF 1 3 (m_law_key (F_law_key n))
def m_law_ahead : SM := mSeq (mIf (mBin (fEq true) (mBin fIx (mVar 0) (mC (.int 0))) (mBin fIx (mVar 1) (mC (.int 0)))) (mRet (mBin (fEq false) (mBin fIx (mVar 0) (mC (.int 0))) (mC (.str "+")))) (mNext)) (mRet (mBin fLtL (mCall (callP (F_law_key 70)) (aCons (mVar 0) (aNil))) (mCall (callP (F_law_key 70)) (aCons (mVar 1) (aNil)))))
def F_law_ahead : Fn := runF 2 2 m_law_ahead
def b_bars_in_1 : SM := mIf (mCall (callP F_is_bar) (aCons (mVar 0) (aCons (mTup (aCons (mVar 3) (aCons (mVar 4) (aCons (mVar 5) (aCons (mVar 6) (aNil)))))) (aNil)))) (mExpr (mMeth fAppend (mVar 1) (aCons (mBin (fAdd false) (mBin (fAdd false) (mBin (fAdd false) (mBin fShl (mC (.int 1)) (mBin fIx (mVar 0) (mVar 3))) (mBin fShl (mC (.int 1)) (mBin fIx (mVar 0) (mVar 4)))) (mBin fShl (mC (.int 1)) (mBin fIx (mVar 0) (mVar 5)))) (mBin fShl (mC (.int 1)) (mBin fIx (mVar 0) (mVar 6)))) (aNil)))) (mNext)
def b_bars_in_2 : SM := mFor (iRg2 (aCons (mBin (fAdd false) (mVar 5) (mC (.int 1))) (aCons (mVar 2) (aNil)))) (gmName 6) (b_bars_in_1)
def b_bars_in_3 : SM := mFor (iRg2 (aCons (mBin (fAdd false) (mVar 4) (mC (.int 1))) (aCons (mVar 2) (aNil)))) (gmName 5) (b_bars_in_2)
def b_bars_in_4 : SM := mFor (iRg2 (aCons (mBin (fAdd false) (mVar 3) (mC (.int 1))) (aCons (mVar 2) (aNil)))) (gmName 4) (b_bars_in_3)
def m_bars_in : SM := mSeq (mSet 1 (mLst true (aNil))) (mSeq (mSet 2 (mCall fLen (aCons (mVar 0) (aNil)))) (mSeq (mFor (iRg1 (aCons (mVar 2) (aNil))) (gmName 3) (b_bars_in_4)) (mRet (mVar 1))))
def F_bars_in : Fn := runF 1 7 m_bars_in
def b_first_within_1 : SM := mIf (mBin (fEq false) (mBin fAnd (mVar 2) (mVar 1)) (mVar 2)) (mRet (mVar 2)) (mNext)
def m_first_within : SM := mSeq (mFor (iAnyM (mVar 0)) (gmName 2) (b_first_within_1)) (mRet (mC (.int 0)))
def F_first_within : Fn := runF 2 3 m_first_within
def c_words_in_1 : EM := mComp false (iRg1 (aCons (mVar 1) (aNil))) (gmName 2) (mBin (fEq false) (mBin fMod (mBin fShr (mVar 0) (mVar 2)) (mC (.int 2))) (mC (.int 1))) (mVar 2) [2]
def m_words_in : SM := mRet (c_words_in_1)
def F_words_in : Fn := runF 2 3 m_words_in
def b_most_staying_1 : SM := mDPut (mVar 4) (mBin fSub (mVar 5) (mBin fShl (mC (.int 1)) (mVar 7))) (mC (.bl true))
def b_most_staying_2 : SM := mSeq (mSet 6 (mCall (callP F_first_within) (aCons (mVar 2) (aCons (mVar 5) (aNil))))) (mSeq (mIf (mBin (fEq false) (mVar 6) (mC (.int 0))) (mRet (mCall (callP F_words_in) (aCons (mVar 5) (aCons (mVar 1) (aNil))))) (mNext)) (mFor (iAnyM (mCall (callP F_words_in) (aCons (mVar 6) (aCons (mVar 1) (aNil))))) (gmName 7) (b_most_staying_1)))
def b_most_staying_3 : SM := mSeq (mSet 4 (mEmp true)) (mSeq (mFor (iAnyM (mVar 3)) (gmName 5) (b_most_staying_2)) (mSet 3 (mKeys false (mVar 4))))
def m_most_staying : SM := mSeq (mSet 1 (mCall fLen (aCons (mVar 0) (aNil)))) (mSeq (mIf (mBin fGt (mVar 1) (mC (.int 12))) (mRaise "TooMany") (mNext)) (mSeq (mSet 2 (mCall (callP F_bars_in) (aCons (mVar 0) (aNil)))) (mSeq (mSet 3 (mLst false (aCons (mBin fSub (mBin fShl (mC (.int 1)) (mVar 1)) (mC (.int 1))) (aNil)))) (mWhile (mC (.bl true)) (b_most_staying_3) 1000))))
def F_most_staying : Fn := runF 1 8 m_most_staying
def m_need_nest_k61 : SM := mIf (mNot (mCall (callP F_is_nest) (aCons (mVar 0) (aNil)))) (mRaise "NoNest") (mNext)
def F_need_nest_k61 : Fn := runF 1 1 m_need_nest_k61
def c_backed_1 (self : Fn) : EM := mComp false (iAnyM (mBin fIx (mVar 0) (mC (.int 1)))) (gmName 2) (eYes) (mCall (callP self) (aCons (mVar 2) (aNil))) [2]
def m_backed (self : Fn) : SM := mSeq (mIf (mBin (fIsN false) (mVar 0) (mC .non)) (mRet (mC .non)) (mNext)) (mSeq (mSet 1 (c_backed_1 self)) (mSeq (mIf (mBin (fEq false) (mBin fIx (mVar 0) (mC (.int 0))) (mC (.str "-"))) (mSet 1 (mRev false (mVar 1))) (mNext)) (mRet (mTup (aCons (mBin fIx (mVar 0) (mC (.int 0))) (aCons (mCall fTuple (aCons (mVar 1) (aNil))) (aNil)))))))
def F_backed : Nat → Fn
  | 0 => fun _ _ => .err
  | n + 1 => runF 1 3 (m_backed (F_backed n))
def m_back_nest : SM := mSeq (mExpr (mCall (callP F_need_nest_k61) (aCons (mVar 0) (aNil)))) (mRet (mCall (callP (F_backed 70)) (aCons (mVar 0) (aNil))))
def F_back_nest : Fn := runF 1 1 m_back_nest
def c_mirrored_1 (self : Fn) : EM := mComp false (iAnyM (mBin fIx (mVar 0) (mC (.int 1)))) (gmName 2) (eYes) (mCall (callP self) (aCons (mVar 2) (aNil))) [2]
def m_mirrored (self : Fn) : SM := mSeq (mIf (mBin (fIsN false) (mVar 0) (mC .non)) (mRet (mC .non)) (mNext)) (mSeq (mSet 1 (mC (.str "-"))) (mSeq (mIf (mBin (fEq false) (mBin fIx (mVar 0) (mC (.int 0))) (mC (.str "-"))) (mSet 1 (mC (.str "+"))) (mNext)) (mRet (mTup (aCons (mVar 1) (aCons (mCall fTuple (aCons (c_mirrored_1 self) (aNil))) (aNil)))))))
def F_mirrored : Nat → Fn
  | 0 => fun _ _ => .err
  | n + 1 => runF 1 3 (m_mirrored (F_mirrored n))
def m_mirror_nest : SM := mSeq (mExpr (mCall (callP F_need_nest_k61) (aCons (mVar 0) (aNil)))) (mRet (mCall (callP (F_mirrored 70)) (aCons (mVar 0) (aNil))))
def F_mirror_nest : Fn := runF 1 1 m_mirror_nest
def b_law_is_nest_k61_1 (self : Fn) : SM := mIf (mOr (mNot (mCall (callP self) (aCons (mVar 1) (aNil)))) (mAnd (mBin (fIsN true) (mVar 1) (mC .non)) (mBin (fEq false) (mBin fIx (mVar 1) (mC (.int 0))) (mBin fIx (mVar 0) (mC (.int 0)))))) (mRet (mC (.bl false))) (mNext)
def m_law_is_nest_k61 (self : Fn) : SM := mSeq (mIf (mBin (fIsN false) (mVar 0) (mC .non)) (mRet (mC (.bl true))) (mNext)) (mSeq (mIf (mOr (mNot (mIsi "tuple" (mVar 0))) (mOr (mBin (fEq true) (mCall fLen (aCons (mVar 0) (aNil))) (mC (.int 2))) (mOr (mNot (mIsi "tuple" (mBin fIx (mVar 0) (mC (.int 1))))) (mBin fLt (mCall fLen (aCons (mBin fIx (mVar 0) (mC (.int 1))) (aNil))) (mC (.int 2)))))) (mRet (mC (.bl false))) (mNext)) (mSeq (mIf (mOr (mNot (mIsi "str" (mBin fIx (mVar 0) (mC (.int 0))))) (mBin (fIn true) (mBin fIx (mVar 0) (mC (.int 0))) (mTup (aCons (mC (.str "+")) (aCons (mC (.str "-")) (aNil)))))) (mRet (mC (.bl false))) (mNext)) (mSeq (mFor (iAnyM (mBin fIx (mVar 0) (mC (.int 1)))) (gmName 1) (b_law_is_nest_k61_1 self)) (mRet (mC (.bl true))))))
def F_law_is_nest_k61 : Nat → Fn
  | 0 => fun _ _ => .err
  | n + 1 => runF 1 2 (m_law_is_nest_k61 (F_law_is_nest_k61 n))
def m_law_no_nest_k61 : SM := mSeq (mSet 1 (mLst false (aCons (mTup (aCons (mC (.str "+")) (aNil))) (aCons (mTup (aCons (mC (.str "+")) (aCons (mTup (aCons (mC .non) (aNil))) (aNil)))) (aCons (mTup (aCons (mC (.str "*")) (aCons (mTup (aCons (mC .non) (aCons (mC .non) (aNil)))) (aNil)))) (aCons (mTup (aCons (mC (.str "-")) (aCons (mLst false (aCons (mC .non) (aCons (mC .non) (aNil)))) (aNil)))) (aCons (mLst false (aCons (mC (.str "+")) (aCons (mTup (aCons (mC .non) (aCons (mC .non) (aNil)))) (aNil)))) (aCons (mTup (aCons (mC (.str "+")) (aCons (mTup (aCons (mC .non) (aCons (mC (.int 0)) (aNil)))) (aNil)))) (aNil))))))))) (mSeq (mSet 1 (mBin (fAdd false) (mVar 1) (mLst false (aCons (mC (.int 0)) (aCons (mC (.str ".")) (aCons (mTup (aCons (mC (.str "+")) (aCons (mTup (aCons (mC .non) (aCons (mTup (aCons (mC (.str "+")) (aCons (mTup (aCons (mC .non) (aCons (mC .non) (aNil)))) (aNil)))) (aNil)))) (aNil)))) (aCons (mTup (aCons (mC (.str "-")) (aCons (mTup (aCons (mC .non) (aCons (mTup (aCons (mC (.str "-")) (aCons (mTup (aCons (mC .non) (aCons (mC .non) (aNil)))) (aNil)))) (aCons (mC .non) (aNil))))) (aNil)))) (aNil)))))))) (mSeq (mSet 1 (mBin (fAdd false) (mVar 1) (mLst false (aCons (mTup (aCons (mC .non) (aCons (mC .non) (aNil)))) (aCons (mC (.bl true)) (aNil)))))) (mRet (mBin fIx (mVar 1) (mBin fMod (mVar 0) (mC (.int 12)))))))
def F_law_no_nest_k61 : Fn := runF 1 2 m_law_no_nest_k61
def b_gathered_1 : SM := mIf (mAnd (mBin (fIsN true) (mVar 3) (mC .non)) (mBin (fEq false) (mBin fIx (mVar 3) (mC (.int 0))) (mVar 0))) (mExpr (mMeth fExtendT (mVar 2) (aCons (mBin fIx (mVar 3) (mC (.int 1))) (aNil)))) (mExpr (mMeth fAppend (mVar 2) (aCons (mVar 3) (aNil))))
def m_gathered : SM := mSeq (mSet 2 (mLst true (aNil))) (mSeq (mFor (iAnyM (mVar 1)) (gmName 3) (b_gathered_1)) (mSeq (mIf (mBin (fEq false) (mCall fLen (aCons (mVar 2) (aNil))) (mC (.int 1))) (mRet (mBin fIx (mVar 2) (mC (.int 0)))) (mNext)) (mRet (mTup (aCons (mVar 0) (aCons (mCall fTuple (aCons (mVar 2) (aNil))) (aNil)))))))
def F_gathered : Fn := runF 2 4 m_gathered
def c_left_in_1 (self : Fn) : EM := mComp false (iAnyM (mVar 2)) (gmName 5) (mBin (fEq false) (mVar 5) (mVar 1)) (mC .non) [5]
def b_left_in_1 (self : Fn) : SM := mSeq (mExpr (mMeth fExtend (mVar 3) (aCons (mCall (callP self) (aCons (mVar 4) (aCons (mVar 1) (aCons (mVar 2) (aNil))))) (aNil)))) (mSet 1 (mBin (fAdd false) (mVar 1) (mCall (callP F_words_of) (aCons (mVar 4) (aNil)))))
def m_left_in (self : Fn) : SM := mSeq (mIf (mBin (fIsN false) (mVar 0) (mC .non)) (mRet (c_left_in_1 self)) (mNext)) (mSeq (mSet 3 (mLst true (aNil))) (mSeq (mFor (iAnyM (mBin fIx (mVar 0) (mC (.int 1)))) (gmName 4) (b_left_in_1 self)) (mSeq (mIf (mBin (fEqX false) (mVar 3) (mLst false (aNil))) (mRet (mLst false (aNil))) (mNext)) (mRet (mLst false (aCons (mCall (callP F_gathered) (aCons (mBin fIx (mVar 0) (mC (.int 0))) (aCons (mVar 3) (aNil)))) (aNil)))))))
def F_left_in : Nat → Fn
  | 0 => fun _ _ => .err
  | n + 1 => runF 3 6 (m_left_in (F_left_in n))
def m_left_nest : SM := mSeq (mExpr (mCall (callP F_need_nest_k61) (aCons (mVar 0) (aNil)))) (mSeq (mExpr (mCall (callP F_left_of) (aCons (mCall (callP F_seen) (aCons (mVar 0) (aNil))) (aCons (mVar 1) (aNil))))) (mRet (mBin fIx (mCall (callP (F_left_in 70)) (aCons (mVar 0) (aCons (mC (.int 0)) (aCons (mVar 1) (aNil))))) (mC (.int 0)))))
def F_left_nest : Fn := runF 2 2 m_left_nest
def c_joined_in_1 (self : Fn) : EM := mComp false (iAnyM (mBin fIx (mVar 0) (mC (.int 1)))) (gmName 2) (eYes) (mCall (callS self) (aCons (mVar 2) (aCons (mVar 1) (aNil)))) [2]
def m_joined_in (self : Fn) : SM := mSeq (mIf (mBin (fIsN false) (mVar 0) (mC .non)) (mRet (mMeth fPopAt (mVar 1) (aCons (mC (.int 0)) (aNil)))) (mNext)) (mRet (mCall (callP F_gathered) (aCons (mBin fIx (mVar 0) (mC (.int 0))) (aCons (c_joined_in_1 self) (aNil)))))
def F_joined_in : Nat → Fn
  | 0 => fun _ _ => .err
  | n + 1 => runF 2 3 (m_joined_in (F_joined_in n))
def b_joined_nest_1 : SM := mExpr (mCall (callP F_need_nest_k61) (aCons (mVar 2) (aNil)))
def c_joined_nest_1 : EM := mComp false (iAnyM (mVar 1)) (gmName 2) (eYes) (mCall (callP F_words_of) (aCons (mVar 2) (aNil))) [2]
def m_joined_nest : SM := mSeq (mExpr (mCall (callP F_need_nest_k61) (aCons (mVar 0) (aNil)))) (mSeq (mFor (iAnyM (mVar 1)) (gmName 2) (b_joined_nest_1)) (mSeq (mIf (mOr (mBin (fEq true) (mCall fLen (aCons (mVar 1) (aNil))) (mCall (callP F_words_of) (aCons (mVar 0) (aNil)))) (mBin fGt (mCall fSum (aCons (c_joined_nest_1) (aNil))) (mC (.int 60)))) (mRaise "NoOrder") (mNext)) (mRet (mCall (callS (F_joined_in 70)) (aCons (mVar 0) (aCons (mCall (fList true) (aCons (mVar 1) (aNil))) (aNil)))))))
def F_joined_nest : Fn := runF 2 3 m_joined_nest
def b_is_word_1 : SM := mIf (mBin (fInS true) (mVar 1) (mC (.str "abcdefghijklmnopqrstuvwxyz0123456789"))) (mRet (mC (.bl false))) (mNext)
def m_is_word : SM := mSeq (mIf (mOr (mNot (mIsi "str" (mVar 0))) (mOr (mBin fLt (mCall fLen (aCons (mVar 0) (aNil))) (mC (.int 1))) (mBin fGt (mCall fLen (aCons (mVar 0) (aNil))) (mC (.int 8))))) (mRet (mC (.bl false))) (mNext)) (mSeq (mFor (iAnyM (mVar 0)) (gmName 1) (b_is_word_1)) (mRet (mC (.bl true))))
def F_is_word : Fn := runF 1 2 m_is_word
def m_close_pair : SM := mSeq (mIf (mOr (mBin (fEq false) (mCall fLen (aCons (mVar 0) (aNil))) (mC (.int 1))) (mBin fLt (mCall fLen (aCons (mBin fIx (mBin fIx (mVar 0) (mNeg (mC (.int 1)))) (mC (.int 0))) (aNil))) (mC (.int 2)))) (mRaise "NoText") (mNext)) (mSeq (mUnp [1, 2] (mMeth fPop (mVar 0) aNil)) (mSeq (mExpr (mMeth fExtend (mBin fIx (mBin fIx (mVar 0) (mNeg (mC (.int 1)))) (mC (.int 0))) (aCons (mRev false (mVar 2)) (aNil)))) (mExpr (mMeth fExtend (mBin fIx (mBin fIx (mVar 0) (mNeg (mC (.int 1)))) (mC (.int 1))) (aCons (mRev false (mVar 1)) (aNil))))))
def F_close_pair : FnX := runX 1 3 m_close_pair
def b_seen_words_1 : SM := mIf (mBin (fEq false) (mVar 2) (mC (.str "<"))) (mExpr (mMeth fAppend (mVar 1) (aCons (mTup (aCons (mLst true (aNil)) (aCons (mLst true (aNil)) (aNil)))) (aNil)))) (mIf (mBin (fEq false) (mVar 2) (mC (.str ">"))) (mExpr (mCall (callX F_close_pair) (aCons (mVar 1) (aNil)))) (mIf (mCall (callP F_is_word) (aCons (mVar 2) (aNil))) (mSeq (mExpr (mMeth fAppend (mBin fIx (mBin fIx (mVar 1) (mNeg (mC (.int 1)))) (mC (.int 0))) (aCons (mVar 2) (aNil)))) (mExpr (mMeth fAppend (mBin fIx (mBin fIx (mVar 1) (mNeg (mC (.int 1)))) (mC (.int 1))) (aCons (mVar 2) (aNil))))) (mRaise "NoText")))
def m_seen_words : SM := mSeq (mSet 1 (mLst true (aCons (mTup (aCons (mLst true (aNil)) (aCons (mLst true (aNil)) (aNil)))) (aNil)))) (mSeq (mFor (iAnyM (mSplit false (mVar 0) (aCons (mC (.str " ")) (aNil)))) (gmName 2) (b_seen_words_1)) (mSeq (mIf (mOr (mBin (fEq true) (mCall fLen (aCons (mVar 1) (aNil))) (mC (.int 1))) (mOr (mBin fLt (mCall fLen (aCons (mBin fIx (mBin fIx (mVar 1) (mC (.int 0))) (mC (.int 0))) (aNil))) (mC (.int 1))) (mBin fGt (mCall fLen (aCons (mBin fIx (mBin fIx (mVar 1) (mC (.int 0))) (mC (.int 0))) (aNil))) (mC (.int 60))))) (mRaise "NoText") (mNext)) (mRet (mBin fIx (mBin fIx (mVar 1) (mC (.int 0))) (mC (.int 0))))))
def F_seen_words : Fn := runF 1 3 m_seen_words
def b_put_down_1 (self : Fn) : SM := mExpr (mCall (callS self) (aCons (mVar 0) (aCons (mVar 4) (aCons (mVar 2) (aCons (mC (.bl true)) (aNil))))))
def m_put_down (self : Fn) : SM := mSeq (mIf (mBin (fIsN false) (mVar 1) (mC .non)) (mSeq (mExpr (mMeth fAppend (mVar 0) (aCons (mMeth fPopAt (mVar 2) (aCons (mC (.int 0)) (aNil))) (aNil)))) (mRetN)) (mNext)) (mSeq (mIf (mVar 3) (mExpr (mMeth fAppend (mVar 0) (aCons (mC (.str "<")) (aNil)))) (mNext)) (mSeq (mFor (iAnyM (mBin fIx (mVar 1) (mC (.int 1)))) (gmName 4) (b_put_down_1 self)) (mIf (mVar 3) (mExpr (mMeth fAppend (mVar 0) (aCons (mC (.str ">")) (aNil)))) (mNext))))
def F_put_down : Nat → Fn
  | 0 => fun _ _ => .err
  | n + 1 => runF 4 5 (m_put_down (F_put_down n))
def b_write_1 : SM := mIf (mNot (mCall (callP F_is_word) (aCons (mVar 2) (aNil)))) (mRaise "NoText") (mNext)
def m_write : SM := mSeq (mExpr (mCall (callP F_need_nest_k12) (aCons (mVar 1) (aNil)))) (mSeq (mFor (iAnyM (mVar 0)) (gmName 2) (b_write_1)) (mSeq (mIf (mBin (fEq true) (mCall fLen (aCons (mVar 0) (aNil))) (mCall (callP F_words_of) (aCons (mVar 1) (aNil)))) (mRaise "NoText") (mNext)) (mSeq (mSet 3 (mLst true (aNil))) (mSeq (mExpr (mCall (callS (F_put_down 70)) (aCons (mVar 3) (aCons (mVar 1) (aCons (mCall (fList true) (aCons (mVar 0) (aNil))) (aCons (mAnd (mBin (fIsN true) (mVar 1) (mC .non)) (mBin (fEq false) (mBin fIx (mVar 1) (mC (.int 0))) (mC (.str "-")))) (aNil))))))) (mRet (mJoin (mC (.str " ")) (aCons (mVar 3) (aNil))))))))
def F_write : Fn := runF 2 4 m_write
def b_law_word_k71_1 : SM := mSeq (mSet 2 (mBin (fAdd false) (mVar 2) (mBin fIx (mVar 1) (mBin fMod (mVar 3) (mC (.int 36)))))) (mSet 3 (mBin fDiv (mVar 3) (mC (.int 36))))
def m_law_word_k71 : SM := mSeq (mSet 1 (mC (.str "abcdefghijklmnopqrstuvwxyz0123456789"))) (mSeq (mSet 2 (mC (.str ""))) (mSeq (mSet 3 (mBin fDiv (mVar 0) (mC (.int 8)))) (mSeq (mFor (iRg1 (aCons (mBin (fAdd false) (mC (.int 1)) (mBin fMod (mVar 0) (mC (.int 8)))) (aNil))) (gmName 4) (b_law_word_k71_1)) (mRet (mVar 2)))))
def F_law_word_k71 : Fn := runF 1 5 m_law_word_k71
def c_law_marked_k71_1 : EM := mComp false (iAnyM (mVar 3)) (gmName 7) (mBin (fInO true) (mVar 7) (mC (.str "<>"))) (mVar 7) [7]
def b_law_marked_k71_1 : SM := mIf (mBin (fEq false) (mBin fMod (mVar 5) (mC (.int 5))) (mC (.int 0))) (mSeq (mExpr (mMeth fAppend (mVar 3) (aCons (mC (.str "<")) (aNil)))) (mExpr (mMeth fAppend (mVar 4) (aCons (mC (.int 0)) (aNil))))) (mIf (mAnd (mBin (fEq false) (mBin fMod (mVar 5) (mC (.int 5))) (mC (.int 4))) (mAnd (mBin fGt (mCall fLen (aCons (mVar 4) (aNil))) (mC (.int 1))) (mBin fGt (mBin fIx (mVar 4) (mNeg (mC (.int 1)))) (mC (.int 1))))) (mSeq (mExpr (mMeth fAppend (mVar 3) (aCons (mC (.str ">")) (aNil)))) (mSeq (mSet 6 (mMeth fPop (mVar 4) aNil)) (mSetIx (mVar 4) (mNeg (mC (.int 1))) (mBin (fAdd false) (mBin fIx (mVar 4) (mNeg (mC (.int 1)))) (mVar 6))))) (mIf (mBin fLt (mCall fLen (aCons (c_law_marked_k71_1) (aNil))) (mBin fSub (mC (.int 60)) (mBin (fMul false) (mC (.int 2)) (mCall fLen (aCons (mVar 4) (aNil)))))) (mSeq (mExpr (mMeth fAppend (mVar 3) (aCons (mCall (callP F_law_word_k71) (aCons (mBin fDiv (mVar 5) (mC (.int 5))) (aNil))) (aNil)))) (mSetIx (mVar 4) (mNeg (mC (.int 1))) (mBin (fAdd false) (mBin fIx (mVar 4) (mNeg (mC (.int 1)))) (mC (.int 1))))) (mNext)))
def b_law_marked_k71_2 : SM := mSeq (mIf (mBin fLt (mBin fIx (mVar 4) (mNeg (mC (.int 1)))) (mC (.int 2))) (mSeq (mExpr (mMeth fAppend (mVar 3) (aCons (mCall (callP F_law_word_k71) (aCons (mCall fLen (aCons (mVar 3) (aNil))) (aNil))) (aNil)))) (mSetIx (mVar 4) (mNeg (mC (.int 1))) (mBin (fAdd false) (mBin fIx (mVar 4) (mNeg (mC (.int 1)))) (mC (.int 1))))) (mNext)) (mIf (mAnd (mBin fGt (mCall fLen (aCons (mVar 4) (aNil))) (mC (.int 1))) (mBin fGt (mBin fIx (mVar 4) (mNeg (mC (.int 1)))) (mC (.int 1)))) (mSeq (mExpr (mMeth fAppend (mVar 3) (aCons (mC (.str ">")) (aNil)))) (mSeq (mSet 6 (mMeth fPop (mVar 4) aNil)) (mSetIx (mVar 4) (mNeg (mC (.int 1))) (mBin (fAdd false) (mBin fIx (mVar 4) (mNeg (mC (.int 1)))) (mVar 6))))) (mNext))
def m_law_marked_k71 : SM := mSeq (mSet 3 (mLst true (aNil))) (mSeq (mSet 4 (mLst true (aCons (mC (.int 0)) (aNil)))) (mSeq (mFor (iAnyM (mSl false (mVar 0) (oSome (mVar 1)) (oSome (mBin (fAdd false) (mVar 1) (mVar 2))))) (gmName 5) (b_law_marked_k71_1)) (mSeq (mWhile (mOr (mBin fGt (mCall fLen (aCons (mVar 4) (aNil))) (mC (.int 1))) (mBin (fEq false) (mBin fIx (mVar 4) (mC (.int 0))) (mC (.int 0)))) (b_law_marked_k71_2) 1000) (mRet (mVar 3)))))
def F_law_marked_k71 : Fn := runF 3 8 m_law_marked_k71
def b_law_turned_1 : SM := mIf (mBin (fEq false) (mVar 4) (mC (.str "<"))) (mSeq (mExpr (mMeth fAppend (mVar 3) (aCons (mCall fLen (aCons (mVar 2) (aNil))) (aNil)))) (mExpr (mMeth fAppend (mVar 2) (aCons (mLst true (aCons (mCall fLen (aCons (mVar 1) (aNil))) (aCons (mC (.int 0)) (aNil)))) (aNil))))) (mIf (mBin (fEq false) (mVar 4) (mC (.str ">"))) (mSetIx (mBin fIx (mVar 2) (mMeth fPop (mVar 3) aNil)) (mC (.int 1)) (mCall fLen (aCons (mVar 1) (aNil)))) (mExpr (mMeth fAppend (mVar 1) (aCons (mVar 4) (aNil)))))
def c_law_turned_1 : EM := mComp false (iRg2 (aCons (mVar 6) (aCons (mVar 7) (aNil)))) (gmName 10) (eYes) (mMeth fIndex (mVar 5) (aCons (mVar 10) (aNil))) [10]
def b_law_turned_2 : SM := mSeq (mSet 8 (mCall fMinL (aCons (c_law_turned_1) (aNil)))) (mSeq (mSet 9 (mBin fSub (mBin (fAdd false) (mVar 8) (mVar 7)) (mVar 6))) (mSet 5 (mBin (fAdd false) (mBin (fAdd false) (mSl false (mVar 5) (oNone) (oSome (mVar 8))) (mRev false (mSl false (mVar 5) (oSome (mVar 8)) (oSome (mVar 9))))) (mSl false (mVar 5) (oSome (mVar 9)) (oNone)))))
def c_law_turned_2 : EM := mComp false (iAnyM (mVar 5)) (gmName 10) (eYes) (mBin fIx (mVar 1) (mVar 10)) [10]
def m_law_turned : SM := mSeq (mSet 1 (mLst true (aNil))) (mSeq (mSet 2 (mLst true (aNil))) (mSeq (mSet 3 (mLst true (aNil))) (mSeq (mFor (iAnyM (mVar 0)) (gmName 4) (b_law_turned_1)) (mSeq (mSet 5 (mLstRg1 false (mCall fLen (aCons (mVar 1) (aNil))))) (mSeq (mForS (iAnyM (mVar 2)) (gmLstS [6, 7]) (b_law_turned_2)) (mRet (c_law_turned_2)))))))
def F_law_turned : Fn := runF 1 11 m_law_turned
def m_words_of_row : SM := mSeq (mIf (mNot (mIsi "str" (mVar 0))) (mRaise "NoRow") (mNext)) (mSeq (mSet 1 (mSplit false (mVar 0) (aCons (mC (.str " ")) (aNil)))) (mSeq (mSet 2 (mBin fSub (mCall fLen (aCons (mVar 1) (aNil))) (mC (.int 1)))) (mSeq (mIf (mBin (fIn false) (mBin fIx (mVar 1) (mC (.int 0))) (mTup (aCons (mC (.str "text")) (aCons (mC (.str "order")) (aNil))))) (mSet 3 (mBin fGe (mVar 2) (mC (.int 1)))) (mIf (mBin (fIn false) (mBin fIx (mVar 1) (mC (.int 0))) (mTup (aCons (mC (.str "take")) (aCons (mC (.str "drop")) (aNil))))) (mSet 3 (mBin (fEq false) (mVar 2) (mC (.int 1)))) (mSet 3 (mAnd (mBin (fEq false) (mVar 2) (mC (.int 0))) (mBin (fIn false) (mBin fIx (mVar 1) (mC (.int 0))) (mTup (aCons (mC (.str "seen")) (aCons (mC (.str "nest")) (aCons (mC (.str "marks")) (aCons (mC (.str "turns")) (aCons (mC (.str "stay")) (aCons (mC (.str "number")) (aNil))))))))))))) (mSeq (mIf (mNot (mVar 3)) (mRaise "NoRow") (mNext)) (mRet (mVar 1))))))
def F_words_of_row : Fn := runF 1 4 m_words_of_row
def b_number_written_1 : SM := mIf (mBin (fInS true) (mVar 1) (mC (.str "0123456789"))) (mRaise "NoNumber") (mNext)
def m_number_written : SM := mSeq (mIf (mOr (mNot (mChain (mC (.int 1)) (cLink fLe (mCall fLen (aCons (mVar 0) (aNil))) (cLast fLe (mC (.int 60)))))) (mAnd (mBin (fEq false) (mBin fIx (mVar 0) (mC (.int 0))) (mC (.str "0"))) (mBin fGt (mCall fLen (aCons (mVar 0) (aNil))) (mC (.int 1))))) (mRaise "NoNumber") (mNext)) (mSeq (mFor (iAnyM (mVar 0)) (gmName 1) (b_number_written_1)) (mRet (mCall fInt (aCons (mVar 0) (aNil)))))
def F_number_written : Fn := runF 1 2 m_number_written
def b_need_words_1 : SM := mIf (mBin (fInS true) (mVar 2) (mC (.str "abcdefghijklmnopqrstuvwxyz0123456789"))) (mRaise "NoText") (mNext)
def b_need_words_2 : SM := mSeq (mIf (mNot (mChain (mC (.int 1)) (cLink fLe (mCall fLen (aCons (mVar 1) (aNil))) (cLast fLe (mC (.int 8)))))) (mRaise "NoText") (mNext)) (mFor (iAnyM (mVar 1)) (gmName 2) (b_need_words_1))
def m_need_words : SM := mSeq (mIf (mBin fGt (mCall fLen (aCons (mVar 0) (aNil))) (mC (.int 60))) (mRaise "NoText") (mNext)) (mFor (iAnyM (mVar 0)) (gmName 1) (b_need_words_2))
def F_need_words : Fn := runF 1 3 m_need_words
def c_in_a_row_1 : EM := mComp false (iAnyM (mVar 0)) (gmName 1) (eYes) (mCall fStr (aCons (mVar 1) (aNil))) [1]
def c_in_a_row_2 : EM := mComp false (iAnyM (mVar 0)) (gmName 1) (eYes) (mCall fStr (aCons (mVar 1) (aNil))) [1]
def m_in_a_row : SM := mRet (mJoin (mC (.str " ")) (aCons (c_in_a_row_1) (aNil)))
def F_in_a_row : Fn := runF 1 2 m_in_a_row
def m_law_mixed : SM := mSeq (mSet 2 (mBin fMod (mBin (fAdd false) (mBin (fAdd false) (mBin (fMul false) (mBin fMod (mVar 0) (mC (.int 2147483629))) (mBin (fAdd false) (mBin (fMul false) (mC (.int 2)) (mVar 1)) (mC (.int 40961)))) (mBin (fMul false) (mC (.int 13)) (mVar 1))) (mC (.int 5))) (mC (.int 2147483587)))) (mRet (mBin fDiv (mBin fMod (mBin (fMul false) (mVar 2) (mVar 2)) (mC (.int 2147483563))) (mC (.int 5))))
def F_law_mixed : Fn := runF 2 3 m_law_mixed
end Ab

end
section
set_option maxRecDepth 100000
namespace Ab
open PySem PySem.Spec PyProof.Rows L2
mutual
def frzn : D → Bool
  | .tup xs => frzns xs
  | .lst b xs => !b && frzns xs
  | .emp b => !b
  | .obj _ => false
  | _ => true
def frzns : List D → Bool
  | [] => true
  | d :: ds => frzn d && frzns ds
end
mutual
theorem sub_frzn (f : Nat → Option D) : ∀ d : D, frzn d = true → sub gArg f d = some d
  | .non, _ => rfl
  | .bl _, _ => rfl
  | .int _, _ => rfl
  | .str _, _ => rfl
  | .tup xs, h => by
    simp only [frzn] at h
    rw [sub_tup, subs_frzn f xs h]; rfl
  | .lst b xs, h => by
    simp only [frzn, Bool.and_eq_true, Bool.not_eq_true'] at h
    obtain ⟨rfl, h⟩ := h
    rw [sub_lstA, subs_frzn f xs h]; rfl
  | .emp b, h => by
    simp only [frzn, Bool.not_eq_true'] at h
    subst h; rfl
  | .obj _, h => by simp [frzn] at h
theorem subs_frzn (f : Nat → Option D) : ∀ ds : List D, frzns ds = true → subs gArg f ds = some ds
  | [], _ => rfl
  | d :: ds, h => by
    simp only [frzns, Bool.and_eq_true] at h
    rw [subs_cons, sub_frzn f d h.1, subs_frzn f ds h.2]
end
mutual
theorem objLt_frzn (n : Nat) : ∀ d : D, frzn d = true → objLt n d = true
  | .non, _ => rfl
  | .bl _, _ => rfl
  | .int _, _ => rfl
  | .str _, _ => rfl
  | .tup xs, h => by simp only [frzn] at h; simp only [objLt]; exact objLts_frzn n xs h
  | .lst b xs, h => by
    simp only [frzn, Bool.and_eq_true] at h
    simp only [objLt]; exact objLts_frzn n xs h.2
  | .emp b, h => rfl
  | .obj _, h => by simp [frzn] at h
theorem objLts_frzn (n : Nat) : ∀ ds : List D, frzns ds = true → objLts n ds = true
  | [], _ => rfl
  | d :: ds, h => by
    simp only [frzns, Bool.and_eq_true] at h
    simp [objLts, objLt_frzn n d h.1, objLts_frzn n ds h.2]
end
theorem od_frzn {S : Sto} {d : D} (h : frzn d = true) : oddD S d = false := by
  cases d with
  | obj i => simp [frzn] at h
  | _ => rfl
theorem frzns_iff {ds : List D} : frzns ds = true ↔ ∀ d ∈ ds, frzn d = true := by
  induction ds with
  | nil => simp [frzns]
  | cons d ds ih => simp [frzns, ih]
theorem okEs_iff {ds : List D} : okEs ds = true ↔ ∀ d ∈ ds, okE d = true := by
  induction ds with
  | nil => simp
  | cons d ds ih => simp [ih]
/-- + and - -/
def kinds : List Str := ["+", "-"]
mutual
/-- the words of a thing that is a nest's knot within one of the kind ab -/
def chk (ab : Str) : D → Option Nat
  | .non => some 1
  | .tup [.str k, .tup ps] => if (k == "+" || k == "-") && !(k == ab) && decide (2 ≤ ps.length) then chks k ps else none
  | _ => none
def chks (k : Str) : List D → Option Nat
  | [] => some 0
  | p :: ps => (chk k p).bind fun a => (chks k ps).map (a + ·)
end
mutual
/-- its knots -/
def kn : D → Nat
  | .tup [.str _, .tup ps] => kns ps + 1
  | _ => 1
def kns : List D → Nat
  | [] => 0
  | p :: ps => kn p + kns ps
end
def isN (d : D) : Bool := match chk "" d with
  | some n => decide (n ≤ 60)
  | none => false
theorem kns_append : ∀ a b : List D, kns (a ++ b) = kns a + kns b
  | [], b => by simp [kns]
  | x :: a, b => by simp [kns, kns_append a b, Nat.add_assoc]
/-- a pile: things, each with the kind around it -/
abbrev Pile := List (D × Str)
def pileD (p : Pile) : List D := p.map fun q => .tup [q.1, .str q.2]
def pok (p : Pile) : Prop := ∀ q ∈ p, frzn q.1 = true
def pkn (p : Pile) : Nat := kns (p.map (·.1))
/-- what the whole pile holds -/
def psum : Pile → Option Nat
  | [] => some 0
  | q :: p => (chk q.2 q.1).bind fun a => (psum p).map (a + ·)
theorem psum_append : ∀ a b : Pile, psum (a ++ b) = (psum a).bind fun x => (psum b).map (x + ·)
  | [], b => by
    cases h : psum b <;> simp [psum, h]
  | q :: a, b => by
    show (chk q.2 q.1).bind (fun x => (psum (a ++ b)).map (x + ·)) = ((chk q.2 q.1).bind fun x => (psum a).map (x + ·)).bind _
    rw [psum_append a b]
    cases chk q.2 q.1 with
    | none => rfl
    | some x =>
      cases psum a with
      | none => rfl
      | some y =>
        cases psum b with
        | none => rfl
        | some z => simp [Nat.add_assoc]
theorem psum_parts (k : Str) : ∀ ps : List D, psum (ps.map fun d => (d, k)) = chks k ps
  | [] => rfl
  | d :: ps => by
    show (chk k d).bind (fun x => (psum (ps.map fun d => (d, k))).map (x + ·)) = _
    rw [psum_parts k ps]; simp only [chks]
@[simp] theorem pileD_nil : pileD [] = [] := rfl
theorem pileD_snoc (p : Pile) (q : D × Str) : pileD (p ++ [q]) = pileD p ++ [.tup [q.1, .str q.2]] := by simp [pileD]
theorem pileD_append (p q : Pile) : pileD (p ++ q) = pileD p ++ pileD q := by simp [pileD]
theorem pileD_frzn {p : Pile} (h : pok p) : frzns (pileD p) = true := by
  rw [frzns_iff]
  intro d hd
  obtain ⟨q, hq, rfl⟩ := List.mem_map.mp hd
  simp [frzn, frzns, h q hq]
end Ab

end
section
set_option maxRecDepth 100000
namespace Ab
open PySem PySem.Spec PyProof.Rows L2
theorem S_c_is_nest_1 {ps : List D} {k : Str} {th a c d g : Option D} {pl : List D} (hf : frzns ps = true) (hl : ps.length ≤ 1000) (hp : frzns pl = true) :
    c_is_nest_1 [th, a, some (.obj 0), c, d, some (.str k), some (.tup ps), g] [.lst pl] = .ok (.lst true (ps.map fun d => .tup [d, .str k])) [.lst pl] := by
  unfold c_is_nest_1
  refine comp_f0 (ck := always) (fun d : D => d) ps _ (fun x => [th, a, some (.obj 0), c, d, some (.str k), some (.tup ps), some x]) ?_ (fun _ => rfl) (by omega) (by simp [oLt, objLts_frzn _ _ hp]) ?_ ?_ ?_
  · simp
  · refine objLts_frzn _ _ (frzns_iff.mpr fun d hd => ?_)
    obtain ⟨x, hx, rfl⟩ := List.mem_map.mp hd
    simp [frzn, frzns, frzns_iff.mp hf x hx]
  · intro x _; simp
  · intro x _ acc; simp
theorem fIn_kind {k : Str} {S : Sto} : fIn true (.str k) (.tup [.str "+", .str "-"]) S = .ok (.bl (!(k == "+" || k == "-"))) S := by
  have e1 : ∀ a b : Str, eqF (.str a) (.str b) = decide (b = a) := fun a b => by
    simp only [eqF, scalD, eqV]
    by_cases h : a = b
    · subst h; simp
    · have h2 : ¬ b = a := fun e => h e.symm
      simp [h, h2]
  have e2 : ∀ a b : Str, (a == b) = decide (a = b) := fun a b => by
    by_cases h : a = b
    · subst h; simp
    · simp [h]
  have e0 : (isScal (.str k) && [D.str "+", D.str "-"].all isScal) = true := rfl
  simp only [fIn, ev_seqAt, e0, if_true, List.any_cons, List.any_nil, e1, e2, Bool.or_false]
/-- the test of is_nest's while -/
abbrev cN : EM := mBin (fEqX true) (mVar 2) (mLst false (aNil))
theorem cN_nil {th : D} {w : Int} {a b c d e : Option D} : cN [some th, some (.int w), some (.obj 0), a, b, c, d, e] [.lst []] = .ok (.bl false) [.lst []] := by
  simp
theorem cN_cons {th : D} {w : Int} {a b c d e : Option D} {p : Pile} (hn : p ≠ []) : cN [some th, some (.int w), some (.obj 0), a, b, c, d, e] [.lst (pileD p)] = .ok (.bl true) [.lst (pileD p)] := by
  cases p with
  | nil => exact absurd rfl hn
  | cons q p => simp [pileD]
section
variable {th : D} {w : Nat} {a b c d e : Option D} {p : Pile} {k ab : Str} {ps : List D}
/-- a word -/
theorem bN_word (hw : w + 1 ≤ 60) : b_is_nest_1 [some th, some (.int w), some (.obj 0), a, b, c, d, e] [.lst (pileD (p ++ [(.non, ab)]))] = .ct [some th, some (.int (w + 1 : Nat)), some (.obj 0), some .non, some (.str ab), c, d, e] [.lst (pileD p)] := by
  have h1 : ¬ (60 : Int) < (w : Int) + 1 := by omega
  simp [b_is_nest_1, pileD_snoc, isNon, h1]
theorem bN_many (hw : ¬ w + 1 ≤ 60) : b_is_nest_1 [some th, some (.int w), some (.obj 0), a, b, c, d, e] [.lst (pileD (p ++ [(.non, ab)]))] = .rt (.bl false) [.lst (pileD p)] := by
  have h1 : (60 : Int) < (w : Int) + 1 := by omega
  simp [b_is_nest_1, pileD_snoc, isNon, h1]
/-- a knot -/
theorem bN_knot (hp : frzns (pileD p) = true) (hf : frzns ps = true) (hl : ps.length ≤ 1000) (hl2 : p.length + ps.length ≤ 100000) (hk : ((k == "+" || k == "-") && !(k == ab) && decide (2 ≤ ps.length)) = true) :
    b_is_nest_1 [some th, some (.int w), some (.obj 0), a, b, c, d, e] [.lst (pileD (p ++ [(.tup [.str k, .tup ps], ab)]))] =
      .nx [some th, some (.int w), some (.obj 0), some (.tup [.str k, .tup ps]), some (.str ab), some (.str k), some (.tup ps), e] [.lst (pileD (p ++ ps.map fun d => (d, k)))] := by
  simp only [Bool.and_eq_true, Bool.not_eq_true', decide_eq_true_eq] at hk
  obtain ⟨⟨h1, h2⟩, h3⟩ := hk
  have h4 : ¬ (ps.length : Int) < 2 := by omega
  have h5 : decide (k = ab) = false := by simpa using h2
  have hl3 : (pileD p).length + ps.length ≤ 100000 := by simpa [pileD] using hl2
  have e2 : pileD (p ++ ps.map fun d => (d, k)) = pileD p ++ ps.map fun d => .tup [d, .str k] := by simp [pileD, Function.comp_def]
  rw [e2]
  have hc := S_c_is_nest_1 (k := k) (th := some th) (a := some (.int w)) (c := some (.tup [.str k, .tup ps])) (d := some (.str ab)) (g := e) (pl := pileD p) hf hl hp
  simp [b_is_nest_1, pileD_snoc, isNon, tyD, isT, fIn_kind, h1, h5, h4, hc, hl3]
theorem bN_bad_kind (hk : ((k == "+" || k == "-") && !(k == ab) && decide (2 ≤ ps.length)) = false) :
    ∃ S', b_is_nest_1 [some th, some (.int w), some (.obj 0), a, b, c, d, e] [.lst (pileD (p ++ [(.tup [.str k, .tup ps], ab)]))] = .rt (.bl false) S' := by
  refine ⟨[.lst (pileD p)], ?_⟩
  cases h1 : (k == "+" || k == "-") with
  | false => simp [b_is_nest_1, pileD_snoc, isNon, tyD, isT, fIn_kind, h1]
  | true =>
    cases h2 : (k == ab) with
    | true =>
      have h5 : k = ab := by simpa using h2
      subst h5
      simp [b_is_nest_1, pileD_snoc, isNon, tyD, isT, fIn_kind, h1]
    | false =>
      have h5 : ¬ k = ab := by simpa using h2
      rw [h1, h2] at hk
      simp at hk
      have h4 : (ps.length : Int) < 2 := by omega
      simp [b_is_nest_1, pileD_snoc, isNon, tyD, isT, fIn_kind, h1, h5, h4]
end
end Ab

end
section
set_option maxRecDepth 100000
namespace Ab
open PySem PySem.Spec PyProof.Rows L2
@[simp] theorem ty_non {S : Sto} : tyD S .non = "NoneType" := (rfl)
@[simp] theorem ty_bl {S : Sto} {b : Bool} : tyD S (.bl b) = "bool" := (rfl)
@[simp] theorem ty_int {S : Sto} {i : Int} : tyD S (.int i) = "int" := (rfl)
@[simp] theorem ty_str {S : Sto} {s : Str} : tyD S (.str s) = "str" := (rfl)
@[simp] theorem ty_tup {S : Sto} {xs : List D} : tyD S (.tup xs) = "tuple" := (rfl)
@[simp] theorem ty_lst {S : Sto} {f : Bool} {xs : List D} : tyD S (.lst f xs) = "list" := (rfl)
@[simp] theorem ty_emp {S : Sto} {f : Bool} : tyD S (.emp f) = "dict" := (rfl)
section
variable {th : D} {w : Nat} {a b c d e : Option D} {p : Pile} {k ab : Str} {ps : List D} {x y : D}
theorem isT_str_ne {S : Sto} (h : frzn x = true) (hx : ∀ s, x ≠ .str s) : isT (tyD S x) "str" = false := by
  cases x with
  | str s => exact absurd rfl (hx s)
  | obj i => simp [frzn] at h
  | _ => simp [isT]
theorem ty_str_ne {S : Sto} (h : frzn x = true) (hx : ∀ s, x ≠ .str s) : ¬ tyD S x = "str" := by
  cases x with
  | str s => exact absurd rfl (hx s)
  | obj i => simp [frzn] at h
  | _ => simp
theorem ty_tup_ne {S : Sto} (h : frzn x = true) (hx : ∀ s, x ≠ .tup s) : ¬ tyD S x = "tuple" := by
  cases x with
  | tup s => exact absurd rfl (hx s)
  | obj i => simp [frzn] at h
  | _ => simp
theorem isT_tup_ne {S : Sto} (h : frzn x = true) (hx : ∀ s, x ≠ .tup s) : isT (tyD S x) "tuple" = false := by
  cases x with
  | tup s => exact absurd rfl (hx s)
  | obj i => simp [frzn] at h
  | _ => simp [isT]
/-- anything else -/
theorem bN_bad (hf : frzn x = true) (h0 : x ≠ .non) (hx : ∀ k ps, x ≠ .tup [.str k, .tup ps]) :
    ∃ S', b_is_nest_1 [some th, some (.int w), some (.obj 0), a, b, c, d, e] [.lst (pileD (p ++ [(x, ab)]))] = .rt (.bl false) S' := by
  refine ⟨[.lst (pileD p)], ?_⟩
  by_cases ht : ∃ xs, x = .tup xs
  · obtain ⟨xs, rfl⟩ := ht
    by_cases hl : xs.length = 2
    · match xs, hl with
      | [y, z], _ =>
        simp only [frzn, frzns, Bool.and_true, Bool.and_eq_true] at hf
        by_cases hy : ∃ k, y = .str k
        · obtain ⟨k, rfl⟩ := hy
          have hz : ∀ s, z ≠ .tup s := fun s e => hx k s (by rw [e])
          have hz2 := fun S => isT_tup_ne (S := S) hf.2 hz
          cases h1 : (k == "+" || k == "-") with
          | false => simp [b_is_nest_1, pileD_snoc, isNon, isT, fIn_kind, h1]
          | true =>
            by_cases h5 : k = ab
            · subst h5
              simp [b_is_nest_1, pileD_snoc, isNon, isT, fIn_kind, h1]
            · simp [b_is_nest_1, pileD_snoc, isNon, isT, fIn_kind, h1, h5, ty_tup_ne hf.2 hz, od_frzn hf.2]
        · have hy2 := fun S => isT_str_ne (S := S) (x := y) hf.1 (fun k e => hy ⟨k, e⟩)
          simp [b_is_nest_1, pileD_snoc, isNon, hy2, od_frzn hf.1]
    · have h1 : ¬ ((xs.length : Int) = 2) := by omega
      simp [b_is_nest_1, pileD_snoc, isNon, isT, h1]
  · have hz2 := fun S => isT_tup_ne (S := S) hf (fun s e => ht ⟨s, e⟩)
    have h3 : isNon x = false := by cases x <;> first | rfl | exact absurd rfl h0
    simp [b_is_nest_1, pileD_snoc, h3, hz2, od_frzn hf]
end
theorem chk_bad {ab : Str} {x : D} (h0 : x ≠ .non) (hx : ∀ k ps, x ≠ .tup [.str k, .tup ps]) : chk ab x = none := by
  unfold chk
  split
  · exact absurd rfl h0
  · exact absurd rfl (hx _ _)
  · rfl
theorem psum_snoc (p : Pile) (q : D × Str) : psum (p ++ [q]) = (psum p).bind fun x => (chk q.2 q.1).map (x + ·) := by
  rw [psum_append]
  cases psum p with
  | none => rfl
  | some x => cases h : chk q.2 q.1 <;> simp [psum, h]
theorem pkn_append (a b : Pile) : pkn (a ++ b) = pkn a + pkn b := by simp [pkn, kns_append]
theorem kns_len (l : List D) : l.length ≤ kns l := by
  induction l with
  | nil => simp [kns]
  | cons x l ih =>
    have : 1 ≤ kn x := by unfold kn; split <;> omega
    simp [kns]; omega
/-- how the while of is_nest ends: w words are counted, p is left -/
theorem while_is_nest : ∀ (n : Nat) (p : Pile) (w : Nat) (th : D) (a b c d e : Option D), pok p → pkn p < n → w ≤ 60 → pkn p ≤ 1000 →
    (∃ m, (psum p).map (w + ·) = some m ∧ m ≤ 60 ∧ ∃ G' S', mWhile cN b_is_nest_1 n [some th, some (.int w), some (.obj 0), a, b, c, d, e] [.lst (pileD p)] = .nx G' S') ∨
    ((∀ m, (psum p).map (w + ·) = some m → 60 < m) ∧ ∃ S', mWhile cN b_is_nest_1 n [some th, some (.int w), some (.obj 0), a, b, c, d, e] [.lst (pileD p)] = .rt (.bl false) S')
  | 0, p, w, th, a, b, c, d, e, _, h, _, _ => by omega
  | n + 1, p, w, th, a, b, c, d, e, hok, hn, hw, h9 => by
    rcases List.eq_nil_or_concat p with rfl | ⟨p0, q, rfl⟩
    · exact .inl ⟨w, by simp [psum], hw, _, _, while_end cN_nil⟩
    · rw [List.concat_eq_append] at *
      have hc := cN_cons (th := th) (w := w) (a := a) (b := b) (c := c) (d := d) (e := e) (p := p0 ++ [q]) (by simp)
      have hok0 : pok p0 := fun z hz => hok z (List.mem_append_left _ hz)
      obtain ⟨x, ab⟩ := q
      have hf : frzn x = true := hok (x, ab) (by simp)
      rw [pkn_append] at hn h9
      have hkn : pkn [(x, ab)] = kn x := by simp [pkn, kns]
      rw [hkn] at hn h9
      by_cases h0 : x = .non
      · subst h0
        have e1 : psum (p0 ++ [(.non, ab)]) = (psum p0).map (· + 1) := by
          rw [psum_snoc]
          cases psum p0 <;> simp [chk]
        have hk1 : kn .non = 1 := rfl
        by_cases hw1 : w + 1 ≤ 60
        · rw [while_step hc (.inr (bN_word hw1))]
          rcases while_is_nest n p0 (w + 1) th (some .non) (some (.str ab)) c d e hok0 (by omega) hw1 (by omega) with ⟨m, h1, h2, h3⟩ | ⟨h1, h2⟩
          · refine .inl ⟨m, ?_, h2, h3⟩
            rw [e1]
            cases hp : psum p0 with
            | none => rw [hp] at h1; cases h1
            | some z => rw [hp] at h1; simp at h1 ⊢; omega
          · refine .inr ⟨fun m hm => h1 m ?_, h2⟩
            rw [e1] at hm
            cases hp : psum p0 with
            | none => rw [hp] at hm; cases hm
            | some z => rw [hp] at hm; simp at hm ⊢; omega
        · refine .inr ⟨fun m hm => ?_, _, while_rt hc (bN_many hw1)⟩
          rw [e1] at hm
          cases hp : psum p0 with
          | none => rw [hp] at hm; cases hm
          | some z => rw [hp] at hm; simp at hm; omega
      · by_cases hx : ∃ k ps, x = .tup [.str k, .tup ps]
        · obtain ⟨k, ps, rfl⟩ := hx
          simp only [frzn, frzns, Bool.and_true, Bool.true_and] at hf
          have hkn2 : kn (.tup [.str k, .tup ps]) = kns ps + 1 := rfl
          have hlen := kns_len ps
          have hlen0 : p0.length ≤ 1000 := by
            have := kns_len (p0.map (·.1))
            rw [List.length_map] at this
            have e : kns (p0.map (·.1)) = pkn p0 := rfl
            omega
          cases hkk : ((k == "+" || k == "-") && !(k == ab) && decide (2 ≤ ps.length)) with
          | false =>
            obtain ⟨S', hb⟩ := bN_bad_kind (th := th) (w := w) (a := a) (b := b) (c := c) (d := d) (e := e) (p := p0) hkk
            refine .inr ⟨fun m hm => ?_, _, while_rt hc hb⟩
            rw [psum_snoc] at hm
            simp only [chk, hkk, Bool.false_eq_true, if_false, Option.map_none] at hm
            cases hp : psum p0 <;> rw [hp] at hm <;> cases hm
          | true =>
            have hb := bN_knot (th := th) (w := w) (a := a) (b := b) (c := c) (d := d) (e := e) (p := p0) (ab := ab) (pileD_frzn hok0) hf (by omega) (by omega) hkk
            rw [while_step hc (.inl hb)]
            have hok1 : pok (p0 ++ ps.map fun d => (d, k)) := fun z hz => by
              rcases List.mem_append.mp hz with hz | hz
              · exact hok0 z hz
              · obtain ⟨y, hy, rfl⟩ := List.mem_map.mp hz
                exact frzns_iff.mp hf y hy
            have hk3 : pkn (ps.map fun d => (d, k)) = kns ps := by simp [pkn, Function.comp_def]
            have e1 : psum (p0 ++ [(.tup [.str k, .tup ps], ab)]) = psum (p0 ++ ps.map fun d => (d, k)) := by
              rw [psum_snoc, psum_append, psum_parts]
              simp only [chk, hkk, if_true]
            rw [e1]
            exact while_is_nest n _ w th _ _ _ _ e hok1 (by rw [pkn_append, hk3]; omega) hw (by rw [pkn_append, hk3]; omega)
        · have hx2 : ∀ k ps, x ≠ .tup [.str k, .tup ps] := fun k ps e => hx ⟨k, ps, e⟩
          obtain ⟨S', hb⟩ := bN_bad (th := th) (w := w) (a := a) (b := b) (c := c) (d := d) (e := e) (p := p0) (ab := ab) hf h0 hx2
          refine .inr ⟨fun m hm => ?_, _, while_rt hc hb⟩
          rw [psum_snoc] at hm
          simp only [chk_bad h0 hx2, Option.map_none] at hm
          cases hp : psum p0 <;> rw [hp] at hm <;> cases hm
theorem R_is_nest {d : D} (hf : frzn d = true) (hk : kn d ≤ 900) : Ret F_is_nest [d] (.bl (isN d)) := by
  have key := while_is_nest 1000 [(d, "")] 0 d none none none none none (fun q hq => by
    rw [List.mem_singleton.mp hq]; exact hf) (by simp [pkn, kns]; omega) (by decide) (by simp [pkn, kns]; omega)
  have e1 : psum [(d, "")] = chk "" d := by
    simp only [psum]
    cases chk "" d <;> simp
  rw [e1] at key
  have e2 : pileD [(d, "")] = [.tup [d, .str ""]] := rfl
  rw [e2] at key
  rcases key with ⟨m, h1, h2, G', S', h3⟩ | ⟨h1, S', h3⟩
  · have hN : isN d = true := by
      unfold isN
      cases h : chk "" d with
      | none => rw [h] at h1; cases h1
      | some z => rw [h] at h1; simp at h1 ⊢; omega
    rw [hN]
    refine Ret.imm (S' := S') ?_ rfl
    simp [F_is_nest, ev_runF, m_is_nest]
    rw [show (0 : Int) = ((0 : Nat) : Int) from rfl, h3]
  · refine Ret.imm (S' := S') ?_ rfl
    have hN : isN d = false := by
      unfold isN
      cases h : chk "" d with
      | none => rfl
      | some z =>
        have := h1 z (by rw [h]; simp)
        simp; omega
    rw [hN]
    simp [F_is_nest, ev_runF, m_is_nest]
    rw [show (0 : Int) = ((0 : Nat) : Int) from rfl, h3]
end Ab

end
section
set_option maxRecDepth 100000
namespace Ab
open PySem PySem.Spec PyProof.Rows L2
inductive Ne where
  | w | k (p : Bool) (ps : List Ne)
/-- + or - -/
def sg (p : Bool) : Str := if p then "+" else "-"
mutual
def neD : Ne → D
  | .w => .non
  | .k p ps => .tup [.str (sg p), .tup (neDs ps)]
def neDs : List Ne → List D
  | [] => []
  | t :: ts => neD t :: neDs ts
end
theorem neDs_map : ∀ ts : List Ne, neDs ts = ts.map neD
  | [] => rfl
  | t :: ts => by simp [neDs, neDs_map ts]
@[simp] theorem neD_w : neD .w = .non := (rfl)
@[simp] theorem neD_k {p : Bool} {ps : List Ne} : neD (.k p ps) = .tup [.str (sg p), .tup (ps.map neD)] := by rw [← neDs_map]; rfl
mutual
/-- words -/
def siz : Ne → Nat
  | .w => 1
  | .k _ ps => sizs ps
def sizs : List Ne → Nat
  | [] => 0
  | t :: ts => siz t + sizs ts
end
mutual
/-- knots around the one with most around it -/
def ht : Ne → Nat
  | .w => 0
  | .k _ ps => hts ps + 1
def hts : List Ne → Nat
  | [] => 0
  | t :: ts => max (ht t) (hts ts)
end
/-- is it a knot of this kind? -/
def isK (p : Bool) : Ne → Bool
  | .w => false
  | .k q _ => q == p
mutual
/-- a nest -/
def okN : Ne → Bool
  | .w => true
  | .k p ps => decide (2 ≤ ps.length) && okNs p ps
def okNs (p : Bool) : List Ne → Bool
  | [] => true
  | t :: ts => okN t && !isK p t && okNs p ts
end
theorem sizs_map : ∀ ts : List Ne, sizs ts = (ts.map siz).sum
  | [] => rfl
  | t :: ts => by simp [sizs, sizs_map ts]
theorem okNs_iff {p : Bool} : ∀ {ts : List Ne}, okNs p ts = true ↔ ∀ t ∈ ts, okN t = true ∧ isK p t = false
  | [] => by simp [okNs]
  | t :: ts => by simp [okNs, okNs_iff (ts := ts)]
theorem hts_le {ts : List Ne} {t : Ne} (h : t ∈ ts) : ht t ≤ hts ts := by
  induction ts with
  | nil => cases h
  | cons u us ih =>
    simp only [hts]
    rcases List.mem_cons.mp h with rfl | h
    · omega
    · have := ih h; omega
theorem sizs_le {ts : List Ne} {t : Ne} (h : t ∈ ts) : siz t ≤ sizs ts := by
  induction ts with
  | nil => cases h
  | cons u us ih =>
    simp only [sizs]
    rcases List.mem_cons.mp h with rfl | h
    · omega
    · have := ih h; omega
mutual
theorem siz_pos : ∀ t : Ne, okN t = true → ht t + 1 ≤ siz t
  | .w, _ => by simp [ht, siz]
  | .k p ps, h => by
    simp only [okN, Bool.and_eq_true, decide_eq_true_eq] at h
    have := sizs_pos p ps h.2
    simp only [ht, siz]
    omega
theorem sizs_pos (p : Bool) : ∀ ts : List Ne, okNs p ts = true → hts ts + ts.length ≤ sizs ts
  | [], _ => by simp [hts, sizs]
  | t :: ts, h => by
    simp only [okNs, Bool.and_eq_true] at h
    have h1 := siz_pos t h.1.1
    have h2 := sizs_pos p ts h.2
    simp only [hts, sizs, List.length_cons]
    omega
end
theorem sg_ok (p : Bool) : PyData.strOk (sg p) = true := by cases p <;> decide +kernel
mutual
theorem imm_ne : ∀ t : Ne, imm (neD t) = true
  | .w => rfl
  | .k p ps => by
    have := imms_ne ps
    rw [← neDs_map] at this
    simp [neD, imm, imms, this]
theorem imms_ne : ∀ ts : List Ne, imms (ts.map neD) = true
  | [] => rfl
  | t :: ts => by simp [imms, imm_ne t, imms_ne ts]
end
mutual
theorem okE_ne : ∀ t : Ne, okE (neD t) = true
  | .w => rfl
  | .k p ps => by
    have := okEs_ne ps
    rw [← neDs_map] at this
    simp [neD, this, sg_ok]
theorem okEs_ne : ∀ ts : List Ne, okEs (ts.map neD) = true
  | [] => rfl
  | t :: ts => by simp [okE_ne t, okEs_ne ts]
end
theorem frzn_imm : ∀ d : D, imm d = true → frzn d = true := by
  intro d
  exact D.rec (motive_1 := fun d => imm d = true → frzn d = true) (motive_2 := fun ds => imms ds = true → frzns ds = true)
    (fun _ => rfl) (fun _ _ => rfl) (fun _ _ => rfl) (fun _ _ => rfl) (fun xs ih h => by simp only [imm] at h; simp only [frzn]; exact ih h)
    (fun f xs ih h => by simp [imm] at h) (fun f h => by simp [imm] at h) (fun i h => by simp [imm] at h) (fun _ => rfl)
    (fun d ds h1 h2 h => by simp only [imms, Bool.and_eq_true] at h; simp [frzns, h1 h.1, h2 h.2]) d
@[simp] theorem sub_ne {g : Bool → Option Bool} {f : Nat → Option D} (t : Ne) : sub g f (neD t) = some (neD t) := sub_imm g f _ (imm_ne t)
@[simp] theorem subs_ne (g : Bool → Option Bool) (f : Nat → Option D) (ts : List Ne) : subs g f (ts.map neD) = some (ts.map neD) := subs_imm g f _ (imms_ne ts)
@[simp] theorem imm_ne' (t : Ne) : imm (neD t) = true := imm_ne t
@[simp] theorem imms_ne' (ts : List Ne) : imms (ts.map neD) = true := imms_ne ts
@[simp] theorem okE_ne' (t : Ne) : okE (neD t) = true := okE_ne t
@[simp] theorem okEs_ne' (ts : List Ne) : okEs (ts.map neD) = true := okEs_ne ts
@[simp] theorem allT_ne (t : Ne) : allT (neD t) = true := allT_imm _ (imm_ne t)
@[simp] theorem allTs_ne (ts : List Ne) : allTs (ts.map neD) = true := allTs_imms _ (imms_ne ts)
@[simp] theorem objLt_ne {n : Nat} (t : Ne) : objLt n (neD t) = true := objLt_imm n _ (imm_ne t)
@[simp] theorem objLts_ne {n : Nat} (ts : List Ne) : objLts n (ts.map neD) = true := objLts_imms n _ (imms_ne ts)
theorem sg_eq {p q : Bool} : (sg p == sg q) = (p == q) := by cases p <;> cases q <;> decide +kernel
theorem sg_kind (p : Bool) : (sg p == "+" || sg p == "-") = true := by cases p <;> decide +kernel
mutual
theorem chk_ne (ab : Str) : ∀ t : Ne, okN t = true → (∀ p ps, t = .k p ps → (sg p == ab) = false) → chk ab (neD t) = some (siz t)
  | .w, _, _ => rfl
  | .k p ps, h, ha => by
    simp only [okN, Bool.and_eq_true, decide_eq_true_eq] at h
    have h1 := ha p ps rfl
    have h2 : 2 ≤ (neDs ps).length := by rw [neDs_map, List.length_map]; exact h.1
    simp only [neD, chk, sg_kind, h1, h2, Bool.not_false, Bool.and_self, decide_true, if_true]
    exact chks_ne p ps h.2
theorem chks_ne (p : Bool) : ∀ ts : List Ne, okNs p ts = true → chks (sg p) (neDs ts) = some (sizs ts)
  | [], _ => rfl
  | t :: ts, h => by
    simp only [okNs, Bool.and_eq_true, Bool.not_eq_true'] at h
    simp only [neDs, chks]
    rw [chk_ne (sg p) t h.1.1 (fun q ps e => by subst e; rw [sg_eq]; exact h.1.2), chks_ne p ts h.2]
    rfl
end
mutual
theorem kn_ne : ∀ t : Ne, okN t = true → kn (neD t) + 1 ≤ 2 * siz t
  | .w, _ => by simp [kn, siz]
  | .k p ps, h => by
    simp only [okN, Bool.and_eq_true, decide_eq_true_eq] at h
    have := kns_ne p ps h.2
    simp only [neD, kn, siz]
    omega
theorem kns_ne (p : Bool) : ∀ ts : List Ne, okNs p ts = true → kns (neDs ts) + ts.length ≤ 2 * sizs ts
  | [], _ => by simp [kns, neDs, sizs]
  | t :: ts, h => by
    simp only [okNs, Bool.and_eq_true] at h
    have h1 := kn_ne t h.1.1
    have h2 := kns_ne p ts h.2
    simp only [neDs, kns, sizs, List.length_cons]
    omega
end
theorem isN_ne {t : Ne} (h : okN t = true) (h6 : siz t ≤ 60) : isN (neD t) = true := by
  unfold isN
  rw [chk_ne "" t h (fun p ps _ => by cases p <;> decide +kernel)]
  simp [h6]
theorem R_is_nest_ne {t : Ne} (h : okN t = true) (h6 : siz t ≤ 60) : Ret F_is_nest [neD t] (.bl true) := by
  have := R_is_nest (d := neD t) (frzn_imm _ (imm_ne t)) (by have := kn_ne t h; omega)
  rw [isN_ne h h6] at this
  exact this
theorem R_need_nest {t : Ne} (h : okN t = true) (h6 : siz t ≤ 60) : Ret F_need_nest_k12 [neD t] (neD t) := by
  refine Ret.imm (S' := []) ?_ (imm_ne t)
  simp [F_need_nest_k12, ev_runF, m_need_nest_k12, (R_is_nest_ne h h6).run]
theorem isN_part {p : Bool} {ps : List Ne} (h : okN (.k p ps) = true) {t : Ne} (ht : t ∈ ps) : okN t = true ∧ isK p t = false := by
  simp only [okN, Bool.and_eq_true] at h
  exact okNs_iff.mp h.2 t ht
theorem okN_len {p : Bool} {ps : List Ne} (h : okN (.k p ps) = true) : ps.length ≤ sizs ps ∧ 2 ≤ ps.length := by
  simp only [okN, Bool.and_eq_true, decide_eq_true_eq] at h
  have := sizs_pos p ps h.2
  omega
theorem sum_siz : ∀ ps : List Ne, (ps.map fun t => (siz t : Int)).sum = (sizs ps : Int)
  | [] => rfl
  | t :: ps => by simp [sizs, sum_siz ps]
theorem R_count_words : ∀ (n : Nat) (t : Ne), okN t = true → ht t < n → siz t ≤ 1000 → Ret (F_count_words n) [neD t] (.int (siz t))
  | 0, t, _, h, _ => by omega
  | n + 1, .w, _, _, _ => by
    refine Ret.imm (S' := []) ?_ rfl
    simp [F_count_words, ev_runF, m_count_words, isNon, siz]
  | n + 1, .k p ps, ok, h, hz => by
    have hl := okN_len ok
    simp only [ht] at h
    simp only [siz] at hz
    refine Ret.imm (S' := []) ?_ rfl
    have hc : c_count_words_1 (F_count_words n) [some (.tup [.str (sg p), .tup (ps.map neD)]), none] [] = .ok (.lst true ((ps.map fun t => (siz t : Int)).map .int)) [] := by
      have e : ((ps.map fun t => (siz t : Int)).map D.int) = ps.map fun t => .int (siz t : Int) := by simp
      rw [e]
      unfold c_count_words_1
      refine comp_f0 (ck := always) neD ps _ (fun t => [some (.tup [.str (sg p), .tup (ps.map neD)]), some (neD t)]) (by simp) (fun _ => rfl) (by omega) (by simp) ?_ ?_ ?_
      · rw [← e]; exact objLts_ints _
      · intro t _; simp
      · intro t ht acc
        have h1 := hts_le ht
        have h2 := sizs_le ht
        simp [(R_count_words n t (isN_part ok ht).1 (by omega) (by omega)).run]
    simp [F_count_words, ev_runF, m_count_words, isNon, hc, sum_siz, siz, -List.map_map]
theorem R_words_of {t : Ne} (h : okN t = true) (h6 : siz t ≤ 60) : Ret F_words_of [neD t] (.int (siz t)) := by
  refine Ret.imm (S' := []) ?_ rfl
  have := siz_pos t h
  simp [F_words_of, ev_runF, m_words_of, (R_need_nest h h6).run, (R_count_words 70 t h (by omega) (by omega)).run]
mutual
/-- the words of a nest as they are seen, numbered from a first one -/
def row (f : Nat) : Ne → List Nat
  | .w => [f]
  | .k p ps => if p then rowsP f ps else rowsM f ps
def rowsP (f : Nat) : List Ne → List Nat
  | [] => []
  | t :: ts => row f t ++ rowsP (f + siz t) ts
def rowsM (f : Nat) : List Ne → List Nat
  | [] => []
  | t :: ts => rowsM (f + siz t) ts ++ row f t
end
/-- the rows of the parts -/
def rowsL (f : Nat) : List Ne → List (List Nat)
  | [] => []
  | t :: ts => row f t :: rowsL (f + siz t) ts
theorem rowsP_eq : ∀ (f : Nat) (ts : List Ne), rowsP f ts = (rowsL f ts).flatten
  | _, [] => rfl
  | f, t :: ts => by simp [rowsP, rowsL, rowsP_eq (f + siz t) ts]
theorem rowsM_eq : ∀ (f : Nat) (ts : List Ne), rowsM f ts = (rowsL f ts).reverse.flatten
  | _, [] => rfl
  | f, t :: ts => by simp [rowsM, rowsL, rowsM_eq (f + siz t) ts]
mutual
theorem row_len : ∀ (f : Nat) (t : Ne), (row f t).length = siz t
  | f, .w => rfl
  | f, .k p ps => by
    cases p with
    | true => simp only [row, siz, if_true]; exact rowsP_len f ps
    | false => simp only [row, siz]; exact rowsM_len f ps
theorem rowsP_len : ∀ (f : Nat) (ts : List Ne), (rowsP f ts).length = sizs ts
  | f, [] => rfl
  | f, t :: ts => by simp [rowsP, sizs, row_len f t, rowsP_len (f + siz t) ts]
theorem rowsM_len : ∀ (f : Nat) (ts : List Ne), (rowsM f ts).length = sizs ts
  | f, [] => rfl
  | f, t :: ts => by simp [rowsM, sizs, row_len f t, rowsM_len (f + siz t) ts, Nat.add_comm]
end
theorem rowsL_len : ∀ (f : Nat) (ts : List Ne), (rowsL f ts).length = ts.length
  | _, [] => rfl
  | f, t :: ts => by simp [rowsL, rowsL_len (f + siz t) ts]
theorem row_k (f : Nat) (p : Bool) (ps : List Ne) : row f (.k p ps) = ((if p then rowsL f ps else (rowsL f ps).reverse)).flatten := by
  cases p
  · simp only [row, rowsM_eq]; rfl
  · simp only [row, rowsP_eq]; rfl
theorem rowsL_snoc (f : Nat) : ∀ (ts : List Ne) (t : Ne), rowsL f (ts ++ [t]) = rowsL f ts ++ [row (f + sizs ts) t]
  | [], t => by simp [rowsL, sizs]
  | u :: ts, t => by
    simp only [List.cons_append, rowsL, rowsL_snoc (f + siz u) ts t, sizs, List.cons_append]
    rw [Nat.add_assoc]
theorem sizs_snoc (ts : List Ne) (t : Ne) : sizs (ts ++ [t]) = sizs ts + siz t := by
  simp [sizs_map]
end Ab

end
section
set_option maxRecDepth 100000
namespace Ab
open PySem PySem.Spec PyProof.Rows L2
theorem R_law_cell_at {ns : List Int} {i : Int} {b : Bool} (h : 0 ≤ i) : Ret F_law_cell_at [.lst b (ns.map .int), .int i] (.int (ns.getD i.toNat 0)) := by
  refine Ret.imm (S' := []) ?_ rfl
  by_cases hl : i < ns.length
  · have e : L2.atI (ns.map D.int) i = some (.int (gI ns i.toNat)) := atI_gI (by omega) (by omega)
    simp [F_law_cell_at, ev_runF, m_law_cell_at, hl, e, gI]
  · have hn : ns[i.toNat]? = none := List.getElem?_eq_none (by omega)
    simp [F_law_cell_at, ev_runF, m_law_cell_at, hl, hn]
def mixL (c k : Int) : Int := (c % 2147483647 * (k * k + 48271) + k) % 2147483629 * ((c % 2147483647 * (k * k + 48271) + k) % 2147483629) % 2147483587 / 3
theorem mixL_pos (c k : Int) : 0 ≤ mixL c k := by
  unfold mixL
  exact Int.ediv_nonneg (Int.emod_nonneg _ (by decide)) (by decide)
theorem mod64 (c m : Int) (h0 : 0 < m) (h : m < 2 ^ 64) : w64 (c % m) = true := by
  have h1 := Int.emod_nonneg c (b := m) (by omega)
  have h2 := Int.emod_lt_of_pos c h0
  exact w64_of (by omega) (by omega)
theorem div_small {S : Sto} {x y : Int} (h : 0 < y) (h2 : y < 2 ^ 64) : fDiv (.int x) (.int y) S = .ok (.int (x / y)) S := ev_divI h (n := 64) (by omega) (by decide)
theorem R_law_mix {c k : Int} (h0 : 0 ≤ k) (h1 : k ≤ 1000) : Ret F_law_mix [.int c, .int k] (.int (mixL c k)) := by
  refine Ret.imm (S' := []) ?_ rfl
  have w1 : w64 k = true := w64_of (by omega) (by omega)
  simp [F_law_mix, ev_runF, m_law_mix, mixL, ev_mulI (.inl w1), ev_mulI (.inl (mod64 _ 2147483647 (by decide) (by decide))), ev_mulI (.inl (mod64 _ 2147483629 (by decide) (by decide))), div_small]
end Ab

end
section
set_option maxRecDepth 100000
namespace Ab
open PySem PySem.Spec PyProof.Rows L2
section
variable {G : Gam} {S : Sto} {f : D → SM} {α : Type}
/-- a walk over l, told by what is behind -/
theorem for_pre {ι : α → D} {l : List α} (I : List α → Gam → Sto → Prop) (h0 : I [] G S)
    (h : ∀ pre a post G S, l = pre ++ a :: post → I pre G S → ∃ G' S', (f (ι a) G S = .nx G' S' ∨ f (ι a) G S = .ct G' S') ∧ I (pre ++ [a]) G' S') : ∃ G' S', forRun always f (l.map ι) G S = .nx G' S' ∧ I l G' S' := by
  have key := for_inv (f := f) (l := l.map ι) (G := G) (S := S) (fun i G S => I (l.take i) G S) h0 (fun i x G S hx hI => by
    rw [List.getElem?_map, Option.map_eq_some_iff] at hx
    obtain ⟨a, ha, rfl⟩ := hx
    have hi := (List.getElem?_eq_some_iff.mp ha).1
    have e : l.take (i + 1) = l.take i ++ [a] := by rw [List.take_add_one, ha]; rfl
    have e2 : l = l.take i ++ a :: l.drop (i + 1) := by
      have := List.drop_eq_getElem_cons hi
      have e3 : l[i] = a := by
        have := List.getElem?_eq_getElem hi
        rw [ha] at this; exact (Option.some.inj this).symm
      rw [e3] at this
      rw [← this, List.take_append_drop]
    rw [e]
    exact h _ a _ G S e2 hI)
  rw [List.length_map, List.take_length] at key
  exact key
/-- .. that may leave the def -/
theorem for_preR {ι : α → D} {l : List α} (I : List α → Gam → Sto → Prop) (P : D → Sto → Prop) (h0 : I [] G S)
    (h : ∀ pre a post G S, l = pre ++ a :: post → I pre G S → (∃ G' S', (f (ι a) G S = .nx G' S' ∨ f (ι a) G S = .ct G' S') ∧ I (pre ++ [a]) G' S') ∨ ∃ d S', f (ι a) G S = .rt d S' ∧ P d S') :
    (∃ G' S', forRun always f (l.map ι) G S = .nx G' S' ∧ I l G' S') ∨ ∃ d S', forRun always f (l.map ι) G S = .rt d S' ∧ P d S' := by
  have key := for_ret (ck := always) (f := f) (fun i G S => I (l.take i) G S) P (l.map ι) 0 G S h0 (fun _ _ _ _ => rfl) (fun i x G S hx hI => by
    rw [List.getElem?_map, Option.map_eq_some_iff] at hx
    obtain ⟨a, ha, rfl⟩ := hx
    have hi := (List.getElem?_eq_some_iff.mp ha).1
    rw [Nat.zero_add] at hI ⊢
    have e : l.take (i + 1) = l.take i ++ [a] := by rw [List.take_add_one, ha]; rfl
    have e2 : l = l.take i ++ a :: l.drop (i + 1) := by
      have := List.drop_eq_getElem_cons hi
      have e3 : l[i] = a := by
        have := List.getElem?_eq_getElem hi
        rw [ha] at this; exact (Option.some.inj this).symm
      rw [e3] at this
      rw [← this, List.take_append_drop]
    rw [e]
    exact h _ a _ G S e2 hI)
  simp only [List.length_map, Nat.zero_add, List.take_length] at key
  exact key
/-- a walk over a range -/
theorem for_rg {lo : Int} {n : Nat} (I : Nat → Gam → Sto → Prop) (h0 : I 0 G S)
    (h : ∀ i, i < n → ∀ G S, I i G S → ∃ G' S', (f (.int (lo + i)) G S = .nx G' S' ∨ f (.int (lo + i)) G S = .ct G' S') ∧ I (i + 1) G' S') : ∃ G' S', forRun always f (rgD lo n) G S = .nx G' S' ∧ I n G' S' := by
  have key := for_inv (f := f) (l := rgD lo n) (G := G) (S := S) I h0 (fun i x G S hx hI => by
    obtain ⟨hj, rfl⟩ := rgD_get hx
    exact h i hj G S hI)
  rw [rgD_len] at key
  exact key
theorem for_rgR {lo : Int} {n : Nat} (I : Nat → Gam → Sto → Prop) (P : D → Sto → Prop) (h0 : I 0 G S)
    (h : ∀ i, i < n → ∀ G S, I i G S → (∃ G' S', (f (.int (lo + i)) G S = .nx G' S' ∨ f (.int (lo + i)) G S = .ct G' S') ∧ I (i + 1) G' S') ∨ ∃ d S', f (.int (lo + i)) G S = .rt d S' ∧ P d S') :
    (∃ G' S', forRun always f (rgD lo n) G S = .nx G' S' ∧ I n G' S') ∨ ∃ d S', forRun always f (rgD lo n) G S = .rt d S' ∧ P d S' := by
  have key := for_ret (ck := always) (f := f) I P (rgD lo n) 0 G S h0 (fun _ _ _ _ => rfl) (fun i x G S hx hI => by
    obtain ⟨hj, rfl⟩ := rgD_get hx
    rw [Nat.zero_add] at hI ⊢
    exact h i hj G S hI)
  simp only [rgD_len, Nat.zero_add] at key
  exact key
end
section
variable {G : Gam} {S : Sto} {q : SM} {i : Nat} {cs : List Str} {C c : Str} {su : Str → SM} {hs : List (Str × SM)}
theorem ev_try_ex {G' : Gam} {S' : Sto} {G2 : Gam} {S2 : Sto} (h : q G S = .ex c G' S') (hc : cs.contains c = true) (hi : i < G'.length) (hC : subE c C = true) (hsu : su c (G'.set i none) S' = .nx G2 S2) : mTryAs q i cs C su G S = .nx (G2.set i none) S2 := by
  simp only [mTryAs, h, hc, hi, decide_true, Bool.and_self, if_true, hC, hsu]
theorem ev_try_nx {G' : Gam} {S' : Sto} (h : q G S = .nx G' S') : mTryAs q i cs C su G S = .nx G' S' := by
  simp only [mTryAs, h]
theorem ev_tryN_nx {G' : Gam} {S' : Sto} (h : q G S = .nx G' S') : mTryN q cs hs G S = .nx G' S' := by
  simp only [mTryN, h]
end
end Ab

end
section
set_option maxRecDepth 100000
namespace Ab
open PySem PySem.Spec PyProof.Rows L2
inductive Tr where
  | w | l (ts : List Tr)
mutual
def cl (S : Sto) (op : List Nat) : Tr → D → Prop
  | .w, d => d = .non
  | .l ts, d => ∃ j xs, d = .obj j ∧ j ∉ op ∧ S[j]? = some (.lst xs) ∧ cls S op ts xs
def cls (S : Sto) (op : List Nat) : List Tr → List D → Prop
  | [], ds => ds = []
  | t :: ts, ds => ∃ d r, ds = d :: r ∧ cl S op t d ∧ cls S op ts r
end
mutual
def trD : Tr → D
  | .w => .non
  | .l ts => .lst true (trDs ts)
def trDs : List Tr → List D
  | [] => []
  | t :: ts => trD t :: trDs ts
end
mutual
def dpt : Tr → Nat
  | .w => 0
  | .l ts => dpts ts + 1
def dpts : List Tr → Nat
  | [] => 0
  | t :: ts => max (dpt t) (dpts ts)
end
mutual
def wds : Tr → Nat
  | .w => 1
  | .l ts => wdss ts
def wdss : List Tr → Nat
  | [] => 0
  | t :: ts => wds t + wdss ts
end
mutual
def okTr : Tr → Bool
  | .w => true
  | .l ts => decide (2 ≤ ts.length) && okTs ts
def okTs : List Tr → Bool
  | [] => true
  | t :: ts => okTr t && okTs ts
end
mutual
theorem dpt_le : ∀ t : Tr, okTr t = true → dpt t + 1 ≤ wds t
  | .w, _ => by simp [dpt, wds]
  | .l ts, h => by
    simp only [okTr, Bool.and_eq_true, decide_eq_true_eq] at h
    have := dpts_le ts h.2
    simp only [dpt, wds]
    omega
theorem dpts_le : ∀ ts : List Tr, okTs ts = true → dpts ts + ts.length ≤ wdss ts
  | [], _ => by simp [dpts, wdss]
  | t :: ts, h => by
    simp only [okTs, Bool.and_eq_true] at h
    have h1 := dpt_le t h.1
    have h2 := dpts_le ts h.2
    simp only [dpts, wdss, List.length_cons]
    omega
end
mutual
theorem cl_keep {S S' : Sto} {op op' : List Nat} (k : ∀ j o, j ∉ op → S[j]? = some o → S'[j]? = some o ∧ j ∉ op') : ∀ (t : Tr) (d : D), cl S op t d → cl S' op' t d
  | .w, d, h => by simpa [cl] using h
  | .l ts, d, h => by
    simp only [cl] at h ⊢
    obtain ⟨j, xs, e, hj, hS, hc⟩ := h
    obtain ⟨h1, h2⟩ := k j _ hj hS
    exact ⟨j, xs, e, h2, h1, cls_keep k ts xs hc⟩
theorem cls_keep {S S' : Sto} {op op' : List Nat} (k : ∀ j o, j ∉ op → S[j]? = some o → S'[j]? = some o ∧ j ∉ op') : ∀ (ts : List Tr) (ds : List D), cls S op ts ds → cls S' op' ts ds
  | [], ds, h => by simpa [cls] using h
  | t :: ts, ds, h => by
    simp only [cls] at h ⊢
    obtain ⟨d, r, e, h1, h2⟩ := h
    exact ⟨d, r, e, cl_keep k t d h1, cls_keep k ts r h2⟩
end
theorem cls_len {S : Sto} {op : List Nat} : ∀ {ts : List Tr} {ds : List D}, cls S op ts ds → ds.length = ts.length
  | [], ds, h => by simp only [cls] at h; subst h; rfl
  | t :: ts, ds, h => by
    simp only [cls] at h
    obtain ⟨d, r, rfl, _, h2⟩ := h
    simp [cls_len h2]
theorem cls_snoc {S : Sto} {op : List Nat} {t : Tr} {d : D} (hd : cl S op t d) : ∀ {ts : List Tr} {ds : List D}, cls S op ts ds → cls S op (ts ++ [t]) (ds ++ [d])
  | [], ds, h => by
    simp only [cls] at h; subst h
    simp only [List.nil_append, cls]
    exact ⟨d, [], rfl, hd, rfl⟩
  | u :: ts, ds, h => by
    simp only [cls] at h
    obtain ⟨e, r, rfl, h1, h2⟩ := h
    simp only [List.cons_append, cls]
    exact ⟨e, r ++ [d], rfl, h1, cls_snoc hd h2⟩
mutual
theorem cl_frz {S : Sto} {op : List Nat} : ∀ (k : Nat) (t : Tr) (d : D), cl S op t d → dpt t < k → sub gRes (frz gRes true S k) d = some (trD t)
  | k, .w, d, h, _ => by simp only [cl] at h; subst h; rfl
  | 0, .l ts, d, _, hk => by omega
  | k + 1, .l ts, d, h, hk => by
    simp only [cl] at h
    obtain ⟨j, xs, rfl, hj, hS, hc⟩ := h
    simp only [dpt] at hk
    have := cls_frz k ts xs hc (by omega)
    show frz gRes true S (k + 1) j = _
    simp only [frz, hS, this, Option.map_some, trD]
theorem cls_frz {S : Sto} {op : List Nat} : ∀ (k : Nat) (ts : List Tr) (ds : List D), cls S op ts ds → dpts ts < k ∨ ts = [] → subs gRes (frz gRes true S k) ds = some (trDs ts)
  | k, [], ds, h, _ => by simp only [cls] at h; subst h; rfl
  | k, t :: ts, ds, h, hk => by
    simp only [cls] at h
    obtain ⟨d, r, rfl, h1, h2⟩ := h
    have hk2 : dpts (t :: ts) < k := by
      rcases hk with h | h
      · exact h
      · cases h
    simp only [dpts] at hk2
    rw [subs_cons, cl_frz k t d h1 (by omega), cls_frz k ts r h2 (.inl (by omega))]
    rfl
end
mutual
theorem allT_tr : ∀ t : Tr, allT (trD t) = true
  | .w => rfl
  | .l ts => by simp only [trD, allT, Bool.true_and]; exact allTs_tr ts
theorem allTs_tr : ∀ ts : List Tr, allTs (trDs ts) = true
  | [] => rfl
  | t :: ts => by simp [trDs, allTs, allT_tr t, allTs_tr ts]
end
/-- what the pile holds: each open list's place and trees -/
structure LInv (S : Sto) (st : List (Nat × List Tr)) : Prop where
  pile : S[1]? = some (.lst (st.map fun p => .obj p.1))
  nd : (st.map (·.1)).Nodup
  one : ∀ p ∈ st, p.1 ≠ 1
  at_ : ∀ p ∈ st, ∃ xs, S[p.1]? = some (.lst xs) ∧ cls S (1 :: st.map (·.1)) p.2 xs
  ok : ∀ p ∈ st, okTs p.2 = true
def stW (st : List (Nat × List Tr)) : Nat := (st.map fun p => wdss p.2).sum
theorem okTs_iff {ts : List Tr} : okTs ts = true ↔ ∀ t ∈ ts, okTr t = true := by
  induction ts with
  | nil => simp [okTs]
  | cons t ts ih => simp [okTs, ih]
theorem wdss_append (a b : List Tr) : wdss (a ++ b) = wdss a + wdss b := by
  induction a with
  | nil => simp [wdss]
  | cons t a ih => simp [wdss, ih, Nat.add_assoc]
theorem len_wdss {ts : List Tr} (h : okTs ts = true) : ts.length ≤ wdss ts := by have := dpts_le ts h; omega
/-- a word is put down -/
theorem LInv.word {S : Sto} {st : List (Nat × List Tr)} {j : Nat} {ts : List Tr} (I : LInv S (st ++ [(j, ts)])) {xs : List D} (hx : S[j]? = some (.lst xs)) : LInv (S.set j (.lst (xs ++ [.non]))) (st ++ [(j, ts ++ [.w])]) := by
  have hj1 := I.one (j, ts) (by simp)
  have ek : ((st ++ [(j, ts ++ [Tr.w])]).map (·.1)) = ((st ++ [(j, ts)]).map (·.1)) := by simp
  have eo : ((st ++ [(j, ts ++ [Tr.w])]).map fun p => D.obj p.1) = ((st ++ [(j, ts)]).map fun p => D.obj p.1) := by simp
  have keep : ∀ i o, i ∉ 1 :: (st ++ [(j, ts)]).map (·.1) → S[i]? = some o → (S.set j (.lst (xs ++ [.non])))[i]? = some o ∧ i ∉ 1 :: (st ++ [(j, ts)]).map (·.1) := fun i o hi ho => by
    refine ⟨?_, hi⟩
    have : j ≠ i := fun e => hi (by subst e; simp)
    rw [List.getElem?_set_ne this]; exact ho
  refine ⟨?_, by rw [ek]; exact I.nd, fun p hp => ?_, fun p hp => ?_, fun p hp => ?_⟩
  · rw [List.getElem?_set_ne hj1, eo]; exact I.pile
  · rcases List.mem_append.mp hp with h | h
    · exact I.one p (List.mem_append_left _ h)
    · rw [List.mem_singleton.mp h]; exact hj1
  · rw [ek]
    rcases List.mem_append.mp hp with h | h
    · obtain ⟨ys, h1, h2⟩ := I.at_ p (List.mem_append_left _ h)
      have : j ≠ p.1 := fun e => by
        have nd := I.nd
        rw [List.map_append, List.nodup_append] at nd
        exact nd.2.2 p.1 (List.mem_map.mpr ⟨p, h, rfl⟩) j (by simp) e.symm
      exact ⟨ys, by rw [List.getElem?_set_ne this]; exact h1, cls_keep keep _ _ h2⟩
    · rw [List.mem_singleton.mp h]
      obtain ⟨ys, h1, h2⟩ := I.at_ (j, ts) (by simp)
      have e1 : S[j]? = some (.lst ys) := h1
      rw [hx] at e1
      cases e1
      refine ⟨xs ++ [.non], ?_, cls_snoc (by simp [cl]) (cls_keep keep _ _ h2)⟩
      rw [List.getElem?_set_self (List.getElem?_eq_some_iff.mp hx).1]
  · rcases List.mem_append.mp hp with h | h
    · exact I.ok p (List.mem_append_left _ h)
    · rw [List.mem_singleton.mp h, okTs_iff]
      intro t ht
      rcases List.mem_append.mp ht with ht | ht
      · exact okTs_iff.mp (I.ok (j, ts) (by simp)) t ht
      · rw [List.mem_singleton.mp ht]; rfl
/-- a new list is opened -/
theorem LInv.open_ {S : Sto} {st : List (Nat × List Tr)} (I : LInv S st) : LInv ((S ++ [O.lst []]).set 1 (O.lst ((st.map fun p => D.obj p.1) ++ [D.obj S.length]))) (st ++ [(S.length, [])]) := by
  have l1 : 1 < S.length := (List.getElem?_eq_some_iff.mp I.pile).1
  have hlt : ∀ p ∈ st, p.1 < S.length := fun p hp => by
    obtain ⟨xs, h, _⟩ := I.at_ p hp
    exact (List.getElem?_eq_some_iff.mp h).1
  have keep : ∀ i o, i ∉ 1 :: st.map (·.1) → S[i]? = some o → ((S ++ [O.lst []]).set 1 (O.lst ((st.map fun p => D.obj p.1) ++ [D.obj S.length])))[i]? = some o ∧ i ∉ 1 :: (st ++ [((S.length, []) : Nat × List Tr)]).map (·.1) := fun i o hi ho => by
    have hil := (List.getElem?_eq_some_iff.mp ho).1
    have h1 : 1 ≠ i := fun e => hi (by simp [e])
    refine ⟨by rw [List.getElem?_set_ne h1, List.getElem?_append_left hil]; exact ho, fun hm => ?_⟩
    simp only [List.map_append, List.map_cons, List.map_nil, List.mem_cons, List.mem_append, List.not_mem_nil, or_false] at hm hi
    rcases hm with e | e | e
    · exact hi (.inl e)
    · exact hi (.inr e)
    · omega
  refine ⟨?_, ?_, fun p hp => ?_, fun p hp => ?_, fun p hp => ?_⟩
  · rw [List.getElem?_set_self (by simp; omega)]; simp
  · rw [List.map_append, List.nodup_append]
    refine ⟨I.nd, by simp, fun a ha b hb e => ?_⟩
    obtain ⟨p, hp, rfl⟩ := List.mem_map.mp ha
    simp only [List.map_cons, List.map_nil, List.mem_singleton] at hb
    have := hlt p hp
    omega
  · rcases List.mem_append.mp hp with h | h
    · exact I.one p h
    · rw [List.mem_singleton.mp h]
      show S.length ≠ 1
      omega
  · rcases List.mem_append.mp hp with h | h
    · obtain ⟨ys, h1, h2⟩ := I.at_ p h
      refine ⟨ys, ?_, cls_keep keep _ _ h2⟩
      rw [List.getElem?_set_ne (fun e => I.one p h e.symm), List.getElem?_append_left (hlt p h)]; exact h1
    · rw [List.mem_singleton.mp h]
      refine ⟨[], ?_, rfl⟩
      show ((S ++ [O.lst []]).set 1 _)[S.length]? = _
      rw [List.getElem?_set_ne (by omega)]; simp
  · rcases List.mem_append.mp hp with h | h
    · exact I.ok p h
    · rw [List.mem_singleton.mp h]; rfl
/-- what becomes of the list that is closed -/
def cloT (ts us : List Tr) : List Tr := match us with
  | [] => ts
  | [u] => ts ++ [u]
  | us => ts ++ [.l us]
/-- the store then -/
def cloS (S : Sto) (P : List D) (i j : Nat) (xs ys : List D) : Sto := match xs with
  | [] => S.set 1 (.lst P)
  | [x] => (S.set 1 (.lst P)).set j (.lst (ys ++ [x]))
  | _ => (S.set 1 (.lst P)).set j (.lst (ys ++ [.obj i]))
/-- a list is closed into the one around it -/
theorem LInv.close {S : Sto} {st : List (Nat × List Tr)} {i j : Nat} {ts us : List Tr} (I : LInv S (st ++ [(j, ts)] ++ [(i, us)])) {xs ys : List D} (hx : S[i]? = some (.lst xs)) (hy : S[j]? = some (.lst ys)) :
    LInv (cloS S ((st ++ [(j, ts)]).map fun p => .obj p.1) i j xs ys) (st ++ [(j, cloT ts us)]) := by
  have hj1 := I.one (j, ts) (by simp)
  have hi1 := I.one (i, us) (by simp)
  simp only at hj1 hi1
  have nd := I.nd
  have hij : i ≠ j := fun e => by
    simp only [List.map_append, List.map_cons, List.map_nil] at nd
    rw [List.nodup_append] at nd
    exact nd.2.2 j (by simp) i (by simp) e.symm
  have l1 : 1 < S.length := (List.getElem?_eq_some_iff.mp I.pile).1
  have lj : j < S.length := (List.getElem?_eq_some_iff.mp hy).1
  obtain ⟨xs', hx', cx⟩ := I.at_ (i, us) (by simp)
  simp only at hx' cx
  rw [hx] at hx'; cases hx'
  obtain ⟨ys', hy', cy⟩ := I.at_ (j, ts) (by simp)
  simp only at hy' cy
  rw [hy] at hy'; cases hy'
  have nd2 : ((st ++ [(j, ts)]).map (·.1)).Nodup := by
    rw [List.map_append] at nd
    exact (List.nodup_append.mp nd).1
  -- what all three ways share
  have key : ∀ (S' : Sto) (vs : List Tr) (zs : List D), S'[1]? = some (.lst ((st ++ [(j, ts)]).map fun p => .obj p.1)) → S'[j]? = some (.lst zs) → (∀ k, k ≠ 1 → k ≠ j → S'[k]? = S[k]?) →
      (∀ (keep : ∀ k o, k ∉ 1 :: (st ++ [(j, ts)] ++ [(i, us)]).map (·.1) → S[k]? = some o → S'[k]? = some o ∧ k ∉ 1 :: (st ++ [(j, vs)]).map (·.1)), cls S' (1 :: (st ++ [(j, vs)]).map (·.1)) vs zs) → okTs vs = true → LInv S' (st ++ [(j, vs)]) := by
    intro S' vs zs p1 pj pk pc pok
    have ek : ((st ++ [(j, vs)]).map (·.1)) = ((st ++ [(j, ts)]).map (·.1)) := by simp
    have keep : ∀ k o, k ∉ 1 :: (st ++ [(j, ts)] ++ [(i, us)]).map (·.1) → S[k]? = some o → S'[k]? = some o ∧ k ∉ 1 :: (st ++ [(j, vs)]).map (·.1) := fun k o hk ho => by
      simp only [List.map_append, List.map_cons, List.map_nil, List.mem_cons, List.mem_append, List.not_mem_nil, or_false, not_or] at hk ⊢
      refine ⟨by rw [pk k hk.1 hk.2.1.2]; exact ho, hk.1, hk.2.1.1, hk.2.1.2⟩
    refine ⟨by rw [p1]; simp, by rw [ek]; exact nd2, fun p hp => ?_, fun p hp => ?_, fun p hp => ?_⟩
    · rcases List.mem_append.mp hp with h | h
      · exact I.one p (by simp [h])
      · rw [List.mem_singleton.mp h]; exact hj1
    · rcases List.mem_append.mp hp with h | h
      · obtain ⟨ws, h1, h2⟩ := I.at_ p (by simp [h])
        have hpj : p.1 ≠ j := fun e => by
          rw [List.map_append, List.nodup_append] at nd2
          exact nd2.2.2 p.1 (List.mem_map.mpr ⟨p, h, rfl⟩) j (by simp) e
        exact ⟨ws, by rw [pk _ (I.one p (by simp [h])) hpj]; exact h1, cls_keep keep _ _ h2⟩
      · rw [List.mem_singleton.mp h]
        exact ⟨zs, pj, pc keep⟩
    · rcases List.mem_append.mp hp with h | h
      · exact I.ok p (by simp [h])
      · rw [List.mem_singleton.mp h]; exact pok
  have okx := I.ok (i, us) (by simp)
  have oky := I.ok (j, ts) (by simp)
  simp only at okx oky
  have hl := cls_len cx
  rcases us with _ | ⟨u, _ | ⟨v, us⟩⟩
  · have e0 : xs = [] := List.length_eq_zero_iff.mp hl
    subst e0
    refine key (S.set 1 (.lst ((st ++ [(j, ts)]).map fun p => .obj p.1))) ts ys ?_ ?_ ?_ (fun keep => cls_keep keep _ _ cy) oky
    · rw [List.getElem?_set_self l1]
    · rw [List.getElem?_set_ne (Ne.symm hj1)]; exact hy
    · exact fun k h1 _ => by rw [List.getElem?_set_ne (Ne.symm h1)]
  · obtain ⟨x, rfl⟩ := List.length_eq_one_iff.mp hl
    refine key ((S.set 1 (.lst ((st ++ [(j, ts)]).map fun p => .obj p.1))).set j (.lst (ys ++ [x]))) (ts ++ [u]) (ys ++ [x]) ?_ ?_ ?_ (fun keep => ?_) ?_
    · rw [List.getElem?_set_ne hj1, List.getElem?_set_self l1]
    · rw [List.getElem?_set_self (by simpa using lj)]
    · exact fun k h1 h2 => by rw [List.getElem?_set_ne (Ne.symm h2), List.getElem?_set_ne (Ne.symm h1)]
    · simp only [cls] at cx
      obtain ⟨d, r, e, c1, rfl⟩ := cx
      cases e
      exact cls_snoc (cl_keep keep _ _ c1) (cls_keep keep _ _ cy)
    · rw [okTs_iff]
      intro t ht
      rcases List.mem_append.mp ht with ht | ht
      · exact okTs_iff.mp oky t ht
      · exact okTs_iff.mp okx t ht
  · obtain ⟨x, xs', rfl⟩ : ∃ x xs', xs = x :: xs' := by
      cases xs with
      | nil => simp at hl
      | cons x xs => exact ⟨x, xs, rfl⟩
    obtain ⟨y, xs, rfl⟩ : ∃ y xs, xs' = y :: xs := by
      cases xs' with
      | nil => simp at hl
      | cons x xs => exact ⟨x, xs, rfl⟩
    refine key ((S.set 1 (.lst ((st ++ [(j, ts)]).map fun p => .obj p.1))).set j (.lst (ys ++ [.obj i]))) (ts ++ [.l (u :: v :: us)]) (ys ++ [.obj i]) ?_ ?_ ?_ (fun keep => ?_) ?_
    · rw [List.getElem?_set_ne hj1, List.getElem?_set_self l1]
    · rw [List.getElem?_set_self (by simpa using lj)]
    · exact fun k h1 h2 => by rw [List.getElem?_set_ne (Ne.symm h2), List.getElem?_set_ne (Ne.symm h1)]
    · refine cls_snoc ?_ (cls_keep keep _ _ cy)
      show ∃ _ _, _
      refine ⟨i, x :: y :: xs, rfl, ?_, ?_, cls_keep keep _ _ cx⟩
      · simp only [List.map_append, List.map_cons, List.map_nil] at nd ⊢
        rw [List.nodup_append] at nd
        intro hm
        simp only [List.mem_cons, List.mem_append, List.not_mem_nil, or_false] at hm
        rcases hm with e | e | e
        · exact hi1 e
        · exact nd.2.2 i (by simp [e]) i (by simp) rfl
        · exact hij e
      · rw [List.getElem?_set_ne (Ne.symm hij), List.getElem?_set_ne (Ne.symm hi1)]; exact hx
    · rw [okTs_iff]
      intro t ht
      rcases List.mem_append.mp ht with ht | ht
      · exact okTs_iff.mp oky t ht
      · rw [List.mem_singleton.mp ht]
        simp only [okTr, okx, Bool.and_true, decide_eq_true_eq]
        simp
theorem cloT_wds (ts us : List Tr) : wdss (cloT ts us) = wdss ts + wdss us := by
  unfold cloT
  split
  · simp [wdss]
  · simp [wdss_append, wdss]
  · simp [wdss_append, wdss, wds]
end Ab

end
section
set_option maxRecDepth 100000
namespace Ab
open PySem PySem.Spec PyProof.Rows L2
def runPd (F : Fn) (as : List D) (S : Sto) : ER := match F as [] with
  | .rt d S' => (match resDk 130 S' d with
    | some e => if allT e then .ok e S else .err
    | none => .err)
  | .ex c => .ex c S
  | .err => .err
@[simp] theorem ev_callPd {F : Fn} {ds : List D} {S : Sto} : callPd F ds S = (match argDs S ds with
  | some as => runPd F as S
  | none => .err) := (rfl)
def RetD (F : Fn) (as : List D) (d : D) : Prop := ∃ e S', F as [] = .rt e S' ∧ resDk 130 S' e = some d ∧ allT d = true
theorem RetD.run {F : Fn} {as : List D} {d : D} {S : Sto} (h : RetD F as d) : runPd F as S = .ok d S := by
  obtain ⟨e, S', h1, h2, h3⟩ := h
  unfold runPd
  rw [h1]
  dsimp only
  rw [h2]
  simp [h3]
@[simp] theorem ev_callS {F : Fn} {ds : List D} {S : Sto} : callS F ds S = (match F ds S with
  | .rt d S' => .ok d S'
  | .ex _ => .err
  | .err => .err) := (rfl)
theorem F_closed {S : Sto} {P : List D} {i j : Nat} {xs ys : List D} (h1 : S[1]? = some (.lst (P ++ [.obj j] ++ [.obj i]))) (hx : S[i]? = some (.lst xs)) (hy : S[j]? = some (.lst ys)) (hi : i ≠ 1) (hj : j ≠ 1) (hij : i ≠ j) (hl : ys.length < 100000) :
    ∃ d, F_law_closed_k33 [.obj 1] S = .rt d (cloS S (P ++ [.obj j]) i j xs ys) := by
  have l1 : 1 < S.length := (List.getElem?_eq_some_iff.mp h1).1
  have hxs : (S.set 1 (.lst (P ++ [D.obj j])))[i]? = some (.lst xs) := by rw [List.getElem?_set_ne (Ne.symm hi)]; exact hx
  have hys : (S.set 1 (.lst (P ++ [D.obj j])))[j]? = some (.lst ys) := by rw [List.getElem?_set_ne (Ne.symm hj)]; exact hy
  have h1s : (S.set 1 (.lst (P ++ [D.obj j])))[1]? = some (.lst (P ++ [.obj j])) := List.getElem?_set_self l1
  have hpop : (P ++ [D.obj j] ++ [D.obj i])[(P ++ [D.obj j] ++ [D.obj i]).length - 1]? = some (.obj i) := by simp
  have hdl : (P ++ [D.obj j] ++ [D.obj i]).dropLast = P ++ [.obj j] := by rw [List.dropLast_concat]
  have hm1 : L2.atI (P ++ [D.obj j]) (-1) = some (.obj j) := atI_last
  refine ⟨.non, ?_⟩
  generalize hP : P ++ [D.obj j] ++ [D.obj i] = Q at *
  generalize hP2 : P ++ [D.obj j] = Q2 at *
  rcases xs with _ | ⟨x, _ | ⟨y, xs⟩⟩
  · simp [F_law_closed_k33, ev_runF, m_law_closed_k33, h1, hpop, hdl, hxs, cloS]
  · simp [F_law_closed_k33, ev_runF, m_law_closed_k33, h1, hpop, hdl, hxs, h1s, hm1, hys, hl, cloS]
  · have e1 : ¬ ((xs.length : Int) + 1 = 0) := by omega
    have e2 : (1 : Int) < (xs.length : Int) + 1 + 1 := by omega
    have e3 : ¬ ((xs.length : Int) + 1 + 1 = 1) := by omega
    simp [F_law_closed_k33, ev_runF, m_law_closed_k33, h1, hpop, hdl, hxs, h1s, hm1, hys, hl, cloS, e1, e2, e3]
theorem stW_snoc (st : List (Nat × List Tr)) (p : Nat × List Tr) : stW (st ++ [p]) = stW st + wdss p.2 := by simp [stW]
theorem stW_mem {st : List (Nat × List Tr)} {p : Nat × List Tr} (h : p ∈ st) : wdss p.2 ≤ stW st := by
  induction st with
  | nil => cases h
  | cons q st ih =>
    rcases List.mem_cons.mp h with e | e
    · subst e; simp [stW]
    · have := ih e; simp [stW] at this ⊢; omega
/-- one list is closed: the pile's state -/
theorem LInv.closed {S : Sto} {st : List (Nat × List Tr)} (I : LInv S st) (hl : 1 < st.length) (hw : stW st ≤ 1000) :
    ∃ d S' st', F_law_closed_k33 [.obj 1] S = .rt d S' ∧ LInv S' st' ∧ st'.length + 1 = st.length ∧ stW st' = stW st := by
  obtain ⟨st1, q, rfl⟩ : ∃ st1 q, st = st1 ++ [q] := ⟨st.dropLast, st.getLast (fun e => by rw [e] at hl; simp at hl), (List.dropLast_concat_getLast _).symm⟩
  have hl1 : 0 < st1.length := by simpa using hl
  obtain ⟨st2, p, rfl⟩ : ∃ st2 p, st1 = st2 ++ [p] := ⟨st1.dropLast, st1.getLast (fun e => by rw [e] at hl1; simp at hl1), (List.dropLast_concat_getLast _).symm⟩
  obtain ⟨i, us⟩ := q
  obtain ⟨j, ts⟩ := p
  obtain ⟨xs, hx, cx⟩ := I.at_ (i, us) (by simp)
  obtain ⟨ys, hy, cy⟩ := I.at_ (j, ts) (by simp)
  have nd := I.nd
  have hij : i ≠ j := fun e => by
    simp only [List.map_append, List.map_cons, List.map_nil] at nd
    rw [List.nodup_append] at nd
    exact nd.2.2 j (by simp) i (by simp) e.symm
  have hts : ts.length ≤ 1000 := by
    have h1 := len_wdss (I.ok (j, ts) (by simp))
    have h2 := stW_mem (p := (j, ts)) (st := st2 ++ [(j, ts)] ++ [(i, us)]) (by simp)
    simp only at h1 h2
    omega
  have hpl := I.pile
  simp only [List.map_append, List.map_cons, List.map_nil] at hpl
  obtain ⟨d, e⟩ := F_closed (P := st2.map fun p => .obj p.1) hpl hx hy (I.one (i, us) (by simp)) (I.one (j, ts) (by simp)) hij (by rw [cls_len cy]; simp only at hts ⊢; omega)
  refine ⟨d, _, st2 ++ [(j, cloT ts us)], e, ?_, by simp, ?_⟩
  · have := I.close hx hy
    simpa using this
  · simp only [stW_snoc, cloT_wds]
    omega
/-- a turn of _law_lists -/
theorem S_lists_1 {S : Sto} {st : List (Nat × List Tr)} (I : LInv S st) (h0 : 0 < st.length) (hw : stW st ≤ 900) (hl : st.length ≤ 900) {c : Int} {x y : D} {z : Option D} :
    ∃ S' st', turn (gmName 2) b_law_lists_1 (.int c) [some x, some (.obj 1), z] S = .nx [some x, some (.obj 1), some (.int c)] S' ∧ LInv S' st' ∧ 0 < st'.length ∧ st'.length ≤ st.length + 1 ∧ stW st' ≤ stW st + 1 := by
  obtain ⟨st1, q, rfl⟩ : ∃ st1 q, st = st1 ++ [q] := ⟨st.dropLast, st.getLast (fun e => by rw [e] at h0; simp at h0), (List.dropLast_concat_getLast _).symm⟩
  have hpl := I.pile
  have l1 : 1 < S.length := (List.getElem?_eq_some_iff.mp hpl).1
  have hlen : ((st1 ++ [q]).map fun p => D.obj p.1).length < 100000 := by rw [List.length_map]; omega
  by_cases c0 : c % 4 = 0
  · refine ⟨_, _, ?_, I.open_, by simp, by simp, by simp [stW, wdss]⟩
    have hpl2 : (S ++ [O.lst []])[1]? = some (.lst ((st1 ++ [q]).map fun p => .obj p.1)) := by rw [List.getElem?_append_left l1]; exact hpl
    generalize ((st1 ++ [q]).map fun p => D.obj p.1) = P at hpl hpl2 hlen ⊢
    simp [b_law_lists_1, c0, hpl, hpl2, hlen]
  · by_cases c1 : c % 4 = 1 ∧ 1 < (st1 ++ [q]).length
    · obtain ⟨d, S', st', e, I', hl', hw'⟩ := I.closed c1.2 (by omega)
      refine ⟨S', st', ?_, I', by omega, by omega, by omega⟩
      have hp2 : (1 : Int) < (((st1 ++ [q]).map fun p => D.obj p.1).length : Int) := by rw [List.length_map]; omega
      generalize ((st1 ++ [q]).map fun p => D.obj p.1) = P at hpl hlen hp2 ⊢
      simp [b_law_lists_1, c1.1, hpl, hp2, e]
    · obtain ⟨i, us⟩ := q
      obtain ⟨xs, hx, cx⟩ := I.at_ (i, us) (by simp)
      have hus : us.length ≤ 1000 := by
        have h1 := len_wdss (I.ok (i, us) (by simp))
        have h2 := stW_mem (p := (i, us)) (st := st1 ++ [(i, us)]) (by simp)
        simp only at h1 h2
        omega
      have hxl : xs.length < 100000 := by rw [cls_len cx]; simp only at hus ⊢; omega
      refine ⟨_, _, ?_, I.word hx, by simp, by simp, by rw [stW_snoc, stW_snoc]; simp [wdss_append, wdss, wds]; omega⟩
      have hm1 : L2.atI ((st1 ++ [(i, us)]).map fun p => D.obj p.1) (-1) = some (.obj i) := by
        rw [List.map_append]; exact atI_last
      have hx' : S[i]? = some (.lst xs) := hx
      have hp2 : (1 : Int) < (((st1 ++ [(i, us)]).map fun p => D.obj p.1).length : Int) ↔ 1 < (st1 ++ [(i, us)]).length := by rw [List.length_map]; omega
      by_cases c2 : c % 4 = 1
      · have hp3 : ¬ (1 : Int) < (((st1 ++ [(i, us)]).map fun p => D.obj p.1).length : Int) := fun z => c1 ⟨c2, hp2.mp z⟩
        generalize ((st1 ++ [(i, us)]).map fun p => D.obj p.1) = P at hpl hlen hm1 hp3 ⊢
        simp [b_law_lists_1, c2, hpl, hp3, hm1, hx', hxl]
      · generalize ((st1 ++ [(i, us)]).map fun p => D.obj p.1) = P at hpl hlen hm1 ⊢
        simp [b_law_lists_1, c0, c2, hpl, hm1, hx', hxl]
theorem while_lists : ∀ (n : Nat) (S : Sto) (st : List (Nat × List Tr)) (x : D) (z : Option D), LInv S st → 0 < st.length → st.length < n + 1 → stW st ≤ 900 → st.length ≤ 900 →
    ∃ S' i ts, mWhile (mBin fGt (mCall fLen (aCons (mVar 1) (aNil))) (mC (.int 1))) b_law_lists_2 n [some x, some (.obj 1), z] S = .nx [some x, some (.obj 1), z] S' ∧ LInv S' [(i, ts)] ∧ wdss ts ≤ stW st
  | 0, S, st, x, z, _, h0, hn, _, _ => by omega
  | n + 1, S, st, x, z, I, h0, hn, hw, hl => by
    have hpl := I.pile
    have hlen : (((st.map fun p => D.obj p.1).length : Nat) : Int) = st.length := by rw [List.length_map]
    by_cases h1 : 1 < st.length
    · obtain ⟨d, S', st', e, I', hl', hw'⟩ := I.closed h1 (by omega)
      have hc : (mBin fGt (mCall fLen (aCons (mVar 1) (aNil))) (mC (.int 1))) [some x, some (.obj 1), z] S = .ok (.bl true) S := by
        have : (1 : Int) < (st.length : Int) := by omega
        generalize (st.map fun p => D.obj p.1) = P at hpl hlen
        simp [hpl, hlen, this]
      have hb : b_law_lists_2 [some x, some (.obj 1), z] S = .nx [some x, some (.obj 1), z] S' := by
        simp [b_law_lists_2, e]
      rw [while_step hc (.inl hb)]
      obtain ⟨S2, i, ts, e2, I2, w2⟩ := while_lists n S' st' x z I' (by omega) (by omega) (by omega) (by omega)
      exact ⟨S2, i, ts, e2, I2, by omega⟩
    · have hc : (mBin fGt (mCall fLen (aCons (mVar 1) (aNil))) (mC (.int 1))) [some x, some (.obj 1), z] S = .ok (.bl false) S := by
        have : ¬ (1 : Int) < (st.length : Int) := by omega
        generalize (st.map fun p => D.obj p.1) = P at hpl hlen
        simp [hpl, hlen, this]
      match st, h0, h1, I, hw with
      | [(i, ts)], _, _, I, hw => exact ⟨S, i, ts, while_end hc, I, by simp [stW]⟩
      | _ :: _ :: _, _, h1, _, _ => simp at h1
theorem frz_at {S : Sto} {k i : Nat} {xs ds : List D} (h : S[i]? = some (.lst xs)) (hs : subs gRes (frz gRes true S k) xs = some ds) : frz gRes true S (k + 1) i = some (.lst true ds) := by
  simp only [frz, h, hs, Option.map_some]
theorem trDs_map (ts : List Tr) : trDs ts = ts.map trD := by
  induction ts with
  | nil => rfl
  | cons t ts ih => simp [trDs, ih]
theorem R_law_lists {cells : List Int} {b : Bool} (hc : cells.length ≤ 100) : ∃ ts, okTs ts = true ∧ wdss ts ≤ cells.length ∧ RetD F_law_lists [.lst b (cells.map .int)] (.lst true (ts.map trD)) := by
  have I0 : LInv [.lst [], .lst [.obj 0]] [(0, [])] := ⟨rfl, by simp, by simp, fun p hp => by
    rw [List.mem_singleton.mp hp]; exact ⟨[], rfl, rfl⟩, fun p hp => by rw [List.mem_singleton.mp hp]; rfl⟩
  obtain ⟨G1, S1, e1, z, st, rfl, I, h0, hl, hw⟩ := for_pre (f := turn (gmName 2) b_law_lists_1) (ι := D.int) (l := cells) (G := [some (.lst b (cells.map .int)), some (.obj 1), none]) (S := [.lst [], .lst [.obj 0]])
    (fun pre G S => ∃ z st, G = [some (.lst b (cells.map .int)), some (.obj 1), z] ∧ LInv S st ∧ 0 < st.length ∧ st.length ≤ pre.length + 1 ∧ stW st ≤ pre.length) ⟨none, [(0, [])], rfl, I0, by simp, by simp, by simp [stW, wdss]⟩
    (fun pre a post G S hl hI => by
      obtain ⟨z, st, rfl, I, h0, h1, h2⟩ := hI
      have hpl : pre.length < cells.length := by rw [hl]; simp
      obtain ⟨S', st', e, I', h0', h1', h2'⟩ := S_lists_1 I h0 (by omega) (by omega) (c := a) (x := .lst b (cells.map .int)) (y := .non) (z := z)
      exact ⟨_, S', .inl e, _, st', rfl, I', h0', by simp <;> omega, by simp <;> omega⟩)
  obtain ⟨S2, i, ts, e2, I2, w2⟩ := while_lists 1000 S1 st (.lst b (cells.map .int)) z I h0 (by omega) (by omega) (by omega)
  have okts := I2.ok (i, ts) (by simp)
  obtain ⟨xs, hx, cx⟩ := I2.at_ (i, ts) (by simp)
  have hdp := dpts_le ts okts
  refine ⟨ts, okts, by omega, .obj i, S2, ?_, ?_, ?_⟩
  · have hpl := I2.pile
    simp only [List.map_cons, List.map_nil] at hpl
    simp [F_law_lists, ev_runF, m_law_lists, e1, e2, hpl]
  · have := cls_frz 129 ts xs cx (.inl (by omega))
    rw [trDs_map] at this
    exact frz_at (k := 129) hx this
  · rw [← trDs_map]; simp only [allT, Bool.true_and]; exact allTs_tr ts
end Ab

end
section
set_option maxRecDepth 100000
namespace Ab
open PySem PySem.Spec PyProof.Rows L2
/-- rows of words as data -/
def rowD (l : List Nat) : D := .lst true (natD l)
@[simp] theorem sub_rowD {f : Nat → Option D} (l : List Nat) : sub gRes f (rowD l) = some (rowD l) := by simp [rowD]
@[simp] theorem allT_rowD (l : List Nat) : allT (rowD l) = true := by simp [rowD]
theorem isAt_of {S : Sto} {n : Nat} {xs : List D} (h : S[n]? = some (.lst xs)) : isAt n xs S = true := isAt_self h
/-- a loop that puts rows behind one another -/
theorem extend_rows {f : D → SM} {G0 : Option D → Gam} (rs : List (List Nat)) (L : List D) (hL : L = rs.map rowD) (hz : (rs.map List.length).sum ≤ 100000)
    (hf : ∀ (r : List Nat) (a : Option D) (acc : List D), acc.length + r.length ≤ 100000 → f (rowD r) (G0 a) [.lst L, .lst acc] = .nx (G0 (some (rowD r))) [.lst L, .lst (acc ++ natD r)]) (a : Option D) :
    ∃ b, forRun (isAt 0 L) f L (G0 a) [.lst L, .lst []] = .nx (G0 b) [.lst L, .lst (natD rs.flatten)] := by
  have key := for_invC (ck := isAt 0 L) (f := f) (fun i G S => ∃ b, G = G0 b ∧ S = [.lst L, .lst (natD (rs.take i).flatten)]) L 0 (G0 a) [.lst L, .lst []] ⟨a, rfl, rfl⟩
    (fun i G S ⟨b, _, hS⟩ => by subst hS; exact isAt_of rfl) (fun i x G S hx ⟨b, hG, hS⟩ => by
      subst hG hS
      rw [Nat.zero_add]
      rw [hL, List.getElem?_map, Option.map_eq_some_iff] at hx
      obtain ⟨r, hr, rfl⟩ := hx
      have e : rs.take (i + 1) = rs.take i ++ [r] := by rw [List.take_add_one, hr]; rfl
      refine ⟨_, _, .inl (hf r b _ ?_), some (rowD r), rfl, ?_⟩
      · have h1 : ((rs.take (i + 1)).map List.length).sum ≤ (rs.map List.length).sum := by
          conv => rhs; rw [← List.take_append_drop (i + 1) rs]
          rw [List.map_append, List.sum_append]; omega
        rw [e] at h1
        simp only [List.map_append, List.sum_append, List.map_cons, List.map_nil, List.sum_cons, List.sum_nil] at h1
        rw [natD_len, List.length_flatten]; omega
      · rw [e, List.flatten_append]; simp [natD])
  obtain ⟨G', S', h1, b, rfl, rfl⟩ := key
  refine ⟨b, ?_⟩
  rw [h1]
  have : rs.take (0 + L.length) = rs := by rw [hL]; simp
  rw [this]
theorem rowsL_sum (f : Nat) : ∀ ts : List Ne, ((rowsL f ts).map List.length).sum = sizs ts
  | [] => rfl
  | t :: ts => by
    have : ∀ g, ((rowsL g ts).map List.length).sum = sizs ts := fun g => rowsL_sum g ts
    simp [rowsL, row_len, this, sizs]
theorem R_law_row : ∀ (n : Nat) (t : Ne) (f : Nat), okN t = true → ht t < n → siz t ≤ 1000 → Ret (F_law_row n) [neD t, .int f] (rowD (row f t))
  | 0, t, f, _, h, _ => by omega
  | n + 1, .w, f, _, _, _ => by
    refine Ret.of (e := .lst true [.int f]) (S' := []) ?_ (by simp [rowD, row, natD]) (by simp)
    simp [F_law_row, ev_runF, m_law_row, isNon]
  | n + 1, .k p ps, f, ok, h, hz => by
    have hl := okN_len ok
    simp only [ht] at h
    simp only [siz] at hz
    generalize hth : (D.tup [.str (sg p), .tup (ps.map neD)]) = th
    have l1 := for_inv (f := turn (gmName 3) (b_law_row_1 (F_law_row n))) (l := ps.map neD) (G := [some th, some (.int f), some (.obj 0), none, none, none]) (S := [.lst []])
      (fun i G S => ∃ a b, G = [some th, some (.int ((f + sizs (ps.take i) : Nat) : Int)), some (.obj 0), a, b, none] ∧ S = [.lst ((rowsL f (ps.take i)).map rowD)]) ⟨_, _, rfl, rfl⟩ (fun i x G S hx hI => by
        obtain ⟨a, b, rfl, rfl⟩ := hI
        rw [List.getElem?_map, Option.map_eq_some_iff] at hx
        obtain ⟨t, ht', rfl⟩ := hx
        have hm := List.mem_of_getElem? ht'
        have e : ps.take (i + 1) = ps.take i ++ [t] := by rw [List.take_add_one, ht']; rfl
        have h1 := hts_le hm
        have h2 := sizs_le hm
        refine ⟨_, _, .inl ?_, some (neD t), some (rowD (row (f + sizs (ps.take i)) t)), rfl, rfl⟩
        have hr := (R_law_row n t (f + sizs (ps.take i)) (isN_part ok hm).1 (by omega) (by omega)).run (S := [.lst ((rowsL f (ps.take i)).map rowD)])
        have hlen : ((rowsL f (ps.take i)).map rowD).length < 100000 := by rw [List.length_map, rowsL_len]; simp; omega
        rw [e, rowsL_snoc, sizs_snoc, List.map_append]
        generalize (rowsL f (ps.take i)).map rowD = L at hr hlen ⊢
        generalize hg : f + sizs (ps.take i) = g at hr ⊢
        have hrl := row_len g t
        generalize row g t = r at hr hrl ⊢
        simp only [rowD] at hr
        simp [-Int.natCast_add, b_law_row_1, hr, hlen, rowD, hrl]
        omega)
    obtain ⟨G1, S1, e1, a, b, rfl, rfl⟩ := l1
    rw [List.length_map, List.take_length] at e1
    generalize ((f + sizs ps : Nat) : Int) = zz at e1
    generalize hR : (if p then rowsL f ps else (rowsL f ps).reverse) = R
    have hRs : (R.map List.length).sum ≤ 100000 := by
      have : (R.map List.length).sum = sizs ps := by
        rw [← hR, ← rowsL_sum f ps]
        cases p
        · simp [List.sum_reverse]
        · simp
      omega
    obtain ⟨c, e2⟩ := extend_rows (f := turn (gmName 4) (b_law_row_2 (F_law_row n))) (G0 := fun x => [some th, some (.int zz), some (.obj 0), a, x, some (.obj 1)]) R (R.map rowD) rfl hRs
      (fun r x acc hacc => by simp [b_law_row_2, rowD, hacc]) b
    have hrow : row f (.k p ps) = R.flatten := by rw [row_k, hR]
    rw [hrow, neD_k, hth]
    refine Ret.of (e := .obj 1) (S' := [.lst (R.map rowD), .lst (natD R.flatten)]) ?_ (by simp [rowD]) (by simp [rowD])
    have hi : fIx th (.int 1) [O.lst []] = .ok (.tup (ps.map neD)) [O.lst []] := by rw [← hth]; simp
    have hk : ∀ S, fIx th (.int 0) S = .ok (.str (sg p)) S := fun S => by rw [← hth]; simp
    have hn : isNon th = false := by rw [← hth]; rfl
    cases p with
    | true =>
      simp only [if_true] at hR
      have hs : ¬ (sg true = ("-" : Str)) := by decide +kernel
      rw [hR] at e1
      simp [F_law_row, ev_runF, m_law_row, hn, hi, e1, hk, hs, e2]
    | false =>
      simp only [Bool.false_eq_true, if_false] at hR
      have hs : sg false = ("-" : Str) := rfl
      have hR2 : ((rowsL f ps).map rowD).reverse = R.map rowD := by rw [← hR]; simp
      simp [F_law_row, ev_runF, m_law_row, hn, hi, e1, hk, hs, hR2, e2]
end Ab

end
section
set_option maxRecDepth 100000
namespace Ab
open PySem PySem.Spec PyProof.Rows L2
mutual
def trF : Tr → D
  | .w => .non
  | .l ts => .lst false (trFs ts)
def trFs : List Tr → List D
  | [] => []
  | t :: ts => trF t :: trFs ts
end
theorem trFs_map (ts : List Tr) : trFs ts = ts.map trF := by
  induction ts with
  | nil => rfl
  | cons t ts ih => simp [trFs, ih]
mutual
theorem sub_trD (f : Nat → Option D) : ∀ t : Tr, sub gArg f (trD t) = some (trF t)
  | .w => rfl
  | .l ts => by simp only [trD, trF, sub_lstA, subs_trD f ts, Option.map_some]
theorem subs_trD (f : Nat → Option D) : ∀ ts : List Tr, subs gArg f (trDs ts) = some (trFs ts)
  | [] => rfl
  | t :: ts => by simp only [trDs, trFs, subs_cons, sub_trD f t, subs_trD f ts]
end
mutual
theorem frzn_trF : ∀ t : Tr, frzn (trF t) = true
  | .w => rfl
  | .l ts => by simp only [trF, frzn, frzns_trF ts, Bool.not_false, Bool.and_self]
theorem frzns_trF : ∀ ts : List Tr, frzns (trFs ts) = true
  | [] => rfl
  | t :: ts => by simp only [trFs, frzns, frzn_trF t, frzns_trF ts, Bool.and_self]
end
@[simp] theorem sub_trF (f : Nat → Option D) (t : Tr) : sub gArg f (trF t) = some (trF t) := sub_frzn f _ (frzn_trF t)
mutual
def kdN (p : Bool) : Tr → Ne
  | .w => .w
  | .l ts => .k p (kdNs (!p) ts)
def kdNs (p : Bool) : List Tr → List Ne
  | [] => []
  | t :: ts => kdN p t :: kdNs p ts
end
theorem kdNs_map (p : Bool) (ts : List Tr) : kdNs p ts = ts.map (kdN p) := by
  induction ts with
  | nil => rfl
  | cons t ts ih => simp [kdNs, ih]
mutual
theorem kdN_siz (p : Bool) : ∀ t : Tr, siz (kdN p t) = wds t
  | .w => rfl
  | .l ts => by simp only [kdN, siz, wds, kdNs_siz (!p) ts]
theorem kdNs_siz (p : Bool) : ∀ ts : List Tr, sizs (kdNs p ts) = wdss ts
  | [] => rfl
  | t :: ts => by simp only [kdNs, sizs, wdss, kdN_siz p t, kdNs_siz p ts]
end
theorem kdN_kind (p q : Bool) (h : (p == q) = false) (t : Tr) : isK q (kdN p t) = false := by
  cases t with
  | w => rfl
  | l ts => simpa [kdN, isK] using h
mutual
theorem kdN_ok (p : Bool) : ∀ t : Tr, okTr t = true → okN (kdN p t) = true
  | .w, _ => rfl
  | .l ts, h => by
    simp only [okTr, Bool.and_eq_true, decide_eq_true_eq] at h
    simp only [kdN, okN, Bool.and_eq_true, decide_eq_true_eq]
    exact ⟨by rw [kdNs_map, List.length_map]; exact h.1, kdNs_ok p ts h.2⟩
theorem kdNs_ok (p : Bool) : ∀ ts : List Tr, okTs ts = true → okNs p (kdNs (!p) ts) = true
  | [], _ => rfl
  | t :: ts, h => by
    simp only [okTs, Bool.and_eq_true] at h
    simp only [kdNs, okNs, Bool.and_eq_true, Bool.not_eq_true']
    exact ⟨⟨kdN_ok (!p) t h.1, kdN_kind (!p) p (by cases p <;> rfl) t⟩, kdNs_ok p ts h.2⟩
end
theorem dpt_mem {ts : List Tr} {t : Tr} (h : t ∈ ts) : dpt t ≤ dpts ts := by
  induction ts with
  | nil => cases h
  | cons u us ih =>
    simp only [dpts]
    rcases List.mem_cons.mp h with rfl | h
    · omega
    · have := ih h; omega
theorem wds_mem {ts : List Tr} {t : Tr} (h : t ∈ ts) : wds t ≤ wdss ts := by
  induction ts with
  | nil => cases h
  | cons u us ih =>
    simp only [wdss]
    rcases List.mem_cons.mp h with rfl | h
    · omega
    · have := ih h; omega
theorem R_law_kinded : ∀ (n : Nat) (t : Tr) (p : Bool), dpt t < n → okTr t = true → wds t ≤ 1000 → Ret (F_law_kinded n) [trF t, .str (sg p)] (neD (kdN p t))
  | 0, t, p, h, _, _ => by omega
  | n + 1, .w, p, _, _, _ => by
    refine Ret.imm (S' := []) ?_ rfl
    simp [F_law_kinded, ev_runF, m_law_kinded, trF, isNon, kdN]
  | n + 1, .l ts, p, h, ok, hz => by
    simp only [okTr, Bool.and_eq_true, decide_eq_true_eq] at ok
    simp only [dpt] at h
    simp only [wds] at hz
    have hl := len_wdss ok.2
    have e1 : trF (.l ts) = .lst false (ts.map trF) := by simp only [trF, trFs_map]
    have e2 : neD (kdN p (.l ts)) = .tup [.str (sg p), .tup (ts.map fun t => neD (kdN (!p) t))] := by
      simp only [kdN, kdNs_map, neD_k, List.map_map, Function.comp_def]
    have hi : imms (ts.map fun t => neD (kdN (!p) t)) = true := by
      have := imms_ne (ts.map (kdN (!p)))
      rwa [List.map_map] at this
    have hc : c_law_kinded_1 (F_law_kinded n) [some (.lst false (ts.map trF)), some (.str (sg p)), some (.str (sg !p)), none] [] = .ok (.lst true (ts.map fun t => neD (kdN (!p) t))) [] := by
      unfold c_law_kinded_1
      refine comp_f0 (ck := always) trF ts _ (fun t => [some (.lst false (ts.map trF)), some (.str (sg p)), some (.str (sg !p)), some (trF t)]) (by simp) (fun _ => rfl) (by omega) (by simp) ?_ ?_ ?_
      · exact objLts_imms _ _ hi
      · intro t _; simp
      · intro t ht acc
        have h1 := dpt_mem ht
        have h2 := wds_mem ht
        simp [(R_law_kinded n t (!p) (by omega) (okTs_iff.mp ok.2 t ht) (by omega)).run]
    rw [e1, e2]
    refine Ret.imm (S' := []) ?_ (by simp [hi])
    cases p with
    | true =>
      have hc' : c_law_kinded_1 (F_law_kinded n) [some (.lst false (ts.map trF)), some (.str "+"), some (.str "-"), none] [] = .ok (.lst true (ts.map fun t => neD (kdN (!true) t))) [] := hc
      have es : sg true = ("+" : Str) := rfl
      rw [es]
      generalize (ts.map fun t => neD (kdN (!true) t)) = L at hc' ⊢
      simp [F_law_kinded, ev_runF, m_law_kinded, isNon, hc']
    | false =>
      have hc' : c_law_kinded_1 (F_law_kinded n) [some (.lst false (ts.map trF)), some (.str "-"), some (.str "+"), none] [] = .ok (.lst true (ts.map fun t => neD (kdN (!false) t))) [] := hc
      have es : sg false = ("-" : Str) := rfl
      have ne : ¬ (("-" : Str) = "+") := by decide +kernel
      rw [es]
      generalize (ts.map fun t => neD (kdN (!false) t)) = L at hc' ⊢
      simp [F_law_kinded, ev_runF, m_law_kinded, isNon, ne, hc']
theorem pm_at {S : Sto} (c : Int) : fIx (.str "+-") (.int (c % 2)) S = .ok (.str (sg (decide (c % 2 = 0)))) S := by
  have h1 := Int.emod_nonneg c (b := 2) (by decide)
  have h2 := Int.emod_lt_of_pos c (b := 2) (by decide)
  have : c % 2 = 0 ∨ c % 2 = 1 := by omega
  rcases this with h | h
  · rw [h]; rfl
  · rw [h]; rfl
theorem R_law_nest_k33 {cells : List Int} {way : Int} {b : Bool} (hc : cells.length ≤ 61) : ∃ t, okN t = true ∧ siz t ≤ max 1 cells.length ∧ Ret F_law_nest_k33 [.lst b (cells.map .int), .int way] (neD t) := by
  obtain ⟨ts, ok, hw, hr⟩ := R_law_lists (cells := cells) (b := false) (by omega)
  have hl := len_wdss ok
  have hs : subs gArg (frz gArg false [] 4) (ts.map trD) = some (ts.map trF) := by
    rw [← trDs_map, ← trFs_map]; exact subs_trD _ ts
  rcases ts with _ | ⟨u, _ | ⟨v, ts⟩⟩
  · refine ⟨.w, rfl, by simp only [siz]; omega, Ret.imm (S' := []) ?_ rfl⟩
    simp [F_law_nest_k33, ev_runF, m_law_nest_k33, hr.run]
  · simp only [okTs, Bool.and_true] at ok
    simp only [wdss, Nat.add_zero] at hw
    have hd := dpt_le u ok
    refine ⟨kdN (decide (way % 2 = 0)) u, kdN_ok _ u ok, by rw [kdN_siz]; omega, Ret.imm (S' := []) ?_ (imm_ne _)⟩
    have hk := (R_law_kinded 70 u (decide (way % 2 = 0)) (by omega) ok (by omega)).run (S := [])
    have hsu : sub gArg (frz gArg false [] 4) (trD u) = some (trF u) := sub_trD _ u
    simp [F_law_nest_k33, ev_runF, m_law_nest_k33, hr.run, pm_at, hsu, hk]
  · have ok' : okTr (.l (u :: v :: ts)) = true := by
      simp only [okTr, ok, Bool.and_true, decide_eq_true_eq]; simp
    have hd := dpt_le (.l (u :: v :: ts)) ok'
    have hw' : wds (.l (u :: v :: ts)) ≤ cells.length := hw
    refine ⟨kdN (decide (way % 2 = 0)) (.l (u :: v :: ts)), kdN_ok _ _ ok', by rw [kdN_siz]; omega, Ret.imm (S' := []) ?_ (imm_ne _)⟩
    have hk := (R_law_kinded 70 (.l (u :: v :: ts)) (decide (way % 2 = 0)) (by omega) ok' (by omega)).run (S := [])
    have et : trF (.l (u :: v :: ts)) = .lst false ((u :: v :: ts).map trF) := by simp only [trF, trFs_map]
    rw [et] at hk
    have e1 : ¬ ((u :: v :: ts).map trD) = [] := by simp
    have e2 : ¬ ((((u :: v :: ts).map trD).length : Nat) : Int) = 1 := by simp; omega
    have hr' := hr.run (S := [])
    generalize (u :: v :: ts).map trD = L at hr' hs e1 e2
    generalize (u :: v :: ts).map trF = M at hk hs
    simp [F_law_nest_k33, ev_runF, m_law_nest_k33, hr', e1, e2, pm_at, hs, hk]
theorem R_law_seen_k33 : ∀ (n : Nat) (t : Ne) (f : Nat), okN t = true → ht t < n → siz t ≤ 1000 → Ret (F_law_seen_k33 n) [neD t, .int f] (rowD (row f t))
  | 0, t, f, _, h, _ => by omega
  | n + 1, .w, f, _, _, _ => by
    refine Ret.of (e := .lst true [.int f]) (S' := []) ?_ (by simp [rowD, row, natD]) (by simp)
    simp [F_law_seen_k33, ev_runF, m_law_seen_k33, isNon]
  | n + 1, .k p ps, f, ok, h, hz => by
    have hl := okN_len ok
    simp only [ht] at h
    simp only [siz] at hz
    generalize hth : (D.tup [.str (sg p), .tup (ps.map neD)]) = th
    have l1 := for_inv (f := turn (gmName 3) (b_law_seen_k33_1 (F_law_seen_k33 n))) (l := ps.map neD) (G := [some th, some (.int f), some (.obj 0), none, none, none]) (S := [.lst []])
      (fun i G S => ∃ a, G = [some th, some (.int ((f + sizs (ps.take i) : Nat) : Int)), some (.obj 0), a, none, none] ∧ S = [.lst ((rowsL f (ps.take i)).map rowD)]) ⟨_, rfl, rfl⟩ (fun i x G S hx hI => by
        obtain ⟨a, rfl, rfl⟩ := hI
        rw [List.getElem?_map, Option.map_eq_some_iff] at hx
        obtain ⟨t, ht', rfl⟩ := hx
        have hm := List.mem_of_getElem? ht'
        have e : ps.take (i + 1) = ps.take i ++ [t] := by rw [List.take_add_one, ht']; rfl
        have h1 := hts_le hm
        have h2 := sizs_le hm
        refine ⟨_, _, .inl ?_, some (neD t), rfl, rfl⟩
        have hr := (R_law_seen_k33 n t (f + sizs (ps.take i)) (isN_part ok hm).1 (by omega) (by omega)).run (S := [.lst ((rowsL f (ps.take i)).map rowD)])
        have hlen : ((rowsL f (ps.take i)).map rowD).length < 100000 := by rw [List.length_map, rowsL_len]; simp; omega
        rw [e, rowsL_snoc, sizs_snoc, List.map_append]
        generalize (rowsL f (ps.take i)).map rowD = L at hr hlen ⊢
        generalize hg : f + sizs (ps.take i) = g at hr ⊢
        have hrl := row_len g t
        generalize row g t = r at hr hrl ⊢
        simp only [rowD] at hr
        simp [-Int.natCast_add, b_law_seen_k33_1, hr, hlen, rowD, hrl]
        omega)
    obtain ⟨G1, S1, e1, a, rfl, rfl⟩ := l1
    rw [List.length_map, List.take_length] at e1
    generalize ((f + sizs ps : Nat) : Int) = zz at e1
    generalize hR : (if p then rowsL f ps else (rowsL f ps).reverse) = R
    have hRs : (R.map List.length).sum ≤ 100000 := by
      have : (R.map List.length).sum = sizs ps := by
        rw [← hR, ← rowsL_sum f ps]
        cases p
        · simp [List.sum_reverse]
        · simp
      omega
    obtain ⟨c, e2⟩ := extend_rows (f := turn (gmName 5) (b_law_seen_k33_2 (F_law_seen_k33 n))) (G0 := fun x => [some th, some (.int zz), some (.obj 0), a, some (.obj 1), x]) R (R.map rowD) rfl hRs
      (fun r x acc hacc => by simp [b_law_seen_k33_2, rowD, hacc]) none
    have hrow : row f (.k p ps) = R.flatten := by rw [row_k, hR]
    rw [hrow, neD_k, hth]
    refine Ret.of (e := .obj 1) (S' := [.lst (R.map rowD), .lst (natD R.flatten)]) ?_ (by simp [rowD]) (by simp [rowD])
    have hi : fIx th (.int 1) [O.lst []] = .ok (.tup (ps.map neD)) [O.lst []] := by rw [← hth]; simp
    have hk : ∀ S, fIx th (.int 0) S = .ok (.str (sg p)) S := fun S => by rw [← hth]; simp
    have hn : isNon th = false := by rw [← hth]; rfl
    cases p with
    | true =>
      simp only [if_true] at hR
      have hs : ¬ (sg true = ("-" : Str)) := by decide +kernel
      rw [hR] at e1
      simp [F_law_seen_k33, ev_runF, m_law_seen_k33, hn, hi, e1, hk, hs, e2]
    | false =>
      simp only [Bool.false_eq_true, if_false] at hR
      have hs : sg false = ("-" : Str) := rfl
      have hR2 : ((rowsL f ps).map rowD).reverse = R.map rowD := by rw [← hR]; simp
      simp [F_law_seen_k33, ev_runF, m_law_seen_k33, hn, hi, e1, hk, hs, hR2, e2]
theorem fIn_sg {p : Bool} {S : Sto} : fIn true (.str (sg p)) (.tup [.str "+", .str "-"]) S = .ok (.bl false) S := by
  rw [fIn_kind, sg_kind]; rfl
theorem R_law_is_nest_k61 : ∀ (n : Nat) (t : Ne), okN t = true → ht t < n → siz t ≤ 1000 → Ret (F_law_is_nest_k61 n) [neD t] (.bl true)
  | 0, t, _, h, _ => by omega
  | n + 1, .w, _, _, _ => by
    refine Ret.imm (S' := []) ?_ rfl
    simp [F_law_is_nest_k61, ev_runF, m_law_is_nest_k61, isNon]
  | n + 1, .k p ps, ok, h, hz => by
    have hl := okN_len ok
    simp only [ht] at h
    simp only [siz] at hz
    refine Ret.imm (S' := []) ?_ rfl
    rw [neD_k]
    obtain ⟨G1, S1, e1, x, rfl, rfl⟩ := for_pre (f := turn (gmName 1) (b_law_is_nest_k61_1 (F_law_is_nest_k61 n))) (ι := neD) (l := ps) (G := [some (.tup [.str (sg p), .tup (ps.map neD)]), none]) (S := [])
      (fun _ G S => ∃ x, G = [some (.tup [.str (sg p), .tup (ps.map neD)]), x] ∧ S = []) ⟨_, rfl, rfl⟩ (fun pre a post G S hp hI => by
        obtain ⟨x, rfl, rfl⟩ := hI
        have hm : a ∈ ps := by rw [hp]; simp
        have h1 := hts_le hm
        have h2 := sizs_le hm
        have hk := isN_part ok hm
        have hr := (R_law_is_nest_k61 n a hk.1 (by omega) (by omega)).run (S := [])
        refine ⟨_, _, .inl ?_, some (neD a), rfl, rfl⟩
        cases a with
        | w => simp [b_law_is_nest_k61_1, hr, isNon] at hr ⊢; simp [hr]
        | k q qs =>
          have hq : ¬ (sg q = sg p) := by
            have := sg_eq (p := q) (q := p)
            have h3 : (q == p) = false := hk.2
            rw [h3] at this
            simpa using this
          rw [neD_k] at hr ⊢
          simp [b_law_is_nest_k61_1, hr, isNon, hq])
    have e2 : ¬ ((ps.length : Int) < 2) := by omega
    simp [F_law_is_nest_k61, ev_runF, m_law_is_nest_k61, isNon, isT, e2, fIn_sg, e1]
end Ab

end
section
set_option maxRecDepth 100000
namespace Ab
open PySem PySem.Spec PyProof.Rows L2
mutual
theorem eqd_ne : ∀ t : Ne, eqd (neD t) (neD t) = true
  | .w => rfl
  | .k p ps => by
    have := eqds_ne ps
    rw [← neDs_map] at this
    simp only [neD, eqd_tt, eqds_cons, eqd_ss, eqds_nil, beq_self_eq_true, this, Bool.and_self]
theorem eqds_ne : ∀ ts : List Ne, eqds (ts.map neD) (ts.map neD) = true
  | [] => rfl
  | t :: ts => by simp only [List.map_cons, eqds_cons, eqd_ne t, eqds_ne ts, Bool.and_self]
end
mutual
theorem dep_ne : ∀ t : Ne, dep (neD t) = 2 * ht t
  | .w => rfl
  | .k p ps => by
    have := deps_ne ps
    rw [← neDs_map] at this
    simp only [neD, dep_tup, deps_cons, dep_str, deps_nil, this, ht]
    omega
theorem deps_ne : ∀ ts : List Ne, deps (ts.map neD) = 2 * hts ts
  | [] => rfl
  | t :: ts => by
    simp only [List.map_cons, deps_cons, dep_ne t, deps_ne ts, hts]
    omega
end
/-- == of two nests that are one -/
theorem fEq_ne {S : Sto} {neg : Bool} {t : Ne} (h : okN t = true) (h6 : siz t ≤ 60) : fEq neg (neD t) (neD t) S = .ok (.bl (!neg)) S := by
  have hp := siz_pos t h
  have e : fEq neg (neD t) (neD t) S = cmpF neg (argD S (neD t)) (argD S (neD t)) S := by
    cases t with
    | w => simp
    | k p ps => rw [neD_k]; simp only [ev_eqT1]
  have e2 : argD S (neD t) = some (neD t) := sub_ne t
  have hd : decide (min (dep (neD t)) (dep (neD t)) ≤ 190) = true := by
    rw [dep_ne]; simp; omega
  rw [e, e2, ev_cmpF, okE_ne, hd, eqd_ne]
  cases neg <;> rfl
end Ab

end
section
set_option maxRecDepth 100000
namespace Ab
open PySem PySem.Spec PyProof.Rows L2
mutual
theorem sub_allT (f : Nat → Option D) : ∀ d : D, allT d = true → sub gRes f d = some d
  | .non, _ => rfl
  | .bl _, _ => rfl
  | .int _, _ => rfl
  | .str _, _ => rfl
  | .tup xs, h => by
    simp only [allT] at h
    rw [sub_tup, subs_allT f xs h]; rfl
  | .lst b xs, h => by
    simp only [allT, Bool.and_eq_true] at h
    obtain ⟨rfl, h⟩ := h
    simp only [sub, gRes, if_true, subs_allT f xs h, Option.map_some]
  | .emp b, h => by
    simp only [allT] at h
    subst h; rfl
  | .obj _, h => by simp [allT] at h
theorem subs_allT (f : Nat → Option D) : ∀ ds : List D, allTs ds = true → subs gRes f ds = some ds
  | [], _ => rfl
  | d :: ds, h => by
    simp only [allTs, Bool.and_eq_true] at h
    rw [subs_cons, sub_allT f d h.1, subs_allT f ds h.2]
end
theorem Ret.allT {F : Fn} {as : List D} {d : D} {S' : Sto} (h : F as [] = .rt d S') (ht : Ab.allT d = true) : Ret F as d := ⟨d, S', h, sub_allT _ d ht, ht⟩
mutual
/-- a value with its lists' flags put down, where it holds nothing of ours -/
def low : D → D
  | .tup xs => .tup (lows xs)
  | .lst _ xs => .lst false (lows xs)
  | .emp _ => .emp false
  | d => d
def lows : List D → List D
  | [] => []
  | d :: ds => low d :: lows ds
end
mutual
def noObj : D → Bool
  | .tup xs => noObjs xs
  | .lst _ xs => noObjs xs
  | .obj _ => false
  | _ => true
def noObjs : List D → Bool
  | [] => true
  | d :: ds => noObj d && noObjs ds
end
mutual
theorem sub_low (f : Nat → Option D) : ∀ d : D, noObj d = true → sub gArg f d = some (low d)
  | .non, _ => rfl
  | .bl _, _ => rfl
  | .int _, _ => rfl
  | .str _, _ => rfl
  | .tup xs, h => by
    simp only [noObj] at h
    rw [sub_tup, subs_low f xs h]; rfl
  | .lst b xs, h => by
    simp only [noObj] at h
    rw [sub_lstA, subs_low f xs h]; rfl
  | .emp b, _ => rfl
  | .obj _, h => by simp [noObj] at h
theorem subs_low (f : Nat → Option D) : ∀ ds : List D, noObjs ds = true → subs gArg f ds = some (lows ds)
  | [], _ => rfl
  | d :: ds, h => by
    simp only [noObjs, Bool.and_eq_true] at h
    rw [subs_cons, sub_low f d h.1, subs_low f ds h.2]; rfl
end
mutual
theorem frzn_low : ∀ d : D, noObj d = true → frzn (low d) = true
  | .non, _ => rfl
  | .bl _, _ => rfl
  | .int _, _ => rfl
  | .str _, _ => rfl
  | .tup xs, h => by simp only [noObj] at h; simp only [low, frzn, frzns_low xs h]
  | .lst b xs, h => by simp only [noObj] at h; simp only [low, frzn, frzns_low xs h, Bool.not_false, Bool.and_self]
  | .emp b, _ => rfl
  | .obj _, h => by simp [noObj] at h
theorem frzns_low : ∀ ds : List D, noObjs ds = true → frzns (lows ds) = true
  | [], _ => rfl
  | d :: ds, h => by
    simp only [noObjs, Bool.and_eq_true] at h
    simp only [lows, frzns, frzn_low d h.1, frzns_low ds h.2, Bool.and_self]
end
theorem lows_map (ds : List D) : lows ds = ds.map low := by
  induction ds with
  | nil => rfl
  | cons d ds ih => simp [lows, ih]
mutual
theorem low_frzn : ∀ d : D, frzn d = true → low d = d
  | .non, _ => rfl
  | .bl _, _ => rfl
  | .int _, _ => rfl
  | .str _, _ => rfl
  | .tup xs, h => by simp only [frzn] at h; simp only [low, lows_frzn xs h]
  | .lst b xs, h => by
    simp only [frzn, Bool.and_eq_true, Bool.not_eq_true'] at h
    simp only [low, lows_frzn xs h.2, h.1]
  | .emp b, h => by
    simp only [frzn, Bool.not_eq_true'] at h
    simp only [low, h]
  | .obj _, h => by simp [frzn] at h
theorem lows_frzn : ∀ ds : List D, frzns ds = true → lows ds = ds
  | [], _ => rfl
  | d :: ds, h => by
    simp only [frzns, Bool.and_eq_true] at h
    simp only [lows, low_frzn d h.1, lows_frzn ds h.2]
end
/-- what is refused by need_nest -/
def badN (d : D) : Bool := noObj d && !isN (low d) && decide (kn (low d) ≤ 900)
theorem badN_is {d : D} (h : badN d = true) : Ret F_is_nest [low d] (.bl false) := by
  simp only [badN, Bool.and_eq_true, Bool.not_eq_true', decide_eq_true_eq] at h
  have := R_is_nest (frzn_low d h.1.1) h.2
  rw [h.1.2] at this
  exact this
theorem E_need_nest_k61 {d : D} (h : badN d = true) : Exc F_need_nest_k61 [low d] "NoNest" := by
  have hr := (badN_is h).run (S := [])
  simp only [badN, Bool.and_eq_true] at h
  unfold Exc
  have hs : sub gArg (frz gArg false [] 4) (low d) = some (low d) := sub_frzn _ _ (frzn_low d h.1.1)
  simp [F_need_nest_k61, ev_runF, m_need_nest_k61, hs, hr]
theorem E_need_nest_k12 {d : D} (h : badN d = true) : Exc F_need_nest_k12 [low d] "NoNest" := by
  have hr := (badN_is h).run (S := [])
  simp only [badN, Bool.and_eq_true] at h
  unfold Exc
  have hs : sub gArg (frz gArg false [] 4) (low d) = some (low d) := sub_frzn _ _ (frzn_low d h.1.1)
  simp [F_need_nest_k12, ev_runF, m_need_nest_k12, hs, hr]
theorem R_need_nest_k61 {t : Ne} (h : okN t = true) (h6 : siz t ≤ 60) : Ret F_need_nest_k61 [neD t] .non := by
  refine Ret.imm (S' := []) ?_ rfl
  simp [F_need_nest_k61, ev_runF, m_need_nest_k61, (R_is_nest_ne h h6).run]
def noL : List D := [.tup [.str "+"], .tup [.str "+", .tup [.non]], .tup [.str "*", .tup [.non, .non]], .tup [.str "-", .lst true [.non, .non]], .lst true [.str "+", .tup [.non, .non]], .tup [.str "+", .tup [.non, .int 0]],
  .int 0, .str ".", .tup [.str "+", .tup [.non, .tup [.str "+", .tup [.non, .non]]]], .tup [.str "-", .tup [.non, .tup [.str "-", .tup [.non, .non]], .non]], .tup [.non, .non], .bl true]
theorem noL_ok : noL.all (fun d => badN d && allT d) = true := by decide +kernel
theorem R_law_no_nest_k61 (c : Int) : ∃ d, badN d = true ∧ allT d = true ∧ Ret F_law_no_nest_k61 [.int c] d := by
  have h0 := Int.emod_nonneg c (b := 12) (by decide)
  have h1 := Int.emod_lt_of_pos c (b := 12) (by decide)
  obtain ⟨k, hk⟩ : ∃ k : Nat, c % 12 = k := ⟨(c % 12).toNat, by omega⟩
  have hk12 : k < noL.length := by show k < 12; omega
  have hg : noL[k]? = some noL[k] := List.getElem?_eq_getElem hk12
  have hm := List.all_eq_true.mp noL_ok _ (List.getElem_mem hk12)
  simp only [Bool.and_eq_true] at hm
  refine ⟨noL[k], hm.1, hm.2, Ret.allT (S' := []) ?_ hm.2⟩
  have ha : L2.atI noL (c % 12) = some noL[k] := by rw [hk]; exact atI_nat hg
  generalize noL[k] = d at ha
  unfold noL at ha
  simp [F_law_no_nest_k61, ev_runF, m_law_no_nest_k61, ha]
end Ab

end
section
set_option maxRecDepth 100000
namespace Ab
open PySem PySem.Spec PyProof.Rows L2
section
variable {G : Gam} {S : Sto} {n : Nat} {k : Int} {v : D} {kvs : List (Int × D)} {neg o : Bool} {m m1 m2 m3 : EM}
@[simp] theorem ev_dctOf : dctOf S (.obj n) = (match S[n]? with
  | some (.dct kvs) => some kvs
  | _ => none) := (rfl)
@[simp] theorem ev_inD {e : D} : fInD neg (.int k) e S = (match dctOf S e with
  | some kvs => .ok (.bl (if neg then !(valI kvs k).isSome else (valI kvs k).isSome)) S
  | none => .err) := by
  unfold fInD
  cases dctOf S e <;> rfl
@[simp] theorem ev_Emp : mEmp o G S = if o then .ok (.obj S.length) (S ++ [.dct []]) else .ok (.emp true) S := (rfl)
@[simp] theorem ev_DGet : mDGet m1 m2 G S = (m1 G S).bind fun e S1 => (m2 G S1).bind fun d S2 => match d, dctOf S2 e with
  | .int k, some kvs => (match valI kvs k with
    | some v => .ok v S2
    | none => .err)
  | _, _ => .err := (rfl)
@[simp] theorem ev_DPut : mDPut m1 m2 m3 G S = (m3 G S).bindS G fun v S1 => (m1 G S1).bindS G fun e S2 => (m2 G S2).bindS G fun d S3 => match e, d with
  | .obj j, .int k => (match S3[j]? with
    | some (.dct kvs) => if kvs.length < 100000 then .nx G (S3.set j (.dct (putI kvs k v))) else .err
    | _ => .err)
  | _, _ => .err := (rfl)
@[simp] theorem ev_sorted {d : D} : fSorted o [d] S = (match (seqL S d).bind intsD with
  | some ns => if ns.length < 64 then nw o ((ns.mergeSort (fun a b => decide (a ≤ b))).map D.int) S else .err
  | none => .err) := (rfl)
end
theorem valI_snoc {kvs : List (Int × D)} {k j : Int} {v : D} : valI (kvs ++ [(k, v)]) j = (valI kvs j).or (if k = j then some v else none) := by
  unfold valI
  rw [List.find?_append]
  cases h : kvs.find? (fun kv => decide (kv.1 = j)) with
  | some x => simp
  | none => by_cases e : k = j <;> simp [e]
theorem putI_new {kvs : List (Int × D)} {k : Int} {v : D} (h : valI kvs k = none) : putI kvs k v = kvs ++ [(k, v)] := by
  unfold putI
  have : kvs.any (fun kv => decide (kv.1 = k)) = false := by
    rw [List.any_eq_false]
    intro x hx
    unfold valI at h
    rw [Option.map_eq_none_iff, List.find?_eq_none] at h
    exact h x hx
  rw [this]; rfl
/-- the items are such numbers, none of some -/
def numsB (many : Int) : List Int → List D → Bool
  | _, [] => true
  | seen, .int i :: r => decide (0 ≤ i) && decide (i < many) && !seen.contains i && numsB many (seen ++ [i]) r
  | _, _ :: _ => false
def tkvs (seen : List Int) : List (Int × D) := seen.map fun i => (i, .bl true)
theorem valI_tkvs (seen : List Int) (i : Int) : (valI (tkvs seen) i).isSome = seen.contains i := by
  unfold valI tkvs
  rw [Option.isSome_map, Bool.eq_iff_iff, List.find?_isSome]
  constructor
  · rintro ⟨x, hx, hp⟩
    obtain ⟨a, ha, rfl⟩ := List.mem_map.mp hx
    have : a = i := of_decide_eq_true hp
    subst this
    simpa using ha
  · intro h
    exact ⟨(i, .bl true), List.mem_map.mpr ⟨i, by simpa using h, rfl⟩, by simp⟩
theorem notInt_ty {S : Sto} {d : D} (hf : frzn d = true) (h : ∀ i, d ≠ .int i) : isT (tyD S d) "int" = false ∨ isT (tyD S d) "bool" = true := by
  cases d with
  | int i => exact absurd rfl (h i)
  | bl b => right; simp [isT]
  | obj i => simp [frzn] at hf
  | _ => left; simp [isT]
theorem for_numbers {th : D} {many : Int} : ∀ (ds : List D) (seen : List Int) (z : Option D), frzns ds = true → seen.length + ds.length ≤ 1000 →
    (numsB many seen ds = true ∧ ∃ z' kvs, forRun always (turn (gmName 3) b_are_numbers_1) ds [some th, some (.int many), some (.obj 0), z] [.dct (tkvs seen)] = .nx [some th, some (.int many), some (.obj 0), z'] [.dct kvs]) ∨
    (numsB many seen ds = false ∧ ∃ S', forRun always (turn (gmName 3) b_are_numbers_1) ds [some th, some (.int many), some (.obj 0), z] [.dct (tkvs seen)] = .rt (.bl false) S')
  | [], seen, z, _, _ => .inl ⟨rfl, z, tkvs seen, by simp⟩
  | d :: ds, seen, z, hf, hl => by
    simp only [frzns, Bool.and_eq_true] at hf
    simp only [List.length_cons] at hl
    by_cases hi : ∃ i, d = .int i
    · obtain ⟨i, rfl⟩ := hi
      by_cases h0 : 0 ≤ i
      · by_cases h1 : i < many
        · by_cases h2 : seen.contains i = true
          · refine .inr ⟨by simp only [numsB, h2, Bool.not_true, Bool.and_false, Bool.false_and], [.dct (tkvs seen)], ?_⟩
            have hv := valI_tkvs seen i
            rw [h2] at hv
            rw [ev_forCons]
            have e1 : ¬ i < 0 := by omega
            have e2 : ¬ many ≤ i := by omega
            simp [b_are_numbers_1, isT, e1, e2, hv]
          · have h2' : seen.contains i = false := by simpa using h2
            have hv := valI_tkvs seen i
            rw [h2'] at hv
            have hv2 : valI (tkvs seen) i = none := by simpa using hv
            have hp : putI (tkvs seen) i (.bl true) = tkvs (seen ++ [i]) := by rw [putI_new hv2]; simp [tkvs]
            have e1 : ¬ i < 0 := by omega
            have e2 : ¬ many ≤ i := by omega
            have e3 : (tkvs seen).length < 100000 := by simp only [tkvs, List.length_map]; omega
            have hb : turn (gmName 3) b_are_numbers_1 (.int i) [some th, some (.int many), some (.obj 0), z] [.dct (tkvs seen)] = .nx [some th, some (.int many), some (.obj 0), some (.int i)] [.dct (tkvs (seen ++ [i]))] := by
              simp [b_are_numbers_1, isT, e1, e2, hv2, e3, hp]
            have ih := for_numbers (th := th) (many := many) ds (seen ++ [i]) (some (.int i)) hf.2 (by simp; omega)
            rw [ev_forCons, hb]
            simp only [ev_always, if_true]
            have en : numsB many seen (.int i :: ds) = numsB many (seen ++ [i]) ds := by simp only [numsB, h0, h1, h2', decide_true, Bool.not_false, Bool.and_self, Bool.true_and]
            rw [en]
            exact ih
        · refine .inr ⟨by simp [numsB, h1], [.dct (tkvs seen)], ?_⟩
          rw [ev_forCons]
          have e1 : ¬ i < 0 := by omega
          have e2 : many ≤ i := by omega
          simp [b_are_numbers_1, isT, e1, e2]
      · refine .inr ⟨by simp [numsB, h0], [.dct (tkvs seen)], ?_⟩
        rw [ev_forCons]
        have e1 : i < 0 := by omega
        simp [b_are_numbers_1, isT, e1]
    · have hi' : ∀ i, d ≠ .int i := fun i e => hi ⟨i, e⟩
      have hn : numsB many seen (d :: ds) = false := by
        cases d with
        | int i => exact absurd rfl (hi' i)
        | _ => rfl
      refine .inr ⟨hn, [.dct (tkvs seen)], ?_⟩
      rw [ev_forCons]
      rcases notInt_ty (S := [.dct (tkvs seen)]) hf.1 hi' with h | h
      · simp [b_are_numbers_1, h, od_frzn hf.1]
      · cases hb : isT (tyD [.dct (tkvs seen)] d) "int" <;> simp [b_are_numbers_1, h, hb, od_frzn hf.1]
theorem R_are_numbers {ds : List D} {many : Int} {b : Bool} (hf : frzns ds = true) (hl : ds.length ≤ 900) : Ret F_are_numbers [.lst b ds, .int many] (.bl (numsB many [] ds)) := by
  rcases for_numbers (th := .lst b ds) (many := many) ds [] none hf (by simp; omega) with ⟨h, z, kvs, e⟩ | ⟨h, S', e⟩
  · rw [h]
    refine Ret.imm (S' := [.dct kvs]) ?_ rfl
    have e' : forRun always (turn (gmName 3) b_are_numbers_1) ds [some (.lst b ds), some (.int many), some (.obj 0), none] [.dct []] = .nx [some (.lst b ds), some (.int many), some (.obj 0), z] [.dct kvs] := e
    simp [F_are_numbers, ev_runF, m_are_numbers, e']
  · rw [h]
    refine Ret.imm (S' := S') ?_ rfl
    have e' : forRun always (turn (gmName 3) b_are_numbers_1) ds [some (.lst b ds), some (.int many), some (.obj 0), none] [.dct []] = .rt (.bl false) S' := e
    simp [F_are_numbers, ev_runF, m_are_numbers, e']
/-- what numsB says: numbers -/
theorem numsB_of {many : Int} : ∀ {l : List Nat} {seen : List Int}, l.Nodup → (∀ x ∈ l, (x : Int) < many ∧ (x : Int) ∉ seen) → numsB many seen (natD l) = true
  | [], seen, _, _ => rfl
  | x :: l, seen, nd, h => by
    obtain ⟨hx, nd⟩ := List.nodup_cons.mp nd
    obtain ⟨h1, h2⟩ := h x List.mem_cons_self
    show (decide (0 ≤ (x : Int)) && decide ((x : Int) < many) && !seen.contains (x : Int) && numsB many (seen ++ [(x : Int)]) (natD l)) = true
    have h3 : seen.contains (x : Int) = false := by simpa using h2
    have h4 := numsB_of (many := many) (l := l) (seen := seen ++ [(x : Int)]) nd (fun y hy => ⟨(h y (List.mem_cons_of_mem _ hy)).1, fun hm => by
      rcases List.mem_append.mp hm with hm | hm
      · exact (h y (List.mem_cons_of_mem _ hy)).2 hm
      · have : (y : Int) = x := by simpa using hm
        have : y = x := by omega
        subst this; exact hx hy⟩)
    simp [h1, h4]
    exact h2
theorem numsB_inv {many : Int} : ∀ {ds : List D} {seen : List Int}, numsB many seen ds = true → ∃ l : List Nat, ds = natD l ∧ l.Nodup ∧ ∀ x ∈ l, (x : Int) < many ∧ (x : Int) ∉ seen
  | [], seen, _ => ⟨[], rfl, List.nodup_nil, fun x hx => by cases hx⟩
  | d :: ds, seen, h => by
    cases d with
    | int i =>
      simp only [numsB, Bool.and_eq_true, decide_eq_true_eq, Bool.not_eq_true'] at h
      obtain ⟨⟨⟨h0, h1⟩, h2⟩, h3⟩ := h
      obtain ⟨l, rfl, nd, hl⟩ := numsB_inv h3
      obtain ⟨n, rfl⟩ := Int.eq_ofNat_of_zero_le h0
      refine ⟨n :: l, rfl, List.nodup_cons.mpr ⟨fun hm => ?_, nd⟩, fun x hx => ?_⟩
      · exact (hl n hm).2 (by simp)
      · rcases List.mem_cons.mp hx with rfl | hx
        · exact ⟨h1, by simpa using h2⟩
        · exact ⟨(hl x hx).1, fun hm => (hl x hx).2 (by simp [hm])⟩
    | _ => simp [numsB] at h
/-- what make_order takes -/
def ordB (ds : List D) : Bool := decide (1 ≤ ds.length) && decide (ds.length ≤ 60) && numsB ds.length [] ds
theorem R_make_order {ds : List D} {b : Bool} (hf : frzns ds = true) (hl : ds.length ≤ 900) : (ordB ds = true → Ret F_make_order [.lst b ds] (.tup ds)) ∧ (ordB ds = false → Exc F_make_order [.lst b ds] "NoOrder") := by
  have hr := (R_are_numbers (ds := ds) (many := ds.length) (b := false) hf hl).run (S := [])
  have hs : subs gArg (frz gArg false [] 4) ds = some ds := subs_frzn _ _ hf
  constructor
  · intro h
    simp only [ordB, Bool.and_eq_true, decide_eq_true_eq] at h
    obtain ⟨⟨h1, h2⟩, h3⟩ := h
    rw [h3] at hr
    obtain ⟨l, rfl, _, _⟩ := numsB_inv h3
    refine Ret.imm (S' := []) ?_ (by simp)
    have e1 : ¬ ((natD l).length : Int) < 1 := by omega
    have e2 : ¬ (60 : Int) < ((natD l).length : Int) := by omega
    generalize natD l = ds at *
    simp [F_make_order, ev_runF, m_make_order, e1, e2, hs, hr]
  · intro h
    unfold Exc
    by_cases h1 : (ds.length : Int) < 1
    · simp [F_make_order, ev_runF, m_make_order, h1]
    · by_cases h2 : (60 : Int) < (ds.length : Int)
      · simp [F_make_order, ev_runF, m_make_order, h1, h2]
      · have h3 : numsB ds.length [] ds = false := by
          cases hn : numsB ds.length [] ds with
          | false => rfl
          | true =>
            have : ordB ds = true := by simp only [ordB, hn, Bool.and_true, Bool.and_eq_true, decide_eq_true_eq]; omega
            rw [this] at h; cases h
        rw [h3] at hr
        simp [F_make_order, ev_runF, m_make_order, h1, h2, hs, hr]
end Ab

end
section
set_option maxRecDepth 100000
namespace Ab
theorem nodup_le : ∀ {m : Nat} {l : List Nat}, l.Nodup → (∀ x ∈ l, x < m) → l.length ≤ m
  | 0, l, _, h => by
    cases l with
    | nil => simp
    | cons x l => exact absurd (h x List.mem_cons_self) (by omega)
  | m + 1, l, nd, h => by
    by_cases hm : m ∈ l
    · have h1 := List.length_erase_of_mem hm
      have h2 := nodup_le (m := m) (nd.erase m) (fun x hx => by
        have hx2 := (nd.mem_erase_iff).mp hx
        have := h x hx2.2
        have := hx2.1
        omega)
      omega
    · have := nodup_le (m := m) nd (fun x hx => by
        have h3 := h x hx
        have : x ≠ m := fun e => hm (e ▸ hx)
        omega)
      omega
theorem nodup_sub : ∀ {l m : List Nat}, l.Nodup → (∀ x ∈ l, x ∈ m) → l.length ≤ m.length
  | [], m, _, _ => by simp
  | x :: l, m, nd, h => by
    have hx := h x List.mem_cons_self
    have nd2 := List.nodup_cons.mp nd
    have := nodup_sub (l := l) (m := m.erase x) nd2.2 (fun y hy => by
      have : y ≠ x := fun e => nd2.1 (e ▸ hy)
      exact (List.mem_erase_of_ne this).mpr (h y (List.mem_cons_of_mem _ hy)))
    have h1 := List.length_erase_of_mem hx
    have h2 := List.length_pos_of_mem hx
    simp
    omega
/-- an order -/
def isOrd (l : List Nat) : Prop := l.Nodup ∧ ∀ x ∈ l, x < l.length
theorem nodup_full {l : List Nat} (h : isOrd l) {y : Nat} (hy : y < l.length) : y ∈ l := by
  obtain ⟨nd, h⟩ := h
  refine Classical.byContradiction fun hn => ?_
  -- put the greatest in y's place
  have nd2 : (y :: l).Nodup := List.nodup_cons.mpr ⟨hn, nd⟩
  have := nodup_le (m := l.length) nd2 (fun x hx => by
    rcases List.mem_cons.mp hx with rfl | hx
    · exact hy
    · exact h x hx)
  simp at this
  omega
theorem isOrd_range (n : Nat) : isOrd (List.range n) := ⟨List.nodup_range, fun x hx => by simpa using hx⟩
theorem isOrd_perm {l m : List Nat} (h : isOrd l) (p : m.Perm l) : isOrd m := ⟨p.nodup_iff.mpr h.1, fun x hx => by rw [p.length_eq]; exact h.2 x (p.mem_iff.mp hx)⟩
theorem isOrd_reverse {l : List Nat} (h : isOrd l) : isOrd l.reverse := isOrd_perm h (List.reverse_perm l)
/-- all words ahead less, all words ahead greater -/
def kp (l : List Nat) (p : Nat) : Bool := (l.take p).all fun x => (l.drop p).all fun y => decide (x < y)
def tp (l : List Nat) (p : Nat) : Bool := (l.take p).all fun x => (l.drop p).all fun y => decide (y < x)
theorem kp_iff {l : List Nat} {p : Nat} : kp l p = true ↔ ∀ x ∈ l.take p, ∀ y ∈ l.drop p, x < y := by simp [kp, List.all_eq_true]
theorem tp_iff {l : List Nat} {p : Nat} : tp l p = true ↔ ∀ x ∈ l.take p, ∀ y ∈ l.drop p, y < x := by simp [tp, List.all_eq_true]
def gtF (a : Int) (b : Nat) : Int := if (b : Int) > a then (b : Int) else a
def ltF (a : Int) (b : Nat) : Int := if (b : Int) < a then (b : Int) else a
/-- the greatest of some, the least of some -/
def mx (l : List Nat) : Int := l.foldl gtF (-1)
def mn (n : Nat) (l : List Nat) : Int := l.foldl ltF (n : Int)
theorem mx_snoc (l : List Nat) (x : Nat) : mx (l ++ [x]) = gtF (mx l) x := by simp only [mx, List.foldl_append, List.foldl_cons, List.foldl_nil]
theorem mn_snoc (n : Nat) (l : List Nat) (x : Nat) : mn n (l ++ [x]) = ltF (mn n l) x := by simp only [mn, List.foldl_append, List.foldl_cons, List.foldl_nil]
theorem fold_mx : ∀ (l : List Nat) (a : Int), a ≤ l.foldl gtF a ∧ (∀ x ∈ l, (x : Int) ≤ l.foldl gtF a) ∧
    (l.foldl gtF a = a ∨ ∃ x ∈ l, l.foldl gtF a = (x : Int))
  | [], a => by simp
  | x :: l, a => by
    obtain ⟨h1, h2, h3⟩ := fold_mx l (gtF a x)
    simp only [List.foldl_cons]
    generalize l.foldl gtF (gtF a x) = z at h1 h2 h3
    by_cases hc : (x : Int) > a
    · simp only [gtF, if_pos hc] at h1 h3
      refine ⟨by omega, fun y hy => ?_, ?_⟩
      · rcases List.mem_cons.mp hy with rfl | hy
        · exact h1
        · exact h2 y hy
      · rcases h3 with h3 | ⟨y, hy, h3⟩
        · exact .inr ⟨x, List.mem_cons_self, h3⟩
        · exact .inr ⟨y, List.mem_cons_of_mem _ hy, h3⟩
    · simp only [gtF, if_neg hc] at h1 h3
      refine ⟨h1, fun y hy => ?_, ?_⟩
      · rcases List.mem_cons.mp hy with rfl | hy
        · omega
        · exact h2 y hy
      · rcases h3 with h3 | ⟨y, hy, h3⟩
        · exact .inl h3
        · exact .inr ⟨y, List.mem_cons_of_mem _ hy, h3⟩
theorem fold_mn : ∀ (l : List Nat) (a : Int), l.foldl ltF a ≤ a ∧ (∀ x ∈ l, l.foldl ltF a ≤ (x : Int)) ∧
    (l.foldl ltF a = a ∨ ∃ x ∈ l, l.foldl ltF a = (x : Int))
  | [], a => by simp
  | x :: l, a => by
    obtain ⟨h1, h2, h3⟩ := fold_mn l (ltF a x)
    simp only [List.foldl_cons]
    generalize l.foldl ltF (ltF a x) = z at h1 h2 h3
    by_cases hc : (x : Int) < a
    · simp only [ltF, if_pos hc] at h1 h3
      refine ⟨by omega, fun y hy => ?_, ?_⟩
      · rcases List.mem_cons.mp hy with rfl | hy
        · exact h1
        · exact h2 y hy
      · rcases h3 with h3 | ⟨y, hy, h3⟩
        · exact .inr ⟨x, List.mem_cons_self, h3⟩
        · exact .inr ⟨y, List.mem_cons_of_mem _ hy, h3⟩
    · simp only [ltF, if_neg hc] at h1 h3
      refine ⟨h1, fun y hy => ?_, ?_⟩
      · rcases List.mem_cons.mp hy with rfl | hy
        · omega
        · exact h2 y hy
      · rcases h3 with h3 | ⟨y, hy, h3⟩
        · exact .inl h3
        · exact .inr ⟨y, List.mem_cons_of_mem _ hy, h3⟩
theorem mx_le {l : List Nat} {x : Nat} (h : x ∈ l) : (x : Int) ≤ mx l := (fold_mx l (-1)).2.1 x h
theorem mx_mem {l : List Nat} (h : l ≠ []) : ∃ x ∈ l, mx l = (x : Int) := by
  rcases (fold_mx l (-1)).2.2 with e | e
  · cases l with
    | nil => exact absurd rfl h
    | cons x l =>
      have h1 := mx_le (l := x :: l) List.mem_cons_self
      have e2 : mx (x :: l) = -1 := e
      omega
  · exact e
theorem mn_le {n : Nat} {l : List Nat} {x : Nat} (h : x ∈ l) : mn n l ≤ (x : Int) := (fold_mn l n).2.1 x h
theorem mn_mem {n : Nat} {l : List Nat} (h : l ≠ []) (hn : ∀ x ∈ l, x < n) : ∃ x ∈ l, mn n l = (x : Int) := by
  rcases (fold_mn l n).2.2 with e | e
  · cases l with
    | nil => exact absurd rfl h
    | cons x l =>
      have h1 := mn_le (n := n) (l := x :: l) List.mem_cons_self
      have e2 : mn n (x :: l) = n := e
      have := hn x List.mem_cons_self
      omega
  · exact e
theorem take_drop_disj {l : List Nat} (nd : l.Nodup) {p x y : Nat} (hx : x ∈ l.take p) (hy : y ∈ l.drop p) : x ≠ y := by
  rw [← List.take_append_drop p l] at nd
  exact (List.nodup_append.mp nd).2.2 x hx y hy
theorem kp_mx {l : List Nat} (h : isOrd l) {p : Nat} (h0 : 0 < p) (h1 : p < l.length) : kp l p = decide (mx (l.take p) = (p : Int) - 1) := by
  have hne : l.take p ≠ [] := by
    intro e
    have := congrArg List.length e
    rw [List.length_take, List.length_nil] at this
    omega
  have ndt : (l.take p).Nodup := h.1.sublist (List.take_sublist p l)
  have ltk : (l.take p).length = p := by simp; omega
  obtain ⟨M, hM, eM⟩ := mx_mem hne
  have hle : ∀ x ∈ l.take p, x ≤ M := fun x hx => by have := mx_le hx; omega
  have hp1 : p ≤ M + 1 := by
    have := nodup_le (m := M + 1) ndt (fun x hx => by have := hle x hx; omega)
    omega
  rw [eM]
  by_cases hk : kp l p = true
  · rw [hk]
    rw [kp_iff] at hk
    -- all numbers to M stand ahead
    have hall : ∀ y, y ≤ M → y ∈ l.take p := fun y hy => by
      have hy2 : y ∈ l := nodup_full h (by
        have := h.2 M (List.mem_of_mem_take hM)
        omega)
      rw [← List.take_append_drop p l] at hy2
      rcases List.mem_append.mp hy2 with q | q
      · exact q
      · exact absurd (hk M hM y q) (by omega)
    have : M + 1 ≤ p := by
      have hl := nodup_le (m := M + 1) (l := List.range (M + 1)) List.nodup_range (fun x hx => by simpa using hx)
      have hsub : ∀ x ∈ List.range (M + 1), x ∈ l.take p := fun x hx => hall x (by have := List.mem_range.mp hx; omega)
      have : (List.range (M + 1)).length ≤ (l.take p).length := nodup_sub List.nodup_range hsub
      rw [List.length_range] at this
      omega
    have e : (M : Int) = (p : Int) - 1 := by omega
    simp [e]
  · have hk2 : kp l p = false := by simpa using hk
    rw [hk2]
    symm
    rw [decide_eq_false_iff_not]
    intro e
    apply hk
    rw [kp_iff]
    intro x hx y hy
    have hxM := hle x hx
    -- y is none of 0 .. p - 1
    have hfull : ∀ z, z < p → z ∈ l.take p := fun z hz => by
      have := nodup_full (l := l.take p) ⟨ndt, fun w hw => by have := hle w hw; omega⟩ (y := z) (by omega)
      exact this
    have hyp : ¬ y < p := fun hlt => take_drop_disj h.1 (hfull y hlt) hy rfl
    omega
/-- words told from the other side -/
def flip (n : Nat) (l : List Nat) : List Nat := l.map fun x => n - 1 - x
theorem isOrd_flip {l : List Nat} (h : isOrd l) : isOrd (flip l.length l) := by
  refine ⟨?_, fun x hx => ?_⟩
  · unfold flip
    rw [List.Nodup, List.pairwise_map]
    refine List.Pairwise.imp_of_mem (fun {a b} ha hb hne e => hne ?_) h.1
    have := h.2 a ha
    have := h.2 b hb
    omega
  · obtain ⟨y, hy, rfl⟩ := List.mem_map.mp hx
    have := h.2 y hy
    simp only [flip, List.length_map]
    omega
theorem tp_flip {l : List Nat} (h : isOrd l) (p : Nat) : tp l p = kp (flip l.length l) p := by
  rw [Bool.eq_iff_iff, tp_iff, kp_iff]
  unfold flip
  constructor
  · intro q x hx y hy
    rw [← List.map_take] at hx
    rw [← List.map_drop] at hy
    obtain ⟨a, ha, rfl⟩ := List.mem_map.mp hx
    obtain ⟨b, hb, rfl⟩ := List.mem_map.mp hy
    have := q a ha b hb
    have := h.2 a (List.mem_of_mem_take ha)
    omega
  · intro q x hx y hy
    have := q (l.length - 1 - x) (by rw [← List.map_take]; exact List.mem_map.mpr ⟨x, hx, rfl⟩) (l.length - 1 - y) (by rw [← List.map_drop]; exact List.mem_map.mpr ⟨y, hy, rfl⟩)
    omega
theorem mn_flip {n : Nat} : ∀ {l : List Nat}, (∀ x ∈ l, x < n) → l ≠ [] → mn n l = (n : Int) - 1 - mx (flip n l) := by
  intro l h hne
  obtain ⟨m, hm, em⟩ := mn_mem hne h
  have hne2 : flip n l ≠ [] := by unfold flip; simpa using hne
  obtain ⟨M, hM, eM⟩ := mx_mem hne2
  obtain ⟨a, ha, rfl⟩ := List.mem_map.mp hM
  have h1 := mn_le (n := n) ha
  have h2 := mx_le (l := flip n l) (x := n - 1 - m) (List.mem_map.mpr ⟨m, hm, rfl⟩)
  have := h a ha
  have := h m hm
  omega
theorem tp_mn {l : List Nat} (h : isOrd l) {p : Nat} (h0 : 0 < p) (h1 : p < l.length) : tp l p = decide (mn l.length (l.take p) = (l.length : Int) - p) := by
  have hlen : (flip l.length l).length = l.length := by simp [flip]
  rw [tp_flip h, kp_mx (isOrd_flip h) h0 (by omega)]
  have hne : l.take p ≠ [] := by
    intro e
    have := congrArg List.length e
    rw [List.length_take, List.length_nil] at this
    omega
  have e : (flip l.length l).take p = flip l.length (l.take p) := by simp [flip, List.map_take]
  rw [e, mn_flip (fun x hx => h.2 x (List.mem_of_mem_take hx)) hne]
  congr 1
  rw [eq_iff_iff]
  omega
/-- the places of the cuts -/
def keptL (l : List Nat) : List Nat := ((List.range (l.length - 1)).map (· + 1)).filter (kp l)
def turnedL (l : List Nat) : List Nat := ((List.range (l.length - 1)).map (· + 1)).filter (tp l)
theorem mem_kept {l : List Nat} {p : Nat} : p ∈ keptL l ↔ 0 < p ∧ p < l.length ∧ kp l p = true := by
  simp only [keptL, List.mem_filter, List.mem_map, List.mem_range]
  constructor
  · rintro ⟨⟨a, ha, rfl⟩, h⟩; exact ⟨by omega, by omega, h⟩
  · rintro ⟨h1, h2, h3⟩; exact ⟨⟨p - 1, by omega, by omega⟩, h3⟩
theorem mem_turned {l : List Nat} {p : Nat} : p ∈ turnedL l ↔ 0 < p ∧ p < l.length ∧ tp l p = true := by
  simp only [turnedL, List.mem_filter, List.mem_map, List.mem_range]
  constructor
  · rintro ⟨⟨a, ha, rfl⟩, h⟩; exact ⟨by omega, by omega, h⟩
  · rintro ⟨h1, h2, h3⟩; exact ⟨⟨p - 1, by omega, by omega⟩, h3⟩
end Ab

end
section
set_option maxRecDepth 100000
namespace Ab
open PySem PySem.Spec PyProof.Rows L2
@[simp] theorem natD_nil : natD [] = [] := (rfl)
@[simp] theorem natD_one {x : Nat} : natD [x] = [.int x] := (rfl)
@[simp] theorem natD_append (a b : List Nat) : natD (a ++ b) = natD a ++ natD b := by simp [natD]
theorem filter_map_snoc (c : Nat → Bool) (i : Nat) : ((List.range (i + 1)).map (· + 1)).filter c = ((List.range i).map (· + 1)).filter c ++ (if c (i + 1) then [i + 1] else []) := by
  rw [List.range_succ, List.map_append, List.filter_append]
  congr 1
  by_cases h : c (i + 1) <;> simp [h]
theorem R_kept_places {l : List Nat} (h : isOrd l) (hl : l.length ≤ 1000) : Ret F_kept_places [.tup (natD l)] (.tup (natD (keptL l))) := by
  generalize hc : (fun p : Nat => decide (mx (l.take p) = (p : Int) - 1)) = c
  have l1 := for_inv (f := turn (gmName 3) b_kept_places_1) (l := rgD 1 (l.length - 1)) (G := [some (.tup (natD l)), some (.obj 0), some (.int (-1)), none]) (S := [.lst []])
    (fun i G S => ∃ a, G = [some (.tup (natD l)), some (.obj 0), some (.int (mx (l.take i))), a] ∧ S = [.lst (natD (((List.range i).map (· + 1)).filter c))]) ⟨none, by simp [mx], rfl⟩ (fun i x G S hx hI => by
      obtain ⟨a, rfl, rfl⟩ := hI
      obtain ⟨hi, rfl⟩ := rgD_get hx
      obtain ⟨v, hv⟩ : ∃ v, l[i]? = some v := ⟨l[i], List.getElem?_eq_getElem (by omega)⟩
      have et : l.take (i + 1) = l.take i ++ [v] := by rw [List.take_add_one, hv]; rfl
      have ei : (1 : Int) + i = ((i + 1 : Nat) : Int) := by omega
      have ix := atI_natD (l := l) (i := ((i + 1 : Nat) : Int) - 1) (k := i) (by omega) hv
      have hlen : (((List.range i).map (· + 1)).filter c).length < 100000 := by
        have := List.length_filter_le c ((List.range i).map (· + 1))
        rw [List.length_map, List.length_range] at this
        omega
      have hcd : c (i + 1) = decide (mx (l.take (i + 1)) = ((i + 1 : Nat) : Int) - 1) := by rw [← hc]
      refine ⟨_, _, .inl ?_, some (.int ((i + 1 : Nat) : Int)), rfl, rfl⟩
      rw [filter_map_snoc, hcd, et, mx_snoc, gtF, ei]
      generalize ((List.range i).map (· + 1)).filter c = acc at hlen ⊢
      generalize mx (l.take i) = g
      generalize hz : (if (v : Int) > g then (v : Int) else g) = z
      simp only [gt_iff_lt] at hz
      by_cases hq : z = ((i + 1 : Nat) : Int) - 1
      · simp [-Int.natCast_add, b_kept_places_1, ix, hz, hq, hlen]
      · simp [-Int.natCast_add, b_kept_places_1, ix, hz, hq, hlen])
  obtain ⟨G', S', e, a, rfl, rfl⟩ := l1
  rw [rgD_len] at e
  have hf : ((List.range (l.length - 1)).map (· + 1)).filter c = keptL l := by
    unfold keptL
    refine List.filter_congr fun p hp => ?_
    obtain ⟨q, hq, rfl⟩ := List.mem_map.mp hp
    have := List.mem_range.mp hq
    rw [kp_mx h (by omega) (by omega), ← hc]
  rw [hf] at e
  have h1 : (l.length : Int) ≤ 1000000 := by omega
  have h2 : (-1000000 : Int) ≤ l.length := by omega
  have h3 : ((l.length : Int) - 1).toNat = l.length - 1 := by omega
  refine Ret.imm (S' := [.lst (natD (keptL l))]) ?_ (imms_natD _)
  simp [F_kept_places, ev_runF, m_kept_places, h1, h2, h3, e]
theorem R_turned_places {l : List Nat} (h : isOrd l) (hl : l.length ≤ 1000) : Ret F_turned_places [.tup (natD l)] (.tup (natD (turnedL l))) := by
  generalize hc : (fun p : Nat => decide (mn l.length (l.take p) = (l.length : Int) - p)) = c
  have l1 := for_inv (f := turn (gmName 3) b_turned_places_1) (l := rgD 1 (l.length - 1)) (G := [some (.tup (natD l)), some (.obj 0), some (.int l.length), none]) (S := [.lst []])
    (fun i G S => ∃ a, G = [some (.tup (natD l)), some (.obj 0), some (.int (mn l.length (l.take i))), a] ∧ S = [.lst (natD (((List.range i).map (· + 1)).filter c))]) ⟨none, by simp [mn], rfl⟩ (fun i x G S hx hI => by
      obtain ⟨a, rfl, rfl⟩ := hI
      obtain ⟨hi, rfl⟩ := rgD_get hx
      obtain ⟨v, hv⟩ : ∃ v, l[i]? = some v := ⟨l[i], List.getElem?_eq_getElem (by omega)⟩
      have et : l.take (i + 1) = l.take i ++ [v] := by rw [List.take_add_one, hv]; rfl
      have ei : (1 : Int) + i = ((i + 1 : Nat) : Int) := by omega
      have ix := atI_natD (l := l) (i := ((i + 1 : Nat) : Int) - 1) (k := i) (by omega) hv
      have hlen : (((List.range i).map (· + 1)).filter c).length < 100000 := by
        have := List.length_filter_le c ((List.range i).map (· + 1))
        rw [List.length_map, List.length_range] at this
        omega
      have hcd : c (i + 1) = decide (mn l.length (l.take (i + 1)) = (l.length : Int) - ((i + 1 : Nat) : Int)) := by rw [← hc]
      refine ⟨_, _, .inl ?_, some (.int ((i + 1 : Nat) : Int)), rfl, rfl⟩
      rw [filter_map_snoc, hcd, et, mn_snoc, ltF, ei]
      generalize ((List.range i).map (· + 1)).filter c = acc at hlen ⊢
      generalize mn l.length (l.take i) = g
      generalize hz : (if (v : Int) < g then (v : Int) else g) = z
      by_cases hq : z = (l.length : Int) - ((i + 1 : Nat) : Int)
      · simp [-Int.natCast_add, b_turned_places_1, ix, hz, hq, hlen]
      · simp [-Int.natCast_add, b_turned_places_1, ix, hz, hq, hlen])
  obtain ⟨G', S', e, a, rfl, rfl⟩ := l1
  rw [rgD_len] at e
  have hf : ((List.range (l.length - 1)).map (· + 1)).filter c = turnedL l := by
    unfold turnedL
    refine List.filter_congr fun p hp => ?_
    obtain ⟨q, hq, rfl⟩ := List.mem_map.mp hp
    have := List.mem_range.mp hq
    rw [tp_mn h (by omega) (by omega), ← hc]
  rw [hf] at e
  have h1 : (l.length : Int) ≤ 1000000 := by omega
  have h2 : (-1000000 : Int) ≤ l.length := by omega
  have h3 : ((l.length : Int) - 1).toNat = l.length - 1 := by omega
  refine Ret.imm (S' := [.lst (natD (turnedL l))]) ?_ (imms_natD _)
  simp [F_turned_places, ev_runF, m_turned_places, h1, h2, h3, e]
/-- the cuts: kind, places -/
def cutsL (l : List Nat) : Str × List Nat := if keptL l ≠ [] then ("+", keptL l) else if turnedL l ≠ [] then ("-", turnedL l) else ("", [])
def cutsD (c : Str × List Nat) : D := .tup [.str c.1, .tup (natD c.2)]
theorem R_cuts {l : List Nat} (h : isOrd l) (hl : l.length ≤ 1000) : Ret F_cuts [.tup (natD l)] (cutsD (cutsL l)) := by
  refine Ret.imm (S' := []) ?_ (by simp [cutsD])
  have k := (R_kept_places h hl).run (S := [])
  have t := (R_turned_places h hl).run (S := [])
  unfold cutsL cutsD
  generalize keptL l = K at *
  generalize turnedL l = T at *
  by_cases hK : K = []
  · subst hK
    by_cases hT : T = []
    · subst hT
      have e0 : natD [] = [] := rfl
      simp [F_cuts, ev_runF, m_cuts, k, t, e0]
    · have h2 : 0 < T.length := List.length_pos_iff.mpr hT
      have e0 : natD [] = [] := rfl
      simp [F_cuts, ev_runF, m_cuts, k, t, hT, h2, e0]
  · have h1 : 0 < K.length := List.length_pos_iff.mpr hK
    simp [F_cuts, ev_runF, m_cuts, k, hK, h1]
end Ab

end
section
set_option maxRecDepth 100000
namespace Ab
open PySem PySem.Spec PyProof.Rows L2
def tupD (s : List Nat) : D := .tup (natD s)
@[simp] theorem sub_tupD {g : Bool → Option Bool} {f : Nat → Option D} (s : List Nat) : sub g f (tupD s) = some (tupD s) := by simp [tupD]
@[simp] theorem imm_tupD (s : List Nat) : imm (tupD s) = true := by simp [tupD]
theorem imms_map {α : Type} {h : α → D} (H : ∀ x, imm (h x) = true) : ∀ l : List α, imms (l.map h) = true
  | [] => rfl
  | x :: l => by simp [H x, imms_map H l]
@[simp] theorem imms_tupD (s : List (List Nat)) : imms (s.map tupD) = true := imms_map imm_tupD s
@[simp] theorem subs_tupD (g : Bool → Option Bool) (f : Nat → Option D) (s : List (List Nat)) : subs g f (s.map tupD) = some (s.map tupD) := subs_imm g f _ (imms_tupD s)
@[simp] theorem allTs_tupD (s : List (List Nat)) : allTs (s.map tupD) = true := allTs_imms _ (imms_tupD s)
/-- the least of some words -/
def lo (s : List Nat) : Nat := (minI (s.map fun n : Nat => (n : Int))).toNat
theorem lo_mem {s : List Nat} (h : s ≠ []) : lo s ∈ s ∧ minI (s.map fun n : Nat => (n : Int)) = (lo s : Int) ∧ ∀ x ∈ s, lo s ≤ x := by
  have h1 := minI_mem (ns := s.map fun n : Nat => (n : Int)) (by simpa using h)
  obtain ⟨m, hm, e⟩ := List.mem_map.mp h1
  have e2 : minI (s.map fun n : Nat => (n : Int)) = (lo s : Int) := by unfold lo; omega
  refine ⟨?_, e2, fun x hx => ?_⟩
  · have : m = lo s := by omega
    rw [← this]; exact hm
  · have := minI_le (ns := s.map fun n : Nat => (n : Int)) (y := (x : Int)) (List.mem_map.mpr ⟨x, hx, rfl⟩)
    omega
/-- numbered from 0 -/
def nrm (s : List Nat) : List Nat := s.map fun x => x - lo s
@[simp] theorem nrm_len (s : List Nat) : (nrm s).length = s.length := by simp [nrm]
/-- the stretches to some places, from one on -/
def segs (l : List Nat) : Nat → List Nat → List (List Nat)
  | _, [] => []
  | f, b :: bs => (l.take b).drop f :: segs l b bs
/-- rising places from one on, to the end -/
def rises (n : Nat) : Nat → List Nat → Prop
  | _, [] => True
  | f, b :: bs => f < b ∧ b ≤ n ∧ rises n b bs
theorem S_c_cut_at_1 {s : List Nat} {w0 w1 w3 w4 w7 : Option D} {acc : List D} (hne : s ≠ []) (hl : s.length ≤ 1000) (ho : objLts 1 acc = true) :
    c_cut_at_1 [w0, w1, some (.obj 0), w3, w4, some (tupD s), some (.int (lo s)), w7] [.lst acc] = .ok (.lst true (natD (nrm s))) [.lst acc] := by
  have e : natD (nrm s) = s.map fun x : Nat => .int ((x : Int) - (lo s : Int)) := by
    simp only [natD, nrm, List.map_map]
    refine List.map_congr_left fun x hx => ?_
    have := (lo_mem hne).2.2 x hx
    simp only [Function.comp]
    congr 1
    omega
  rw [e]
  unfold c_cut_at_1
  refine comp_f0 (ck := always) (fun j : Nat => .int (j : Int)) s _ (fun j => [w0, w1, some (.obj 0), w3, w4, some (tupD s), some (.int (lo s)), some (.int (j : Int))]) ?_ (fun _ => rfl) (by omega) (by simp [oLt, ho]) ?_ ?_ ?_
  · simp [tupD, natD]
  · rw [← e]; exact objLts_natD _
  · intro j _; simp
  · intro j _ acc2; simp
theorem S_cut_at {l : List Nat} {w1 : Option D} (hl : l.length ≤ 1000) : ∀ (bs : List Nat) (f : Nat) (acc : List (List Nat)) (a b c d : Option D), rises l.length f bs → acc.length + bs.length ≤ 2000 →
    ∃ f' a' b' c' d', forRun always (turn (gmName 4) b_cut_at_1) (natD bs) [some (tupD l), w1, some (.obj 0), some (.int (f : Nat)), a, b, c, d] [.lst (acc.map tupD)] =
      .nx [some (tupD l), w1, some (.obj 0), some (.int (f' : Nat)), a', b', c', d'] [.lst ((acc ++ (segs l f bs).map nrm).map tupD)]
  | [], f, acc, a, b, c, d, _, _ => ⟨f, a, b, c, d, by simp [segs]⟩
  | x :: bs, f, acc, a, b, c, d, hr, hz => by
    obtain ⟨h1, h2, h3⟩ := hr
    have hne : (l.take x).drop f ≠ [] := by
      intro e
      have := congrArg List.length e
      rw [List.length_drop, List.length_take, List.length_nil] at this
      omega
    simp only [List.length_cons] at hz
    obtain ⟨f', a', b', c', d', e⟩ := S_cut_at (w1 := w1) hl bs x (acc ++ [nrm ((l.take x).drop f)]) (some (.int (x : Nat))) (some (tupD ((l.take x).drop f))) (some (.int (lo ((l.take x).drop f)))) d h3 (by simp; omega)
    refine ⟨f', a', b', c', d', ?_⟩
    have hnat : natD (x :: bs) = .int (x : Nat) :: natD bs := rfl
    rw [hnat, ev_forCons]
    have hcut : cutD (natD l) (some (f : Int)) (some (x : Int)) = natD ((l.take x).drop f) := by
      rw [cutD_mid (by omega) (by omega)]
      simp [natD, List.map_drop, List.map_take]
    have hlen : ((l.take x).drop f).length ≤ 1000 := by rw [List.length_drop, List.length_take]; omega
    have hseg : segs l f (x :: bs) = (l.take x).drop f :: segs l x bs := rfl
    rw [hseg]
    generalize (l.take x).drop f = s at hne hcut hlen e ⊢
    have hlo := lo_mem hne
    have hc := S_c_cut_at_1 (w0 := some (tupD l)) (w1 := w1) (w3 := some (.int (f : Nat))) (w4 := some (.int (x : Nat))) (w7 := d) (acc := acc.map tupD) hne hlen (objLts_imms _ _ (imms_tupD _))
    have hmin : fMinT [.tup (natD s)] [.lst (acc.map tupD)] = .ok (.int (lo s : Int)) [.lst (acc.map tupD)] := by
      have hie : (s.map fun n : Nat => (n : Int)).isEmpty = false := by
        cases s with
        | nil => exact absurd rfl hne
        | cons y s => rfl
      simp only [fMinT, intsD_natD, hie, Bool.false_eq_true, if_false, hlo.2.1]
    have ha : acc.length < 100000 := by omega
    have hb : turn (gmName 4) b_cut_at_1 (.int (x : Nat)) [some (tupD l), w1, some (.obj 0), some (.int (f : Nat)), a, b, c, d] [.lst (acc.map tupD)] =
        .nx [some (tupD l), w1, some (.obj 0), some (.int (x : Nat)), some (.int (x : Nat)), some (tupD s), some (.int (lo s : Nat)), d] [.lst ((acc ++ [nrm s]).map tupD)] := by
      simp only [tupD] at hc
      simp [b_cut_at_1, tupD, hcut, hmin, hc, ha]
    rw [hb]
    simp only [ev_always, if_true]
    rw [e]
    simp
def partsL (l ps : List Nat) : List (List Nat) := (segs l 0 (ps ++ [l.length])).map nrm
theorem segs_len (l : List Nat) : ∀ (f : Nat) (bs : List Nat), (segs l f bs).length = bs.length
  | _, [] => rfl
  | f, b :: bs => by simp [segs, segs_len l b bs]
theorem R_cut_at {l ps : List Nat} (hl : l.length ≤ 1000) (hr : rises l.length 0 (ps ++ [l.length])) (hp : ps.length ≤ 1000) : Ret F_cut_at [tupD l, tupD ps] (.lst true ((partsL l ps).map tupD)) := by
  obtain ⟨f', a', b', c', d', e⟩ := S_cut_at (w1 := some (tupD ps)) hl (ps ++ [l.length]) 0 [] none none none none hr (by simp; omega)
  have h2 : ps.length + 1 ≤ 100000 := by omega
  have e2 : natD (ps ++ [l.length]) = natD ps ++ [.int (l.length : Int)] := by simp
  rw [e2] at e
  refine Ret.of (e := .obj 0) (S' := [.lst ((partsL l ps).map tupD)]) ?_ (by simp) (by simp)
  simp only [List.map_nil, List.nil_append] at e
  simp only [tupD] at e ⊢
  simp [F_cut_at, ev_runF, m_cut_at, h2]
  rw [show (0 : Int) = ((0 : Nat) : Int) from rfl, e]
  simp [partsL, tupD]
end Ab

end
section
set_option maxRecDepth 100000
namespace Ab
theorem lo_le {s : List Nat} {x : Nat} (h : x ∈ s) : lo s ≤ x := (lo_mem (fun e => by rw [e] at h; cases h)).2.2 x h
theorem isOrd_nrm {s : List Nat} (nd : s.Nodup) (h : ∀ x ∈ s, x < lo s + s.length) : isOrd (nrm s) := by
  refine ⟨?_, fun x hx => ?_⟩
  · unfold nrm
    rw [List.Nodup, List.pairwise_map]
    refine List.Pairwise.imp_of_mem (fun {a b} ha hb hne e => hne ?_) nd
    have := lo_le ha
    have := lo_le hb
    omega
  · obtain ⟨y, hy, rfl⟩ := List.mem_map.mp hx
    have := h y hy
    have := lo_le hy
    rw [nrm_len]
    omega
theorem take_le_full {l : List Nat} (h : isOrd l) {p : Nat} (hp : p ≤ l.length) (hx : ∀ x ∈ l.take p, x < p) : ∀ y ∈ l.drop p, p ≤ y := by
  intro y hy
  have ndt : (l.take p).Nodup := h.1.sublist (List.take_sublist p l)
  have ltk : (l.take p).length = p := by rw [List.length_take]; omega
  refine Nat.le_of_not_lt fun hlt => ?_
  exact take_drop_disj h.1 (nodup_full (l := l.take p) ⟨ndt, fun w hw => by rw [ltk]; exact hx w hw⟩ (y := y) (by omega)) hy rfl
theorem kept_split {l : List Nat} (h : isOrd l) {p : Nat} (hp : p = 0 ∨ p = l.length ∨ p ∈ keptL l) : (∀ x ∈ l.take p, x < p) ∧ ∀ x ∈ l.drop p, p ≤ x := by
  rcases hp with rfl | rfl | hp
  · exact ⟨by simp, by simp⟩
  · exact ⟨fun x hx => h.2 x (List.mem_of_mem_take hx), by simp⟩
  · obtain ⟨h0, h1, h2⟩ := mem_kept.mp hp
    rw [kp_mx h h0 h1, decide_eq_true_eq] at h2
    have a : ∀ x ∈ l.take p, x < p := fun x hx => by have := mx_le hx; omega
    exact ⟨a, take_le_full h (by omega) a⟩
theorem turned_split {l : List Nat} (h : isOrd l) {p : Nat} (hp : p = 0 ∨ p = l.length ∨ p ∈ turnedL l) : (∀ x ∈ l.take p, l.length - p ≤ x) ∧ ∀ x ∈ l.drop p, x < l.length - p := by
  have hlen : (flip l.length l).length = l.length := by simp [flip]
  have hp2 : p = 0 ∨ p = (flip l.length l).length ∨ p ∈ keptL (flip l.length l) := by
    rcases hp with hp | hp | hp
    · exact .inl hp
    · exact .inr (.inl (by rw [hlen]; exact hp))
    · refine .inr (.inr ?_)
      obtain ⟨h0, h1, h2⟩ := mem_turned.mp hp
      exact mem_kept.mpr ⟨h0, by rw [hlen]; exact h1, by rw [← tp_flip h]; exact h2⟩
  obtain ⟨a, b⟩ := kept_split (isOrd_flip h) hp2
  refine ⟨fun x hx => ?_, fun x hx => ?_⟩
  · have := a (l.length - 1 - x) (by unfold flip; rw [← List.map_take]; exact List.mem_map.mpr ⟨x, hx, rfl⟩)
    omega
  · have := b (l.length - 1 - x) (by unfold flip; rw [← List.map_drop]; exact List.mem_map.mpr ⟨x, hx, rfl⟩)
    have := h.2 x (List.mem_of_mem_drop hx)
    omega
theorem rises_of {n : Nat} : ∀ {bs : List Nat} {f : Nat}, f < n → (∀ b ∈ bs, f < b ∧ b < n) → bs.Pairwise (· < ·) → rises n f (bs ++ [n])
  | [], f, h, _, _ => ⟨h, Nat.le_refl _, trivial⟩
  | b :: bs, f, h, hb, hp => by
    obtain ⟨h1, h2⟩ := hb b List.mem_cons_self
    have hp2 := List.pairwise_cons.mp hp
    exact ⟨h1, by omega, rises_of (f := b) h2 (fun c hc => ⟨hp2.1 c hc, (hb c (List.mem_cons_of_mem _ hc)).2⟩) hp2.2⟩
theorem places_pw (c : Nat → Bool) (n : Nat) : (((List.range n).map (· + 1)).filter c).Pairwise (· < ·) := by
  refine List.Pairwise.filter _ ?_
  rw [List.pairwise_map]
  exact (List.pairwise_lt_range (n := n)).imp fun h => by omega
theorem rises_kept {l : List Nat} (hl : 0 < l.length) : rises l.length 0 (keptL l ++ [l.length]) :=
  rises_of hl (fun b hb => by obtain ⟨h0, h1, _⟩ := mem_kept.mp hb; exact ⟨h0, h1⟩) (places_pw _ _)
theorem rises_turned {l : List Nat} (hl : 0 < l.length) : rises l.length 0 (turnedL l ++ [l.length]) :=
  rises_of hl (fun b hb => by obtain ⟨h0, h1, _⟩ := mem_turned.mp hb; exact ⟨h0, h1⟩) (places_pw _ _)
/-- a stretch and its ends -/
theorem mem_segs {l : List Nat} : ∀ {bs : List Nat} {f : Nat} {s : List Nat}, rises l.length f bs → s ∈ segs l f bs → ∃ a b, (a = f ∨ a ∈ bs) ∧ b ∈ bs ∧ a < b ∧ b ≤ l.length ∧ s = (l.take b).drop a
  | [], f, s, _, h => by cases h
  | b :: bs, f, s, hr, h => by
    obtain ⟨h1, h2, h3⟩ := hr
    rcases List.mem_cons.mp h with rfl | h
    · exact ⟨f, b, .inl rfl, List.mem_cons_self, h1, h2, rfl⟩
    · obtain ⟨a, c, ha, hc, h4, h5, e⟩ := mem_segs h3 h
      refine ⟨a, c, .inr ?_, List.mem_cons_of_mem _ hc, h4, h5, e⟩
      rcases ha with rfl | ha
      · exact List.mem_cons_self
      · exact List.mem_cons_of_mem _ ha
theorem seg_kept {l : List Nat} (h : isOrd l) {a b : Nat} (ha : a = 0 ∨ a = l.length ∨ a ∈ keptL l) (hb : b = 0 ∨ b = l.length ∨ b ∈ keptL l) (hab : a < b) (hbl : b ≤ l.length) :
    (l.take b).drop a ≠ [] ∧ ((l.take b).drop a).length = b - a ∧ isOrd (nrm ((l.take b).drop a)) ∧ lo ((l.take b).drop a) = a := by
  have hlen : ((l.take b).drop a).length = b - a := by rw [List.length_drop, List.length_take]; omega
  have hne : (l.take b).drop a ≠ [] := by
    intro e
    rw [e, List.length_nil] at hlen
    omega
  have nd : ((l.take b).drop a).Nodup := h.1.sublist ((List.drop_sublist _ _).trans (List.take_sublist _ _))
  have h1 : ∀ x ∈ (l.take b).drop a, x < b := fun x hx => (kept_split h hb).1 x (List.mem_of_mem_drop hx)
  have h2 : ∀ x ∈ (l.take b).drop a, a ≤ x := fun x hx => (kept_split h ha).2 x (by
    rw [← List.take_append_drop b l, List.drop_append]
    exact List.mem_append_left _ hx)
  have h3 := h2 _ (lo_mem hne).1
  refine ⟨hne, hlen, isOrd_nrm nd (fun x hx => by have := h1 x hx; omega), ?_⟩
  -- b - a of them, none less than lo
  have : ((l.take b).drop a).length ≤ b - lo ((l.take b).drop a) := by
    have := nodup_le (m := b - lo ((l.take b).drop a)) (l := nrm ((l.take b).drop a)) (isOrd_nrm nd (fun x hx => by have := h1 x hx; omega)).1 (fun x hx => by
      obtain ⟨y, hy, rfl⟩ := List.mem_map.mp hx
      have := h1 y hy
      have := lo_le hy
      omega)
    rw [nrm_len] at this
    exact this
  omega
theorem seg_turned {l : List Nat} (h : isOrd l) {a b : Nat} (ha : a = 0 ∨ a = l.length ∨ a ∈ turnedL l) (hb : b = 0 ∨ b = l.length ∨ b ∈ turnedL l) (hab : a < b) (hbl : b ≤ l.length) :
    (l.take b).drop a ≠ [] ∧ ((l.take b).drop a).length = b - a ∧ isOrd (nrm ((l.take b).drop a)) ∧ lo ((l.take b).drop a) = l.length - b := by
  have hlen : ((l.take b).drop a).length = b - a := by rw [List.length_drop, List.length_take]; omega
  have hne : (l.take b).drop a ≠ [] := by
    intro e
    rw [e, List.length_nil] at hlen
    omega
  have nd : ((l.take b).drop a).Nodup := h.1.sublist ((List.drop_sublist _ _).trans (List.take_sublist _ _))
  have h1 : ∀ x ∈ (l.take b).drop a, l.length - b ≤ x := fun x hx => (turned_split h hb).1 x (List.mem_of_mem_drop hx)
  have h2 : ∀ x ∈ (l.take b).drop a, x < l.length - a := fun x hx => (turned_split h ha).2 x (by
    rw [← List.take_append_drop b l, List.drop_append]
    exact List.mem_append_left _ hx)
  have h3 := h1 _ (lo_mem hne).1
  refine ⟨hne, hlen, isOrd_nrm nd (fun x hx => by have := h2 x hx; omega), ?_⟩
  have : ((l.take b).drop a).length ≤ l.length - a - lo ((l.take b).drop a) := by
    have := nodup_le (m := l.length - a - lo ((l.take b).drop a)) (l := nrm ((l.take b).drop a)) (isOrd_nrm nd (fun x hx => by have := h2 x hx; omega)).1 (fun x hx => by
      obtain ⟨y, hy, rfl⟩ := List.mem_map.mp hx
      have := h2 y hy
      have := lo_le hy
      omega)
    rw [nrm_len] at this
    exact this
  omega
theorem segs_sum {l : List Nat} : ∀ {bs : List Nat} {f : Nat}, rises l.length f bs → ((segs l f bs).map List.length).sum = bs.getLastD f - f ∧ f ≤ bs.getLastD f ∧ ∀ s ∈ segs l f bs, 0 < s.length
  | [], f, _ => by simp [segs]
  | b :: bs, f, hr => by
    obtain ⟨h1, h2, h3⟩ := hr
    obtain ⟨i1, i2, i3⟩ := segs_sum h3
    have e : (b :: bs).getLastD f = bs.getLastD b := by cases bs <;> rfl
    have hl : ((l.take b).drop f).length = b - f := by rw [List.length_drop, List.length_take]; omega
    refine ⟨?_, by omega, fun s hs => ?_⟩
    · rw [e]
      simp only [segs, List.map_cons, List.sum_cons, i1, hl]
      omega
    · rcases List.mem_cons.mp hs with rfl | hs
      · omega
      · exact i3 s hs
theorem mem_sum_le : ∀ {ss : List (List Nat)} {s : List Nat}, s ∈ ss → s.length ≤ (ss.map List.length).sum
  | [], s, h => by cases h
  | u :: us, s, h => by
    simp only [List.map_cons, List.sum_cons]
    rcases List.mem_cons.mp h with rfl | h
    · omega
    · have := mem_sum_le h; omega
theorem sum_mem_lt : ∀ {ss : List (List Nat)} {s : List Nat}, s ∈ ss → (∀ t ∈ ss, 0 < t.length) → 2 ≤ ss.length → s.length < (ss.map List.length).sum
  | [], s, h, _, _ => by cases h
  | t :: ss, s, h, hp, hl => by
    simp only [List.map_cons, List.sum_cons]
    rcases List.mem_cons.mp h with rfl | h
    · cases ss with
      | nil => simp at hl
      | cons u us =>
        have := hp u (by simp)
        simp only [List.map_cons, List.sum_cons]
        omega
    · have h1 := hp t List.mem_cons_self
      have := mem_sum_le h
      omega
/-- the places of an order's cuts, and what they are -/
theorem parts_ok {l ps : List Nat} (h : isOrd l) (hne : ps ≠ []) (hps : ps = keptL l ∨ ps = turnedL l) : rises l.length 0 (ps ++ [l.length]) ∧ ∀ s ∈ partsL l ps, isOrd s ∧ 0 < s.length ∧ s.length < l.length := by
  have hl : 0 < l.length := by
    obtain ⟨p, hp⟩ := List.exists_mem_of_ne_nil ps hne
    rcases hps with e | e <;> subst e
    · have := (mem_kept.mp hp).2.1; omega
    · have := (mem_turned.mp hp).2.1; omega
  have hr : rises l.length 0 (ps ++ [l.length]) := by
    rcases hps with e | e <;> subst e
    · exact rises_kept hl
    · exact rises_turned hl
  refine ⟨hr, fun s hs => ?_⟩
  obtain ⟨t, ht, rfl⟩ := List.mem_map.mp hs
  obtain ⟨i1, _, i3⟩ := segs_sum hr
  have hsum : ((segs l 0 (ps ++ [l.length])).map List.length).sum = l.length := by rw [i1]; simp
  have hcnt : 2 ≤ (segs l 0 (ps ++ [l.length])).length := by
    rw [segs_len]
    have := List.length_pos_iff.mpr hne
    simp; omega
  have hlt := sum_mem_lt ht i3 hcnt
  rw [hsum] at hlt
  rw [nrm_len]
  refine ⟨?_, i3 t ht, hlt⟩
  obtain ⟨a, b, ha, hb, hab, hbl, rfl⟩ := mem_segs hr ht
  rcases hps with e | e <;> subst e
  · refine (seg_kept h ?_ ?_ hab hbl).2.2.1
    · rcases ha with rfl | ha
      · exact .inl rfl
      · rcases List.mem_append.mp ha with q | q
        · exact .inr (.inr q)
        · exact .inr (.inl (List.mem_singleton.mp q))
    · rcases List.mem_append.mp hb with q | q
      · exact .inr (.inr q)
      · exact .inr (.inl (List.mem_singleton.mp q))
  · refine (seg_turned h ?_ ?_ hab hbl).2.2.1
    · rcases ha with rfl | ha
      · exact .inl rfl
      · rcases List.mem_append.mp ha with q | q
        · exact .inr (.inr q)
        · exact .inr (.inl (List.mem_singleton.mp q))
    · rcases List.mem_append.mp hb with q | q
      · exact .inr (.inr q)
      · exact .inr (.inl (List.mem_singleton.mp q))
end Ab

end
section
set_option maxRecDepth 100000
namespace Ab
open PySem PySem.Spec PyProof.Rows L2
/-- all of them, or none -/
def allSome {α β : Type} (f : α → Option β) : List α → Option (List β)
  | [] => some []
  | x :: xs => (f x).bind fun y => (allSome f xs).map (y :: ·)
/-- the nest of an order; none: barred -/
def nestF : Nat → List Nat → Option Ne
  | 0, _ => none
  | n + 1, l => if l.length = 1 then some .w else
    if keptL l ≠ [] then (allSome (nestF n) (partsL l (keptL l))).map (Ne.k true)
    else if turnedL l ≠ [] then (allSome (nestF n) (partsL l (turnedL l))).map fun ts => Ne.k false ts.reverse
    else none
def nestR : Option Ne → D
  | some t => neD t
  | none => .str "barred"
theorem allSome_eq {α β : Type} {f : α → Option β} : ∀ {xs : List α} {ys : List β}, allSome f xs = some ys → xs.map f = ys.map some
  | [], ys, h => by
    simp only [allSome, Option.some.injEq] at h
    subst h; rfl
  | x :: xs, ys, h => by
    simp only [allSome] at h
    cases hx : f x with
    | none => rw [hx] at h; cases h
    | some y =>
      rw [hx] at h
      cases hy : allSome f xs with
      | none => rw [hy] at h; cases h
      | some zs =>
        rw [hy] at h
        simp only [Option.bind_some, Option.map_some, Option.some.injEq] at h
        subst h
        simp [hx, allSome_eq hy]
theorem allSome_none {α β : Type} {f : α → Option β} : ∀ {xs : List α}, allSome f xs = none → ∃ x ∈ xs, f x = none
  | [], h => by simp [allSome] at h
  | x :: xs, h => by
    simp only [allSome] at h
    cases hx : f x with
    | none => exact ⟨x, List.mem_cons_self, hx⟩
    | some y =>
      rw [hx] at h
      cases hy : allSome f xs with
      | none =>
        obtain ⟨z, hz, e⟩ := allSome_none hy
        exact ⟨z, List.mem_cons_of_mem _ hz, e⟩
      | some zs => rw [hy] at h; cases h
theorem strOk_barred : PyData.strOk "barred" = true := by decide +kernel
/-- a part has a nest -/
theorem S_nest_of_some {self : Fn} {o k p : Option D} {x y : Option D} {s : List Nat} {t : Ne} {acc : List Ne} (hs : Ret self [tupD s] (neD t)) (hl : acc.length < 1000) :
    turn (gmName 4) (b_nest_of_1 self) (tupD s) [o, k, p, some (.obj 0), x, y] [.lst (acc.map neD)] = .nx [o, k, p, some (.obj 0), some (tupD s), some (neD t)] [.lst ((acc ++ [t]).map neD)] := by
  have h1 : acc.length < 100000 := by omega
  have he : fEq false (neD t) (.str "barred") [.lst (acc.map neD)] = .ok (.bl false) [.lst (acc.map neD)] := by
    cases t with
    | w =>
      rw [neD_w, ev_eqN1]
      simp [strOk_barred]
    | k q ps =>
      rw [neD_k, ev_eqT1]
      simp [sg_ok, strOk_barred]
  simp [b_nest_of_1, hs.run, he, h1]
theorem S_nest_of_none {self : Fn} {o k p : Option D} {x y : Option D} {s : List Nat} {acc : List Ne} (hs : Ret self [tupD s] (.str "barred")) :
    turn (gmName 4) (b_nest_of_1 self) (tupD s) [o, k, p, some (.obj 0), x, y] [.lst (acc.map neD)] = .rt (.str "barred") [.lst (acc.map neD)] := by
  simp [b_nest_of_1, hs.run]
theorem S_nest_of {self : Fn} {o k p : Option D} {f : List Nat → Option Ne} : ∀ (ss : List (List Nat)) (acc : List Ne) (x y : Option D), (∀ s ∈ ss, Ret self [tupD s] (nestR (f s))) → acc.length + ss.length < 1000 →
    match allSome f ss with
    | some ts => ∃ x' y', forRun always (turn (gmName 4) (b_nest_of_1 self)) (ss.map tupD) [o, k, p, some (.obj 0), x, y] [.lst (acc.map neD)] = .nx [o, k, p, some (.obj 0), x', y'] [.lst ((acc ++ ts).map neD)]
    | none => ∃ S', forRun always (turn (gmName 4) (b_nest_of_1 self)) (ss.map tupD) [o, k, p, some (.obj 0), x, y] [.lst (acc.map neD)] = .rt (.str "barred") S'
  | [], acc, x, y, _, _ => ⟨x, y, by simp⟩
  | s :: ss, acc, x, y, h, hl => by
    have hs := h s List.mem_cons_self
    simp only [List.length_cons] at hl
    rw [List.map_cons, ev_forCons]
    simp only [ev_always, if_true, allSome]
    cases hf : f s with
    | none =>
      rw [hf] at hs
      rw [S_nest_of_none hs]
      exact ⟨_, rfl⟩
    | some t =>
      rw [hf] at hs
      rw [S_nest_of_some hs (by omega)]
      have ih := S_nest_of (o := o) (k := k) (p := p) ss (acc ++ [t]) (some (tupD s)) (some (neD t)) (fun u hu => h u (List.mem_cons_of_mem _ hu)) (by simp; omega)
      simp only [Option.bind_some]
      cases ha : allSome f ss with
      | none => rw [ha] at ih; exact ih
      | some ts =>
        rw [ha] at ih
        obtain ⟨x', y', e⟩ := ih
        refine ⟨x', y', ?_⟩
        simp only [e, List.append_assoc, List.singleton_append]
theorem allSome_len {α β : Type} {f : α → Option β} {xs : List α} {ys : List β} (h : allSome f xs = some ys) : ys.length = xs.length := by
  have := congrArg List.length (allSome_eq h)
  simpa using this.symm
theorem R_nest_of : ∀ (n : Nat) (l : List Nat), isOrd l → 0 < l.length → l.length < n → l.length ≤ 500 → Ret (F_nest_of n) [tupD l] (nestR (nestF n l))
  | 0, l, _, _, h, _ => by omega
  | n + 1, l, h, h0, hn, h9 => by
    by_cases h1 : l.length = 1
    · have e : nestF (n + 1) l = some .w := by simp [nestF, h1]
      rw [e]
      refine Ret.imm (S' := []) ?_ rfl
      simp [F_nest_of, ev_runF, m_nest_of, tupD, h1, nestR]
    · have h1' : ¬ ((l.length : Int) = 1) := by omega
      have hc := (R_cuts h (by omega)).run (S := [])
      have key : ∀ (k : Str) (ps : List Nat), cutsL l = (k, ps) → ps ≠ [] → (ps = keptL l ∨ ps = turnedL l) → (k = "+" ∨ k = "-") →
          Ret (F_nest_of (n + 1)) [tupD l] (match allSome (nestF n) (partsL l ps) with
            | some ts => .tup [.str k, .tup ((if k = "-" then ts.reverse else ts).map neD)]
            | none => .str "barred") := by
        intro k ps ec hne hps hk
        obtain ⟨hr, hp⟩ := parts_ok h hne hps
        rw [ec] at hc
        have hpl : ps.length ≤ 500 := by
          have h1 : (keptL l).length ≤ 500 := by
            unfold keptL
            refine Nat.le_trans (List.length_filter_le _ _) ?_
            simp; omega
          have h2 : (turnedL l).length ≤ 500 := by
            unfold turnedL
            refine Nat.le_trans (List.length_filter_le _ _) ?_
            simp; omega
          rcases hps with e | e <;> rw [e] <;> assumption
        have hcut := fun S => (R_cut_at (by omega) hr (by omega)).run (S := S)
        have hplen : (partsL l ps).length = ps.length + 1 := by simp [partsL, segs_len]
        have hloop := S_nest_of (self := F_nest_of n) (o := some (tupD l)) (k := some (.str k)) (p := some (tupD ps)) (f := nestF n) (partsL l ps) [] none none (fun s hs => by
          obtain ⟨q1, q2, q3⟩ := hp s hs
          exact R_nest_of n s q1 q2 (by omega) (by omega)) (by simp; omega)
        have hk0 : ¬ k = "" := by rcases hk with rfl | rfl <;> decide +kernel
        simp only [List.map_nil, List.nil_append] at hloop
        cases ha : allSome (nestF n) (partsL l ps) with
        | none =>
          rw [ha] at hloop
          obtain ⟨S', e⟩ := hloop
          refine Ret.imm (S' := S') ?_ rfl
          simp only [tupD] at *
          simp [F_nest_of, ev_runF, m_nest_of, h1', hc, cutsD, hk0, hcut, e]
        | some ts =>
          rw [ha] at hloop
          obtain ⟨x', y', e⟩ := hloop
          have hlt : ts.length ≤ 100000 := by rw [allSome_len ha, hplen]; omega
          by_cases hk2 : k = "-"
          · refine Ret.imm (S' := [.lst (ts.reverse.map neD)]) ?_ (by simp [hk2, imms_map (fun t => imm_ne t), -List.map_reverse])
            simp only [tupD] at *
            have er : (ts.map neD).reverse = ts.reverse.map neD := by simp
            subst hk2
            simp [-List.map_reverse, F_nest_of, ev_runF, m_nest_of, h1', hc, cutsD, hk0, hcut, e, er]
          · refine Ret.imm (S' := [.lst (ts.map neD)]) ?_ (by simp [hk2])
            simp only [tupD] at *
            simp [F_nest_of, ev_runF, m_nest_of, h1', hc, cutsD, hk0, hcut, e, hk2]
      by_cases hK : keptL l ≠ []
      · have ec : cutsL l = (("+" : Str), keptL l) := by simp [cutsL, hK]
        have := key _ _ ec hK (.inl rfl) (.inl rfl)
        have e : nestF (n + 1) l = (allSome (nestF n) (partsL l (keptL l))).map (Ne.k true) := by simp [nestF, h1, hK]
        rw [e]
        cases ha : allSome (nestF n) (partsL l (keptL l)) with
        | none => rw [ha] at this; exact this
        | some ts =>
          rw [ha] at this
          have hne : ¬ (("+" : Str) = "-") := by decide +kernel
          simp only [hne, if_false] at this
          simpa [nestR, sg] using this
      · by_cases hT : turnedL l ≠ []
        · have ec : cutsL l = (("-" : Str), turnedL l) := by simp [cutsL, hK, hT]
          have := key _ _ ec hT (.inr rfl) (.inr rfl)
          have e : nestF (n + 1) l = (allSome (nestF n) (partsL l (turnedL l))).map fun ts => Ne.k false ts.reverse := by simp [nestF, h1, hK, hT]
          rw [e]
          cases ha : allSome (nestF n) (partsL l (turnedL l)) with
          | none => rw [ha] at this; exact this
          | some ts =>
            rw [ha] at this
            simpa [nestR, sg] using this
        · have ec : cutsL l = (("" : Str), []) := by simp [cutsL, hK, hT]
          have e : nestF (n + 1) l = none := by simp [nestF, h1, hK, hT]
          rw [e]
          rw [ec] at hc
          refine Ret.imm (S' := []) ?_ rfl
          simp only [tupD] at *
          simp [F_nest_of, ev_runF, m_nest_of, h1', hc, cutsD, nestR]
end Ab

end
section
set_option maxRecDepth 100000
namespace Ab
def cutp (r : Nat → Nat → Prop) (l : List Nat) (p : Nat) : Prop := ∀ x ∈ l.take p, ∀ y ∈ l.drop p, r x y
theorem kp_cutp {l : List Nat} {p : Nat} : kp l p = true ↔ cutp (· < ·) l p := kp_iff
theorem tp_cutp {l : List Nat} {p : Nat} : tp l p = true ↔ cutp (fun x y => y < x) l p := tp_iff
/-- the places between blocks -/
def cum : Nat → List (List Nat) → List Nat
  | _, [] => []
  | _, [_] => []
  | f, B :: C :: R => (f + B.length) :: cum (f + B.length) (C :: R)
structure Blocks (r : Nat → Nat → Prop) (R : List (List Nat)) : Prop where
  ne : ∀ B ∈ R, B ≠ []
  pw : R.Pairwise fun A B => ∀ x ∈ A, ∀ y ∈ B, r x y
  no : ∀ B ∈ R, ∀ p, 0 < p → p < B.length → ¬ cutp r B p
theorem Blocks.tail {r : Nat → Nat → Prop} {B : List Nat} {R : List (List Nat)} (h : Blocks r (B :: R)) : Blocks r R :=
  ⟨fun C hC => h.ne C (List.mem_cons_of_mem _ hC), (List.pairwise_cons.mp h.pw).2, fun C hC => h.no C (List.mem_cons_of_mem _ hC)⟩
theorem cum_lt : ∀ {R : List (List Nat)} {f p : Nat}, (∀ B ∈ R, B ≠ []) → p ∈ cum f R → f < p ∧ p < f + (R.map List.length).sum
  | [], f, p, _, h => by cases h
  | [B], f, p, _, h => by cases h
  | B :: C :: R, f, p, hne, h => by
    have hB := List.length_pos_iff.mpr (hne B (by simp))
    have hC := List.length_pos_iff.mpr (hne C (by simp))
    simp only [cum] at h
    simp only [List.map_cons, List.sum_cons]
    rcases List.mem_cons.mp h with rfl | h
    · omega
    · have := cum_lt (R := C :: R) (fun D hD => hne D (List.mem_cons_of_mem _ hD)) h
      simp only [List.map_cons, List.sum_cons] at this
      omega
theorem cum_pw : ∀ {R : List (List Nat)} {f : Nat}, (∀ B ∈ R, B ≠ []) → (cum f R).Pairwise (· < ·)
  | [], f, _ => List.Pairwise.nil
  | [B], f, _ => List.Pairwise.nil
  | B :: C :: R, f, hne => by
    simp only [cum]
    refine List.pairwise_cons.mpr ⟨fun p hp => ?_, cum_pw fun D hD => hne D (List.mem_cons_of_mem _ hD)⟩
    exact (cum_lt (fun D hD => hne D (List.mem_cons_of_mem _ hD)) hp).1
theorem len_flatten (R : List (List Nat)) : R.flatten.length = (R.map List.length).sum := List.length_flatten
/-- the cuts are the places between blocks -/
theorem cut_iff {r : Nat → Nat → Prop} : ∀ {R : List (List Nat)} {f p : Nat}, Blocks r R → 0 < p → p < R.flatten.length → (cutp r R.flatten p ↔ f + p ∈ cum f R)
  | [], f, p, _, h0, h1 => by simp at h1
  | [B], f, p, h, h0, h1 => by
    simp only [List.flatten_cons, List.flatten_nil, List.append_nil] at h1 ⊢
    exact ⟨fun q => absurd q (h.no B (by simp) p h0 h1), fun q => by cases q⟩
  | B :: C :: R, f, p, h, h0, h1 => by
    have hB := List.length_pos_iff.mpr (h.ne B (by simp))
    have ht := h.tail
    simp only [cum]
    rw [List.flatten_cons] at h1 ⊢
    generalize hF : (C :: R).flatten = F at h1 ⊢
    have hcross : ∀ x ∈ B, ∀ y ∈ F, r x y := fun x hx y hy => by
      rw [← hF] at hy
      obtain ⟨D, hD, hy⟩ := List.mem_flatten.mp hy
      exact (List.pairwise_cons.mp h.pw).1 D hD x hx y hy
    rw [List.length_append] at h1
    by_cases hp : p < B.length
    · constructor
      · intro q
        refine absurd (fun x hx y hy => q x ?_ y ?_) (h.no B (by simp) p h0 hp)
        · rw [List.take_append_of_le_length (by omega)]; exact hx
        · rw [List.drop_append_of_le_length (by omega)]; exact List.mem_append_left _ hy
      · intro q
        rcases List.mem_cons.mp q with q | q
        · omega
        · have := (cum_lt ht.ne q).1
          omega
    · by_cases hp2 : p = B.length
      · subst hp2
        constructor
        · intro _; exact List.mem_cons_self
        · intro _ x hx y hy
          rw [List.take_left] at hx
          rw [List.drop_left] at hy
          exact hcross x hx y hy
      · have ih := cut_iff (r := r) (R := C :: R) (f := f + B.length) (p := p - B.length) ht (by omega) (by rw [hF]; omega)
        rw [hF] at ih
        have e1 : (B ++ F).take p = B ++ F.take (p - B.length) := by
          rw [List.take_append, List.take_of_length_le (by omega)]
        have e2 : (B ++ F).drop p = F.drop (p - B.length) := by
          rw [List.drop_append, List.drop_of_length_le (by omega), List.nil_append]
        have e3 : f + B.length + (p - B.length) = f + p := by omega
        rw [e3] at ih
        constructor
        · intro q
          refine List.mem_cons_of_mem _ (ih.mp fun x hx y hy => q x ?_ y ?_)
          · rw [e1]; exact List.mem_append_right _ hx
          · rw [e2]; exact hy
        · intro q
          have q2 := ih.mpr (by
            rcases List.mem_cons.mp q with q | q
            · omega
            · exact q)
          intro x hx y hy
          rw [e1] at hx
          rw [e2] at hy
          rcases List.mem_append.mp hx with hx | hx
          · exact hcross x hx y (List.mem_of_mem_drop hy)
          · exact q2 x hx y hy
theorem sorted_ext : ∀ {a b : List Nat}, a.Pairwise (· < ·) → b.Pairwise (· < ·) → (∀ x, x ∈ a ↔ x ∈ b) → a = b
  | [], [], _, _, _ => rfl
  | [], y :: b, _, _, h => by have := (h y).mpr List.mem_cons_self; cases this
  | x :: a, [], _, _, h => by have := (h x).mp List.mem_cons_self; cases this
  | x :: a, y :: b, ha, hb, h => by
    have ha2 := List.pairwise_cons.mp ha
    have hb2 := List.pairwise_cons.mp hb
    have e : x = y := by
      have h1 := (h x).mp List.mem_cons_self
      have h2 := (h y).mpr List.mem_cons_self
      rcases List.mem_cons.mp h1 with h1 | h1
      · exact h1
      · rcases List.mem_cons.mp h2 with h2 | h2
        · exact h2.symm
        · have := hb2.1 x h1
          have := ha2.1 y h2
          omega
    subst e
    rw [sorted_ext ha2.2 hb2.2 fun z => ?_]
    constructor
    · intro hz
      rcases List.mem_cons.mp ((h z).mp (List.mem_cons_of_mem _ hz)) with e | q
      · subst e; exact absurd (ha2.1 z hz) (Nat.lt_irrefl _)
      · exact q
    · intro hz
      rcases List.mem_cons.mp ((h z).mpr (List.mem_cons_of_mem _ hz)) with e | q
      · subst e; exact absurd (hb2.1 z hz) (Nat.lt_irrefl _)
      · exact q
theorem kept_blocks {R : List (List Nat)} (h : Blocks (· < ·) R) : keptL R.flatten = cum 0 R := by
  refine sorted_ext (places_pw _ _) (cum_pw h.ne) fun p => ?_
  rw [mem_kept]
  constructor
  · rintro ⟨h0, h1, h2⟩
    have := (cut_iff (f := 0) h h0 h1).mp (kp_cutp.mp h2)
    rw [Nat.zero_add] at this; exact this
  · intro hp
    obtain ⟨h0, h1⟩ := cum_lt h.ne hp
    have h1' : p < R.flatten.length := by rw [len_flatten]; omega
    exact ⟨h0, h1', kp_cutp.mpr ((cut_iff (f := 0) h h0 h1').mpr (by rw [Nat.zero_add]; exact hp))⟩
theorem turned_blocks {R : List (List Nat)} (h : Blocks (fun x y => y < x) R) : turnedL R.flatten = cum 0 R := by
  refine sorted_ext (places_pw _ _) (cum_pw h.ne) fun p => ?_
  rw [mem_turned]
  constructor
  · rintro ⟨h0, h1, h2⟩
    have := (cut_iff (f := 0) h h0 h1).mp (tp_cutp.mp h2)
    rw [Nat.zero_add] at this; exact this
  · intro hp
    obtain ⟨h0, h1⟩ := cum_lt h.ne hp
    have h1' : p < R.flatten.length := by rw [len_flatten]; omega
    exact ⟨h0, h1', tp_cutp.mpr ((cut_iff (f := 0) h h0 h1').mpr (by rw [Nat.zero_add]; exact hp))⟩
theorem segs_blocks : ∀ {R : List (List Nat)} {P : List Nat}, R ≠ [] → segs (P ++ R.flatten) P.length (cum P.length R ++ [(P ++ R.flatten).length]) = R
  | [], P, h => absurd rfl h
  | [B], P, _ => by
    simp only [cum, List.nil_append, segs, List.flatten_cons, List.flatten_nil, List.append_nil, List.take_length, List.drop_left]
  | B :: C :: R, P, _ => by
    have ih := segs_blocks (R := C :: R) (P := P ++ B) (by simp)
    simp only [cum, List.cons_append, segs]
    rw [List.length_append] at ih
    have e : P ++ (B :: C :: R).flatten = P ++ B ++ (C :: R).flatten := by simp
    rw [e]
    congr 1
    have e2 : P.length + B.length = (P ++ B).length := by simp
    rw [e2, List.take_left, List.drop_left]
theorem parts_blocks {R : List (List Nat)} (h : R ≠ []) : partsL R.flatten (cum 0 R) = R.map nrm := by
  have := segs_blocks (R := R) (P := []) h
  simp only [List.nil_append, List.length_nil] at this
  unfold partsL
  rw [this]
end Ab

end
section
set_option maxRecDepth 100000
namespace Ab
theorem anti {r s : Nat → Nat → Prop} (hrs : ∀ x y, r x y → s x y → False) : ∀ {R : List (List Nat)} {p : Nat}, 2 ≤ R.length → (∀ B ∈ R, B ≠ []) → (R.Pairwise fun A B => ∀ x ∈ A, ∀ y ∈ B, r x y) → 0 < p → p < R.flatten.length → ¬ cutp s R.flatten p
  | [], p, h, _, _, _, _, _ => by simp at h
  | [B], p, h, _, _, _, _, _ => by simp at h
  | A :: C :: R, p, _, hne, hpw, h0, h1, hc => by
    have hA := hne A (by simp)
    have hC := hne C (by simp)
    obtain ⟨x, hx⟩ : ∃ x, A.head? = some x := by
      cases A with
      | nil => exact absurd rfl hA
      | cons x A => exact ⟨x, rfl⟩
    have hF : (C :: R).flatten ≠ [] := by
      intro e
      have := (List.flatten_eq_nil_iff.mp e) C (by simp)
      exact hC this
    obtain ⟨y, hy⟩ : ∃ y, (C :: R).flatten.getLast? = some y := ⟨_, List.getLast?_eq_some_getLast hF⟩
    have hyF : y ∈ (C :: R).flatten := List.mem_of_getLast? hy
    obtain ⟨D, hD, hyD⟩ := List.mem_flatten.mp hyF
    have hr := (List.pairwise_cons.mp hpw).1 D hD x (List.mem_of_head? hx) y hyD
    refine hrs x y hr (hc x ?_ y ?_)
    · rw [List.flatten_cons]
      cases A with
      | nil => cases hx
      | cons z A =>
        simp only [List.head?_cons, Option.some.injEq] at hx
        subst hx
        cases p with
        | zero => omega
        | succ p => simp
    · rw [List.flatten_cons] at h1 ⊢
      generalize (C :: R).flatten = F at hF hy hyF h1 ⊢
      have hl : (A ++ F).getLast? = some y := by rw [List.getLast?_append, hy]; rfl
      have : ((A ++ F).drop p).getLast? = some y := by
        rw [List.getLast?_drop, if_neg (by omega), hl]
      exact List.mem_of_getLast? this
mutual
theorem row_bd : ∀ (f : Nat) (t : Ne) (x : Nat), x ∈ row f t → f ≤ x ∧ x < f + siz t
  | f, .w, x, h => by
    simp only [row, List.mem_singleton] at h
    simp only [siz]; omega
  | f, .k p ps, x, h => by
    cases p with
    | true => simp only [row, if_true] at h; simp only [siz]; exact rowsP_bd f ps x h
    | false => simp only [row, Bool.false_eq_true, if_false] at h; simp only [siz]; exact rowsM_bd f ps x h
theorem rowsP_bd : ∀ (f : Nat) (ts : List Ne) (x : Nat), x ∈ rowsP f ts → f ≤ x ∧ x < f + sizs ts
  | f, [], x, h => by cases h
  | f, t :: ts, x, h => by
    simp only [rowsP] at h
    simp only [sizs]
    rcases List.mem_append.mp h with h | h
    · have := row_bd f t x h; omega
    · have := rowsP_bd (f + siz t) ts x h; omega
theorem rowsM_bd : ∀ (f : Nat) (ts : List Ne) (x : Nat), x ∈ rowsM f ts → f ≤ x ∧ x < f + sizs ts
  | f, [], x, h => by cases h
  | f, t :: ts, x, h => by
    simp only [rowsM] at h
    simp only [sizs]
    rcases List.mem_append.mp h with h | h
    · have := rowsM_bd (f + siz t) ts x h; omega
    · have := row_bd f t x h; omega
end
mutual
theorem row_shift : ∀ (f : Nat) (t : Ne), row f t = (row 0 t).map (· + f)
  | f, .w => by simp [row]
  | f, .k p ps => by
    cases p with
    | true => simp only [row, if_true]; have := rowsP_shift f 0 ps; rw [Nat.zero_add] at this; exact this
    | false => simp only [row, Bool.false_eq_true, if_false]; have := rowsM_shift f 0 ps; rw [Nat.zero_add] at this; exact this
theorem rowsP_shift : ∀ (f g : Nat) (ts : List Ne), rowsP (g + f) ts = (rowsP g ts).map (· + f)
  | f, g, [] => rfl
  | f, g, t :: ts => by
    have e : g + f + siz t = g + siz t + f := by omega
    simp only [rowsP, List.map_append]
    rw [e, rowsP_shift f (g + siz t) ts, row_shift (g + f) t, row_shift g t, List.map_map]
    congr 2
    funext x
    simp only [Function.comp]; omega
theorem rowsM_shift : ∀ (f g : Nat) (ts : List Ne), rowsM (g + f) ts = (rowsM g ts).map (· + f)
  | f, g, [] => rfl
  | f, g, t :: ts => by
    have e : g + f + siz t = g + siz t + f := by omega
    simp only [rowsM, List.map_append]
    rw [e, rowsM_shift f (g + siz t) ts, row_shift (g + f) t, row_shift g t, List.map_map]
    congr 2
    funext x
    simp only [Function.comp]; omega
end
theorem rowsL_pw : ∀ (f : Nat) (ts : List Ne), (rowsL f ts).Pairwise fun A B => ∀ x ∈ A, ∀ y ∈ B, x < y
  | _, [] => List.Pairwise.nil
  | f, t :: ts => by
    simp only [rowsL]
    refine List.pairwise_cons.mpr ⟨fun B hB x hx y hy => ?_, rowsL_pw (f + siz t) ts⟩
    have h1 := row_bd f t x hx
    have : y ∈ rowsP (f + siz t) ts := by rw [rowsP_eq]; exact List.mem_flatten.mpr ⟨B, hB, hy⟩
    have := rowsP_bd _ _ _ this
    omega
theorem rowsL_mem : ∀ {f : Nat} {ts : List Ne} {B : List Nat}, B ∈ rowsL f ts → ∃ g t, t ∈ ts ∧ B = row g t
  | _, [], B, h => by cases h
  | f, t :: ts, B, h => by
    rcases List.mem_cons.mp h with rfl | h
    · exact ⟨f, t, by simp, rfl⟩
    · obtain ⟨g, u, hu, e⟩ := rowsL_mem h
      exact ⟨g, u, List.mem_cons_of_mem _ hu, e⟩
theorem okN_pos {t : Ne} (h : okN t = true) : 0 < siz t := by have := siz_pos t h; omega
mutual
theorem row_nodup : ∀ (f : Nat) (t : Ne), (row f t).Nodup
  | f, .w => by simp [row]
  | f, .k p ps => by
    cases p with
    | true => simp only [row, if_true]; exact rowsP_nodup f ps
    | false => simp only [row, Bool.false_eq_true, if_false]; exact rowsM_nodup f ps
theorem rowsP_nodup : ∀ (f : Nat) (ts : List Ne), (rowsP f ts).Nodup
  | f, [] => List.nodup_nil
  | f, t :: ts => by
    simp only [rowsP]
    refine List.nodup_append.mpr ⟨row_nodup f t, rowsP_nodup _ ts, fun x hx y hy e => ?_⟩
    have := row_bd f t x hx
    have := rowsP_bd _ ts y hy
    omega
theorem rowsM_nodup : ∀ (f : Nat) (ts : List Ne), (rowsM f ts).Nodup
  | f, [] => List.nodup_nil
  | f, t :: ts => by
    simp only [rowsM]
    refine List.nodup_append.mpr ⟨rowsM_nodup _ ts, row_nodup f t, fun x hx y hy e => ?_⟩
    have := row_bd f t y hy
    have := rowsM_bd _ ts x hx
    omega
end
theorem row_ord (t : Ne) : isOrd (row 0 t) := ⟨row_nodup 0 t, fun x hx => by
  have := row_bd 0 t x hx
  rw [row_len]; omega⟩
theorem lo_row (f : Nat) {t : Ne} (h : okN t = true) : lo (row f t) = f := by
  have hp := okN_pos h
  have hne : row f t ≠ [] := by
    intro e
    have := row_len f t
    rw [e] at this
    simp at this; omega
  have h1 := row_bd f t _ (lo_mem hne).1
  -- f itself stands there
  have h0 : (0 : Nat) ∈ row 0 t := nodup_full (row_ord t) (by rw [row_len]; exact hp)
  have : f ∈ row f t := by
    rw [row_shift]
    exact List.mem_map.mpr ⟨0, h0, by omega⟩
  have := lo_le this
  omega
theorem nrm_row (f : Nat) {t : Ne} (h : okN t = true) : nrm (row f t) = row 0 t := by
  unfold nrm
  rw [lo_row f h, row_shift f t, List.map_map]
  conv => rhs; rw [← List.map_id (row 0 t)]
  refine List.map_congr_left fun x _ => ?_
  simp
theorem rowsL_nrm : ∀ (f : Nat) (ts : List Ne), (∀ t ∈ ts, okN t = true) → (rowsL f ts).map nrm = ts.map (row 0)
  | _, [], _ => rfl
  | f, t :: ts, h => by
    simp only [rowsL, List.map_cons]
    rw [nrm_row f (h t (by simp)), rowsL_nrm _ ts fun u hu => h u (List.mem_cons_of_mem _ hu)]
/-- the rows of a nest's parts as they are seen are blocks -/
theorem blocks_plus {ps : List Ne} (h : okN (.k true ps) = true) (f : Nat) : Blocks (· < ·) (rowsL f ps) := by
  refine ⟨fun B hB => ?_, rowsL_pw f ps, fun B hB p h0 h1 => ?_⟩
  · obtain ⟨g, t, ht, rfl⟩ := rowsL_mem hB
    have := okN_pos (isN_part h ht).1
    intro e
    have h2 := row_len g t
    rw [e] at h2
    simp at h2; omega
  · obtain ⟨g, t, ht, rfl⟩ := rowsL_mem hB
    obtain ⟨ok, hk⟩ := isN_part h ht
    cases t with
    | w => simp [row] at h1; omega
    | k q qs =>
      have hq : q = false := by simpa [isK] using hk
      subst hq
      rw [row_k] at h1 ⊢
      simp only [Bool.false_eq_true, if_false] at h1 ⊢
      have hl := okN_len ok
      refine anti (r := fun x y => y < x) (fun x y a b => by omega) ?_ ?_ ?_ h0 h1
      · rw [List.length_reverse, rowsL_len]; exact hl.2
      · intro B hB
        obtain ⟨g2, u, hu, rfl⟩ := rowsL_mem (List.mem_reverse.mp hB)
        have := okN_pos (isN_part ok hu).1
        intro e
        have h2 := row_len g2 u
        rw [e] at h2
        simp at h2; omega
      · rw [List.pairwise_reverse]
        exact (rowsL_pw g qs).imp fun h x hx y hy => h y hy x hx
theorem blocks_minus {ps : List Ne} (h : okN (.k false ps) = true) (f : Nat) : Blocks (fun x y => y < x) (rowsL f ps).reverse := by
  refine ⟨fun B hB => ?_, ?_, fun B hB p h0 h1 => ?_⟩
  · obtain ⟨g, t, ht, rfl⟩ := rowsL_mem (List.mem_reverse.mp hB)
    have := okN_pos (isN_part h ht).1
    intro e
    have h2 := row_len g t
    rw [e] at h2
    simp at h2; omega
  · rw [List.pairwise_reverse]
    exact (rowsL_pw f ps).imp fun h x hx y hy => h y hy x hx
  · obtain ⟨g, t, ht, rfl⟩ := rowsL_mem (List.mem_reverse.mp hB)
    obtain ⟨ok, hk⟩ := isN_part h ht
    cases t with
    | w => simp [row] at h1; omega
    | k q qs =>
      have hq : q = true := by simpa [isK] using hk
      subst hq
      rw [row_k] at h1 ⊢
      simp only [if_true] at h1 ⊢
      have hl := okN_len ok
      refine anti (r := (· < ·)) (fun x y a b => by omega) ?_ ?_ (rowsL_pw g qs) h0 h1
      · rw [rowsL_len]; exact hl.2
      · intro B hB
        obtain ⟨g2, u, hu, rfl⟩ := rowsL_mem hB
        have := okN_pos (isN_part ok hu).1
        intro e
        have h2 := row_len g2 u
        rw [e] at h2
        simp at h2; omega
theorem allSome_map {α β : Type} {f : α → Option β} {g : β → α} : ∀ {ts : List β}, (∀ t ∈ ts, f (g t) = some t) → allSome f (ts.map g) = some ts
  | [], _ => rfl
  | t :: ts, h => by
    simp only [List.map_cons, allSome]
    rw [h t (by simp), allSome_map fun u hu => h u (List.mem_cons_of_mem _ hu)]
    rfl
theorem cum_ne {R : List (List Nat)} (h : 2 ≤ R.length) (f : Nat) : cum f R ≠ [] := by
  match R, h with
  | A :: B :: R, _ => simp [cum]
/-- the nest of the order as which a nest is seen is that nest -/
theorem nest_only : ∀ (n : Nat) (t : Ne), okN t = true → siz t < n → nestF n (row 0 t) = some t
  | 0, t, _, h => by omega
  | n + 1, .w, _, _ => by simp [nestF, row]
  | n + 1, .k true ps, ok, h => by
    have hl := okN_len ok
    have hpos := (okNs_iff (p := true) (ts := ps)).mp (by simp only [okN, Bool.and_eq_true] at ok; exact ok.2)
    simp only [siz] at h
    have e0 : row 0 (.k true ps) = (rowsL 0 ps).flatten := by rw [row_k]; rfl
    have hK : keptL (row 0 (.k true ps)) = cum 0 (rowsL 0 ps) := by rw [e0]; exact kept_blocks (blocks_plus ok 0)
    have hne : cum 0 (rowsL 0 ps) ≠ [] := cum_ne (by rw [rowsL_len]; exact hl.2) 0
    have hlen1 : (row 0 (.k true ps)).length ≠ 1 := by rw [row_len]; simp only [siz]; omega
    simp only [nestF, if_neg hlen1, hK, if_pos hne]
    rw [e0, parts_blocks (by
      intro e
      have := rowsL_len 0 ps
      rw [e] at this
      simp at this; omega), rowsL_nrm 0 ps fun t ht => (hpos t ht).1]
    rw [allSome_map fun t ht => nest_only n t (hpos t ht).1 (by
      -- one part is less than the whole
      have h1 := sizs_le ht
      have h2 : siz t < sizs ps := by
        match ps, hl.2 with
        | a :: b :: r, _ =>
          have pa := okN_pos (hpos a (by simp)).1
          have pb := okN_pos (hpos b (by simp)).1
          simp only [sizs]
          rcases List.mem_cons.mp ht with rfl | ht
          · omega
          · rcases List.mem_cons.mp ht with rfl | ht
            · omega
            · have := sizs_le ht; omega
      omega)]
    rfl
  | n + 1, .k false ps, ok, h => by
    have hl := okN_len ok
    have hpos := (okNs_iff (p := false) (ts := ps)).mp (by simp only [okN, Bool.and_eq_true] at ok; exact ok.2)
    simp only [siz] at h
    have e0 : row 0 (.k false ps) = (rowsL 0 ps).reverse.flatten := by rw [row_k]; rfl
    have hbl := blocks_minus ok 0
    have hT : turnedL (row 0 (.k false ps)) = cum 0 (rowsL 0 ps).reverse := by rw [e0]; exact turned_blocks hbl
    have hne : cum 0 (rowsL 0 ps).reverse ≠ [] := cum_ne (by rw [List.length_reverse, rowsL_len]; exact hl.2) 0
    have hK : keptL (row 0 (.k false ps)) = [] := by
      rw [List.eq_nil_iff_forall_not_mem]
      intro p hp
      obtain ⟨h0, h1, h2⟩ := mem_kept.mp hp
      rw [e0] at h1 h2
      exact anti (r := fun x y => y < x) (fun x y a b => by omega) (by rw [List.length_reverse, rowsL_len]; exact hl.2) hbl.ne hbl.pw h0 h1 (kp_cutp.mp h2)
    have hlen1 : (row 0 (.k false ps)).length ≠ 1 := by rw [row_len]; simp only [siz]; omega
    simp only [nestF, if_neg hlen1, hK, ne_eq, not_true_eq_false, if_false, hT, if_pos hne]
    rw [e0, parts_blocks (by
      intro e
      have := rowsL_len 0 ps
      have e2 := congrArg List.length e
      rw [List.length_reverse, this, List.length_nil] at e2
      omega), List.map_reverse, rowsL_nrm 0 ps fun t ht => (hpos t ht).1, ← List.map_reverse]
    rw [allSome_map fun t ht => nest_only n t (hpos t (List.mem_reverse.mp ht)).1 (by
      have ht := List.mem_reverse.mp ht
      have h2 : siz t < sizs ps := by
        match ps, hl.2 with
        | a :: b :: r, _ =>
          have pa := okN_pos (hpos a (by simp)).1
          have pb := okN_pos (hpos b (by simp)).1
          simp only [sizs]
          rcases List.mem_cons.mp ht with rfl | ht
          · omega
          · rcases List.mem_cons.mp ht with rfl | ht
            · omega
            · have := sizs_le ht; omega
      omega)]
    simp
end Ab

end
section
set_option maxRecDepth 100000
namespace Ab
open PySem PySem.Spec PyProof.Rows L2
/-- how many of some are less -/
def rkW (ws : List Nat) (w : Nat) : Nat := (ws.filter fun x => decide (x < w)).length
def sN (ws : List Nat) : List Nat := ws.mergeSort (fun a b => decide (a ≤ b))
theorem sN_perm (ws : List Nat) : (sN ws).Perm ws := List.mergeSort_perm _ _
theorem sN_pw (ws : List Nat) : (sN ws).Pairwise (· ≤ ·) := by
  have := List.pairwise_mergeSort (le := fun a b : Nat => decide (a ≤ b)) (fun a b c h1 h2 => by simp at *; omega) (fun a b => by simp; omega) ws
  exact this.imp fun h => by simpa using h
theorem sN_lt {ws : List Nat} (nd : ws.Nodup) : (sN ws).Pairwise (· < ·) := by
  have h1 := sN_pw ws
  have h2 : (sN ws).Nodup := (sN_perm ws).nodup_iff.mpr nd
  exact (List.Pairwise.and h1 h2).imp fun h => by omega
theorem sN_int (ws : List Nat) : ((ws.map fun n : Nat => (n : Int)).mergeSort fun a b => decide (a ≤ b)) = (sN ws).map fun n : Nat => (n : Int) := by
  refine (sort_eq ((sN_perm ws).map _) ?_).symm
  rw [List.pairwise_map]
  exact (sN_pw ws).imp fun h => by omega
theorem rkW_perm {a b : List Nat} (h : a.Perm b) (w : Nat) : rkW a w = rkW b w := (h.filter _).length_eq
theorem rk_at : ∀ {s : List Nat} {i w : Nat}, s.Pairwise (· < ·) → s[i]? = some w → rkW s w = i
  | [], i, w, _, h => by simp at h
  | x :: s, 0, w, hp, h => by
    simp at h; subst h
    have : s.filter (fun y => decide (y < x)) = [] := by
      rw [List.filter_eq_nil_iff]
      intro y hy
      have := (List.pairwise_cons.mp hp).1 y hy
      simp; omega
    simp [rkW, this]
  | x :: s, i + 1, w, hp, h => by
    have h' : s[i]? = some w := by simpa using h
    have ih := rk_at (List.pairwise_cons.mp hp).2 h'
    have hx := (List.pairwise_cons.mp hp).1 w (List.mem_of_getElem? h')
    simp only [rkW] at ih ⊢
    rw [List.filter_cons_of_pos (by simpa using hx), List.length_cons, ih]
/-- a dict by a function -/
def kvF (f : Nat → D) (l : List Nat) : List (Int × D) := l.map fun w : Nat => ((w : Int), f w)
theorem valI_kvF (f : Nat → D) : ∀ (l : List Nat) (w : Nat), valI (kvF f l) (w : Int) = if w ∈ l then some (f w) else none
  | [], w => by simp [valI, kvF]
  | x :: l, w => by
    have ih := valI_kvF f l w
    unfold valI kvF at ih ⊢
    by_cases h : x = w
    · subst h; simp
    · have h2 : ¬ (x : Int) = (w : Int) := by omega
      have h3 : ¬ w = x := fun e => h e.symm
      rw [List.map_cons, List.find?_cons_of_neg (by simpa using h2), ih]
      simp [h3]
theorem kvF_snoc (f : Nat → D) (l : List Nat) (w : Nat) : kvF f (l ++ [w]) = kvF f l ++ [((w : Int), f w)] := by simp [kvF]
theorem enumD_natD (l : List Nat) : enumD (natD l) = l.zipIdx.map fun p => .tup [.int (p.2 : Nat), .int (p.1 : Nat)] := by
  simp only [enumD, natD, List.zipIdx_map, List.map_map]; rfl
theorem for_enum {f : D → SM} {l : List Nat} {G : Gam} {S : Sto} (I : Nat → Gam → Sto → Prop) (h0 : I 0 G S)
    (h : ∀ (i w : Nat) G S, l[i]? = some w → I i G S → ∃ G' S', (f (.tup [.int (i : Int), .int (w : Int)]) G S = .nx G' S' ∨ f (.tup [.int (i : Int), .int (w : Int)]) G S = .ct G' S') ∧ I (i + 1) G' S') : ∃ G' S', forRun always f (enumD (natD l)) G S = .nx G' S' ∧ I l.length G' S' := by
  have key := for_inv (f := f) (l := enumD (natD l)) (G := G) (S := S) I h0 (fun (i : Nat) x G S hx hI => by
    rw [enumD_natD, List.getElem?_map, Option.map_eq_some_iff] at hx
    obtain ⟨p, hp, rfl⟩ := hx
    rw [List.getElem?_zipIdx, Option.map_eq_some_iff] at hp
    obtain ⟨w, hw, rfl⟩ := hp
    simpa using h i w G S hw hI)
  have e : (enumD (natD l)).length = l.length := by rw [enumD_natD]; simp
  rw [e] at key
  exact key
@[simp] theorem ev_iEnumM {a : AM} {G : Gam} {S : Sto} : iEnumM a G S = (a G S).bindI fun ds S1 => match ds with
  | [d] => (match srcD S1 d with
    | some (xs, c1) => .ok (enumD xs) c1 S1
    | none => .err)
  | _ => .err := (rfl)
@[simp] theorem ev_srcL {S : Sto} {b : Bool} {xs : List D} : srcD S (.lst b xs) = some (xs, always) := (rfl)
@[simp] theorem ev_srcT {S : Sto} {xs : List D} : srcD S (.tup xs) = some (xs, always) := (rfl)
theorem oLt_kvF {n : Nat} {f : Nat → D} {l : List Nat} (h : ∀ w, imm (f w) = true) : oLt n (.dct (kvF f l)) = true := by
  simp only [oLt, kvF, List.map_map]
  refine objLts_imms n _ ?_
  induction l with
  | nil => rfl
  | cons x l ih => simp [h x, ih]
/-- what left_of takes -/
def wrdB (n : Nat) (ds : List D) : Bool := decide (1 ≤ ds.length) && numsB n [] ds
/-- what is left of an order for some words -/
def leftL (l ws : List Nat) : List Nat := (l.filter fun w => ws.contains w).map (rkW ws)
theorem R_left_of {l : List Nat} {ds : List D} {b : Bool} (hf : frzns ds = true) (hl : ds.length ≤ 900) (hll : l.length ≤ 60) :
    (∀ ws : List Nat, ds = natD ws → wrdB l.length ds = true → Ret F_left_of [.tup (natD l), .lst b ds] (tupD (leftL l ws))) ∧ (wrdB l.length ds = false → Exc F_left_of [.tup (natD l), .lst b ds] "NoWords") := by
  have hr := (R_are_numbers (ds := ds) (many := l.length) (b := false) hf hl).run (S := [])
  have hs : subs gArg (frz gArg false [] 4) ds = some ds := subs_frzn _ _ hf
  constructor
  · intro ws hws h
    subst hws
    simp only [wrdB, Bool.and_eq_true, decide_eq_true_eq] at h
    obtain ⟨h1, h3⟩ := h
    rw [h3] at hr
    obtain ⟨ws', e, nd, hb⟩ := numsB_inv h3
    have hw : ws = ws' := by
      have := eqds_natD ws ws'
      rw [← e] at this
      have e2 : eqds (natD ws) (natD ws) = true := by rw [eqds_natD]; simp
      rw [e2] at this
      simpa using this.symm
    subst hw
    have hwl : ws.length ≤ 60 := by
      have := nodup_le (m := l.length) nd (fun x hx => by have := (hb x hx).1; omega)
      omega
    have hsl := (sN_perm ws).length_eq
    -- the dict
    obtain ⟨G1, S1, e1, x, y, rfl, rfl⟩ := for_enum (f := turn (gmTup [3, 4]) b_left_of_1) (l := sN ws) (G := [some (.tup (natD l)), some (.lst b (natD ws)), some (.obj 0), none, none]) (S := [.dct []])
      (fun i G S => ∃ x y, G = [some (.tup (natD l)), some (.lst b (natD ws)), some (.obj 0), x, y] ∧ S = [.dct (kvF (fun w => .int (rkW ws w : Nat)) ((sN ws).take i))]) ⟨none, none, rfl, rfl⟩ (fun i w G S hi hI => by
        obtain ⟨x, y, rfl, rfl⟩ := hI
        have hlt := (List.getElem?_eq_some_iff.mp hi).1
        have et : (sN ws).take (i + 1) = (sN ws).take i ++ [w] := by rw [List.take_add_one, hi]; rfl
        have hrk : rkW ws w = i := by rw [← rkW_perm (sN_perm ws)]; exact rk_at (sN_lt nd) hi
        have hnew : valI (kvF (fun w => .int (rkW ws w : Nat)) ((sN ws).take i)) (w : Int) = none := by
          rw [valI_kvF, if_neg]
          intro hm
          have hnd : (sN ws).Nodup := (sN_perm ws).nodup_iff.mpr nd
          obtain ⟨j, hj, ej⟩ := List.mem_iff_getElem.mp hm
          have hj2 : j < i := by have := hj; simp at this; omega
          rw [List.getElem_take] at ej
          have e2 : (sN ws)[i] = w := by
            have := List.getElem?_eq_getElem hlt
            rw [hi] at this; exact (Option.some.inj this).symm
          have e3 : (sN ws)[j]? = some w := by rw [List.getElem?_eq_getElem (by omega), ej]
          have := nd_ix hnd e3 hi
          omega
        have hp : putI (kvF (fun w => .int (rkW ws w : Nat)) ((sN ws).take i)) (w : Int) (.int (i : Int)) = kvF (fun w => .int (rkW ws w : Nat)) ((sN ws).take (i + 1)) := by
          rw [putI_new hnew, et, kvF_snoc]
          show _ = _ ++ [((w : Int), D.int ((rkW ws w : Nat) : Int))]
          rw [hrk]
        have hlen : (kvF (fun w => D.int (rkW ws w : Nat)) ((sN ws).take i)).length < 100000 := by simp only [kvF, List.length_map, List.length_take]; omega
        refine ⟨_, _, .inl ?_, some (.int i), some (.int w), rfl, rfl⟩
        generalize kvF (fun w => D.int (rkW ws w : Nat)) ((sN ws).take (i + 1)) = K2 at hp ⊢
        generalize kvF (fun w => D.int (rkW ws w : Nat)) ((sN ws).take i) = K1 at hp hlen ⊢
        simp [b_left_of_1, hlen, hp])
    rw [List.take_length] at e1
    have hc : c_left_of_1 [some (.tup (natD l)), some (.lst b (natD ws)), some (.obj 0), x, y] [.dct (kvF (fun w => .int (rkW ws w : Nat)) (sN ws))] = .ok (.lst true (natD (leftL l ws))) [.dct (kvF (fun w => .int (rkW ws w : Nat)) (sN ws))] := by
      have e : natD (leftL l ws) = (l.filter fun w => ws.contains w).map fun w => .int (rkW ws w : Nat) := by simp [natD, leftL]
      rw [e]
      unfold c_left_of_1
      refine comp_f (ck := always) (S1 := [.dct (kvF (fun w => .int (rkW ws w : Nat)) (sN ws))]) (fun w : Nat => .int (w : Int)) l (fun w => ws.contains w) _ (fun w => [some (.tup (natD l)), some (.lst b (natD ws)), some (.obj 0), x, some (.int (w : Int))]) (by simp [natD]) (fun _ => rfl) (by omega) ?_ ?_ ?_ ?_ ?_
      · simp [oLt_kvF (f := fun w => .int (rkW ws w : Nat)) (fun _ => rfl)]
      · rw [← e]; exact objLts_natD _
      · intro w _; simp
      · intro w _ acc
        have hm : w ∈ sN ws ↔ w ∈ ws := (sN_perm ws).mem_iff
        have e2 : (if w ∈ sN ws then some (D.int (rkW ws w : Nat)) else none).isSome = ws.contains w := by
          by_cases h : w ∈ ws
          · simp [hm, h]
          · simp [hm, h]
        have hv : (valI (kvF (fun w => .int (rkW ws w : Nat)) (sN ws)) (w : Int)).isSome = ws.contains w := by rw [valI_kvF]; exact e2
        generalize kvF (fun w => D.int (rkW ws w : Nat)) (sN ws) = K1 at hv
        simp [hv]
      · intro w _ hw acc
        have hm : w ∈ sN ws := (sN_perm ws).mem_iff.mpr (by simpa using hw)
        have hv : valI (kvF (fun w => .int (rkW ws w : Nat)) (sN ws)) (w : Int) = some (.int (rkW ws w : Nat)) := by rw [valI_kvF, if_pos hm]
        generalize kvF (fun w => D.int (rkW ws w : Nat)) (sN ws) = K1 at hv
        simp [hv]
    refine Ret.imm (S' := [.dct (kvF (fun w => .int (rkW ws w : Nat)) (sN ws))]) ?_ (by simp [tupD])
    have e0 : ¬ ((natD ws).length : Int) < 1 := by omega
    have e64 : ws.length < 64 := by omega
    have hso : ((ws.map fun n : Nat => (n : Int)).mergeSort fun a b => decide (a ≤ b)).map D.int = natD (sN ws) := by rw [sN_int, natD_int]
    have hen : (fSorted false [.lst b (natD ws)] [O.dct []]) = .ok (.lst true (natD (sN ws))) [O.dct []] := by
      simp [intsD_natD, e64, hso, -List.map_map]
    have hls : (natD l).length = l.length := natD_len l
    unfold tupD
    generalize kvF (fun w => D.int (rkW ws w : Nat)) (sN ws) = K1 at e1 hc ⊢
    generalize natD (leftL l ws) = R at *
    generalize natD (sN ws) = M at e1 hen
    generalize natD l = L at *
    generalize natD ws = V at *
    simp [F_left_of, ev_runF, m_left_of, e0, hs, hls, hr, hen, e1, hc, -ev_sorted]
  · intro h
    unfold Exc
    have hls : (natD l).length = l.length := natD_len l
    by_cases h1 : (ds.length : Int) < 1
    · simp [F_left_of, ev_runF, m_left_of, h1]
    · have h3 : numsB l.length [] ds = false := by
        cases hn : numsB l.length [] ds with
        | false => rfl
        | true =>
          have : wrdB l.length ds = true := by simp only [wrdB, hn, Bool.and_true, decide_eq_true_eq]; omega
          rw [this] at h; cases h
      rw [h3] at hr
      simp [F_left_of, ev_runF, m_left_of, h1, hs, hls, hr]
end Ab

end
section
set_option maxRecDepth 100000
namespace Ab
open PySem PySem.Spec PyProof.Rows L2
def fstN (os : List (List Nat)) (w : Nat) : Nat := ((os.take w).map List.length).sum
def putL (l : List Nat) (os : List (List Nat)) : List Nat := l.flatMap fun w => (os.getD w []).map (fstN os w + ·)
theorem fstN_succ {os : List (List Nat)} {i : Nat} {a : List Nat} (h : os[i]? = some a) : fstN os (i + 1) = fstN os i + a.length := by
  unfold fstN
  rw [List.take_add_one, h]
  simp
theorem le_sum : ∀ {l : List Nat} {x : Nat}, x ∈ l → x ≤ l.sum
  | y :: l, x, h => by
    rw [List.sum_cons]
    rcases List.mem_cons.mp h with rfl | h
    · omega
    · have := le_sum h; omega
theorem putL_snoc (pre : List Nat) (w : Nat) (os : List (List Nat)) : putL (pre ++ [w]) os = putL pre os ++ (os.getD w []).map (fstN os w + ·) := by simp [putL]
theorem putL_len {os : List (List Nat)} (h : ∀ o ∈ os, o.length ≤ 60) : ∀ l : List Nat, (putL l os).length ≤ 60 * l.length
  | [] => by simp [putL]
  | w :: l => by
    have ih := putL_len h l
    have e : putL (w :: l) os = (os.getD w []).map (fstN os w + ·) ++ putL l os := by simp [putL]
    rw [e, List.length_append, List.length_map, List.length_cons]
    have : (os.getD w []).length ≤ 60 := by
      rw [List.getD_eq_getElem?_getD]
      cases hg : os[w]? with
      | none => simp
      | some o => exact h o (List.mem_of_getElem? hg)
    omega
theorem imms_tupDs (os : List (List Nat)) : imms (os.map tupD) = true := by
  induction os with
  | nil => rfl
  | cons o os ih => simp only [List.map_cons, imms, imm_tupD, ih, Bool.and_self]
theorem subs_tupDs (g : Bool → Option Bool) (f : Nat → Option D) (os : List (List Nat)) : subs g f (os.map tupD) = some (os.map tupD) := subs_imm g f _ (imms_tupDs os)
theorem objLts_tupDs {n : Nat} (os : List (List Nat)) : objLts n (os.map tupD) = true := objLts_imms n _ (imms_tupDs os)
theorem eqds_tupDs (a b : List (List Nat)) : eqds (a.map tupD) (b.map tupD) = decide (a = b) := eqds_map (fun x y => by simp [tupD]) a b
theorem E_put_len {l : List Nat} {ds : List D} {b : Bool} (h : ds.length ≠ l.length) : Exc F_put_together [tupD l, .lst b ds] "NoOrder" := by
  have hn : ¬ ((ds.length : Int) = (l.length : Int)) := by omega
  have hl : ((natD l).length : Int) = (l.length : Int) := by rw [natD_len]
  unfold Exc
  generalize hL : natD l = L at *
  have ht : tupD l = .tup L := by rw [← hL]; rfl
  rw [ht]
  have hn' : ¬ (ds.length = l.length) := by omega
  simp [F_put_together, ev_runF, m_put_together, hl, hn, hn']
theorem c_put_1 {l : List Nat} {os : List (List Nat)} {b : Bool} (ho : os.length ≤ 900) : ∀ y2 y3 y4 y5 y6 y7, c_put_together_1 [some (tupD l), some (.lst b (os.map tupD)), y2, y3, y4, y5, y6, y7] [] = .ok (.lst true ((os.map fun o => (o.length : Int)).map .int)) [] := fun y2 y3 y4 y5 y6 y7 => by
  have e : (os.map fun o => (o.length : Int)).map D.int = os.map fun o => D.int (o.length : Int) := by rw [List.map_map]; rfl
  rw [e]
  unfold c_put_together_1
  refine comp_f0 (ck := always) (S1 := []) tupD os _ (fun o => [some (tupD l), some (.lst b (os.map tupD)), y2, y3, some (tupD o), y5, y6, y7]) (by simp) (fun _ => rfl) (by omega) (by simp) ?_ ?_ ?_
  · rw [← e]; exact objLts_ints _
  · intro o _; simp
  · intro o _ acc; simp [tupD]
theorem sum_len (os : List (List Nat)) : (os.map fun o => (o.length : Int)).sum = ((os.map List.length).sum : Nat) := by
  induction os with
  | nil => rfl
  | cons o os ih => simp [ih]
theorem E_put_many {l : List Nat} {os : List (List Nat)} {b : Bool} (h : os.length = l.length) (hl : l.length ≤ 900) (hs : 60 < (os.map List.length).sum) : Exc F_put_together [tupD l, .lst b (os.map tupD)] "NoOrder" := by
  unfold Exc
  have c1 := c_put_1 (l := l) (os := os) (b := b) (by omega)
  have hL : ((natD l).length : Int) = (l.length : Int) := by rw [natD_len]
  have hO : ((os.map tupD).length : Int) = (l.length : Int) := by rw [List.length_map, h]
  have hsum : ¬ (((os.map fun o => (o.length : Int)).sum) ≤ 60) := by rw [sum_len]; omega
  have hsum' : (60 : Int) < ((os.map fun o => (o.length : Int)).sum) := by rw [sum_len]; omega
  generalize (os.map fun o => (o.length : Int)) = zs at *
  generalize hOD : os.map tupD = OD at *
  simp only [tupD] at c1 ⊢
  generalize natD l = L at *
  simp [F_put_together, ev_runF, m_put_together, c1, hL, hO, hsum']
theorem R_put {l : List Nat} {os : List (List Nat)} {b : Bool} (h : os.length = l.length) (hl : l.length ≤ 60) (hs : (os.map List.length).sum ≤ 60) (hw : ∀ w ∈ l, w < os.length) : Ret F_put_together [tupD l, .lst b (os.map tupD)] (tupD (putL l os)) := by
  have hle : ∀ o ∈ os, o.length ≤ 60 := fun o ho => by
    have := le_sum (List.mem_map.mpr ⟨o, ho, rfl⟩ : o.length ∈ os.map List.length)
    omega
  have c1 := c_put_1 (l := l) (os := os) (b := b) (by omega)
  have hL : ((natD l).length : Int) = (l.length : Int) := by rw [natD_len]
  have hO : ((os.map tupD).length : Int) = (l.length : Int) := by rw [List.length_map, h]
  have hsum : ((os.map fun o => (o.length : Int)).sum) ≤ 60 := by rw [sum_len]; omega
  have hsum' : ¬ ((60 : Int) < ((os.map fun o => (o.length : Int)).sum)) := by rw [sum_len]; omega
  -- the firsts
  obtain ⟨G1, S1, e1, y4, rfl, rfl⟩ := for_pre (f := turn (gmName 4) b_put_together_1) (ι := tupD) (l := os) (G := [some (tupD l), some (.lst b (os.map tupD)), some (.obj 0), some (.int 0), none, none, none, none]) (S := [.lst []])
    (fun pre G S => ∃ y4, G = [some (tupD l), some (.lst b (os.map tupD)), some (.obj 0), some (.int (fstN os pre.length : Nat)), y4, none, none, none] ∧ S = [.lst (natD ((List.range pre.length).map (fstN os)))]) ⟨none, by simp [fstN], rfl⟩ (fun pre a post G S he hI => by
      obtain ⟨y4, rfl, rfl⟩ := hI
      have ha : os[pre.length]? = some a := by rw [he]; simp
      have hpl : pre.length < os.length := by rw [he]; simp
      refine ⟨_, _, .inl ?_, some (tupD a), rfl, rfl⟩
      have hln : (natD ((List.range pre.length).map (fstN os))).length < 100000 := by simp; omega
      have e2 : natD ((List.range (pre ++ [a]).length).map (fstN os)) = natD ((List.range pre.length).map (fstN os)) ++ [.int (fstN os pre.length : Nat)] := by
        rw [List.length_append, List.length_singleton, List.range_succ, List.map_append, natD_append]; rfl
      have e3 : ((fstN os (pre ++ [a]).length : Nat) : Int) = (fstN os pre.length : Nat) + (a.length : Int) := by
        rw [List.length_append, List.length_singleton, fstN_succ ha]; omega
      rw [e2, e3]
      have hal : ((natD a).length : Int) = (a.length : Int) := by rw [natD_len]
      generalize natD ((List.range pre.length).map (fstN os)) = F at *
      simp only [tupD]
      generalize natD a = A at *
      simp [turn, b_put_together_1, hln, hal])
  -- the places
  obtain ⟨F, hF⟩ : ∃ F, F = (List.range os.length).map (fstN os) := ⟨_, rfl⟩
  rw [← hF] at e1
  obtain ⟨G2, S2, e2, y6, rfl, rfl⟩ := for_pre (f := turn (gmName 6) b_put_together_2) (ι := fun w : Nat => D.int (w : Int)) (l := l) (G := [some (tupD l), some (.lst b (os.map tupD)), some (.obj 0), some (.int (fstN os os.length : Nat)), y4, some (.obj 1), none, none]) (S := [.lst (natD F), .lst []])
    (fun pre G S => ∃ y6, G = [some (tupD l), some (.lst b (os.map tupD)), some (.obj 0), some (.int (fstN os os.length : Nat)), y4, some (.obj 1), y6, none] ∧ S = [.lst (natD F), .lst (natD (putL pre os))]) ⟨none, rfl, rfl⟩ (fun pre w post G S he hI => by
      obtain ⟨y6, rfl, rfl⟩ := hI
      have hwl : w < os.length := hw w (by rw [he]; simp)
      have hpl : pre.length < l.length := by rw [he]; simp
      have hg := List.getElem?_eq_getElem hwl
      have hgD : os.getD w [] = os[w] := by rw [List.getD_eq_getElem?_getD, hg]; rfl
      have ha : L2.atI (os.map tupD) (w : Int) = some (tupD os[w]) := atI_nat (by rw [List.getElem?_map, hg]; rfl)
      have hFw : L2.atI (natD F) (w : Int) = some (.int (fstN os w : Nat)) := atI_natD (k := w) rfl (by rw [hF, List.getElem?_map, List.getElem?_range hwl]; rfl)
      have hol := hle os[w] (List.getElem_mem hwl)
      refine ⟨_, _, .inl ?_, some (.int w), rfl, rfl⟩
      have c2 : ∀ y7, c_put_together_2 [some (tupD l), some (.lst b (os.map tupD)), some (.obj 0), some (.int (fstN os os.length : Nat)), y4, some (.obj 1), some (.int w), y7] [.lst (natD F), .lst (natD (putL pre os))] = .ok (.lst true (natD ((os.getD w []).map (fstN os w + ·)))) [.lst (natD F), .lst (natD (putL pre os))] := fun y7 => by
        have e : natD ((os.getD w []).map (fstN os w + ·)) = os[w].map fun x => .int ((fstN os w : Nat) + (x : Int)) := by rw [hgD]; simp [natD]
        rw [e]
        unfold c_put_together_2
        refine comp_f0 (ck := always) (S1 := [.lst (natD F), .lst (natD (putL pre os))]) (fun x : Nat => .int (x : Int)) os[w] _ (fun x => [some (tupD l), some (.lst b (os.map tupD)), some (.obj 0), some (.int (fstN os os.length : Nat)), y4, some (.obj 1), some (.int w), some (.int (x : Int))]) (by simp [ha, tupD, natD]) (fun _ => rfl) (by omega) (by simp) ?_ ?_ ?_
        · rw [← e]; exact objLts_natD _
        · intro x _; simp
        · intro x _ acc; simp [hFw]
      have hq := putL_len hle pre
      have hlen : (natD (putL pre os)).length + (natD ((os.getD w []).map (fstN os w + ·))).length ≤ 100000 := by
        rw [natD_len, natD_len, List.length_map, hgD]
        omega
      rw [putL_snoc, natD_append]
      generalize natD (putL pre os) = P at *
      generalize natD ((os.getD w []).map (fstN os w + ·)) = Q at *
      simp [turn, b_put_together_2, c2, hlen])
  refine Ret.imm (S' := [.lst (natD F), .lst (natD (putL l os))]) ?_ (imm_tupD _)
  have e2' : forRun always (turn (gmName 6) b_put_together_2) (natD l) [some (tupD l), some (.lst b (os.map tupD)), some (.obj 0), some (.int (fstN os os.length : Nat)), y4, some (.obj 1), none, none] [.lst (natD F), .lst []] = .nx [some (tupD l), some (.lst b (os.map tupD)), some (.obj 0), some (.int (fstN os os.length : Nat)), y4, some (.obj 1), y6, none] [.lst (natD F), .lst (natD (putL l os))] := e2
  clear e2
  generalize (os.map fun o => (o.length : Int)) = zs at *
  generalize os.map tupD = OD at *
  simp only [tupD] at c1 e1 e2' ⊢
  generalize natD l = L at *
  generalize natD F = FD at *
  generalize natD (putL _ os) = P at *
  simp [F_put_together, ev_runF, m_put_together, c1, hL, hO, hsum', e1, e2']
end Ab

end
section
set_option maxRecDepth 100000
namespace Ab
open PySem PySem.Spec PyProof.Rows L2
structure Fr where
  m : Nat
  k : Bool
  ps : List Ne
def frD (f : Fr) : D := .lst false [.str (sg f.k), .lst false (f.ps.map neD)]
def lackP (st : List Fr) : Nat := (st.map fun f => 1 - f.ps.length).sum
def frW (st : List Fr) : Nat := (st.map fun f => sizs f.ps).sum
theorem lackP_snoc (st : List Fr) (f : Fr) : lackP (st ++ [f]) = lackP st + (1 - f.ps.length) := by simp [lackP]
theorem frW_snoc (st : List Fr) (f : Fr) : frW (st ++ [f]) = frW st + sizs f.ps := by simp [frW]
theorem cutD_init {α : Type} {l : List α} {a : α} : cutD (l ++ [a]) none (some (-1)) = l := by
  have e : HT.sIx (l ++ [a]).length (l ++ [a]).length (some (-1)) = l.length := by
    simp only [HT.sIx, List.length_append, List.length_singleton]
    rw [if_pos (by decide)]
    omega
  have e0 : HT.sIx (l ++ [a]).length 0 none = 0 := rfl
  unfold cutD
  rw [e, e0, List.drop_zero, Nat.sub_zero, List.take_left]
theorem if_max (j : Int) : (if j > 0 then j else 0) = ((j.toNat : Nat) : Int) := by split <;> omega
theorem R_law_lack {st : List Fr} {f : Fr} : Ret F_law_lack [.lst false ((st ++ [f]).map frD)] (.int ((2 - f.ps.length) + lackP st : Nat)) := by
  have h1 : L2.atI ((st ++ [f]).map frD) (-1) = some (frD f) := by rw [List.map_append]; exact atI_last
  have h2 : cutD ((st ++ [f]).map frD) none (some (-1)) = st.map frD := by rw [List.map_append]; exact cutD_init
  have h3 : (if (f.ps.length : Int) < 2 then (2 : Int) - (f.ps.length : Int) else 0) = ((2 - f.ps.length : Nat) : Int) := by split <;> omega
  generalize (st ++ [f]).map frD = Q at *
  obtain ⟨G1, S1, e1, y2, y3, rfl, rfl⟩ := for_pre (f := turn (gmLst [2, 3]) b_law_lack_1) (ι := frD) (l := st) (G := [some (.lst false Q), some (.int ((2 - f.ps.length : Nat) : Int)), none, none]) (S := [])
    (fun pre G S => ∃ y2 y3, G = [some (.lst false Q), some (.int ((2 - f.ps.length) + lackP pre : Nat)), y2, y3] ∧ S = []) ⟨none, none, rfl, rfl⟩ (fun pre a post G S he hI => by
      obtain ⟨y2, y3, rfl, rfl⟩ := hI
      refine ⟨_, _, .inl ?_, some (.str (sg a.k)), some (.lst false (a.ps.map neD)), rfl, rfl⟩
      have e3 : (((2 - f.ps.length) + lackP (pre ++ [a]) : Nat) : Int) = (((2 - f.ps.length) + lackP pre : Nat) : Int) + (if 0 < (1 : Int) - (a.ps.length : Int) then (1 : Int) - (a.ps.length : Int) else 0) := by
        rw [lackP_snoc]; split <;> omega
      rw [e3]
      generalize ((2 - f.ps.length) + lackP pre : Nat) = N at *
      have hl : ((a.ps.map neD).length : Int) = (a.ps.length : Int) := by rw [List.length_map]
      unfold frD
      generalize a.ps.map neD = PS at *
      simp [turn, b_law_lack_1, gmLst, hl])
  refine Ret.imm (S' := []) ?_ rfl
  have hl : ((f.ps.map neD).length : Int) = (f.ps.length : Int) := by rw [List.length_map]
  unfold frD at h1
  generalize f.ps.map neD = PS at *
  simp [F_law_lack, ev_runF, m_law_lack, h1, h2, hl]
  rw [h3, e1]
  simp
def altB (p : Bool) : List Fr → Prop
  | [] => True
  | f :: r => f.k = p ∧ altB (!p) r
theorem altB_two : ∀ {p : Bool} {st : List Fr} {g h : Fr}, altB p (st ++ [g] ++ [h]) ↔ altB p (st ++ [g]) ∧ h.k = !g.k
  | p, [], g, h => by
    simp only [List.nil_append, List.singleton_append, altB, and_true]
    constructor
    · intro ⟨h1, h2⟩; rw [h1]; exact ⟨rfl, h2⟩ 
    · intro ⟨h1, h2⟩; rw [h1] at h2; exact ⟨h1, h2⟩
  | p, a :: st, g, h => by
    simp only [List.cons_append, altB]
    rw [altB_two (p := !p) (st := st)]
    exact and_assoc.symm
structure PInv (p : Bool) (S : Sto) (st : List Fr) : Prop where
  pile : S[2]? = some (.lst (st.map fun f => .obj (f.m + 1)))
  at_ : ∀ f ∈ st, S[f.m]? = some (.lst (f.ps.map neD)) ∧ S[f.m + 1]? = some (.lst [.str (sg f.k), .obj f.m])
  ne2 : ∀ f ∈ st, f.m ≠ 2 ∧ f.m ≠ 1
  sep : st.Pairwise (fun f g => f.m + 2 ≤ g.m)
  alt : altB p st
  ok : ∀ f ∈ st, ∀ u ∈ f.ps, okN u = true ∧ isK f.k u = false
theorem subs_mapF {α : Type} {g : Bool → Option Bool} {f : Nat → Option D} {a b : α → D} : ∀ {l : List α}, (∀ x ∈ l, sub g f (a x) = some (b x)) → subs g f (l.map a) = some (l.map b)
  | [], _ => rfl
  | x :: l, h => by
    simp only [List.map_cons, subs]
    rw [h x List.mem_cons_self, subs_mapF fun y hy => h y (List.mem_cons_of_mem _ hy)]
theorem PInv.frz {p : Bool} {S : Sto} {st : List Fr} (I : PInv p S st) : subs gArg (Ab.frz gArg false S 3) (st.map fun f => .obj (f.m + 1)) = some (st.map frD) := by
  have hp : ∀ f : Fr, Ab.frz gArg false S (1 + 1) f.m = Ab.frz gArg false S (1 + 1) f.m := fun _ => rfl
  have key : subs gArg (Ab.frz gArg false S 3) (st.map fun f => .obj (f.m + 1)) = some (st.map frD) := subs_mapF fun f hf => by
    obtain ⟨h1, h2⟩ := I.at_ f hf
    have e1 : Ab.frz gArg false S 2 f.m = some (.lst false (f.ps.map neD)) := by
      show (match S[f.m]? with
        | some (.lst xs) => (subs gArg (Ab.frz gArg false S 1) xs).map (D.lst false)
        | some (.dct []) => some (D.emp false)
        | some (.tpx xs) => (subs gArg (Ab.frz gArg false S 1) xs).map D.tup
        | _ => none) = _
      rw [h1]
      dsimp only
      rw [subs_imm gArg _ _ (by
        have : ∀ ps : List Ne, imms (ps.map neD) = true := fun ps => by
          induction ps with
          | nil => rfl
          | cons a l ih => simp only [List.map_cons, imms, imm_ne a, ih, Bool.and_self]
        exact this _)]
      rfl
    show (match S[f.m + 1]? with
        | some (.lst xs) => (subs gArg (Ab.frz gArg false S 2) xs).map (D.lst false)
        | some (.dct []) => some (D.emp false)
        | some (.tpx xs) => (subs gArg (Ab.frz gArg false S 2) xs).map D.tup
        | _ => none) = _
    rw [h2]
    dsimp only
    simp only [subs, sub, e1]
    rfl
  exact key
theorem pm_1 (S : Sto) : fIx (.str "+-") (.int 1) S = .ok (.str (sg false)) S := pm_at (S := S) 1
theorem pm_0 (S : Sto) : fIx (.str "+-") (.int 0) S = .ok (.str (sg true)) S := pm_at (S := S) 0
theorem sg_is (k : Bool) (S : Sto) : fEq false (.str (sg k)) (.str "+") S = .ok (.bl k) S := by
  have h1 : decide (sg true = ("+" : Str)) = true := by decide +kernel
  have h2 : decide (sg false = ("+" : Str)) = false := by decide +kernel
  cases k
  · simp at h2 ⊢; exact h2
  · simp at h1 ⊢; exact h1
theorem not_own {p k : Bool} {ps : List Ne} (h : k = !p) : isK p (.k k ps) = false := by subst h; cases p <;> rfl
/-- a knot opens -/
theorem PInv.open_ {p : Bool} {S : Sto} {st : List Fr} {g : Fr} (I : PInv p S (st ++ [g])) : PInv p (((S ++ [O.lst []]) ++ [O.lst [D.str (sg !g.k), D.obj S.length]]).set 2 (O.lst (((st ++ [g]).map fun f => D.obj (f.m + 1)) ++ [D.obj (S.length + 1)]))) (st ++ [g] ++ [⟨S.length, !g.k, []⟩]) := by
  have l2 : 2 < S.length := (List.getElem?_eq_some_iff.mp I.pile).1
  have hlt : ∀ f ∈ st ++ [g], f.m + 1 < S.length := fun f hf => (List.getElem?_eq_some_iff.mp (I.at_ f hf).2).1
  have hap : ∀ i, i < S.length → ((S ++ [O.lst []]) ++ [O.lst [D.str (sg !g.k), D.obj S.length]])[i]? = S[i]? := fun i hi => by
    rw [List.append_assoc, List.getElem?_append_left hi]
  refine ⟨?_, ?_, ?_, ?_, ?_, ?_⟩
  · rw [List.getElem?_set_self (by simp; omega)]; simp
  · intro f hf
    rcases List.mem_append.mp hf with h | h
    · obtain ⟨h1, h2⟩ := I.at_ f h
      obtain ⟨n1, n2⟩ := I.ne2 f h
      have := hlt f h
      rw [List.getElem?_set_ne (by omega), List.getElem?_set_ne (by omega), hap _ (by omega), hap _ (by omega)]
      exact ⟨h1, h2⟩
    · have : f = ⟨S.length, !g.k, []⟩ := by simpa using h
      subst this
      rw [List.getElem?_set_ne (by simp only; omega), List.getElem?_set_ne (by simp only; omega)]
      simp
  · intro f hf
    rcases List.mem_append.mp hf with h | h
    · exact I.ne2 f h
    · have : f = ⟨S.length, !g.k, []⟩ := by simpa using h
      subst this
      simp only
      omega
  · rw [List.pairwise_append]
    refine ⟨I.sep, by simp, fun a ha b hb => ?_⟩
    have : b = ⟨S.length, !g.k, []⟩ := by simpa using hb
    subst this
    have := hlt a ha
    simp only
    omega
  · rw [altB_two]; exact ⟨I.alt, rfl⟩
  · intro f hf
    rcases List.mem_append.mp hf with h | h
    · exact I.ok f h
    · have : f = ⟨S.length, !g.k, []⟩ := by simpa using h
      subst this
      intro u hu; cases hu
theorem PInv.sepm {p : Bool} {S : Sto} {st : List Fr} {g : Fr} (I : PInv p S (st ++ [g])) : ∀ f ∈ st, f.m + 2 ≤ g.m := fun f hf => (List.pairwise_append.mp I.sep).2.2 f hf g (by simp)
/-- what is put to the upper one -/
theorem PInv.put {p : Bool} {S : Sto} {st : List Fr} {g : Fr} {us : List Ne} (I : PInv p S (st ++ [g])) (hu : ∀ u ∈ us, okN u = true ∧ isK g.k u = false) : PInv p (S.set g.m (.lst ((g.ps ++ us).map neD))) (st ++ [⟨g.m, g.k, g.ps ++ us⟩]) := by
  obtain ⟨n1, n2⟩ := I.ne2 g (by simp)
  obtain ⟨g1, g2⟩ := I.at_ g (by simp)
  have lg : g.m < S.length := (List.getElem?_eq_some_iff.mp g1).1
  refine ⟨?_, ?_, ?_, ?_, ?_, ?_⟩
  · rw [List.getElem?_set_ne n1, I.pile]; simp
  · intro f hf
    rcases List.mem_append.mp hf with h | h
    · obtain ⟨h1, h2⟩ := I.at_ f (by simp [h])
      have := I.sepm f h
      rw [List.getElem?_set_ne (by omega), List.getElem?_set_ne (by omega)]
      exact ⟨h1, h2⟩
    · have : f = ⟨g.m, g.k, g.ps ++ us⟩ := by simpa using h
      subst this
      refine ⟨List.getElem?_set_self lg, ?_⟩
      simp only
      rw [List.getElem?_set_ne (by omega)]
      exact g2
  · intro f hf
    rcases List.mem_append.mp hf with h | h
    · exact I.ne2 f (by simp [h])
    · have : f = ⟨g.m, g.k, g.ps ++ us⟩ := by simpa using h
      subst this
      exact ⟨n1, n2⟩
  · have := I.sep
    rw [List.pairwise_append] at this ⊢
    refine ⟨this.1, by simp, fun a ha b hb => ?_⟩
    have hb : b = ⟨g.m, g.k, g.ps ++ us⟩ := by simpa using hb
    subst hb
    exact I.sepm a ha
  · have h := I.alt
    have : ∀ (q : Bool) (l : List Fr), altB q (l ++ [g]) → altB q (l ++ [⟨g.m, g.k, g.ps ++ us⟩]) := fun q l => by
      induction l generalizing q with
      | nil => exact fun h => h
      | cons a l ih => exact fun h => ⟨h.1, ih _ h.2⟩
    exact this _ _ h
  · intro f hf
    rcases List.mem_append.mp hf with h | h
    · exact I.ok f (by simp [h])
    · have : f = ⟨g.m, g.k, g.ps ++ us⟩ := by simpa using h
      subst this
      intro u hu'
      rcases List.mem_append.mp hu' with h | h
      · exact I.ok g (by simp) u h
      · exact hu u h
/-- the upper one goes -/
theorem PInv.pop {p : Bool} {S : Sto} {st : List Fr} {g : Fr} (I : PInv p S (st ++ [g])) : PInv p (S.set 2 (.lst (st.map fun f => .obj (f.m + 1)))) st := by
  have l2 : 2 < S.length := (List.getElem?_eq_some_iff.mp I.pile).1
  refine ⟨List.getElem?_set_self l2, ?_, fun f h => I.ne2 f (by simp [h]), (List.pairwise_append.mp I.sep).1, ?_, fun f h => I.ok f (by simp [h])⟩
  · intro f h
    obtain ⟨h1, h2⟩ := I.at_ f (by simp [h])
    obtain ⟨n1, n2⟩ := I.ne2 f (by simp [h])
    rw [List.getElem?_set_ne (by omega), List.getElem?_set_ne (by omega)]
    exact ⟨h1, h2⟩
  · have h := I.alt
    have : ∀ (q : Bool) (l : List Fr), altB q (l ++ [g]) → altB q l := fun q l => by
      induction l generalizing q with
      | nil => exact fun _ => trivial
      | cons a l ih => exact fun h => ⟨h.1, ih _ h.2⟩
    exact this _ _ h
def tupN (f : Fr) (n : Nat) : Ne := .k f.k (f.ps ++ List.replicate n Ne.w)
theorem tupN_ok {p : Bool} {S : Sto} {st : List Fr} {g f : Fr} (I : PInv p S (st ++ [g] ++ [f])) {n : Nat} (h2 : 2 ≤ f.ps.length + n) : okN (tupN f n) = true ∧ isK g.k (tupN f n) = false ∧ siz (tupN f n) = sizs f.ps + n := by
  have hk : f.k = !g.k := ((altB_two (p := p)).mp I.alt).2
  refine ⟨?_, ?_, ?_⟩
  · unfold tupN
    simp only [okN, Bool.and_eq_true, decide_eq_true_eq]
    refine ⟨by simp; omega, okNs_iff.mpr fun t ht => ?_⟩
    rcases List.mem_append.mp ht with h | h
    · exact I.ok f (by simp) t h
    · have := (List.mem_replicate.mp h).2
      subst this
      exact ⟨rfl, rfl⟩
  · exact not_own hk
  · unfold tupN
    simp only [siz, sizs_map, List.map_append, List.sum_append, List.map_replicate, List.sum_replicate_nat]
    simp [siz]
theorem Fr.len {p : Bool} {S : Sto} {st : List Fr} (I : PInv p S st) {f : Fr} (h : f ∈ st) : f.ps.length ≤ sizs f.ps ∧ sizs f.ps ≤ frW st := by
  constructor
  · have := sizs_pos f.k f.ps (okNs_iff.mpr (I.ok f h))
    omega
  · unfold frW
    exact le_sum (List.mem_map.mpr ⟨f, h, rfl⟩)
theorem S_nest_1 {p : Bool} {S : Sto} {st : List Fr} {g : Fr} {most w : Nat} {c : Int} {X y5 y6 y7 : Option D} (I : PInv p S (st ++ [g])) (hw : w = frW (st ++ [g])) (hm : w + (2 - g.ps.length) + lackP st ≤ most) (m6 : most ≤ 60) (hl : st.length ≤ 900) :
    ∃ S' st' g' w' y6' y7', turn (gmName 5) b_law_nest_k11_1 (.int c) [X, some (.str (sg p)), some (.int (most : Nat)), some (.obj 2), some (.int (w : Nat)), y5, y6, y7] S = .nx [X, some (.str (sg p)), some (.int (most : Nat)), some (.obj 2), some (.int (w' : Nat)), some (.int c), y6', y7'] S' ∧
      PInv p S' (st' ++ [g']) ∧ w' = frW (st' ++ [g']) ∧ w' + (2 - g'.ps.length) + lackP st' ≤ most ∧ st'.length ≤ st.length + 1 := by
  have hfz := I.frz
  have rl := fun S => (R_law_lack (st := st) (f := g)).run (S := S)
  have hpl := I.pile
  have l2 : 2 < S.length := (List.getElem?_eq_some_iff.mp hpl).1
  obtain ⟨g1, g2⟩ := I.at_ g (by simp)
  obtain ⟨n1, n2⟩ := I.ne2 g (by simp)
  obtain ⟨gl1, gl2⟩ := Fr.len I (f := g) (by simp)
  have hat : L2.atI ((st ++ [g]).map fun f => D.obj (f.m + 1)) (-1) = some (.obj (g.m + 1)) := by rw [List.map_append]; exact atI_last
  have hP : ((st ++ [g]).map fun f => D.obj (f.m + 1)).length = st.length + 1 := by simp
  have hG : (g.ps.map neD).length = g.ps.length := by simp
  have hG6 : (g.ps.map neD).length < 100000 := by omega
  have hP6 : ((st ++ [g]).map fun f => D.obj (f.m + 1)).length < 100000 := by omega
  obtain ⟨lk, hlk⟩ : ∃ lk, lk = (2 - g.ps.length) + lackP st := ⟨_, rfl⟩
  rw [← hlk] at rl
  have ix0 : L2.atI [D.str (sg g.k), .obj g.m] 0 = some (.str (sg g.k)) := rfl
  have ix1 : L2.atI [D.str (sg g.k), .obj g.m] 1 = some (.obj g.m) := rfl
  -- a word
  have hword : ∀ y6 y7 : Option D, (0 < most - w - lk ∨ g.ps.length < 2) → ∃ S' st' g' w' y6' y7', SR.nx [X, some (.str (sg p)), some (.int (most : Nat)), some (.obj 2), some (.int ((w : Nat) + 1)), some (.int c), y6, y7] (S.set g.m (.lst (g.ps.map neD ++ [.non]))) = .nx [X, some (.str (sg p)), some (.int (most : Nat)), some (.obj 2), some (.int (w' : Nat)), some (.int c), y6', y7'] S' ∧
      PInv p S' (st' ++ [g']) ∧ w' = frW (st' ++ [g']) ∧ w' + (2 - g'.ps.length) + lackP st' ≤ most ∧ st'.length ≤ st.length + 1 := fun y6 y7 h => by
    refine ⟨_, st, ⟨g.m, g.k, g.ps ++ [.w]⟩, w + 1, y6, y7, ?_, I.put (us := [.w]) (fun u hu => by rw [List.mem_singleton.mp hu]; exact ⟨rfl, rfl⟩), ?_, ?_, by omega⟩
    · rw [List.map_append]; rfl
    · rw [frW_snoc, hw, frW_snoc, sizs_snoc]; simp only [siz]; omega
    · simp only [List.length_append, List.length_singleton]; omega
  by_cases c0 : c % 4 = 0 ∧ (1 < most - w - lk ∨ (most - w - lk = 1 ∧ g.ps.length < 2))
  · obtain ⟨c0, hr⟩ := c0
    have hS2 : (S ++ [O.lst [], O.lst [D.str (sg !g.k), D.obj S.length]])[2]? = some (.lst ((st ++ [g]).map fun f => D.obj (f.m + 1))) := by rw [List.getElem?_append_left l2]; exact hpl
    refine ⟨_, st ++ [g], ⟨S.length, !g.k, []⟩, w, some (.int ((most : Int) - w - lk)), y7, ?_, I.open_, ?_, ?_, by simp⟩
    · have hp1 := pm_1 S
      have hp0 := pm_0 S
      have hrI : (1 : Int) < (most : Int) - w - lk ∨ ((most : Int) - w - lk = 1 ∧ (g.ps.length : Int) < 2) := by omega
      have hkk : (sg g.k = ("+" : Str)) ↔ g.k = true := by cases g.k <;> decide +kernel
      have hix : ∀ k : Bool, fIx (.str "+-") (.int (if k = true then 1 else 0)) S = .ok (.str (sg !k)) S := fun k => by cases k <;> assumption
      have hix := hix g.k
      generalize hNK : (!g.k) = nk at *
      have hlen : ∀ x : O, (S ++ [x]).length = S.length + 1 := fun x => by simp
      generalize ((st ++ [g]).map fun f => D.obj (f.m + 1)) = P at *
      generalize ((st ++ [g]).map frD) = Q at *
      generalize g.ps.map neD = PS at *
      by_cases h1 : (1 : Int) < (most : Int) - w - lk
      · simp [turn, b_law_nest_k11_1, hfz, rl, c0, h1, hpl, hat, g2, hkk, ix0, hix, hS2, hP6]
      · obtain ⟨h2, h3⟩ := hrI.resolve_left h1
        simp [turn, b_law_nest_k11_1, hfz, rl, c0, h2, h3, hG, hpl, hat, g1, g2, hkk, ix0, ix1, hix, hS2, hP6]
    · rw [frW_snoc]; simp [hw, sizs]
    · rw [lackP_snoc]; simp only [List.length_nil]; omega
  · have hrI : ¬ (c % 4 = 0 ∧ ((1 : Int) < (most : Int) - w - lk ∨ ((most : Int) - w - lk = 1 ∧ (g.ps.length : Int) < 2))) := fun h => c0 ⟨h.1, by omega⟩
    by_cases c3 : c % 4 = 3 ∧ 0 < st.length ∧ 1 < g.ps.length
    · obtain ⟨c3, hs, h1⟩ := c3
      have c30 : ¬ c % 4 = 0 := by omega
      obtain ⟨st, q, rfl⟩ : ∃ st1 q, st = st1 ++ [q] := ⟨st.dropLast, st.getLast (fun e => by rw [e] at hs; simp at hs), (List.dropLast_concat_getLast _).symm⟩
      obtain ⟨k1, k2, k3⟩ := tupN_ok I (n := 0) (by omega)
      have I1 := I.pop
      obtain ⟨q1, q2⟩ := I1.at_ q (by simp)
      obtain ⟨ql1, ql2⟩ := Fr.len I (f := q) (by simp)
      have hQ : (q.ps.map neD).length < 100000 := by rw [List.length_map]; omega
      have I2 := I1.put (us := [tupN g 0]) (fun u hu => by rw [List.mem_singleton.mp hu]; exact ⟨k1, k2⟩)
      refine ⟨_, st, ⟨q.m, q.k, q.ps ++ [tupN g 0]⟩, w, some (.int ((most : Int) - w - lk)), some (.obj (g.m + 1)), ?_, I2, ?_, ?_, by simp; omega⟩
      · have hgs : (S.set 2 (O.lst ((st ++ [q]).map fun f => D.obj (f.m + 1))))[g.m + 1]? = some (.lst [.str (sg g.k), .obj g.m]) := by rw [List.getElem?_set_ne (by omega)]; exact g2
        have hgs1 : (S.set 2 (O.lst ((st ++ [q]).map fun f => D.obj (f.m + 1))))[g.m]? = some (.lst (g.ps.map neD)) := by rw [List.getElem?_set_ne (by omega)]; exact g1
        have hp2 := I1.pile
        have hat2 : L2.atI ((st ++ [q]).map fun f => D.obj (f.m + 1)) (-1) = some (.obj (q.m + 1)) := by rw [List.map_append]; exact atI_last
        have hdl : ((st ++ [q] ++ [g]).map fun f => D.obj (f.m + 1)).dropLast = (st ++ [q]).map fun f => D.obj (f.m + 1) := by rw [List.map_append (l₁ := st ++ [q])]; exact List.dropLast_concat
        have hpop : ((st ++ [q] ++ [g]).map fun f => D.obj (f.m + 1))[((st ++ [q] ++ [g]).map fun f => D.obj (f.m + 1)).length - 1]? = some (.obj (g.m + 1)) := by simp
        have ix2 : L2.atI [D.str (sg q.k), .obj q.m] 1 = some (.obj q.m) := rfl
        have eN : (q.ps ++ [tupN g 0]).map neD = q.ps.map neD ++ [.tup [.str (sg g.k), .tup (g.ps.map neD)]] := by simp [tupN]
        rw [eN]
        have hP1 : (1 : Int) < ((((st ++ [q] ++ [g]).map fun f => D.obj (f.m + 1)).length : Nat) : Int) := by simp; omega
        have hg1 : (1 : Int) < (((g.ps.map neD).length : Nat) : Int) := by rw [hG]; omega
        have hG2 : ¬ (((g.ps.map neD).length : Nat) : Int) < 2 := by rw [hG]; omega
        generalize ((st ++ [q] ++ [g]).map fun f => D.obj (f.m + 1)) = P at *
        generalize ((st ++ [q]).map fun f => D.obj (f.m + 1)) = P1 at *
        generalize ((st ++ [q] ++ [g]).map frD) = Q at *
        generalize g.ps.map neD = PS at *
        generalize q.ps.map neD = QS at *
        simp [turn, b_law_nest_k11_1, hfz, rl, c30, c3, hpl, hat, g1, g2, ix0, ix1, hP1, hg1, hpop, hdl, hp2, hat2, hgs, hgs1, q1, q2, ix2, hQ]
      · rw [hw]; simp only [frW_snoc, sizs_snoc, k3]; omega
      · rw [lackP_snoc] at hm
        simp only [List.length_append, List.length_singleton]
        omega
    · have c3I : c % 4 = 3 → (1 : Int) < (st.length : Int) + 1 → ¬ (1 : Int) < (g.ps.length : Int) := fun h1 h2 h3 => c3 ⟨h1, by omega, by omega⟩
      have hP1 : ((((st ++ [g]).map fun f => D.obj (f.m + 1)).length : Nat) : Int) = (st.length : Int) + 1 := by rw [hP]; rfl
      have hGi : (((g.ps.map neD).length : Nat) : Int) = (g.ps.length : Int) := by rw [hG]
      have hwi : (0 < most - w - lk ∨ g.ps.length < 2) ↔ ((0 : Int) < (most : Int) - w - lk ∨ (g.ps.length : Int) < 2) := by omega
      have key : ∃ b : Bool, (b = true ↔ ((0 : Int) < (most : Int) - w - lk ∨ (g.ps.length : Int) < 2)) ∧ turn (gmName 5) b_law_nest_k11_1 (.int c) [X, some (.str (sg p)), some (.int (most : Nat)), some (.obj 2), some (.int (w : Nat)), y5, y6, y7] S =
          if b then SR.nx [X, some (.str (sg p)), some (.int (most : Nat)), some (.obj 2), some (.int ((w : Nat) + 1)), some (.int c), some (.int ((most : Int) - w - lk)), y7] (S.set g.m (.lst (g.ps.map neD ++ [.non]))) else .nx [X, some (.str (sg p)), some (.int (most : Nat)), some (.obj 2), some (.int (w : Nat)), some (.int c), some (.int ((most : Int) - w - lk)), y7] S := by
        generalize hroom : (most : Int) - w - lk = room at *
        generalize hgl : (g.ps.length : Int) = gl at *
        refine ⟨decide (0 < room) || decide (gl < 2), by simp, ?_⟩
        clear hword hm hw hwi c3 c0 I gl1 gl2
        generalize ((st ++ [g]).map fun f => D.obj (f.m + 1)) = P at *
        generalize ((st ++ [g]).map frD) = Q at *
        generalize g.ps.map neD = PS at *
        have hc : c % 4 = 0 ∨ c % 4 = 3 ∨ (¬ c % 4 = 0 ∧ ¬ c % 4 = 3) := by omega
        have hs : ((1 : Int) < (st.length : Int) + 1) ∨ ¬ ((1 : Int) < (st.length : Int) + 1) := Decidable.em _
        have h1 : (1 < room) ∨ room = 1 ∨ room < 1 := by omega
        have h2 : gl < 2 ∨ ¬ gl < 2 := Decidable.em _
        rcases hc with hc | hc | ⟨hc, hc'⟩
        · rcases h1 with h1 | h1 | h1
          · exact absurd ⟨hc, .inl h1⟩ hrI
          · rcases h2 with h2 | h2
            · exact absurd ⟨hc, .inr ⟨h1, h2⟩⟩ hrI
            · simp [turn, b_law_nest_k11_1, hfz, rl, hc, hroom, h1, h2, hpl, hat, g1, g2, ix0, ix1, hG6, hGi]
          · have h3 : ¬ 1 < room := by omega
            have h4 : ¬ room = 1 := by omega
            have h5 : ¬ 0 < room := by omega
            rcases h2 with h2 | h2
            · simp [turn, b_law_nest_k11_1, hfz, rl, hc, hroom, h2, h3, h4, h5, hpl, hat, g1, g2, ix0, ix1, hG6, hGi]
            · simp [turn, b_law_nest_k11_1, hfz, rl, hc, hroom, h2, h3, h4, h5, hpl, hat, g1, g2, ix0, ix1, hG6, hGi]
        · have hc0 : ¬ c % 4 = 0 := by omega
          rcases hs with hs | hs
          · have h6 := c3I hc hs
            have hs' : (0 : Int) < st.length := by omega
            have hsn : 0 < st.length := by omega
            rcases h2 with h2 | h2
            · by_cases h5 : 0 < room
              · simp [turn, b_law_nest_k11_1, hc, hc0, hs, hs', hsn, h6, h2, h5, hfz, rl, hroom, hpl, hat, g1, g2, ix0, ix1, hG6, hGi, hP1]
              · simp [turn, b_law_nest_k11_1, hc, hc0, hs, hs', hsn, h6, h2, h5, hfz, rl, hroom, hpl, hat, g1, g2, ix0, ix1, hG6, hGi, hP1]
            · by_cases h5 : 0 < room
              · simp [turn, b_law_nest_k11_1, hc, hc0, hs, hs', hsn, h6, h2, h5, hfz, rl, hroom, hpl, hat, g1, g2, ix0, ix1, hG6, hGi, hP1]
              · simp [turn, b_law_nest_k11_1, hc, hc0, hs, hs', hsn, h6, h2, h5, hfz, rl, hroom, hpl, hat, g1, g2, ix0, ix1, hG6, hGi, hP1]
          · have hs' : ¬ (0 : Int) < st.length := by omega
            have hsn : ¬ 0 < st.length := by omega
            rcases h2 with h2 | h2
            · by_cases h5 : 0 < room
              · simp [turn, b_law_nest_k11_1, hc, hc0, hs, hs', hsn, h2, h5, hfz, rl, hroom, hpl, hat, g1, g2, ix0, ix1, hG6, hGi, hP1]
              · simp [turn, b_law_nest_k11_1, hc, hc0, hs, hs', hsn, h2, h5, hfz, rl, hroom, hpl, hat, g1, g2, ix0, ix1, hG6, hGi, hP1]
            · by_cases h5 : 0 < room
              · simp [turn, b_law_nest_k11_1, hc, hc0, hs, hs', hsn, h2, h5, hfz, rl, hroom, hpl, hat, g1, g2, ix0, ix1, hG6, hGi, hP1]
              · simp [turn, b_law_nest_k11_1, hc, hc0, hs, hs', hsn, h2, h5, hfz, rl, hroom, hpl, hat, g1, g2, ix0, ix1, hG6, hGi, hP1]
        · rcases h2 with h2 | h2
          · by_cases h5 : 0 < room
            · simp [turn, b_law_nest_k11_1, hc, hc', h2, h5, hfz, rl, hroom, hpl, hat, g1, g2, ix0, ix1, hG6, hGi, hP1]
            · simp [turn, b_law_nest_k11_1, hc, hc', h2, h5, hfz, rl, hroom, hpl, hat, g1, g2, ix0, ix1, hG6, hGi, hP1]
          · by_cases h5 : 0 < room
            · simp [turn, b_law_nest_k11_1, hc, hc', h2, h5, hfz, rl, hroom, hpl, hat, g1, g2, ix0, ix1, hG6, hGi, hP1]
            · simp [turn, b_law_nest_k11_1, hc, hc', h2, h5, hfz, rl, hroom, hpl, hat, g1, g2, ix0, ix1, hG6, hGi, hP1]
      obtain ⟨b, hb, e⟩ := key
      cases b with
      | true =>
        obtain ⟨S', st', g', w', y6', y7', e2, r⟩ := hword (some (.int ((most : Int) - w - lk))) y7 (hwi.mpr (hb.mp rfl))
        exact ⟨S', st', g', w', y6', y7', e.trans e2, r⟩
      | false => exact ⟨_, st, g, w, _, _, e, I, hw, by omega, by omega⟩
theorem ev_repN {k : Int} {S : Sto} (h0 : -1000 ≤ k) (h1 : k ≤ 1000) : fMul false (.lst true [.non]) (.int k) S = .ok (.lst true ((List.replicate k.toNat Ne.w).map neD)) S := by
  have e2 : decide (([D.non] : List D).length * k.toNat ≤ big) = true := by
    have : (1000 : Nat) ≤ big := by decide
    simp; omega
  have e3 : decide (-1000000 ≤ k) = true := decide_eq_true (by omega)
  have e4 : decide (k ≤ 1000000) = true := decide_eq_true (by omega)
  have e5 : seqM S (.lst true [.non]) = some [.non] := rfl
  have e6 : (List.replicate k.toNat [D.non]).flatten = (List.replicate k.toNat Ne.w).map neD := by
    rw [List.map_replicate]
    generalize k.toNat = n
    induction n with
    | zero => rfl
    | succ n ih => rw [List.replicate_succ, List.flatten_cons, ih, List.replicate_succ]; rfl
  have e : fRep false (.lst true [.non]) (.int k) S = nw false ((List.replicate k.toNat Ne.w).map neD) S := by
    simp only [fRep, e5, e2, e3, e4, Bool.and_self, if_true, e6]
  simp only [fMul, orR, fI, e]
  rfl
theorem tup_add {f : Fr} {m : Nat} {S : Sto} (h : S[m]? = some (.lst (f.ps.map neD))) (h6 : f.ps.length ≤ 900) (n : Nat) (hn : n ≤ 2) : fAdd false (.obj m) (.lst true ((List.replicate n Ne.w).map neD)) S = .ok (.lst true ((f.ps ++ List.replicate n Ne.w).map neD)) S := by
  have hl : (f.ps.map neD).length + ((List.replicate n Ne.w).map neD).length ≤ 100000 := by simp; omega
  rw [List.map_append]
  generalize f.ps.map neD = A at *
  generalize (List.replicate n Ne.w).map neD = B at *
  simp [h, hl]
theorem while_nest {p : Bool} {X y1 y2 y5 y6 : Option D} {w : Nat} : ∀ (n : Nat) (S : Sto) (st : List Fr) (f : Fr) (y7 : Option D), PInv p S (st ++ [f]) → st.length < n → frW (st ++ [f]) + (2 - f.ps.length) + lackP st ≤ 60 → st.length ≤ 900 →
    ∃ S' f' y7', mWhile (mBin fGt (mCall fLen (aCons (mVar 3) (aNil))) (mC (.int 1))) b_law_nest_k11_2 n [X, y1, y2, some (.obj 2), some (.int (w : Nat)), y5, y6, y7] S = .nx [X, y1, y2, some (.obj 2), some (.int (w : Nat)), y5, y6, y7'] S' ∧ PInv p S' [f'] ∧
      sizs f'.ps + (2 - f'.ps.length) = frW (st ++ [f]) + (2 - f.ps.length) + lackP st
  | 0, S, st, f, y7, _, h, _, _ => by omega
  | n + 1, S, st, f, y7, I, h, hw, hl => by
    have hpl := I.pile
    have hP : ((((st ++ [f]).map fun f => D.obj (f.m + 1)).length : Nat) : Int) = (st.length : Int) + 1 := by simp
    by_cases hs : 0 < st.length
    · obtain ⟨st, q, rfl⟩ : ∃ st1 q, st = st1 ++ [q] := ⟨st.dropLast, st.getLast (fun e => by rw [e] at hs; simp at hs), (List.dropLast_concat_getLast _).symm⟩
      obtain ⟨g1, g2⟩ := I.at_ f (by simp)
      obtain ⟨n1, n2⟩ := I.ne2 f (by simp)
      obtain ⟨fl1, fl2⟩ := Fr.len I (f := f) (by simp)
      obtain ⟨k1, k2, k3⟩ := tupN_ok I (n := 2 - f.ps.length) (by omega)
      have I1 := I.pop
      obtain ⟨q1, q2⟩ := I1.at_ q (by simp)
      obtain ⟨ql1, ql2⟩ := Fr.len I (f := q) (by simp)
      have hQ : (q.ps.map neD).length < 100000 := by rw [List.length_map]; omega
      have I2 := I1.put (us := [tupN f (2 - f.ps.length)]) (fun u hu => by rw [List.mem_singleton.mp hu]; exact ⟨k1, k2⟩)
      have hgs : (S.set 2 (O.lst ((st ++ [q]).map fun f => D.obj (f.m + 1))))[f.m + 1]? = some (.lst [.str (sg f.k), .obj f.m]) := by rw [List.getElem?_set_ne (by omega)]; exact g2
      have hgs1 : (S.set 2 (O.lst ((st ++ [q]).map fun f => D.obj (f.m + 1))))[f.m]? = some (.lst (f.ps.map neD)) := by rw [List.getElem?_set_ne (by omega)]; exact g1
      have hp2 := I1.pile
      have hat2 : L2.atI ((st ++ [q]).map fun f => D.obj (f.m + 1)) (-1) = some (.obj (q.m + 1)) := by rw [List.map_append]; exact atI_last
      have hdl : ((st ++ [q] ++ [f]).map fun f => D.obj (f.m + 1)).dropLast = (st ++ [q]).map fun f => D.obj (f.m + 1) := by rw [List.map_append (l₁ := st ++ [q])]; exact List.dropLast_concat
      have hpop : ((st ++ [q] ++ [f]).map fun f => D.obj (f.m + 1))[((st ++ [q] ++ [f]).map fun f => D.obj (f.m + 1)).length - 1]? = some (.obj (f.m + 1)) := by simp
      have ix0 : L2.atI [D.str (sg f.k), .obj f.m] 0 = some (.str (sg f.k)) := rfl
      have ix1 : L2.atI [D.str (sg f.k), .obj f.m] 1 = some (.obj f.m) := rfl
      have ix2 : L2.atI [D.str (sg q.k), .obj q.m] 1 = some (.obj q.m) := rfl
      have eN : (q.ps ++ [tupN f (2 - f.ps.length)]).map neD = q.ps.map neD ++ [.tup [.str (sg f.k), .tup ((f.ps ++ List.replicate (2 - f.ps.length) Ne.w).map neD)]] := by simp [tupN]
      have hr := fun S => ev_repN (k := 2 - (f.ps.length : Int)) (S := S) (by omega) (by omega)
      have e2 : (2 - (f.ps.length : Int)).toNat = 2 - f.ps.length := by omega
      simp only [e2] at hr
      have ha := tup_add hgs1 (by omega) (2 - f.ps.length) (by omega)
      have hw2 : frW (st ++ [q] ++ [f]) + (2 - f.ps.length) + lackP (st ++ [q]) = frW (st ++ [⟨q.m, q.k, q.ps ++ [tupN f (2 - f.ps.length)]⟩]) + (2 - (q.ps ++ [tupN f (2 - f.ps.length)]).length) + lackP st := by
        simp only [frW_snoc, lackP_snoc, sizs_snoc, k3, List.length_append, List.length_singleton]
        omega
      obtain ⟨S', f', y7', e, I', hz⟩ := while_nest n _ st ⟨q.m, q.k, q.ps ++ [tupN f (2 - f.ps.length)]⟩ (some (.obj (f.m + 1))) I2 (by simp at h; omega) (by rw [← hw2]; exact hw) (by simp at hl; omega)
      refine ⟨S', f', y7', ?_, I', by rw [hz, hw2]⟩
      rw [← e]
      have hP1 : (1 : Int) < ((((st ++ [q] ++ [f]).map fun f => D.obj (f.m + 1)).length : Nat) : Int) := by simp; omega
      refine while_step ?_ (.inl ?_)
      · generalize ((st ++ [q] ++ [f]).map fun f => D.obj (f.m + 1)) = P at *
        simp [hpl, hP1]
      · rw [eN]
        have hFl : (((f.ps.map neD).length : Nat) : Int) = (f.ps.length : Int) := by simp
        clear e I2 I1 I hw2 hz k1 k2 k3 hP hw
        generalize ((st ++ [q] ++ [f]).map fun f => D.obj (f.m + 1)) = P at *
        generalize ((st ++ [q]).map fun f => D.obj (f.m + 1)) = P1 at *
        generalize ((f.ps ++ List.replicate (2 - f.ps.length) Ne.w).map neD) = T at *
        generalize ((List.replicate (2 - f.ps.length) Ne.w).map neD) = R at *
        generalize hfa : fAdd false = fa at *
        generalize f.ps.map neD = PS at *
        generalize q.ps.map neD = QS at *
        unfold b_law_nest_k11_2
        rw [hfa]
        simp [hpl, hpop, hdl, hp2, hat2, hgs, hgs1, q1, q2, ix0, ix1, ix2, hFl, hr, ha, hQ]
    · have h0 : st = [] := List.length_eq_zero_iff.mp (by omega)
      subst h0
      refine ⟨S, f, y7, ?_, I, by simp [frW, lackP]⟩
      refine while_end ?_
      have hP1 : ¬ (1 : Int) < (((([] ++ [f] : List Fr).map fun f => D.obj (f.m + 1)).length : Nat) : Int) := by simp
      generalize (([] ++ [f] : List Fr).map fun f => D.obj (f.m + 1)) = P at *
      simp [hpl, hP1]
theorem R_law_nest_k11 {cells : List Int} {p b : Bool} {most : Nat} (hl : cells.length ≤ 200) (m6 : most ≤ 60) : ∃ t, okN t = true ∧ siz t ≤ max 1 most ∧ (t = .w ∨ 2 ≤ siz t) ∧ Ret F_law_nest_k11 [.lst b (cells.map .int), .str (sg p), .int (most : Nat)] (neD t) := by
  have sC : cells = [] ↔ cells.map D.int = [] := by simp
  by_cases h0 : most < 2 ∨ cells = []
  · refine ⟨.w, rfl, by simp only [siz]; omega, .inl rfl, Ret.imm (S' := []) ?_ rfl⟩
    have hm : (most : Int) < 2 ↔ most < 2 := by omega
    by_cases h2 : most < 2
    · have h2i : (most : Int) < 2 := by omega
      simp [F_law_nest_k11, ev_runF, m_law_nest_k11, h2, h2i]
    · have h2i : ¬ (most : Int) < 2 := by omega
      have hc := h0.resolve_left h2
      subst hc
      simp [F_law_nest_k11, ev_runF, m_law_nest_k11, h2, h2i]
  · have h2 : ¬ most < 2 := fun h => h0 (.inl h)
    have h2i : ¬ (most : Int) < 2 := by omega
    have hc : ¬ cells.map D.int = [] := fun h => h0 (.inr (sC.mpr h))
    have I0 : PInv p [.lst [], .lst [.str (sg p), .obj 0], .lst [.obj 1]] ([] ++ [⟨0, p, []⟩]) := by
      refine ⟨rfl, ?_, ?_, ?_, ?_, ?_⟩
      · intro f hf
        have : f = ⟨0, p, []⟩ := by simpa using hf
        subst this
        exact ⟨rfl, rfl⟩
      · intro f hf
        have : f = ⟨0, p, []⟩ := by simpa using hf
        subst this
        exact ⟨by simp, by simp⟩
      · simp
      · exact ⟨rfl, trivial⟩
      · intro f hf
        have : f = ⟨0, p, []⟩ := by simpa using hf
        subst this
        intro u hu; cases hu
    obtain ⟨G1, S1, e1, st, g, w, y5, y6, y7, I, hw, hm, hs, rfl⟩ := for_pre (f := turn (gmName 5) b_law_nest_k11_1) (ι := D.int) (l := cells) (G := [some (.lst b (cells.map .int)), some (.str (sg p)), some (.int (most : Nat)), some (.obj 2), some (.int 0), none, none, none]) (S := [.lst [], .lst [.str (sg p), .obj 0], .lst [.obj 1]])
      (fun pre G S => ∃ st g w y5 y6 y7, PInv p S (st ++ [g]) ∧ w = frW (st ++ [g]) ∧ w + (2 - g.ps.length) + lackP st ≤ most ∧ st.length ≤ pre.length ∧ G = [some (.lst b (cells.map .int)), some (.str (sg p)), some (.int (most : Nat)), some (.obj 2), some (.int (w : Nat)), y5, y6, y7]) ⟨[], ⟨0, p, []⟩, 0, none, none, none, I0, rfl, by simp [lackP]; omega, by simp, rfl⟩ (fun pre c post G S he hI => by
        obtain ⟨st, g, w, y5, y6, y7, I, hw, hm, hs, rfl⟩ := hI
        have hpl : pre.length < cells.length := by rw [he]; simp
        obtain ⟨S', st', g', w', y6', y7', e, I', hw', hm', hs'⟩ := S_nest_1 (c := c) (X := some (.lst b (cells.map .int))) (y5 := y5) (y6 := y6) (y7 := y7) I hw hm m6 (by omega)
        exact ⟨_, _, .inl e, st', g', w', _, y6', y7', I', hw', hm', by simp; omega, rfl⟩)
    obtain ⟨S2, f, y7', e2, I2, hz⟩ := while_nest (X := some (.lst b (cells.map .int))) (y1 := some (.str (sg p))) (y2 := some (.int (most : Nat))) (y5 := y5) (y6 := y6) (w := w) 1000 S1 st g y7 I (by omega) (by omega) (by omega)
    obtain ⟨g1, g2⟩ := I2.at_ f (by simp)
    obtain ⟨fl1, fl2⟩ := Fr.len I2 (f := f) (by simp)
    have hfp : f.k = p := I2.alt.1
    have hft : okN (tupN f (2 - f.ps.length)) = true ∧ siz (tupN f (2 - f.ps.length)) = sizs f.ps + (2 - f.ps.length) := by
      refine ⟨?_, ?_⟩
      · unfold tupN
        simp only [okN, Bool.and_eq_true, decide_eq_true_eq]
        refine ⟨by simp; omega, okNs_iff.mpr fun t ht => ?_⟩
        rcases List.mem_append.mp ht with h | h
        · exact I2.ok f (by simp) t h
        · have := (List.mem_replicate.mp h).2
          subst this
          exact ⟨rfl, rfl⟩
      · unfold tupN
        simp only [siz, sizs_map, List.map_append, List.sum_append, List.map_replicate, List.sum_replicate_nat]
        simp [siz]
    have hp2 := siz_pos _ hft.1
    have hok := hft.1
    have hsz := hft.2
    have h2z : 2 ≤ siz (tupN f (2 - f.ps.length)) := by rw [hsz]; omega
    refine ⟨tupN f (2 - f.ps.length), hok, by rw [hsz]; omega, .inr h2z, Ret.imm (S' := S2) ?_ (imm_ne _)⟩
    have hpl := I2.pile
    have ix1 : L2.atI [D.str (sg f.k), .obj f.m] 1 = some (.obj f.m) := rfl
    have hr := fun S => ev_repN (k := 2 - (f.ps.length : Int)) (S := S) (by omega) (by omega)
    have e3 : (2 - (f.ps.length : Int)).toNat = 2 - f.ps.length := by omega
    simp only [e3] at hr
    have ha := tup_add g1 (by omega) (2 - f.ps.length) (by omega)
    have eN : neD (tupN f (2 - f.ps.length)) = .tup [.str (sg p), .tup ((f.ps ++ List.replicate (2 - f.ps.length) Ne.w).map neD)] := by rw [← hfp]; simp [tupN]
    rw [eN]
    have hFl : (((f.ps.map neD).length : Nat) : Int) = (f.ps.length : Int) := by simp
    have ixp : L2.atI [D.obj (f.m + 1)] 0 = some (.obj (f.m + 1)) := rfl
    have hpl' : S2[2]? = some (.lst [.obj (f.m + 1)]) := hpl
    clear hz fl1 fl2 hft hok hsz h2z hp2 eN I I2 I0 hw hm hpl
    generalize ((f.ps ++ List.replicate (2 - f.ps.length) Ne.w).map neD) = T at *
    generalize ((List.replicate (2 - f.ps.length) Ne.w).map neD) = R at *
    generalize f.ps.map neD = PS at *
    generalize cells.map D.int = CS at *
    simp only [F_law_nest_k11, ev_runF, m_law_nest_k11]
    generalize hfa : fAdd false = fa at *
    simp [h2i, hc, e1, e2, hpl', ixp, g2, ix1, g1, hFl, hr, ha]
end Ab

end
section
set_option maxRecDepth 100000
namespace Ab
open PySem PySem.Spec PyProof.Rows L2
def stirL (c k : Int) : Int := ((c % 2147483629 + 7919 * k + 1) * 48271 % 2147483647 * ((c % 2147483629 + 7919 * k + 1) * 48271 % 2147483647) % 2147483629 * 69621) % 2147483563
theorem R_law_stir {c k : Int} (h0 : 0 ≤ k) (h1 : k ≤ 1000) : Ret F_law_stir [.int c, .int k] (.int (stirL c k)) := by
  refine Ret.imm (S' := []) ?_ rfl
  have w1 : w64 k = true := w64_of (by omega) (by omega)
  have w2 : w64 (48271 : Int) = true := by decide
  have w3 : w64 (69621 : Int) = true := by decide
  simp [F_law_stir, ev_runF, m_law_stir, stirL, ev_mulI (.inr w1), ev_mulI (.inr w2), ev_mulI (.inr w3), ev_mulI (.inl (mod64 _ 2147483647 (by decide) (by decide))), ev_mulI (.inl (mod64 _ 2147483629 (by decide) (by decide))), div_small]
def celL (ns : List Int) (k : Nat) : Int := if k < ns.length then gI ns k else if ns.length = 0 then stirL ((k : Int) * k) k else stirL (gI ns (k % ns.length)) k
theorem R_law_cell {ns : List Int} {i : Int} {k : Nat} {b : Bool} (hi : i = k) (h : k ≤ 1000) : Ret F_law_cell [.lst b (ns.map .int), .int i] (.int (celL ns k)) := by
  subst hi
  have w1 : w64 (k : Int) = true := w64_of (by omega) (by omega)
  refine Ret.imm (S' := []) ?_ rfl
  by_cases hl : k < ns.length
  · have e : L2.atI (ns.map D.int) (k : Int) = some (.int (gI ns k)) := atI_gI rfl hl
    simp [F_law_cell, ev_runF, m_law_cell, hl, e, celL]
  · by_cases h0 : ns.length = 0
    · have s1 := fun S => (R_law_stir (c := (k : Int) * k) (k := (k : Int)) (by omega) (by omega)).run (S := S)
      have hns : ns = [] := List.length_eq_zero_iff.mp h0
      subst hns
      have hk0 : ¬ ((k : Int) < 0) := by omega
      simp [F_law_cell, ev_runF, m_law_cell, celL, ev_mulI (.inr w1), s1, hk0]
    · have hlt := Nat.mod_lt k (by omega : 0 < ns.length)
      have e : L2.atI (ns.map D.int) ((k : Int) % (ns.length : Int)) = some (.int (gI ns (k % ns.length))) := atI_gI (by omega) hlt
      have s1 := fun S => (R_law_stir (c := gI ns (k % ns.length)) (k := (k : Int)) (by omega) (by omega)).run (S := S)
      have hp : 0 < ns.length := by omega
      have hnn : ns ≠ [] := fun h => h0 (by rw [h]; rfl)
      simp [F_law_cell, ev_runF, m_law_cell, hl, h0, celL, e, s1, hp, hnn]
theorem R_law_many (c : Int) : ∃ n : Nat, 1 ≤ n ∧ n ≤ 60 ∧ Ret F_law_many [.int c] (.int n) := by
  have a0 := Int.emod_nonneg (c / 3) (b := 6) (by decide)
  have a1 := Int.emod_lt_of_pos (c / 3) (b := 6) (by decide)
  have b0 := Int.emod_nonneg (c / 3) (b := 60) (by decide)
  have b1 := Int.emod_lt_of_pos (c / 3) (b := 60) (by decide)
  have c0 := Int.emod_nonneg (c / 3) (b := 4) (by decide)
  have c1 := Int.emod_lt_of_pos (c / 3) (b := 4) (by decide)
  by_cases h0 : c % 3 = 0
  · obtain ⟨n, hn⟩ := Int.eq_ofNat_of_zero_le (by omega : 0 ≤ 1 + c / 3 % 6)
    refine ⟨n, by omega, by omega, Ret.imm (S' := []) ?_ rfl⟩
    simp [F_law_many, ev_runF, m_law_many, h0, div_small, hn]
  · by_cases h1 : c % 3 = 1
    · obtain ⟨n, hn⟩ := Int.eq_ofNat_of_zero_le (by omega : 0 ≤ 1 + c / 3 % 60)
      refine ⟨n, by omega, by omega, Ret.imm (S' := []) ?_ rfl⟩
      simp [F_law_many, ev_runF, m_law_many, h1, div_small, hn]
    · obtain ⟨n, hn⟩ := Int.eq_ofNat_of_zero_le (by omega : 0 ≤ 60 - c / 3 % 4)
      refine ⟨n, by omega, by omega, Ret.imm (S' := []) ?_ rfl⟩
      simp [F_law_many, ev_runF, m_law_many, h0, h1, div_small, hn]
theorem natD_erase (l : List Nat) (i : Nat) : (natD l).eraseIdx i = natD (l.eraseIdx i) := by
  induction l generalizing i with
  | nil => rfl
  | cons x l ih => cases i with
    | zero => rfl
    | succ i => exact congrArg (D.int (x : Int) :: ·) (ih i)
theorem erase_perm : ∀ {l : List Nat} {i w : Nat}, l[i]? = some w → (w :: l.eraseIdx i).Perm l
  | [], i, w, h => by simp at h
  | x :: l, 0, w, h => by
    have : x = w := by simpa using h
    subst this; exact List.Perm.refl _
  | x :: l, i + 1, w, h => by
    have h := erase_perm (l := l) (i := i) (w := w) (by simpa using h)
    exact (List.Perm.swap x w _).trans (h.cons x)
theorem isOrd_rng {l : List Nat} {n : Nat} (h : l.Perm (List.range n)) : isOrd l ∧ l.length = n := by
  have hl : l.length = n := by rw [h.length_eq, List.length_range]
  exact ⟨⟨h.nodup_iff.mpr List.nodup_range, fun x hx => by rw [hl]; exact List.mem_range.mp (h.mem_iff.mp hx)⟩, hl⟩
theorem R_law_order_k01 {ns : List Int} {first many : Nat} {b : Bool} (h6 : many ≤ 100) (hf : first ≤ 800) : ∃ l : List Nat, isOrd l ∧ l.length = many ∧ Ret F_law_order_k01 [.lst b (ns.map .int), .int first, .int many] (.lst true (natD l)) := by
  obtain ⟨G1, S1, e1, y5, F, L, hp, hl, rfl, rfl⟩ := for_rg (f := turn (gmName 5) b_law_order_k01_1) (lo := 0) (n := many) (G := [some (.lst b (ns.map .int)), some (.int first), some (.int many), some (.obj 0), some (.obj 1), none]) (S := [.lst (natD (List.range many)), .lst []])
    (fun i G S => ∃ y5, ∃ F L : List Nat, (F ++ L).Perm (List.range many) ∧ F.length = i ∧ G = [some (.lst b (ns.map .int)), some (.int first), some (.int many), some (.obj 0), some (.obj 1), y5] ∧ S = [.lst (natD L), .lst (natD F)]) ⟨none, [], List.range many, by simp, rfl, rfl, rfl⟩ (fun i hi G S hI => by
      obtain ⟨y5, F, L, hp, hl, rfl, rfl⟩ := hI
      rw [Int.zero_add]
      have hlen := hp.length_eq
      rw [List.length_append, List.length_range] at hlen
      have hL : (0 : Int) < (L.length : Int) := by omega
      have hLL : ((natD L).length : Int) = (L.length : Int) := by rw [natD_len]
      have rc := fun S => (R_law_cell (ns := ns) (i := (first : Int) + i) (k := first + i) (b := false) (by omega) (by omega)).run (S := S)
      have k0 := Int.emod_nonneg (celL ns (first + i)) (b := (L.length : Int)) (by omega)
      have k1 := Int.emod_lt_of_pos (celL ns (first + i)) (b := (L.length : Int)) (by omega)
      obtain ⟨p, hp'⟩ := Int.eq_ofNat_of_zero_le k0
      rw [hp'] at k1
      obtain ⟨w, hw⟩ : ∃ w, L[p]? = some w := ⟨_, List.getElem?_eq_getElem (by omega)⟩
      have hget := natD_get hw
      refine ⟨_, _, .inl ?_, some (.int i), F ++ [w], L.eraseIdx p, ?_, by simp [hl], rfl, rfl⟩
      · have hpl : (p : Int) < ((natD L).length : Int) := by rw [natD_len]; omega
        have hp6 : (p : Int) ≤ 100000 := by omega
        have hFl : (natD F).length < 100000 := by rw [natD_len]; omega
        rw [← natD_erase, natD_append, natD_one]
        generalize natD L = LL at *
        generalize natD F = FF at *
        have hp6' : p ≤ 100000 := by omega
        have hLn : 0 < L.length := by omega
        have hpl' : p < LL.length := by omega
        have hpL : p < L.length := by omega
        obtain ⟨hg1, hg2⟩ := List.getElem?_eq_some_iff.mp hget
        simp [b_law_order_k01_1, turn, rc, hLL, hLn, hp', hpL, hp6, hg2, hget, hFl]
      · rw [List.append_assoc]
        exact ((erase_perm hw).append_left F).trans hp)
  have hlen := hp.length_eq
  rw [List.length_append, List.length_range] at hlen
  have hL : L = [] := List.length_eq_zero_iff.mp (by omega)
  subst hL
  rw [List.append_nil] at hp
  obtain ⟨ho, hol⟩ := isOrd_rng hp
  refine ⟨F, ho, hol, Ret.of (e := .obj 1) (S' := [.lst (natD []), .lst (natD F)]) ?_ (by simp) (by simp)⟩
  have hm : (many : Int) ≤ 100000 := by omega
  have hm1 : (many : Int) ≤ 1000000 := by omega
  have hm2 : (-1000000 : Int) ≤ many := by omega
  have er : rgD 0 many = natD (List.range many) := rgD_nat many
  have hm' : many ≤ 100000 := by omega
  simp only [er] at e1
  simp only [natD_nil] at e1 ⊢
  generalize natD (List.range many) = R at *
  generalize natD F = FF at *
  simp [F_law_order_k01, ev_runF, m_law_order_k01, hm, hm1, hm2, er, e1, hm']
theorem R_law_told_k02 {l due : List Nat} {b : Bool} (_h : l.length ≤ 100000) (hd : l = due) : Ret F_law_told_k02 [tupD l, .lst b (natD due)] (.bl true) := by
  subst hd
  refine Ret.imm (S' := []) ?_ rfl
  obtain ⟨G', S', e, y, rfl, rfl⟩ := for_pre (f := turn (gmName 2) b_law_told_k02_1) (ι := fun w : Nat => D.int (w : Int)) (l := l) (G := [some (tupD l), some (.lst b (natD l)), none]) (S := [])
    (fun _ G S => ∃ y, G = [some (tupD l), some (.lst b (natD l)), y] ∧ S = []) ⟨none, rfl, rfl⟩ (fun pre w post G S _ hI => by
      obtain ⟨y, rfl, rfl⟩ := hI
      refine ⟨_, _, .inl ?_, some (.int w), rfl, rfl⟩
      simp [turn, b_law_told_k02_1, isT, tyD])
  have e' : forRun always (turn (gmName 2) b_law_told_k02_1) (natD l) [some (.tup (natD l)), some (.lst b (natD l)), none] [] = .nx [some (.tup (natD l)), some (.lst b (natD l)), y] [] := e
  simp [F_law_told_k02, ev_runF, m_law_told_k02, tupD, isT, tyD, e']
theorem R_law_told_k02T {l due : List Nat} (_h : l.length ≤ 100000) (hd : l = due) : Ret F_law_told_k02 [tupD l, .tup (natD due)] (.bl true) := by
  subst hd
  refine Ret.imm (S' := []) ?_ rfl
  obtain ⟨G', S', e, y, rfl, rfl⟩ := for_pre (f := turn (gmName 2) b_law_told_k02_1) (ι := fun w : Nat => D.int (w : Int)) (l := l) (G := [some (tupD l), some (.tup (natD l)), none]) (S := [])
    (fun _ G S => ∃ y, G = [some (tupD l), some (.tup (natD l)), y] ∧ S = []) ⟨none, rfl, rfl⟩ (fun pre w post G S _ hI => by
      obtain ⟨y, rfl, rfl⟩ := hI
      refine ⟨_, _, .inl ?_, some (.int w), rfl, rfl⟩
      simp [turn, b_law_told_k02_1, isT, tyD])
  have e' : forRun always (turn (gmName 2) b_law_told_k02_1) (natD l) [some (.tup (natD l)), some (.tup (natD l)), none] [] = .nx [some (.tup (natD l)), some (.tup (natD l)), y] [] := e
  simp [F_law_told_k02, ev_runF, m_law_told_k02, tupD, isT, tyD, e']
end Ab

end
section
set_option maxRecDepth 100000
namespace Ab
open PySem PySem.Spec PyProof.Rows L2
theorem chks_app' (k : Str) : ∀ a b : List D, chks k (a ++ b) = (chks k a).bind fun x => (chks k b).map (x + ·)
  | [], b => by simp only [List.nil_append, chks, Option.bind_some]; cases chks k b <;> simp
  | x :: a, b => by
    simp only [List.cons_append, chks, chks_app' k a b]
    cases chk k x with
    | none => rfl
    | some n => cases chks k a <;> cases chks k b <;> simp [Nat.add_assoc]
def bigC (k : Str) (x : D) : Prop := ∀ n, chk k x = some n → 60 < n
theorem chks_big (k : Str) {x : D} (hx : bigC k x) : ∀ {l : List D}, x ∈ l → ∀ n, chks k l = some n → 60 < n
  | y :: l, h, n, e => by
    simp only [chks] at e
    obtain ⟨a, ha, e⟩ := Option.bind_eq_some_iff.mp e
    obtain ⟨b, hb, e⟩ := Option.map_eq_some_iff.mp e
    rcases List.mem_cons.mp h with h | h
    · subst h
      have := hx a ha
      omega
    · have := chks_big k hx h b hb
      omega
theorem chk_sg' {p : Bool} {xs : List D} (h : 2 ≤ xs.length) : chk "" (.tup [.str (sg p), .tup xs]) = chks (sg p) xs := by
  have h1 : (sg p == "+" || sg p == "-") = true := sg_kind p
  have h2 : (sg p == ("" : Str)) = false := by cases p <;> decide +kernel
  simp only [chk, h1, h2]
  rw [if_pos (by simp; exact h)]
theorem chk_own' {p : Bool} {ps : List Ne} : chk (sg p) (neD (.k p ps)) = none := by
  have h : (sg p == sg p) = true := by rw [sg_eq]; simp
  rw [neD_k]
  simp only [chk, h]
  simp
mutual
theorem noObj_n14 : ∀ t : Ne, noObj (neD t) = true
  | .w => rfl
  | .k p ps => by
    have := noObjs_n14 ps
    rw [← neDs_map] at this
    simp [neD, noObj, noObjs, this]
theorem noObjs_n14 : ∀ ts : List Ne, noObjs (ts.map neD) = true
  | [] => rfl
  | t :: ts => by simp [noObjs, noObj_n14 t, noObjs_n14 ts]
end
theorem noObjs_app : ∀ {a b : List D}, noObjs (a ++ b) = (noObjs a && noObjs b)
  | [], b => by simp [noObjs]
  | x :: a, b => by simp [noObjs, noObjs_app (a := a) (b := b), Bool.and_assoc]
theorem allTs_app' : ∀ {a b : List D}, allTs (a ++ b) = (allTs a && allTs b)
  | [], b => by simp [allTs]
  | x :: a, b => by simp [allTs, allTs_app' (a := a) (b := b), Bool.and_assoc]
theorem lows_app' (a b : List D) : lows (a ++ b) = lows a ++ lows b := by simp [lows_map]
theorem lows_ne' (ts : List Ne) : lows (ts.map neD) = ts.map neD := by
  have := frzns_iff.mpr (fun d hd => by
    obtain ⟨t, _, rfl⟩ := List.mem_map.mp hd
    exact frzn_imm _ (imm_ne t) : ∀ d ∈ ts.map neD, frzn d = true)
  exact lows_frzn _ this
theorem badN_of' {d : D} (h1 : noObj d = true) (h2 : bigC "" (low d)) (h3 : kn (low d) ≤ 900) : badN d = true := by
  have : isN (low d) = false := by
    unfold isN
    cases h : chk "" (low d) with
    | none => rfl
    | some n => simp only [decide_eq_false_iff_not]; have := h2 n h; omega
  simp [badN, h1, this, h3]
theorem kns_of' (p : Bool) {ps : List Ne} (ok : okNs p ps = true) : kns (ps.map neD) ≤ 2 * sizs ps := by
  have := kns_ne p ps ok
  rw [neDs_map] at this
  omega
theorem kn_tup' (s : Str) (xs : List D) : kn (.tup [.str s, .tup xs]) = kns xs + 1 := by simp [kn]
theorem sub_sum14 {a b : List Nat} (h : a.Sublist b) : a.sum ≤ b.sum := by
  induction h with
  | slnil => exact Nat.le_refl _
  | cons x _ ih => rw [List.sum_cons]; omega
  | cons_cons x _ ih => rw [List.sum_cons, List.sum_cons]; omega
theorem kns_sub {p : Bool} {ps A : List Ne} (ok : okNs p ps = true) (h : A.Sublist ps) : kns (A.map neD) ≤ 2 * sizs ps := by
  have ok1 : okNs p A = true := okNs_iff.mpr fun t ht => okNs_iff.mp ok t (h.subset ht)
  have := kns_of' p ok1
  have z : sizs A ≤ sizs ps := by rw [sizs_map, sizs_map]; exact sub_sum14 (h.map _)
  omega
/-- a bad thing among the parts -/
theorem badN_put {p : Bool} {A B : List Ne} {x : D} (h1 : noObj x = true) (h2 : allT x = true) (h3 : bigC (sg p) (low x)) (h4 : kn (low x) ≤ 500) (hA : kns (A.map neD) ≤ 150) (hB : kns (B.map neD) ≤ 150) :
    badN (.tup [.str (sg p), .tup (A.map neD ++ [x] ++ B.map neD)]) = true ∧ allT (.tup [.str (sg p), .tup (A.map neD ++ [x] ++ B.map neD)]) = true := by
  have a1 : ∀ l : List Ne, allTs (l.map neD) = true := fun l => allTs_ne l
  refine ⟨badN_of' ?_ ?_ ?_, ?_⟩
  · simp [noObj, noObjs, noObjs_app, noObjs_n14, h1]
  · intro n h
    simp only [low, lows, lows_app', lows_ne'] at h
    by_cases hl : 2 ≤ (A.map neD ++ [low x] ++ B.map neD).length
    · rw [chk_sg' hl] at h
      exact chks_big _ h3 (by simp) n h
    · simp only [chk] at h
      split at h
      · rename_i hc
        simp only [Bool.and_eq_true, decide_eq_true_eq] at hc
        exact absurd hc.2 hl
      · cases h
  · simp only [low, lows, lows_app', lows_ne']
    rw [kn_tup', kns_append, kns_append]
    simp only [kns]
    omega
  · simp [allT, allTs, allTs_app', h2]
def bad14 : List D := [.int 0, .bl true, .str "", .str ".", .lst true [], .tup [], .lst true [.non, .non], .tup [.str "+", .tup [.non]], .tup [.str "", .tup [.non, .non]], .emp true, .tup [.non, .non], .tup [.str "-", .lst true []]]
def bad2 : List D := [.tup [.str "*", .tup [.non, .non]], .tup [.str "+", .tup (List.replicate 61 .non)]]
def bigB (k : Str) (x : D) : Bool := match chk k x with
  | some n => decide (60 < n)
  | none => true
theorem bigB_iff {k : Str} {x : D} (h : bigB k x = true) : bigC k x := fun n e => by
  unfold bigB at h; rw [e] at h; simpa using h
theorem bad14_ok : (bad14 ++ bad2).all (fun d => noObj d && allT d && bigB "+" (low d) && bigB "-" (low d) && bigB "" (low d) && decide (kn (low d) ≤ 100)) = true := by decide +kernel
theorem bad14_of {d : D} (h : d ∈ bad14 ++ bad2) : noObj d = true ∧ allT d = true ∧ (∀ p, bigC (sg p) (low d)) ∧ bigC "" (low d) ∧ kn (low d) ≤ 100 := by
  have := List.all_eq_true.mp bad14_ok d h
  simp only [Bool.and_eq_true, decide_eq_true_eq] at this
  obtain ⟨⟨⟨⟨⟨h1, h2⟩, h3⟩, h4⟩, h5⟩, h6⟩ := this
  exact ⟨h1, h2, fun p => by cases p; exact bigB_iff h4; exact bigB_iff h3, bigB_iff h5, h6⟩
end Ab

end
section
set_option Elab.async false
set_option linter.all false
set_option maxRecDepth 100000
namespace PySem.W
open PySem PySem.Calls PyProof.Rows
section
variable {prog : Program} {w : World} {A : Around} {E : Value → Shared → Prop} {s : Shared} {a kS : Addr} {vs : List Value} {e1 : Nat} {P : PySem.Fin → Shared → Prop} {kz : List PyData}
/-- behind i calls of the key -/
def AbKeys (s : Shared) (hB : Heap) (a kS : Addr) (e1 : Nat) (kz : List PyData) (i : Nat) (z : Shared) : Prop :=
  ∃ (g : Heap) (tk : Nat) (kA : Array Value) (c : Nat), z = { s with heap := g, toks := tk } ∧ KeepsBut a hB g ∧ g.get? kS = some (seqObj "list" kA c) ∧ g.get? a = some (seqObj "list" #[] e1) ∧
    EachIs (fun v k => Reads g v k [] ∧ alike k k = true) kA.toList (kz.take i)
def AbSorts (prog : Program) (w : World) (A : Around) (s : Shared) (kz : List PyData) : Prop :=
  ∀ (g : Heap) (tk : Nat) (ks : List Value), EachIs (fun v k => ∃ as, Reads g v k as) ks kz → SortsAt prog w A { s with heap := g, toks := tk } (dataKind g kz) ks
theorem ab_one {f : Value} {hB : Heap} {j : Nat} {x : Value} {z : Shared} (nS : hB.get? kS = none) (ne : kS ≠ a) (hlen : kz.length = vs.length) (hZ : vs.length ≤ sizeLine) (hal : AllAlike kz) (hx : vs[j]? = some x)
    (turn : ∀ (i : Nat) (v : Value) (k : PyData), vs[i]? = some v → kz[i]? = some k → ∀ (g : Heap) (tk : Nat), KeepsBut a hB g →
      wpAny (model prog w) A (call f [v]) (KeyPure k { s with heap := g, toks := tk }) (fun _ _ => False) { s with heap := g, toks := tk })
    (I : AbKeys s hB a kS e1 kz j z) {Q : Value → Shared → Prop} (hQ : ∀ (v : Value) (z1 : Shared) (g : Heap) (kA : Array Value) (c : Nat), z1.heap = g → g.get? kS = some (seqObj "list" kA c) → kA.size ≤ sizeLine →
      AbKeys s hB a kS e1 kz (j + 1) { z1 with heap := g.update kS (Obj.mapSeq (·.push v)) } → Q v z1) :
    wpAny (model prog w) A (call f [x]) Q (fun _ _ => False) z := by
  obtain ⟨g, tk, kA, c, rfl, kp, oS, oa, hk⟩ := I
  have hj : j < vs.length := (List.getElem?_eq_some_iff.mp hx).1
  obtain ⟨k, hkj⟩ : ∃ k, kz[j]? = some k := ⟨_, List.getElem?_eq_getElem (by omega)⟩
  have hkm := List.mem_of_getElem? hkj
  have hkk : alike k k = true := hal k hkm k hkm
  have hz : kA.size ≤ vs.length := by
    have hl := hk.length
    rw [Array.length_toList, List.length_take] at hl
    omega
  refine wpAny_mono (turn j x k hx hkj g tk kp) (fun v z1 hv => ?_) fun _ _ no => no
  obtain ⟨g2, tk2, rfl, keep, rd⟩ := hv
  have oS2 := keep _ _ oS
  have oa2 := keep _ _ oa
  have sb := Heap.SameBut.update g2 kS (Obj.mapSeq (·.push v))
  obtain ⟨c2, o2⟩ : ∃ c2, (g2.update kS (Obj.mapSeq (·.push v))).get? kS = some (seqObj "list" (kA.push v) c2) := ⟨_, get?_update_seq oS2 (·.push v)⟩
  have still : ∀ (u : Value) (d : PyData), Reads g2 u d [] → alike d d = true → Reads (g2.update kS (Obj.mapSeq (·.push v))) u d [] := fun u d ru al =>
    Reads.keepBut (a := kS) (fun b o nb hb => (sb.2 b nb).trans hb) (fun o ho => by rw [oS2] at ho; cases ho; rfl) d u [] al ru (by simp)
  refine hQ v _ g2 kA c rfl oS2 (Nat.le_trans hz hZ) ⟨_, tk2, kA.push v, c2, rfl, (kp.trans_all keep).same sb (.inr nS), o2, (sb.2 a ne.symm).trans oa2, ?_⟩
  have t1 : kz.take (j + 1) = kz.take j ++ [k] := by rw [List.take_add_one, hkj]; rfl
  have t2 : (kA.push v).toList = kA.toList ++ [v] := by simp
  rw [t1, t2]
  exact each_snoc (R := fun (u : Value) (d : PyData) => Reads (g2.update kS (Obj.mapSeq (·.push v))) u d [] ∧ alike d d = true) ⟨still v k rd hkk, hkk⟩
    (hk.mono fun u d q => ⟨still u d (PyProof.Rows.Reads.keeps keep q.1) q.2, q.2⟩)
theorem ab_rest {f : Value} {hB : Heap} (nS : hB.get? kS = none) (ne : kS ≠ a) (hlen : kz.length = vs.length) (hZ : vs.length ≤ sizeLine) (hal : AllAlike kz) (srt : AbSorts prog w A s kz) (I : AbKeys s hB a kS e1 kz 0 s)
    (turn : ∀ (i : Nat) (v : Value) (k : PyData), vs[i]? = some v → kz[i]? = some k → ∀ (g : Heap) (tk : Nat), KeepsBut a hB g →
      wpAny (model prog w) A (call f [v]) (KeyPure k { s with heap := g, toks := tk }) (fun _ _ => False) { s with heap := g, toks := tk })
    (fin : ∀ (g : Heap) (tk : Nat) (out : List Value) (c : Nat), KeepsBut a hB g → g.get? a = some (seqObj "list" (List.toArray out) c) → KeyedOut false kz vs out → P (.done (.ret .none)) { s with heap := g, toks := tk }) :
    wpAny (model prog w) A (ksk_rest a f false vs.toArray e1 (.ref kS)) P E s := by
  unfold ksk_rest
  refine wpAny_bind (wpAny_rule ?_)
  first
    | rw [List.forIn_toArray]
    | (rw [← Array.forIn_toList]; simp only [List.toList_toArray])
    | rw [← Array.forIn_toList]
  refine wpAny_bind (ksk_fold (AbKeys s hB a kS e1 kz) vs 0 s I (fun j x z hx J => ?_) fun z J => ?_)
  · simp only [Nat.zero_add] at J ⊢
    refine wpAny_bind (wpAny_attempt (wpAny_mono (ab_one (f := f) (vs := vs) nS ne hlen hZ hal hx turn J (Q := fun v z1 => ∃ (kA : Array Value) (c : Nat), z1.heap.get? kS = some (seqObj "list" kA c) ∧ kA.size ≤ sizeLine ∧ AbKeys s hB a kS e1 kz (j + 1) { z1 with heap := z1.heap.update kS (Obj.mapSeq (·.push v)) })
      fun v z1 g kA c hg o1 hs J1 => ⟨kA, c, by rw [hg]; exact o1, hs, by rw [hg]; exact J1⟩) (fun v z1 hv => ?_) fun _ _ no => no.elim))
    obtain ⟨kA, c, o1, hs, J1⟩ := hv
    try dsimp only
    exact wpAny_bind (listUpdate_at o1 rfl (wpAny_pure ⟨rfl, J1⟩) hs (Nat.le_trans (Nat.le_of_eq (Array.size_push ..)) (Nat.succ_le_succ hs)))
  · obtain ⟨g, tk, kA, c, rfl, kp, oS, oa, hk⟩ := J
    have ek : kz.take (0 + vs.length) = kz := List.take_of_length_le (by omega)
    rw [ek] at hk
    have hk2 : EachIs (fun v k => ∃ as, Reads g v k as) kA.toList kz := hk.mono fun _ _ q => ⟨_, q.1⟩
    have hs : kA.size = vs.length := by
      have hl := hk2.length
      rw [Array.length_toList] at hl
      omega
    try dsimp only
    refine wpAny_bind (listItems_at oS rfl ?_)
    exact keyH_end (κ := dataKind g kz) (h₁ := hB) kp nS oS oa ne (srt g tk _ hk2) hs hZ fun g3 tk3 c3 k3 n3 => fin g3 tk3 _ c3 k3 n3 ⟨g, kA.toList, hal, rfl, hk2⟩
theorem ab_tree {f : Value} {n : Nat} (ho : s.heap.get? a = some (seqObj "list" vs.toArray n)) (hlen : kz.length = vs.length) (hZ : vs.length ≤ sizeLine) (hal : AllAlike kz) (srt : ∀ g tk, AbSorts prog w A { s with heap := g, toks := tk } kz)
    (turn : ∀ (i : Nat) (v : Value) (k : PyData), vs[i]? = some v → kz[i]? = some k → ∀ (g : Heap) (tk : Nat), KeepsBut a s.heap g →
      wpAny (model prog w) A (call f [v]) (KeyPure k { s with heap := g, toks := tk }) (fun _ _ => False) { s with heap := g, toks := tk })
    (fin : ∀ (g : Heap) (tk : Nat) (out : List Value) (c : Nat), KeepsBut a s.heap g → g.get? a = some (seqObj "list" (List.toArray out) c) → KeyedOut false kz vs out → P (.done (.ret .none)) { s with heap := g, toks := tk }) :
    wpAny (model prog w) A (ksk_tree a f false) P E s := by
  have lt := Heap.lt_size ho
  obtain ⟨e1, o1⟩ : ∃ e1, (s.heap.update a (Obj.mapSeq fun _ => (#[] : Array Value))).get? a = some (seqObj "list" #[] e1) := ⟨_, get?_update_seq ho fun _ => #[]⟩
  have sz : ((s.heap.update a (Obj.mapSeq fun _ => (#[] : Array Value))).push (seqObj "tuple" vs.toArray 0)).objs.size = s.heap.objs.size + 1 := by rw [size_push', Heap.size_update]
  unfold ksk_tree
  refine wpAny_bind (listItems_at ho rfl (wpAny_bind (listUpdate_at ho rfl ?_ (by rw [List.size_toArray]; exact hZ) (Nat.zero_le _))))
  refine wpAny_bind (seqEpoch_at o1 rfl (wpAny_bind (wpAny_newTuple ?_ (by show vs.length ≤ _; exact hZ))))
  refine wpAny_bind (wpAny_newList (wpAny_holding ?_) (Nat.zero_le _))
  have ne : ((s.heap.update a (Obj.mapSeq fun _ => (#[] : Array Value))).push (seqObj "tuple" vs.toArray 0)).objs.size ≠ a := by rw [sz]; exact Nat.ne_of_gt (Nat.lt_succ_of_lt lt)
  refine ab_rest (hB := s.heap) (s := { s with heap := ((s.heap.update a (Obj.mapSeq fun _ => (#[] : Array Value))).push (seqObj "tuple" vs.toArray 0)).push (seqObj "list" #[] 0) })
    (Heap.get?_none_of_le (by rw [sz]; exact Nat.le_succ _)) ne hlen hZ hal (srt _ _) ⟨_, s.toks, #[], 0, rfl, fun b o nb hb => sortingHeap_old nb hb, Heap.get?_push_size _ rfl, Heap.get?_push_of_some _ (Heap.get?_push_of_some _ o1), .nil⟩ turn fin
end
section
variable {prog : Program} {w : World} {A : Around} {E : Value → Shared → Prop} {s : Shared} {r q : Addr} {n : Nat} {t u v : Tok} {Q : Value → Shared → Prop}
theorem ab_range_items : ∀ (l : List Value) (m : Nat) (i : Nat), l.length = m → (∀ j x, l[j]? = some x → ∃ t, x = Value.int ((i + j : Nat) : Int) t) → EachIs (fun (x : Value) (k : Nat) => ∃ t, x = Value.int (k : Int) t) l (List.range' i m)
  | [], m, i, h, _ => by
    have : m = 0 := by simpa using h.symm
    subst this
    exact .nil
  | x :: l, 0, i, h, _ => by simp at h
  | x :: l, m + 1, i, h, g => by
    rw [List.range'_succ]
    refine .cons (g 0 x rfl) (ab_range_items l m (i + 1) (by simpa using h) fun j y hy => ?_)
    obtain ⟨t, e⟩ := g (j + 1) y (by simpa using hy)
    exact ⟨t, by rw [e]; congr 2; omega⟩
/-- sorted(range(n), key=q) -/
theorem ab_sorted_range (hh : A.handled = none) (hr : IsRange s.heap r 0 (n : Int) 1 t u v) (hn : n ≤ 1000) (k : Nat → PyData) (hal : AllAlike ((List.range n).map k)) (srt : ∀ g tk, AbSorts prog w A.in1.in1 { s with heap := g, toks := tk } ((List.range n).map k))
    (turn : ∀ (i : Nat) (t' : Tok), i < n → ∀ (g : Heap) (tk : Nat), (∀ b o, s.heap.get? b = some o → g.get? b = some o) →
      wpAny (model prog w) A.in1.in1 (call (.ref q) [Value.int (i : Int) t']) (KeyPure (k i) { s with heap := g, toks := tk }) (fun _ _ => False) { s with heap := g, toks := tk })
    (fin : ∀ (g0 g : Heap) (tk : Nat) (p : Addr) (out : List Value) (c : Nat), (∀ b o, s.heap.get? b = some o → g0.get? b = some o) → (∀ b o, g0.get? b = some o → g.get? b = some o) → g0.objs.size ≤ p → g.get? p = some (seqObj "list" (List.toArray out) c) → out.length = n →
      EachIs (fun (x : Value) (j : Nat) => ∃ t, x = Value.int (j : Int) t) out ((List.range n).mergeSort (dataLe false k)) → Q (.ref p) { s with heap := g, toks := tk }) :
    wpAny (model prog w) A (call (.builtin "sorted") [.ref r] [(Str.ofString "key", .ref q)]) Q E s := by
  have h1000 : 1000 ≤ sizeLine := by rw [sizeLine_eq]; decide
  have hsz0 : Builtin.Range.rangeSize 0 (n : Int) 1 = n := by
    have := rangeSize_nat 0 (n : Int)
    simpa using this
  refine call_function_entry_kw kind_sorted plain_sorted entry_sorted (ksk_s1 _ _) ?_
  unfold Builtin.«sorted»
  refine wpAny_bind (m := checkCount "sorted" 1 1 _) (wpAny_pure ?_)
  refine wpAny_bind (L2.collect_range (A := A.in1) (n := n) hh hr (small_one (by omega) (by omega) (by omega) (by omega)) hsz0 (by omega) fun g tk acc keep items => ?_)
  obtain ⟨hsz, hit⟩ := items
  have hl : acc.toList.length = n := by rw [Array.length_toList]; exact hsz
  have hE : EachIs (fun (x : Value) (j : Nat) => ∃ t, x = Value.int (j : Int) t) acc.toList (List.range n) := by
    rw [List.range_eq_range']
    refine ab_range_items _ n 0 hl fun j x hx => ?_
    obtain ⟨t', e⟩ := hit j x (by rw [← Array.getElem?_toList]; exact hx)
    exact ⟨t', by rw [e]; congr 1; omega⟩
  refine wpAny_bind (wpAny_newList ?_ (by omega))
  have oL : (g.push (seqObj "list" acc.toList.toArray 0)).get? g.objs.size = some (seqObj "list" acc.toList.toArray 0) := Heap.get?_push_size _ rfl
  have up0 : ∀ {g' : Heap}, KeepsBut g.objs.size (g.push (seqObj "list" acc.toList.toArray 0)) g' → ∀ b o, g.get? b = some o → g'.get? b = some o := fun {g'} kp b o hb =>
    kp b o (Nat.ne_of_lt (Heap.lt_size hb)) (Heap.get?_push_of_some _ hb)
  refine wpAny_bind (wpAny_holding (wpAny_call_entry_kw slot_list_sort ⟨_, oL, rfl⟩ entry_list_sort ?body (ksk_l1 _ _)))
  show wpAny (model prog w) A.in1.in1 (Builtin.«list.sort» ⟨[.ref g.objs.size], [(Str.ofString "key", .ref q)]⟩) _ _ _
  rw [ksk_t1]
  refine ab_tree (kz := (List.range n).map k) (s := { s with heap := g.push (seqObj "list" acc.toList.toArray 0), toks := tk }) oL (by simp [hl]) (by omega) hal (fun g' tk' => srt g' tk') (fun i x d hx hd g' tk' kp => ?_) fun g' tk' out c kp hD ko => ⟨_, rfl, ?_⟩
  · obtain ⟨hi, hx2⟩ := List.getElem?_eq_some_iff.mp hx
    obtain ⟨t', e⟩ := hit i x (by rw [← Array.getElem?_toList]; exact hx)
    have hin : i < n := by omega
    rw [List.getElem?_map, List.getElem?_range hin] at hd
    have ed : k i = d := by simpa using hd
    have ex : x = Value.int (i : Int) t' := by rw [e]; congr 1; omega
    rw [← ed, ex]
    exact turn i t' hin g' tk' fun b o hb => up0 kp b o (keep b o hb)
  · refine wpAny_pure ⟨_, rfl, ?_⟩
    exact fin g g' tk' g.objs.size out c keep (up0 kp) (Nat.le_refl _) hD (ko.length (by simp [hl]) |>.trans hl) (keyedOut_each k ko hE)
end
end PySem.W

end
section
set_option Elab.async false
set_option linter.all false
set_option maxRecDepth 100000
namespace PySem.W
open PySem PySem.Calls PyProof.Rows
/-- keys: tuples of ints -/
def wayK (l : List Int) : PyData := .tuple (l.map PyData.int)
theorem ab_alike : ∀ a b : List Int, alikeAll (a.map PyData.int) (b.map PyData.int) = true
  | [], [] => rfl
  | [], _ :: _ => rfl
  | _ :: _, [] => rfl
  | x :: a, y :: b => by
    simp only [List.map_cons, alikeAll, alike, ab_alike a b, Bool.and_self]
theorem wayK_alike (W : List (List Int)) : AllAlike (W.map wayK) := fun d hd d' hd' => by
  obtain ⟨l, _, rfl⟩ := List.mem_map.mp hd
  obtain ⟨l', _, rfl⟩ := List.mem_map.mp hd'
  exact ab_alike l l'
theorem wayK_depth (l : List Int) : (wayK l).depth ≤ 1 := by
  have h : ∀ l : List Int, PyData.depthAll (l.map PyData.int) = 0 := fun l => by
    induction l with
    | nil => simp [PyData.depthAll]
    | cons x l ih => simp only [List.map_cons, PyData.depthAll, PyData.depth, ih]; rfl
  simp [wayK, PyData.depth, h l]
section
variable {prog : Program} {w : World} {A : Around} {s : Shared}
theorem ab_sorts {W : List (List Int)} (h : (∀ l ∈ W, l ≠ []) ∨ W = [[]]) (hu : A.units + 1 < cLine) : AbSorts prog w A s (W.map wayK) := by
  intro g tk ks e
  rcases h with h | h
  · refine SortsAt.data (s := { s with heap := g, toks := tk }) e (wayK_alike W) (.inl fun d hd => ?_) fun d hd => ?_
    · obtain ⟨l, hl, rfl⟩ := List.mem_map.mp hd
      cases l with
      | nil => exact absurd rfl (h _ hl)
      | cons x l => exact ⟨_, _, rfl⟩
    · obtain ⟨l, hl, rfl⟩ := List.mem_map.mp hd
      have := wayK_depth l
      omega
  · subst h
    refine ⟨fun v hv => ?_, tuples' true, ?_, fun h2 => ?_⟩
    · obtain ⟨d, hd, as, r⟩ := e.left v hv
      exact ⟨_, dataKind_some (wayK_alike _) hd r⟩
    · intro E x y a b Q ha hb hq
      obtain ⟨d, as, hd, ra, rfl⟩ := dataKind_inv ha
      obtain ⟨d', as', hd', rb, rfl⟩ := dataKind_inv hb
      have e1 : d = .tuple [] := List.mem_singleton.mp hd
      have e2 : d' = .tuple [] := List.mem_singleton.mp hd'
      subst e1 e2
      have hq' : Q (dataLt (.tuple []) (.tuple [])) { s with heap := g, toks := tk } := hq
      rw [dataLt_tuple] at hq'
      cases ra with
      | @tuple l o xs n _ _ h1 h2 h3 h4 =>
        cases rb with
        | @tuple l' o' xs' n' _ _ k1 k2 k3 k4 =>
          have n1 := SeqAt.ReadsAll.length _ _ _ h4
          have n2 := SeqAt.ReadsAll.length _ _ _ k4
          have m1 : xs.size = 0 := by simpa using n1
          have m2 : xs'.size = 0 := by simpa using n2
          exact kat_lt h1 h3 k1 k3 (katLex_alike [] [] 0 _ _ _ _ h4 k4 rfl (by simp [PyData.depthAll]; omega) (fun _ _ x r t ex => by cases ex) (by rw [m1, m2]; rfl) hq')
    · have := e.length
      simp at this
      omega
end
theorem reads_ints {h : Heap} : ∀ {ns : List Int} {its : List Value}, L2.Vals (ns.map L2.V.int) its → ReadsAll h its (ns.map PyData.int) []
  | [], its, r => by cases r; exact .nil
  | n :: ns, its, r => by
    cases r with
    | cons r t =>
      obtain ⟨k, rfl⟩ := r
      exact .cons (.int n k) (reads_ints t)
section
variable {prog : Program} {w : World} {A : Around} {s : Shared}
/-- the lambda's call: x[y] -/
theorem ab_lam_call {f c' l cel : Addr} {pm ctv : Value} {q x y : Str} {params : Arguments} {p1 p2 p3 : Pos} {scope : Scope} {its : List Value} {i : Nat} {t : Tok} {kv : Value} {k : PyData}
    (hd : A.depth < recursionLimit) (nl : s.heap.NoLimit) (hf : s.heap.get? f = some (kla_obj "<lambda>" q params (.Subscript (.Name x p1) (.Name y p2) p3) scope [(x, cel)] pm c' ctv)) (hc : s.heap.CodeRec (.ref c') q)
    (s1 : scope.kind = .function) (s2 : scope.isCoroutine = false) (s3 : scope.isGenerator = false) (s4 : scope.names = [(y, .local), (x, .free)]) (hxy : (x == y) = false)
    (hb : bindArgs (kla_fn "<lambda>" q params (.Subscript (.Name x p1) (.Name y p2) p3) scope [(x, cel)] pm (.ref c') ctv) ⟨[.int (i : Int) t], []⟩ = pure [(y, .int (i : Int) t)])
    (hcell : s.heap.IsCell cel (some (.ref l))) (hl : s.heap.IsList l its.toArray) (hi : its[i]? = some kv) (hz : its.length ≤ 1000000) (hr : Reads s.heap kv k [])
    (d1 : (x == ("__debug__" : Str)) = false) (d2 : (y == ("__debug__" : Str)) = false) (d3 : (x == ("__classdict__" : Str)) = false)
    (hsub : ∀ (o v : Value), subscripted (.Name y p2) false o v = operate [o, v] (getItem o v)) :
    wpAny (model prog w) A (call (.ref f) [.int (i : Int) t]) (KeyPure k s) (fun _ _ => False) s := by
  have hil : i < its.length := (List.getElem?_eq_some_iff.mp hi).1
  refine wpAny_call (codeAny_mono (R := fun r z => ∃ v, r = .ok (.ret v) ∧ KeyPure k s v z) ?_ fun r z hz => by
    obtain ⟨v, rfl, hk⟩ := hz
    exact hk)
  refine kla_callFunE hd hf rfl s2 s3 rfl hc ?_
  rw [hb]
  refine wpAny_pure (wpAny_newFunctionEnv (fun z hz => ?_) (fun z hz => ?_) (fun g hns sb => ?_) s1)
  · rw [s4] at hz
    simp only [List.mem_cons, List.not_mem_nil, or_false] at hz
    rcases hz with rfl | rfl <;> simp
  · rw [List.mem_singleton.mp hz, s4]
    simp
  · have keep : ∀ b o, s.heap.get? b = some o → g.get? b = some o := fun b o e => sb.extBut b o (Nat.ne_of_lt (Heap.lt_size e)) (Heap.get?_push_of_some _ e)
    refine ⟨nl.fresh _ sb, kla_codeExpr ?_⟩
    have yx : (x == y) = false := hxy
    refine Subscript_ (wpAny_Name (wpAny_loadName_free (c := cel) (v := .ref l) s1 ?_ ?_ (hcell.keeps keep) ?_ d3) d1)
    · show scope.names.lookup x = some .free
      rw [s4]
      simp [List.lookup, yx]
    · show List.lookup x [(x, cel)] = some cel
      simp [List.lookup]
    · refine wpAny_Name (wpAny_loadName_local (v := .int (i : Int) t) s1 ?_ hns ?_ ?_) d2
      · show scope.names.lookup y = some .local
        rw [s4]
        simp [List.lookup]
      · simp [List.lookup]
      · obtain ⟨ol, h1, h2, h3⟩ := hl
        refine item_listR (items := its.toArray) ⟨ol, keep _ _ h1, h2, h3⟩ (by omega) (by omega) (by simpa using hi) ⟨kv, rfl, g, _, rfl, keep, PyProof.Rows.Reads.keeps keep hr⟩ (hsub _ _)
end
end PySem.W

end
section
set_option Elab.async false
set_option linter.all false
set_option maxRecDepth 100000
namespace Ab
open PySem PySem.Spec PyProof.Rows L2
/-- < of lists of ints -/
def wayLt : List Int → List Int → Bool
  | [], [] => false
  | [], _ :: _ => true
  | _ :: _, [] => false
  | a :: r, b :: q => if a = b then wayLt r q else decide (a < b)
theorem wayLt_toks : ∀ a b : List Int, PyProof.Rows.lexLt PyProof.Rows.itemOrd (PySem.W.keyToksAll (a.map PyData.int)) (PySem.W.keyToksAll (b.map PyData.int)) = wayLt a b
  | [], [] => by decide +kernel
  | [], y :: b => by
    simp only [List.map_nil, List.map_cons, wayLt]
    exact (PySem.W.lex_atom (p := .inl 0) (q := .inl 1) (by decide) _ _).trans (by decide +kernel)
  | x :: a, [] => by
    simp only [List.map_nil, List.map_cons, wayLt]
    exact (PySem.W.lex_atom (p := .inl 1) (q := .inl 0) (by decide) _ _).trans (by decide +kernel)
  | x :: a, y :: b => by
    have hal : PySem.W.alike (.int x) (.int y) = true := rfl
    have he : PyData.eqv (.int x) (.int y) = decide (x = y) := by
      simp only [PyData.eqv]
      exact Bool.eq_iff_iff.mpr (by simp)
    simp only [List.map_cons, wayLt]
    by_cases h : x = y
    · rw [if_pos h, PySem.W.dataLt_all_yes hal (by rw [he]; exact decide_eq_true h)]
      exact wayLt_toks a b
    · rw [if_neg h, PySem.W.dataLt_all_no hal (by rw [he]; exact decide_eq_false h), PySem.W.dataLt_int]
theorem wayLt_data (a b : List Int) : PySem.W.dataLt (PySem.W.wayK a) (PySem.W.wayK b) = wayLt a b := by
  unfold PySem.W.wayK
  rw [PySem.W.dataLt_tuple]
  exact wayLt_toks a b
def wayLe (W : List (List Int)) (i j : Nat) : Bool := !wayLt (W.getD j []) (W.getD i [])
/-- the words by their ways -/
def waySort (W : List (List Int)) : List Nat := (List.range W.length).mergeSort (wayLe W)
theorem dataLe_way (W : List (List Int)) : PySem.W.dataLe false (fun i => PySem.W.wayK (W.getD i [])) = wayLe W := by
  funext i j
  have := wayLt_data (W.getD j []) (W.getD i [])
  unfold wayLe
  rw [← this]
  rfl
def okW (W : List (List Int)) : Bool := decide (W.length ≤ 1000) && (W.all (fun l => !l.isEmpty) || decide (W = [[]]))
def tSK (P : Addr) (K : PySem.W.Frag) (i : Nat) (ta : TE) : TE := fun σ H Q => tRg1 ta σ H fun a b H1 => a = 0 ∧ ∃ (W : List (List Int)) (l : Addr) (vs : List V), b = (W.length : Int) ∧ okW W = true ∧ σ[i]? = some (some (.ref l)) ∧ SqL K H1 l vs ∧ vs.length = W.length ∧
  (∀ (j : Nat) (u : List Int), W[j]? = some u → ∃ b, vs[j]? = some (.ref b) ∧ SqT K H1 b (u.map V.int)) ∧ H1 P = some (.tbl #[]) ∧
  ∀ (more : Array Value) (c' p : Addr) (q : Str), H1 c' = none → H1 p = none → c' ≠ p → Q (.ref p) (upd (upd (upd H1 P (.tbl more)) c' (LamX.CodeO c' q)) p (.lst ((waySort W).map fun n : Nat => V.int (n : Int))))
theorem vals_nats : ∀ {out : List Value} {l : List Nat}, PySem.W.EachIs (fun (x : Value) (j : Nat) => ∃ t, x = Value.int (j : Int) t) out l → Vals (l.map fun n : Nat => V.int (n : Int)) out
  | _, _, .nil => .nil
  | _, _, .cons h t => .cons h (vals_nats t)
theorem map_getD (W : List (List Int)) (f : List Int → PyData) : (List.range W.length).map (fun i => f (W.getD i [])) = W.map f := by
  refine List.ext_getElem? fun i => ?_
  simp only [List.getElem?_map]
  by_cases h : i < W.length
  · rw [List.getElem?_range h, List.getElem?_eq_getElem h]
    simp [List.getD_eq_getElem?_getD, List.getElem?_eq_getElem h]
  · rw [List.getElem?_eq_none (by simp; omega), List.getElem?_eq_none (by omega)]
    rfl
section
variable {X : Cx}
theorem pe_sortKey {c P : Addr} {x y : Str} {i k : Nat} {a : Expr} {ta : TE} {params : Arguments} {scope : Scope} {p p' pr p1 p2 p3 lp kp pos : Pos} (TB : LamX.TabB X.base X.mg c P) (hcode : X.env.code = .ref c) (hroom : Room (k + 1) X.A) (hcalm : X.calm = true)
    (hg : Gl X "sorted") (hm : X.mg "sorted" = none) (hg2 : Gl X "range") (hm2 : X.mg "range" = none) (ha : PE X a ta) (hN : X.N[i]? = some x) (hx : X.env.scope.names.lookup x = some .cell)
    (s1 : scope.kind = .function) (s2 : scope.isCoroutine = false) (s3 : scope.isGenerator = false) (s4 : scope.names = [(y, .local), (x, .free)]) (hxy : (x == y) = false)
    (hdef : defaultsOf params X.env = ([], []))
    (hb : ∀ (q : Str) (cl : List (Str × Addr)) (pm cv ctv v : Value), bindArgs (PySem.W.kla_fn "<lambda>" q params (.Subscript (.Name x p1) (.Name y p2) p3) scope cl pm cv ctv) ⟨[v], []⟩ = pure [(y, v)])
    (d1 : (x == ("__debug__" : Str)) = false) (d2 : (y == ("__debug__" : Str)) = false) (d3 : (x == ("__classdict__" : Str)) = false)
    (na : starEach [a] X.env = (false, eval a X.env) :: starEach [] X.env)
    (na2 : starEach [.Call (.Name "range" p') [a] [] pr] X.env = (false, eval (.Call (.Name "range" p') [a] [] pr) X.env) :: starEach [] X.env)
    (hall : (backToKw pos (keywordEach [⟨some "key", .Lambda params (.Subscript (.Name x p1) (.Name y p2) p3) scope lp, kp⟩] X.env)).all (·.1.isSome) = true)
    (hnone : (backToKw pos (keywordEach [⟨some "key", .Lambda params (.Subscript (.Name x p1) (.Name y p2) p3) scope lp, kp⟩] X.env)).any (·.1.isNone) = false)
    (hks : (backToKw pos (keywordEach [⟨some "key", .Lambda params (.Subscript (.Name x p1) (.Name y p2) p3) scope lp, kp⟩] X.env)).filterMap (·.1) = [Str.ofString "key"])
    (hvs : (backToKw pos (keywordEach [⟨some "key", .Lambda params (.Subscript (.Name x p1) (.Name y p2) p3) scope lp, kp⟩] X.env)).map (·.2) = [(do let v ← eval (.Lambda params (.Subscript (.Name x p1) (.Name y p2) p3) scope lp) X.env; standAt pos; pure v)]) :
    PE X (.Call (.Name "sorted" p) [.Call (.Name "range" p') [a] [] pr] [⟨some "key", .Lambda params (.Subscript (.Name x p1) (.Name y p2) p3) scope lp, kp⟩] pos) (tSK P X.K i ta) := by
  refine ⟨fun pins s σ H Q I h => ?_⟩
  refine wpAny_Call_Name_kw (ld_blt I hg hm (by decide +kernel : bootBuiltins "sorted" = some (.builtin "sorted")) ?_)
  refine PyProof.Rows.callWith_kw (args_cons (thn (prg_1 hg2 hm2 ha na pins s σ H _ I h) fun v z ⟨r, a0, b0, t, u, w0, H1, ev, hr, J, e0, W, l, vs, eb, ok, hl, hsq, hlen, hw, hP, q⟩ => args_nil ?_) na2) na2 ?_ hall hnone
  · subst ev
    subst e0
    subst eb
    rw [hvs, hks]
    refine wpAny_evalAll_cons (wpAny_bind ?_)
    -- the lambda
    have hfree : ∀ y' ∈ scope.names, y'.2 = .free → ∃ c, X.env.cells.lookup y'.1 = some c := fun y' hy e => by
      rw [s4] at hy
      simp only [List.mem_cons, List.not_mem_nil, or_false] at hy
      rcases hy with rfl | rfl
      · cases e
      · exact J.ok.has _ (.inl hx)
    obtain ⟨cel, hcel⟩ := J.ok.has x (.inl hx)
    have hclo : cloFrom X.env.cells scope.names [] = [(x, cel)] := by
      rw [s4]
      simp only [cloFrom, hcel]
      rfl
    have bP : z.heap.BuiltinsAt X.mg P := TB.bm.keeps J.bk
    have hP' : z.heap.get? P = some { cls := .none, data := .fields #[] } := J.hok P _ hP
    have hnf : codeAmong lp (#[] : Array Value).toList = none := rfl
    refine PySem.W.kla_eval hdef (PySem.W.kla_makeFunction (mg := X.mg) (c := c) (P := P) (ps := #[]) (closure_ok hfree) J.ok.glob (J.mod.glob.keeps J.bk) hcode (TB.code.keeps J.bk) hP' True.intro hnf TB.gP bP fun c' ctv g tk hkeep hge hlt hrec htab => ?_)
    rw [hclo]
    obtain ⟨fo, hfo⟩ : ∃ fo : Obj, fo = PySem.W.kla_obj "<lambda>" (X.env.qual ++ "<lambda>") params (.Subscript (.Name x p1) (.Name y p2) p3) scope [(x, cel)] ((X.mg "__name__").getD .none) c' ctv := ⟨_, rfl⟩
    obtain ⟨rc, oc, us, tq, erc, hoc, hdc, hqc⟩ := hrec
    cases erc
    have J1 := LamX.inv_table (t' := tk) (q := X.env.qual ++ "<lambda>") (more := #[rawInt lp.line, rawInt lp.col, .ref c']) (h' := g.push fo) J hP (fun b o nb e => Heap.get?_push_of_some _ (hkeep b o nb e)) (Heap.get?_push_of_some _ htab) hge ⟨oc, us, tq, Heap.get?_push_of_some _ hoc, hdc, hqc⟩
    have hfat : (g.push fo).get? g.objs.size = some fo := by rw [hfo]; exact Heap.get?_push_size _ rfl
    rw [← hfo]
    refine wpAny_bind (wpAny_standAt (wpAny_pure (wpAny_evalAll_nil ?_)))
    show wpAny _ _ (call (.builtin "sorted") [.ref r] [(Str.ofString "key", .ref g.objs.size)]) _ _ _
    -- what the sort is asked
    have okk : W.length ≤ 1000 ∧ ((∀ u ∈ W, u ≠ []) ∨ W = [[]]) := by
      simp only [okW, Bool.and_eq_true, Bool.or_eq_true, decide_eq_true_eq, List.all_eq_true, Bool.not_eq_true', List.isEmpty_eq_false_iff] at ok
      exact ok
    have nP : P ≠ g.objs.size := Nat.ne_of_lt (Nat.lt_of_lt_of_le (Heap.lt_size hP') (Nat.le_trans hge (Nat.le_of_lt hlt)))
    have zP : ∀ b o, b ≠ P → z.heap.get? b = some o → (g.push fo).get? b = some o := fun b o nb e => Heap.get?_push_of_some _ (hkeep b o nb e)
    have ne_obj : ∀ {b : Addr} {o : Obj}, z.heap.get? b = some o → o.data ≠ .fields #[] → b ≠ P := fun {b o} e nd eb => by
      rw [eb, hP'] at e
      cases e
      exact nd rfl
    have hr1 : IsRange (g.push fo) r 0 (W.length : Int) 1 t u w0 := zP r _ (ne_obj hr (by simp)) hr
    obtain ⟨m, hns, hloc⟩ := J.loc
    obtain ⟨uv, ruv, look⟩ := hloc i x (.ref l) hN hl (.inr (.inl hx))
    obtain rfl : uv = Value.ref l := ruv
    have hcell : z.heap.IsCell cel (some (.ref l)) := by
      rcases look with ⟨k1, _⟩ | ⟨_, c2, k2, k3⟩
      · have k1 : X.env.scope.names.lookup x = some .local := k1
        rw [hx] at k1; cases k1
      · rw [hcel] at k2; cases k2
        exact k3
    have hcell1 : (g.push fo).IsCell cel (some (.ref l)) := by
      obtain ⟨oc2, h1, h2⟩ := hcell
      exact ⟨oc2, zP cel oc2 (ne_obj h1 (by rw [h2]; simp)) h1, h2⟩
    have hsq1 := hsq
    obtain ⟨its, rv, pl, hz⟩ := J.list hsq
    have pl1 : (g.push fo).IsList l its.toArray := by
      obtain ⟨ol, h1, h2, n2, h3⟩ := pl.isList
      exact ⟨ol, zP l ol (ne_obj h1 (by rw [h3]; simp)) h1, h2, n2, h3⟩
    have hil : its.length = W.length := by rw [← rv.length, hlen]
    have nl1 : (g.push fo).NoLimit := J1.nolimit
    have hcr : (g.push fo).CodeRec (.ref c') (X.env.qual ++ "<lambda>") := ⟨c', oc, us, tq, rfl, Heap.get?_push_of_some _ hoc, hdc, hqc⟩
    have hways : ∀ (j : Nat) (ww : List Int), W[j]? = some ww → ∃ kv, its[j]? = some kv ∧ Reads (g.push fo) kv (PySem.W.wayK ww) [] := fun j ww hj => by
      obtain ⟨b, hb1, hb2⟩ := hw j ww hj
      obtain ⟨kv, e1, e2⟩ := rv.get hb1
      obtain rfl : kv = Value.ref b := e2
      obtain ⟨its2, rv2, ⟨ob, h1, h2, n2, h3⟩, _⟩ := J.tuple hb2
      refine ⟨_, e1, .tuple (zP b ob (ne_obj h1 (by rw [h3]; simp)) h1) h2 h3 ?_⟩
      simpa using PySem.W.reads_ints (h := g.push fo) rv2
    have hun : X.A.in1.in1.units + 1 < cLine := by
      have := hroom.un
      show X.A.units + 1 + 1 + 1 < cLine
      omega
    have hkz := map_getD W PySem.W.wayK
    refine PySem.W.ab_sorted_range (s := { z with heap := g.push fo, toks := tk }) (n := W.length) (J.ok.hd hcalm) hr1 okk.1 (fun i => PySem.W.wayK (W.getD i [])) (by rw [hkz]; exact PySem.W.wayK_alike W)
      (fun g' tk' => by rw [hkz]; exact PySem.W.ab_sorts okk.2 hun) (fun j t' hj g' tk' kp => ?_) fun g0 g2 tk2 pp out cc kp0 kp1 hge2 hout hol he => ?_
    · obtain ⟨kv, e1, e2⟩ := hways j _ (List.getElem?_eq_getElem hj)
      have eW : W.getD j [] = W[j] := by simp [List.getD_eq_getElem?_getD, List.getElem?_eq_getElem hj]
      rw [eW]
      obtain ⟨ol, h1, h2, n2, h3⟩ := pl1
      refine PySem.W.ab_lam_call (s := { z with heap := g', toks := tk' }) (f := g.objs.size) (l := l) (its := its) (cel := cel) ?_ (nl1.keeps kp) ((kp _ _ hfat).trans (congrArg some hfo)) (hcr.keeps kp) s1 s2 s3 s4 hxy (hb _ _ _ _ _ _) (hcell1.keeps kp) ⟨ol, kp _ _ h1, h2, n2, h3⟩ e1 (by omega) (PyProof.Rows.Reads.keeps kp e2) d1 d2 d3 (fun _ _ => by with_unfolding_all rfl)
      have := hroom.dp
      show X.A.depth < recursionLimit
      omega
    · have J2 : Inv X pins σ _ { z with heap := g0, toks := tk2 } := J1.kept (t' := tk2) kp0
      have hp0 := J2.hok.fresh hge2
      have J3 := J2.laid (t' := tk2) (a := pp) (o := .lst ((waySort W).map fun n : Nat => V.int (n : Int))) (h' := g2) kp1 hge2 ⟨?_, out, cc, vals_nats (by rw [dataLe_way] at he; exact he), hout⟩
      · have n1 : pp ≠ c' := fun e => by rw [e, upd_same] at hp0; cases hp0
        rw [upd_ne n1] at hp0
        have n2 : pp ≠ P := fun e => by rw [e, upd_same] at hp0; cases hp0
        rw [upd_ne n2] at hp0
        exact ⟨.ref pp, _, J3, rfl, q _ c' pp _ (J.hok.fresh hge) hp0 n1.symm⟩
      · rw [List.length_map, waySort, List.length_mergeSort, List.length_range, sizeLine_eq]
        omega
  · rw [na2]; rfl
end
end Ab

end
section
set_option maxRecDepth 100000
set_option maxHeartbeats 2000000
namespace L2
open PySem PySem.Spec PyProof.Rows
/-- a law's end over a head by facts, with the bits of the script's numbers -/
theorem walk_ofEB {l : PySem.W.OpenLaw} {n k : Nat} {q : Program} {loose : List Str} {XP : (Str → Option Value) → Heap → Prop} {YP : World → Heap → Prop} {d : DefRec} {CX : CXT} {x : Str}
    (hn : l.most = some n) (hn2 : n ≤ sizeLine) (hdf : d.params.defaults = []) (hr : Room k callerA)
    (F : ∀ (w : World) (mg : Str → Option Value) (fa : Addr) (h : Heap), YP w h → h.Ns mainGlobals mg → mg d.name = some (.ref fa) →
      ∃ (K : PySem.W.Frag) (fd : FuncData) (sp : Sp), K.In h ∧ (∀ (s : Shared) (u : Value), BindsTo s fd ⟨[u], []⟩ [(x, u)]) ∧
        (∀ (H : Hp) (a : Addr) (ns : List Int), ns.length ≤ n → (∀ z ∈ ns, Builtin.Int.intBits z ≤ 1048576) → Only H → SqL K H a (ns.map V.int) → sp [.ref a] H (fun v _ => v = .bl true) fun _ _ _ => False) ∧
        ∀ base : Heap, K.In base → base.Ns mainGlobals mg → FnOk l.prog w K mg base CX k fa fd [x] sp)
    (hCX : ∀ (H : Hp) (s : Shared) (e : Value) (s' : Shared), CX [] H s (fun _ _ _ => False) e s' → False) :
    PySem.W.WalkO q loose XP YP l.row.toRowW d [] (fun f vs => PySem.call f vs) := by
  refine Att.attach_callB hn hdf fun w s₀ s₁ mg mb fa o pm cd doc a vs ns G Y ho hd hcd hmg hobj hints hlen hbits hg => ?_
  obtain ⟨K, fd, sp, KX, hb, hsp, hF⟩ := F w mg fa _ Y G.T.g hmg
  exact law_call KX G.T.g G.T.b G.T.builtins G.T.nolimit hg hobj hints (Nat.le_trans hlen hn2) hr hF hb (fun H hO hS => hsp H a ns hlen hbits hO hS) fun H e s' => hCX H s₁ e s'
end L2
namespace Ab
open PySem PySem.Spec PyProof.Rows L2
theorem bits_abs {i : Int} {n : Nat} (h : Builtin.Int.intBits i ≤ n) : i.natAbs < 2 ^ n := by
  unfold Builtin.Int.intBits at h
  by_cases e : i = 0
  · subst e
    exact Nat.pow_pos (by decide)
  · rw [if_neg (by simpa using e)] at h
    exact (Nat.log2_lt (by omega)).mp (by omega)
end Ab

end
section
set_option Elab.async false
set_option linter.all false
set_option maxRecDepth 100000
namespace Ab
open PySem PySem.Spec PyProof.Rows L2
def waysOf : List D → Option (List (List Int))
  | [] => some []
  | .tup xs :: r => (match intsD xs, waysOf r with
    | some l, some W => some (l :: W)
    | _, _ => none)
  | _ => none
/-- sorted(range(m), key=lambda y: x[y]), x at the slot i -/
def mSortKey (i : Nat) (m : EM) : EM := fun G S => (m G S).bind fun d S1 => match d, (G[i]? : Option (Option D)), (S1[0]? : Option O) with
  | .int n, some (some e), some (.tbl true) => (match (seqL S1 e).bind waysOf with
    | some W => if n = (W.length : Int) ∧ okW W = true then .ok (.lst true (natD (waySort W))) (S1.set 0 (.tbl false)) else .err
    | none => .err)
  | _, _, _ => .err
section
variable {K : PySem.W.Frag} {H0 H : Hp} {rho : List Addr}
theorem ways_rep : ∀ {xs : List D} {W : List (List Int)} {vs : List V}, waysOf xs = some W → Reps K H0 H rho xs vs → vs.length = W.length ∧ ∀ (j : Nat) (u : List Int), W[j]? = some u → ∃ b, vs[j]? = some (.ref b) ∧ SqT K H b (u.map V.int)
  | [], W, vs, h, r => by
    simp only [waysOf, Option.some.injEq] at h
    simp only [Reps] at r
    subst h r
    exact ⟨rfl, fun j u e => by simp at e⟩
  | d :: xs, W, vs, h, r => by
    cases d with
    | tup ys =>
      simp only [waysOf] at h
      split at h
      · rename_i l W' h1 h2
        cases h
        simp only [Reps] at r
        obtain ⟨v, w, rfl, r1, r2⟩ := r
        simp only [Rep] at r1
        obtain ⟨b, us, rfl, q, ru⟩ := r1
        have e := intsD_eq h1
        subst e
        have e2 := ru.ints
        subst e2
        obtain ⟨i1, i2⟩ := ways_rep h2 r2
        refine ⟨by simp [i1], fun j u hj => ?_⟩
        cases j with
        | zero =>
          simp at hj
          subst hj
          exact ⟨b, rfl, q⟩
        | succ j => exact i2 j u (by simpa using hj)
      · cases h
    | _ => simp [waysOf] at h
end
section
variable {X : Cx} {W : WX}
theorem je_sortKey {c : Addr} (i : Nat) {x y : Str} {k : Nat} {a : Expr} {ma : EM} {params : Arguments} {scope : Scope} {p p' pr p1 p2 p3 lp kp pos : Pos} (TB : LamX.TabB X.base X.mg c (tabA X.K)) (hcode : X.env.code = .ref c) (hroom : Room (k + 1) X.A) (hcalm : X.calm = true)
    (hg : Gl X "sorted") (hm : X.mg "sorted" = none) (hg2 : Gl X "range") (hm2 : X.mg "range" = none) (ha : JE X W a ma) (hN : X.N[i]? = some x) (hx : X.env.scope.names.lookup x = some .cell)
    (s1 : scope.kind = .function) (s2 : scope.isCoroutine = false) (s3 : scope.isGenerator = false) (s4 : scope.names = [(y, .local), (x, .free)]) (hxy : (x == y) = false)
    (hdef : defaultsOf params X.env = ([], []))
    (hb : ∀ (q : Str) (cl : List (Str × Addr)) (pm cv ctv v : Value), bindArgs (PySem.W.kla_fn "<lambda>" q params (.Subscript (.Name x p1) (.Name y p2) p3) scope cl pm cv ctv) ⟨[v], []⟩ = pure [(y, v)])
    (d1 : (x == ("__debug__" : Str)) = false) (d2 : (y == ("__debug__" : Str)) = false) (d3 : (x == ("__classdict__" : Str)) = false)
    (na : starEach [a] X.env = (false, eval a X.env) :: starEach [] X.env)
    (na2 : starEach [.Call (.Name "range" p') [a] [] pr] X.env = (false, eval (.Call (.Name "range" p') [a] [] pr) X.env) :: starEach [] X.env)
    (hall : (backToKw pos (keywordEach [⟨some "key", .Lambda params (.Subscript (.Name x p1) (.Name y p2) p3) scope lp, kp⟩] X.env)).all (·.1.isSome) = true)
    (hnone : (backToKw pos (keywordEach [⟨some "key", .Lambda params (.Subscript (.Name x p1) (.Name y p2) p3) scope lp, kp⟩] X.env)).any (·.1.isNone) = false)
    (hks : (backToKw pos (keywordEach [⟨some "key", .Lambda params (.Subscript (.Name x p1) (.Name y p2) p3) scope lp, kp⟩] X.env)).filterMap (·.1) = [Str.ofString "key"])
    (hvs : (backToKw pos (keywordEach [⟨some "key", .Lambda params (.Subscript (.Name x p1) (.Name y p2) p3) scope lp, kp⟩] X.env)).map (·.2) = [(do let v ← eval (.Lambda params (.Subscript (.Name x p1) (.Name y p2) p3) scope lp) X.env; standAt pos; pure v)]) :
    JE X W (.Call (.Name "sorted" p) [.Call (.Name "range" p') [a] [] pr] [⟨some "key", .Lambda params (.Subscript (.Name x p1) (.Name y p2) p3) scope lp, kp⟩] pos) (mSortKey i ma) := by
  obtain ⟨ta, pa, sa⟩ := ha
  refine ⟨_, pe_sortKey TB hcode hroom hcalm hg hm hg2 hm2 pa hN hx s1 s2 s3 s4 hxy hdef hb d1 d2 d3 na na2 hall hnone hks hvs, fun H0 G S sg H rho st Q h => sa H0 G S sg H rho st _ (bindE h fun d S1 v H1 rho1 z1 t1 r1 h1 => ?_)⟩
  split at h1
  · rename_i n e hG hS
    split at h1
    · rename_i Wy hW
      split at h1
      · rename_i hc
        obtain ⟨rfl, hok⟩ := hc
        simp only [Rep] at r1
        rw [Option.bind_eq_some_iff] at hW
        obtain ⟨xs, hx1, hx2⟩ := hW
        obtain ⟨u, hu, ru⟩ := (st.step z1 t1).sl i e hG
        obtain ⟨l, vs, rfl, hl, rl⟩ := seqL_at z1 hx1 ru
        obtain ⟨w1, w2⟩ := ways_rep hx2 rl
        obtain ⟨b, hb0, eb, ps, hP, hps⟩ := z1.at_ 0 _ hS
        subst eb
        have hps := hps rfl
        subst hps
        refine ⟨_, r1, rfl, Wy, l, vs, rfl, hok, hu, hl, w1, w2, hP, fun more c' q nm hc' hq hcq => ?_⟩
        have nf : ∀ ob uu, H1 (tabA X.K) ≠ some (.frz ob uu) := fun ob uu z => by rw [hP] at z; cases z
        have t2 := Stp.write z1 (List.mem_of_getElem? hb0) (.tbl more) nf
        have z2 : SOk X.K H0 (upd H1 (tabA X.K) (.tbl more)) rho1 (S1.set 0 (.tbl false)) := z1.write hb0 nf ⟨rfl, more, upd_same, fun z => by cases z⟩
        have n1 : c' ≠ tabA X.K := fun z => by rw [z, hP] at hc'; cases hc'
        have n2 : q ≠ tabA X.K := fun z => by rw [z, hP] at hq; cases hq
        have hc2 : upd H1 (tabA X.K) (.tbl more) c' = none := by rw [upd_ne n1]; exact hc'
        have t3 := Stp.new z2 hc2 (LamX.CodeO c' nm)
        have z3 := z2.laid hc2 (LamX.CodeO c' nm)
        have hq3 : upd (upd H1 (tabA X.K) (.tbl more)) c' (LamX.CodeO c' nm) q = none := by rw [upd_ne hcq.symm, upd_ne n2]; exact hq
        have hr : Reps X.K H0 (upd (upd H1 (tabA X.K) (.tbl more)) c' (LamX.CodeO c' nm)) rho1 (natD (waySort Wy)) ((waySort Wy).map fun n : Nat => V.int (n : Int)) := by
          have := Reps.ofInts (K := X.K) (H0 := H0) (H := upd (upd H1 (tabA X.K) (.tbl more)) c' (LamX.CodeO c' nm)) (rho := rho1) ((waySort Wy).map fun n : Nat => (n : Int))
          simpa [natD, List.map_map, Function.comp_def] using this
        exact new_lst (o := false) z3 hq3 hr (EPost.step (t2.trans t3) h1)
      · exact h1.elim
    · exact h1.elim
  · exact h1.elim
end
@[simp] theorem ev_SortKey {i : Nat} {m : EM} {G : Gam} {S : Sto} : mSortKey i m G S = (m G S).bind fun d S1 => match d, (G[i]? : Option (Option D)), (S1[0]? : Option O) with
  | .int n, some (some e), some (.tbl true) => (match (seqL S1 e).bind waysOf with
    | some W => if n = (W.length : Int) ∧ okW W = true then .ok (.lst true (natD (waySort W))) (S1.set 0 (.tbl false)) else .err
    | none => .err)
  | _, _, _ => .err := (rfl)
section
variable {P : Program} {w : World} {K : PySem.W.Frag} {mg : Str → Option Value} {base : Heap}
theorem mk_fnXT {qual : Str} {params : Arguments} {body : List Stmt} {scope : Scope} {fd : FuncData} {N ps : List Str} {k : Nat} (D : FunD K "law" qual params body scope [] [] (He.ga K "law") fd) (S : FnScope N ps scope) (m : SM)
    (TB : LamX.TabB base mg (lawCode K) (tabA K))
    (hbody : ∀ (A : Around) (outer : List Env) (s : Shared) (H : Hp) (E : XK), Room k (A.deeper (envOfC qual scope s.heap.objs.size (He.ga K "law") (.ref (lawCode K)))) → JSs (cxOf (L2.CX P w) P w K mg base N qual scope (He.ga K "law") (.ref (lawCode K)) A outer s H E) (WD E) body m) :
    FnOk P w K mg base (L2.CX P w) (k + 1) (He.ga K "law") fd ps (spX K (runX ps.length N.length m)) := by
  obtain ⟨oc, od, dV, kV, doc, pm, an, cdv, ct, osl, rfl, lk, hcd, _, _⟩ := D.ex
  have ecd : cdv = .ref (lawCode K) := by
    unfold lawCode
    rw [lk]
    cases cdv with
    | ref c => rfl
    | _ => simp [PySem.W.codeIn] at hcd
  subst ecd
  refine fn_of lk hcd S (fun vs H Q E h => ?_) fun A outer s H vs Q E hr h => ?_
  · obtain ⟨H0, rho, St, ds, so, r, q⟩ := h
    unfold runX at q
    split at q
    · rename_i hl
      rw [← r.length]; exact hl
    · exact q.elim
  · obtain ⟨ts, p, si⟩ := hbody A outer s H E hr
    refine ⟨ts, p, ?_⟩
    obtain ⟨H0, rho, St, ds, so, r, q⟩ := h
    unfold runX at q
    split at q
    · rename_i hl
      refine si H0 _ St _ H rho (start_sat N so r) _ ?_
      rw [hl]
      generalize m (ds.map some ++ List.replicate (N.length - ps.length) none) St = z at q
      cases z with
      | nx G' S' => exact fun sg' H' rho' s' t' => q .non H' rho' s'.s t' (by simp [Rep])
      | rt d S' => exact q
      | ex c G' S' => exact fun sg' H' rho' s' t' => q H' rho' s'.s t'
      | bk G' S' => exact q.elim
      | ct G' S' => exact q.elim
      | err => exact q.elim
    · exact q.elim
end
/-- what a law's def with a table is asked -/
theorem law_spT {K : PySem.W.Frag} {F : FnX} {H : Hp} {a : Addr} {ns : List Int} (hK : K.lookup (tabA K) = none) (hT : H (tabA K) = some (.tbl #[])) (hS : SqL K H a (ns.map V.int)) {St : Sto} (hF : F [.lst false (ns.map .int)] [.tbl true] = .rt (.bl true) St) : spX K F [.ref a] H (fun v _ => v = .bl true) (fun _ _ _ => False) := by
  have np : a ≠ tabA K := fun e => by
    rcases hS with (h | ⟨o, h⟩) | ⟨o, its, n, hk, _⟩
    · rw [e, hT] at h; cases h
    · rw [e, hT] at h; cases h
    · rw [e, hK] at hk; cases hk
  refine ⟨fun b => if b = tabA K then none else H b, [tabA K], [.tbl true], [.lst false (ns.map .int)], ⟨rfl, by simp, fun b hb => ?_, fun b o hb => ?_, fun j o hj => ?_⟩, .one ?_, ?_⟩
  · rw [List.mem_singleton.mp hb]; exact if_pos rfl
  · by_cases e : b = tabA K
    · have hb : (if b = tabA K then none else H b) = some o := hb
      rw [if_pos e] at hb; cases hb
    · have hb : (if b = tabA K then none else H b) = some o := hb
      rw [if_neg e] at hb; exact hb
  · cases j with
    | zero =>
      simp at hj
      subst hj
      exact ⟨tabA K, rfl, rfl, #[], hT, fun _ => rfl⟩
    | succ j => simp at hj
  · simp only [Rep]
    refine ⟨a, ns.map V.int, rfl, ?_, fun z => absurd z (by simp), Reps.ofInts ns⟩
    rcases hS with h | h
    · exact .inl ⟨h, by simpa using np⟩
    · exact .inr (.inr h)
  · rw [hF]
    intro v H' rho' s t r
    simpa [Rep] using r
def frT (g : Addr → Option Obj) (as : List Addr) : PySem.W.Frag := He.frG g (as.filter fun a => match g a with
  | some ⟨.none, _, .fields _, _⟩ => false
  | _ => true)
def tabB (K : PySem.W.Frag) : Bool := PySem.W.codeHdIn K (lawCode K) (tabA K) && (K.lookup (tabA K)).isNone
def tabE (o : Option Obj) : Bool := match o with
  | some ⟨.none, none, .fields vs, sl⟩ => vs.isEmpty && sl.isEmpty
  | _ => false
theorem tabE_ok {o : Option Obj} (h : tabE o = true) : o = some { cls := .none, data := .fields #[] } := by
  unfold tabE at h
  split at h
  · rename_i vs sl
    simp only [Bool.and_eq_true, Array.isEmpty_iff] at h
    rw [h.1, h.2]
  · cases h
def obsTG (n : Nat) (fa : List He.Fa) (fn : List He.DefD) (ex : PySem.W.Frag → Bool) (g : Addr → Option Obj) : He.AlD × Bool := (He.obsD fa fn (frT g (He.asD g n)), ex (frT g (He.asD g n)) && (tabB (frT g (He.asD g n)) && tabE (g (tabA (frT g (He.asD g n))))))
def hookT (n : Nat) (fa : List He.Fa) (fn : List He.DefD) (ex : PySem.W.Frag → Bool) : PySem.W.Hook where
  α := He.AlD × Bool
  obs := fun s => obsTG n fa fn ex s.heap.get?
  val := fun _ => (He.valD fn, true)
  says := fun _ h => ∃ K : PySem.W.Frag, K.In h ∧ (He.SaysD fa fn K ∧ ex K = true ∧ tabB K = true ∧ h.get? (tabA K) = some { cls := .none, data := .fields #[] })
  of := fun _ _ e => by
    have e1 := congrArg (fun z : He.AlD × Bool => z.1) e
    have e2 := congrArg (fun z : He.AlD × Bool => z.2) e
    obtain ⟨h1, h2⟩ := He.ba e2
    obtain ⟨h2, h3⟩ := He.ba h2
    exact ⟨_, He.frG_in, e1, h1, h2, tabE_ok h3⟩
  keeps := fun _ _ _ ⟨K, hK, c, h1, h2, h3⟩ k => ⟨K, PySem.W.Frag.In.keeps hK k, c, h1, h2, k _ _ h3⟩
theorem obsTG_eq {n : Nat} {fa : List He.Fa} {fn : List He.DefD} {ex : PySem.W.Frag → Bool} {g : Addr → Option Obj} {s : Shared} (h : ∀ a, g a = s.heap.get? a) : obsTG n fa fn ex g = (hookT n fa fn ex).obs s := by
  have e : g = s.heap.get? := funext h
  rw [e] <;> rfl
/-- a law's end over a head by facts, with its table -/
theorem walk_ofET {l : PySem.W.OpenLaw} {n k : Nat} {q : Program} {loose : List Str} {XP : (Str → Option Value) → Heap → Prop} {YP : World → Heap → Prop} {d : DefRec} {CX : CXT} {x : Str}
    (hn : l.most = some n) (hn2 : n ≤ sizeLine) (hdf : d.params.defaults = []) (hr : Room k callerA)
    (F : ∀ (w : World) (mg : Str → Option Value) (fa : Addr) (h : Heap), YP w h → h.Ns mainGlobals mg → mg d.name = some (.ref fa) →
      ∃ (K : PySem.W.Frag) (fd : FuncData) (sp : Sp), K.In h ∧ tabB K = true ∧ h.get? (tabA K) = some { cls := .none, data := .fields #[] } ∧ (∀ (s : Shared) (u : Value), BindsTo s fd ⟨[u], []⟩ [(x, u)]) ∧
        (∀ (H : Hp) (a : Addr) (ns : List Int), ns.length ≤ n → K.lookup (tabA K) = none → H (tabA K) = some (.tbl #[]) → SqL K H a (ns.map V.int) → sp [.ref a] H (fun v _ => v = .bl true) fun _ _ _ => False) ∧
        ∀ base : Heap, K.In base → base.Ns mainGlobals mg → LamX.TabB base mg (lawCode K) (tabA K) → FnOk l.prog w K mg base CX k fa fd [x] sp)
    (hCX : ∀ (H : Hp) (s : Shared) (e : Value) (s' : Shared), CX [] H s (fun _ _ _ => False) e s' → False) :
    PySem.W.WalkO q loose XP YP l.row.toRowW d [] (fun f vs => PySem.call f vs) := by
  refine Att.attach_callB hn hdf fun w s₀ s₁ mg mb fa o pm cd doc a vs ns G Y ho hd hcd hmg hobj hints hlen hbits hg => ?_
  obtain ⟨K, fd, sp, KX, tB, tE, hb, hsp, hF⟩ := F w mg fa _ Y G.T.g hmg
  obtain ⟨t1, t2⟩ := He.ba tB
  have nT : K.lookup (tabA K) = none := Option.isNone_iff_eq_none.mp t2
  have C := PySem.W.codeHd_of_K KX t1
  exact LamX.law_callTs (cs := [(lawCode K, tabA K)]) KX G.T.g G.T.b G.T.builtins G.T.nolimit hg (fun p hp => by rw [List.mem_singleton.mp hp]; exact tE) (fun p hp => by rw [List.mem_singleton.mp hp]; exact nT) (fun p hp => by rw [List.mem_singleton.mp hp]; exact C) G.T.bmain hobj hints (Nat.le_trans hlen hn2) hr
    (fun base hK hN hT => hF base hK hN (hT _ List.mem_cons_self)) hb (fun H hH hS => hsp H a ns hlen nT (hH _ List.mem_cons_self) hS) fun H e s' => hCX H s₁ e s'
end Ab

end
section
set_option Elab.async false
set_option linter.all false
set_option maxRecDepth 100000
namespace Ab
open PySem PySem.Spec PyProof.Rows L2
def t_law_refused_k12_1 : SM := mExpr (mCall (callP F_seen) (aCons (mVar 0) (aNil)))
def x_law_refused_k12_1 : Str → SM := fun c => mSeq (mSet 1 (mLst true (aCons (mC (.bl (subE c "NoNest"))) (aCons (mC (.bl (subE c "ValueError"))) (aNil))))) (mSeq (mExpr (mMeth fAppend (mVar 1) (aCons (mC (.bl ((["NoOrder", "NoWords", "NoTurn", "NoNumber"] : List Str).any (subE c)))) aNil))) (mExpr (mMeth fAppend (mVar 1) (aCons (mC (.bl ((["TooMany", "NoText", "NoRow"] : List Str).any (subE c)))) aNil))))
def m_law_refused_k12 : SM := mSeq (mSet 1 (mLst true (aNil))) (mSeq (mTryAs (t_law_refused_k12_1) 2 ["NoOrder", "NoWords", "NoNest", "NoTurn", "NoNumber", "TooMany", "NoText", "NoRow"] "TurnError" (x_law_refused_k12_1)) (mRet (mBin (fEq false) (mVar 1) (mLst false (aCons (mC (.bl true)) (aCons (mC (.bl true)) (aCons (mC (.bl false)) (aCons (mC (.bl false)) (aNil)))))))))
def F_law_refused_k12 : Fn := runF 1 3 m_law_refused_k12
def m_law_none_k12 : SM := mSeq (mSet 2 (mLst false (aCons (mC (.int 0)) (aCons (mC (.bl true)) (aCons (mC (.str "")) (aCons (mC (.str ".")) (aCons (mLst false (aNil)) (aCons (mTup (aNil)) (aCons (mLst false (aCons (mC .non) (aCons (mC .non) (aNil)))) (aCons (mTup (aCons (mC (.str "+")) (aCons (mTup (aCons (mC .non) (aNil))) (aNil)))) (aCons (mTup (aCons (mC (.str "")) (aCons (mTup (aCons (mC .non) (aCons (mC .non) (aNil)))) (aNil)))) (aCons (mEmp false) (aCons (mTup (aCons (mC .non) (aCons (mC .non) (aNil)))) (aCons (mTup (aCons (mC (.str "-")) (aCons (mLst false (aNil)) (aNil)))) (aNil))))))))))))))) (mSeq (mSet 3 (mBin fIx (mVar 2) (mBin fMod (mBin fDiv (mVar 1) (mC (.int 4))) (mCall fLen (aCons (mVar 2) (aNil)))))) (mSeq (mIf (mBin (fIsN false) (mVar 0) (mC .non)) (mRet (mVar 3)) (mNext)) (mSeq (mUnp [4, 5] (mVar 0)) (mSeq (mIf (mBin (fEq false) (mBin fMod (mVar 1) (mC (.int 4))) (mC (.int 0))) (mRet (mTup (aCons (mVar 4) (aCons (mBin (fAdd false) (mVar 5) (mTup (aCons (mVar 0) (aNil)))) (aNil))))) (mNext)) (mSeq (mSet 6 (mBin fMod (mBin fDiv (mVar 1) (mC (.int 48))) (mCall fLen (aCons (mVar 5) (aNil))))) (mSeq (mIf (mAnd (mBin (fEq false) (mBin fMod (mVar 1) (mC (.int 4))) (mC (.int 1))) (mBin (fIsN true) (mBin fIx (mVar 5) (mVar 6)) (mC .non))) (mSeq (mSet 7 (mBin fIx (mVar 5) (mVar 6))) (mRet (mTup (aCons (mVar 4) (aCons (mBin (fAdd false) (mBin (fAdd false) (mSl false (mVar 5) (oNone) (oSome (mVar 6))) (mTup (aCons (mTup (aCons (mBin fIx (mVar 7) (mC (.int 0))) (aCons (mBin (fAdd false) (mSl false (mBin fIx (mVar 7) (mC (.int 1))) (oNone) (oSome (mNeg (mC (.int 1))))) (mTup (aCons (mVar 3) (aNil)))) (aNil)))) (aNil)))) (mSl false (mVar 5) (oSome (mBin (fAdd false) (mVar 6) (mC (.int 1)))) (oNone))) (aNil)))))) (mNext)) (mSeq (mIf (mBin (fEq false) (mBin fMod (mVar 1) (mC (.int 4))) (mC (.int 2))) (mRet (mTup (aCons (mVar 4) (aCons (mBin (fAdd false) (mVar 5) (mBin (fMul false) (mTup (aCons (mC .non) (aNil))) (mC (.int 60)))) (aNil))))) (mNext)) (mRet (mTup (aCons (mVar 4) (aCons (mBin (fAdd false) (mBin (fAdd false) (mSl false (mVar 5) (oNone) (oSome (mVar 6))) (mTup (aCons (mVar 3) (aNil)))) (mSl false (mVar 5) (oSome (mBin (fAdd false) (mVar 6) (mC (.int 1)))) (oNone))) (aNil))))))))))))
def F_law_none_k12 : Fn := runF 2 8 m_law_none_k12
def b_law_1 : SM := mIf (mOr (mNot (mIsi "int" (mVar 7))) (mIsi "bool" (mVar 7))) (mRet (mC (.bl false))) (mNext)
def b_law_2 : SM := mIf (mNot (mCall (callP F_law_refused_k12) (aCons (mCall (callP F_law_none_k12) (aCons (mVar 3) (aCons (mCall (callP F_law_cell) (aCons (mVar 0) (aCons (mVar 8) (aNil)))) (aNil)))) (aNil)))) (mRet (mC (.bl false))) (mNext)
def m_law : SM := mSeq (mSet 1 (mCall (callP F_law_cell) (aCons (mVar 0) (aCons (mC (.int 0)) (aNil))))) (mSeq (mSet 2 (mBin fIx (mLst false (aCons (mBin (fAdd false) (mC (.int 2)) (mBin fMod (mBin fDiv (mVar 1) (mC (.int 4))) (mC (.int 8)))) (aCons (mBin (fAdd false) (mC (.int 2)) (mBin fMod (mBin fDiv (mVar 1) (mC (.int 4))) (mC (.int 59)))) (aNil)))) (mBin fMod (mBin fDiv (mVar 1) (mC (.int 2))) (mC (.int 2))))) (mSeq (mSet 3 (mCall (callP F_law_nest_k11) (aCons (mCall (callP F_law_more) (aCons (mSl false (mVar 0) (oSome (mC (.int 2))) (oSome (mC (.int 62)))) (aNil))) (aCons (mBin fIx (mC (.str "+-")) (mBin fMod (mVar 1) (mC (.int 2)))) (aCons (mVar 2) (aNil)))))) (mSeq (mSet 4 (mCall (callP F_law_ways) (aCons (mVar 3) (aNil)))) (mSeq (mSet 5 (mSortKey 4 (mCall fLen (aCons (mVar 4) (aNil))))) (mSeq (mSet 6 (mCall (callP F_seen) (aCons (mVar 3) (aNil)))) (mSeq (mIf (mOr (mNot (mIsi "tuple" (mVar 6))) (mBin (fEq true) (mVar 6) (mCall fTuple (aCons (mVar 5) (aNil))))) (mRet (mC (.bl false))) (mNext)) (mSeq (mFor (iAnyM (mVar 6)) (gmName 7) (b_law_1)) (mSeq (mFor (iRg2 (aCons (mC (.int 1)) (aCons (mC (.int 5)) (aNil)))) (gmName 8) (b_law_2)) (mRet (mAnd (mBin (fEq false) (mCall (callP F_seen) (aCons (mC .non) (aNil))) (mTup (aCons (mC (.int 0)) (aNil)))) (mBin (fEq false) (mCall (callP F_seen) (aCons (mVar 3) (aNil))) (mVar 6))))))))))))
def F_law : FnX := runX 1 9 m_law
end Ab

end
section
set_option maxRecDepth 100000
namespace Ab
open PySem PySem.Spec PyProof.Rows L2
def bad12 : List D := [.int 0, .bl true, .str "", .str ".", .lst true [], .tup [], .lst true [.non, .non], .tup [.str "+", .tup [.non]], .tup [.str "", .tup [.non, .non]], .emp true, .tup [.non, .non], .tup [.str "-", .lst true []]]
theorem bad12_of {d : D} (h : d ∈ bad12) : noObj d = true ∧ allT d = true ∧ (∀ p, bigC (sg p) (low d)) ∧ bigC "" (low d) ∧ kn (low d) ≤ 100 := bad14_of (List.mem_append_left _ h)
theorem R_law_none_k12 {t : Ne} {c : Int} (ok : okN t = true) (h6 : siz t ≤ 60) : ∃ d, badN d = true ∧ allT d = true ∧ Ret F_law_none_k12 [neD t, .int c] d := by
  obtain ⟨j, hj⟩ := Int.eq_ofNat_of_zero_le (Int.emod_nonneg (c / 4) (b := 12) (by decide))
  have j1 := Int.emod_lt_of_pos (c / 4) (b := 12) (by decide)
  have hjl : j < bad12.length := by have : bad12.length = 12 := rfl; omega
  obtain ⟨bd, hbd⟩ : ∃ bd, bd = bad12[j] := ⟨_, rfl⟩
  have hmem : bd ∈ bad12 := by rw [hbd]; exact List.getElem_mem hjl
  obtain ⟨b1, b2, b3, b4, b5⟩ := bad12_of hmem
  have ha : L2.atI bad12 (c / 4 % 12) = some bd := by rw [hj, hbd]; exact atI_nat (List.getElem?_eq_getElem hjl)
  have dv4 : ∀ S, fDiv (.int c) (.int 4) S = .ok (.int (c / 4)) S := fun S => div_small (by decide) (by decide)
  have dv48 : ∀ S, fDiv (.int c) (.int 48) S = .ok (.int (c / 48)) S := fun S => div_small (by decide) (by decide)
  have hr60 : ∀ S, fMul false (.tup [.non]) (.int 60) S = .ok (.tup (List.replicate 60 .non)) S := fun S => by rfl
  have e12 : bad12 = [.int 0, .bl true, .str "", .str ".", .lst true [], .tup [], .lst true [.non, .non], .tup [.str "+", .tup [.non]], .tup [.str "", .tup [.non, .non]], .emp true, .tup [.non, .non], .tup [.str "-", .lst true []]] := rfl
  rw [e12] at ha
  cases t with
  | w =>
    refine ⟨bd, badN_of' b1 b4 (by omega), b2, Ret.allT (S' := []) ?_ b2⟩
    generalize hfa : fAdd false = fa at *
    unfold F_law_none_k12 m_law_none_k12
    rw [hfa]
    simp [ev_runF, dv4, ha, isNon]
  | k p ps =>
    obtain ⟨l1, l2⟩ := okN_len ok
    simp only [siz] at h6
    have hok : okNs p ps = true := by simp only [okN, Bool.and_eq_true] at ok; exact ok.2
    have hpl : (ps.map neD).length = ps.length := List.length_map ..
    have hNm : neD (.k p ps) = .tup [.str (sg p), .tup (ps.map neD)] := neD_k
    obtain ⟨q, hq⟩ := Int.eq_ofNat_of_zero_le (Int.emod_nonneg (c / 48) (b := (ps.length : Int)) (by omega))
    have hq2 := Int.emod_lt_of_pos (c / 48) (b := (ps.length : Int)) (by omega)
    have hql : q < ps.length := by omega
    have t1 : cutD (ps.map neD) none (some (q : Int)) = (ps.take q).map neD := by rw [List.map_take]; exact cutD_to (by omega)
    have t0 : cutD (ps.map neD) (some (q : Int)) none = (ps.drop q).map neD := by rw [List.map_drop, cutD_from (by omega)]; rfl
    have t2 : cutD (ps.map neD) (some ((q : Int) + 1)) none = (ps.drop (q + 1)).map neD := by
      rw [List.map_drop, cutD_from (by omega)]
      rfl
    have hix : L2.atI (ps.map neD) (q : Int) = some (neD ps[q]) := atI_nat (by rw [List.getElem?_map, List.getElem?_eq_getElem hql]; rfl)
    have kA := kns_sub hok (List.take_sublist q ps)
    have kB := kns_sub hok (List.drop_sublist q ps)
    have kC := kns_sub hok (List.drop_sublist (q + 1) ps)
    have lA : ((ps.take q).map neD).length ≤ 60 := by simp; omega
    have lB : ((ps.drop q).map neD).length ≤ 60 := by simp; omega
    have lC : ((ps.drop (q + 1)).map neD).length ≤ 60 := by simp; omega
    have hpm : 0 < ps.length := by omega
    have hadd : ∀ (xs ys : List D) S, xs.length ≤ 1000 → ys.length ≤ 1000 → fAdd false (.tup xs) (.tup ys) S = .ok (.tup (xs ++ ys)) S := fun xs ys S h1 h2 => by rw [ev_addTT, if_pos (by omega)]
    by_cases c0 : c % 4 = 0
    · have hkT := kn_ne (.k p ps) ok
      simp only [siz] at hkT
      have hlT : low (neD (.k p ps)) = neD (.k p ps) := low_frzn _ (frzn_imm _ (imm_ne _))
      obtain ⟨r1, r2⟩ := badN_put (p := p) (A := ps) (B := []) (x := neD (.k p ps)) (noObj_n14 _) (allT_ne _) (by rw [hlT]; intro n h; rw [chk_own'] at h; cases h) (by rw [hlT]; omega) (by have := kns_of' p hok; omega) (by simp [kns])
      simp only [List.map_nil, List.append_nil] at r1 r2
      refine ⟨_, r1, r2, Ret.allT (S' := []) ?_ r2⟩
      have h1 : ∀ S, fAdd false (.tup (ps.map neD)) (.tup [.tup [.str (sg p), .tup (ps.map neD)]]) S = .ok (.tup (ps.map neD ++ [.tup [.str (sg p), .tup (ps.map neD)]])) S := fun S => hadd _ _ S (by omega) (by simp)
      clear hadd r1 r2
      rw [hNm]
      generalize ps.map neD = PS at *
      generalize hfa : fAdd false = fa at *
      unfold F_law_none_k12 m_law_none_k12
      rw [hfa]
      simp [ev_runF, dv4, dv48, ha, isNon, c0, h1]
    · by_cases c1 : c % 4 = 1 ∧ ps[q] ≠ .w
      · obtain ⟨c1, hw⟩ := c1
        obtain ⟨p', us, hu⟩ : ∃ p' us, ps[q] = .k p' us := by
          cases h : ps[q] with
          | w => exact absurd h hw
          | k p' us => exact ⟨p', us, rfl⟩
        have hmemq : ps[q] ∈ ps := List.getElem_mem hql
        have oku := (isN_part ok hmemq).1
        rw [hu] at oku
        have oks : okNs p' us = true := by simp only [okN, Bool.and_eq_true] at oku; exact oku.2
        have hzu : sizs us ≤ 60 := by
          have := sizs_le hmemq
          rw [hu] at this
          simp only [siz] at this
          omega
        obtain ⟨ul1, ul2⟩ := okN_len oku
        have hcu : cutD (us.map neD) none (some (-1)) = us.dropLast.map neD := by
          have hne : us ≠ [] := fun e => by rw [e] at ul2; simp at ul2
          have := cutD_init (l := us.dropLast.map neD) (a := neD (us.getLast hne))
          rw [show us.dropLast.map neD ++ [neD (us.getLast hne)] = us.map neD by
            rw [← List.map_singleton, ← List.map_append, List.dropLast_concat_getLast]] at this
          exact this
        have kU := kns_sub oks (List.dropLast_sublist us)
        obtain ⟨i1, i2⟩ := badN_put (p := p') (A := us.dropLast) (B := []) (x := bd) b1 b2 (b3 p') (by omega) (by omega) (by simp [kns])
        simp only [List.map_nil, List.append_nil] at i1 i2
        have ino : noObj (.tup [.str (sg p'), .tup (us.dropLast.map neD ++ [bd])]) = true := by simp only [badN, Bool.and_eq_true] at i1; exact i1.1.1
        have ikn : kn (low (.tup [.str (sg p'), .tup (us.dropLast.map neD ++ [bd])])) ≤ 500 := by
          simp only [low, lows, lows_app', lows_ne']
          rw [kn_tup', kns_append]
          simp only [kns]
          omega
        have ibig : bigC (sg p) (low (.tup [.str (sg p'), .tup (us.dropLast.map neD ++ [bd])])) := by
          intro n h
          simp only [low, lows, lows_app', lows_ne'] at h
          simp only [chk] at h
          split at h
          · exact chks_big _ (b3 p') (by simp) n h
          · cases h
        obtain ⟨r1, r2⟩ := badN_put (p := p) (A := ps.take q) (B := ps.drop (q + 1)) (x := .tup [.str (sg p'), .tup (us.dropLast.map neD ++ [bd])]) ino i2 ibig ikn (by omega) (by omega)
        refine ⟨_, r1, r2, Ret.allT (S' := []) ?_ r2⟩
        have lU : (us.dropLast.map neD).length ≤ 60 := by simp; omega
        have h0 : ∀ S, fAdd false (.tup (us.dropLast.map neD)) (.tup [bd]) S = .ok (.tup (us.dropLast.map neD ++ [bd])) S := fun S => hadd _ _ S (by omega) (by simp)
        have h1 : ∀ S, fAdd false (.tup ((ps.take q).map neD)) (.tup [.tup [.str (sg p'), .tup (us.dropLast.map neD ++ [bd])]]) S = .ok (.tup ((ps.take q).map neD ++ [.tup [.str (sg p'), .tup (us.dropLast.map neD ++ [bd])]])) S := fun S => hadd _ _ S (by omega) (by simp)
        have h2 : ∀ S, fAdd false (.tup ((ps.take q).map neD ++ [.tup [.str (sg p'), .tup (us.dropLast.map neD ++ [bd])]])) (.tup ((ps.drop (q + 1)).map neD)) S = .ok (.tup ((ps.take q).map neD ++ [.tup [.str (sg p'), .tup (us.dropLast.map neD ++ [bd])]] ++ (ps.drop (q + 1)).map neD)) S := fun S => hadd _ _ S (by simp at lA ⊢; omega) (by omega)
        have hNu : neD ps[q] = .tup [.str (sg p'), .tup (us.map neD)] := by rw [hu]; exact neD_k
        rw [hNu] at hix
        have hne : ps.map neD ≠ [] := by simp; intro h; rw [h] at hpm; simp at hpm
        clear hadd r1 r2 i1 i2 ino ikn ibig
        rw [hNm]
        generalize (ps.take q).map neD = P1 at *
        generalize (ps.drop (q + 1)).map neD = P2 at *
        generalize ps.map neD = PS at *
        generalize us.dropLast.map neD = UD at *
        generalize us.map neD = US at *
        generalize hfa : fAdd false = fa at *
        have hfi : ∀ i j S, fa (.int i) (.int j) S = .ok (.int (i + j)) S := fun i j S => by rw [← hfa]; rfl
        unfold F_law_none_k12 m_law_none_k12
        rw [hfa]
        simp only [List.append_assoc, List.cons_append, List.nil_append] at h2
        simp [ev_runF, dv4, dv48, ha, isNon, c0, c1, hpl, hpm, hq, t1, t2, hix, hcu, h0, h1, h2, hfi]
      · by_cases c2 : c % 4 = 2
        · have hno : noObjs (List.replicate 60 D.non) = true := by rfl
          have hat : allTs (List.replicate 60 D.non) = true := by rfl
          have hlr : lows (List.replicate 60 D.non) = List.replicate 60 .non := by rfl
          have hkr : kns (List.replicate 60 D.non) = 60 := by decide +kernel
          have hcr : chks (sg p) (List.replicate 60 D.non) = some 60 := by cases p <;> decide +kernel
          have hlen : (List.replicate 60 D.non).length = 60 := by rfl
          have hkn := kns_of' p hok
          have hch := chks_ne p ps hok
          rw [neDs_map] at hch
          generalize List.replicate 60 D.non = R at *
          have hall : allT (.tup [.str (sg p), .tup (ps.map neD ++ R)]) = true := by simp [allT, allTs, allTs_app', hat]
          refine ⟨.tup [.str (sg p), .tup (ps.map neD ++ R)], badN_of' ?_ (fun n h => ?_) ?_, hall, Ret.allT (S' := []) ?_ hall⟩
          · simp [noObj, noObjs, noObjs_app, noObjs_n14, hno]
          · simp only [low, lows, lows_app', lows_ne', hlr] at h
            rw [chk_sg' (by simp; omega), chks_app', hch, hcr] at h
            simp at h
            omega
          · simp only [low, lows, lows_app', lows_ne', hlr]
            rw [kn_tup', kns_append, hkr]
            omega
          · have h1 : ∀ S, fAdd false (.tup (ps.map neD)) (.tup R) S = .ok (.tup (ps.map neD ++ R)) S := fun S => hadd _ _ S (by simp; omega) (by omega)
            clear hadd
            rw [hNm]
            generalize ps.map neD = PS at *
            generalize hfa : fAdd false = fa at *
            unfold F_law_none_k12 m_law_none_k12
            rw [hfa]
            simp [ev_runF, dv4, dv48, hr60, ha, isNon, c0, c2, hpl, hpm, hq, h1]
        · have hcc : c % 4 = 3 ∨ (c % 4 = 1 ∧ ps[q] = .w) := by
            have : c % 4 = 0 ∨ c % 4 = 1 ∨ c % 4 = 2 ∨ c % 4 = 3 := by omega
            rcases this with h | h | h | h
            · exact absurd h c0
            · exact .inr ⟨h, Classical.byContradiction fun h2 => c1 ⟨h, h2⟩⟩
            · exact absurd h c2
            · exact .inl h
          obtain ⟨r1, r2⟩ := badN_put (p := p) (A := ps.take q) (B := ps.drop (q + 1)) (x := bd) b1 b2 (b3 p) (by omega) (by omega) (by omega)
          refine ⟨_, r1, r2, Ret.allT (S' := []) ?_ r2⟩
          have h1 : ∀ S, fAdd false (.tup ((ps.take q).map neD)) (.tup [bd]) S = .ok (.tup ((ps.take q).map neD ++ [bd])) S := fun S => hadd _ _ S (by omega) (by simp)
          have h2 : ∀ S, fAdd false (.tup ((ps.take q).map neD ++ [bd])) (.tup ((ps.drop (q + 1)).map neD)) S = .ok (.tup ((ps.take q).map neD ++ [bd] ++ (ps.drop (q + 1)).map neD)) S := fun S => hadd _ _ S (by simp at lA ⊢; omega) (by omega)
          have hNw : c % 4 = 1 → neD ps[q] = .non := fun h => by
            rcases hcc with h3 | ⟨_, h3⟩
            · omega
            · rw [h3]; rfl
          clear hadd r1 r2
          rw [hNm]
          generalize (ps.take q).map neD = P1 at *
          generalize (ps.drop (q + 1)).map neD = P2 at *
          generalize neD ps[q] = PQ at *
          generalize ps.map neD = PS at *
          generalize hfa : fAdd false = fa at *
          have hfi : ∀ i j S, fa (.int i) (.int j) S = .ok (.int (i + j)) S := fun i j S => by rw [← hfa]; rfl
          unfold F_law_none_k12 m_law_none_k12
          rw [hfa]
          simp only [List.append_assoc, List.cons_append, List.nil_append] at h2
          rcases hcc with h3 | ⟨h3, _⟩
          · simp [ev_runF, dv4, dv48, ha, isNon, h3, hpl, hpm, hq, t1, t2, h1, h2, hfi]
          · have hn := hNw h3
            subst hn
            simp [ev_runF, dv4, dv48, ha, isNon, h3, hpl, hpm, hq, t1, t2, hix, h1, h2, hfi]
end Ab

end
section
set_option maxRecDepth 100000
namespace Ab
open PySem PySem.Spec PyProof.Rows L2
def sgI (p : Bool) (k : Nat) : Int := if p then (k : Int) else 0 - (k : Int)
mutual
def wayG (pre : List Int) : Ne → List (List Int)
  | .w => [pre]
  | .k p ps => wayGs pre p 0 ps
def wayGs (pre : List Int) (p : Bool) (i : Nat) : List Ne → List (List Int)
  | [] => []
  | t :: ts => wayG (pre ++ [sgI p i]) t ++ wayGs pre p (i + 1) ts
end
mutual
theorem wayG_len : ∀ (t : Ne) (pre : List Int), (wayG pre t).length = siz t
  | .w, pre => rfl
  | .k p ps, pre => by simp only [wayG, siz]; exact wayGs_len ps pre p 0
theorem wayGs_len : ∀ (ps : List Ne) (pre : List Int) (p : Bool) (i : Nat), (wayGs pre p i ps).length = sizs ps
  | [], _, _, _ => rfl
  | t :: ts, pre, p, i => by simp only [wayGs, sizs, List.length_append]; rw [wayG_len t, wayGs_len ts]
end
theorem wayGs_range (pre : List Int) (p : Bool) : ∀ (ps : List Ne) (i : Nat), wayGs pre p i ps = ((List.range ps.length).map fun k => wayG (pre ++ [sgI p (i + k)]) (ps.getD k .w)).flatten
  | [], i => rfl
  | t :: ts, i => by
    simp only [wayGs, List.length_cons, List.range_succ_eq_map, List.map_cons, List.flatten_cons, List.map_map]
    rw [wayGs_range pre p ts (i + 1)]
    congr 1
    refine congrArg List.flatten (List.map_congr_left fun k _ => ?_)
    simp only [Function.comp, List.getD_cons_succ]
    rw [show i + 1 + k = i + (k + 1) by omega]
def wD (l : List Int) : D := .tup (l.map .int)
def wpD (q : Ne × List Int) : D := .tup [neD q.1, wD q.2]
def mesW (P : List (Ne × List Int)) : Nat := (P.map fun q => 2 * siz q.1 - 1).sum
theorem mesW_app (P Q : List (Ne × List Int)) : mesW (P ++ Q) = mesW P + mesW Q := by simp [mesW]
theorem mesW_len : ∀ {P : List (Ne × List Int)}, (∀ q ∈ P, okN q.1 = true) → P.length ≤ mesW P
  | [], _ => Nat.le_refl _
  | q :: P, h => by
    have h1 := mesW_len (P := P) fun u hu => h u (List.mem_cons_of_mem _ hu)
    have h2 := siz_pos q.1 (h q List.mem_cons_self)
    simp only [mesW, List.map_cons, List.sum_cons, List.length_cons] at h1 ⊢
    omega
/-- the parts, the last one first -/
def partsW (wy : List Int) (p : Bool) (ps : List Ne) (i : Nat) : List (Ne × List Int) := (List.range i).map fun j => (ps.getD (ps.length - 1 - j) .w, wy ++ [sgI p (ps.length - 1 - j)])
theorem partsW_succ (wy : List Int) (p : Bool) (ps : List Ne) (i : Nat) : partsW wy p ps (i + 1) = partsW wy p ps i ++ [(ps.getD (ps.length - 1 - i) .w, wy ++ [sgI p (ps.length - 1 - i)])] := by
  simp [partsW, List.range_succ]
theorem partsW_rev (wy : List Int) (p : Bool) (ps : List Ne) : (partsW wy p ps ps.length).reverse = (List.range ps.length).map fun k => (ps.getD k .w, wy ++ [sgI p k]) := by
  unfold partsW
  refine List.ext_getElem? fun i => ?_
  by_cases h : i < ps.length
  · rw [List.getElem?_reverse (by simpa using h)]
    simp only [List.length_map, List.length_range, List.getElem?_map]
    rw [List.getElem?_range (by omega), List.getElem?_range h]
    simp only [Option.map_some, Option.some.injEq]
    have : ps.length - 1 - (ps.length - 1 - i) = i := by omega
    rw [this]
  · rw [List.getElem?_eq_none (by simp; omega), List.getElem?_eq_none (by simp; omega)]
def outW (P : List (Ne × List Int)) : List (List Int) := (P.reverse.map fun q => wayG q.2 q.1).flatten
theorem outW_app (P Q : List (Ne × List Int)) : outW (P ++ Q) = outW Q ++ outW P := by simp [outW]
theorem outW_parts (wy : List Int) (p : Bool) (ps : List Ne) : outW (partsW wy p ps ps.length) = wayGs wy p 0 ps := by
  unfold outW
  rw [partsW_rev, wayGs_range]
  simp [List.map_map, Function.comp_def]
theorem mesW_parts {wy : List Int} {p : Bool} {ps : List Ne} (ok : ∀ t ∈ ps, okN t = true) : mesW (partsW wy p ps ps.length) + ps.length = 2 * sizs ps := by
  have e : mesW (partsW wy p ps ps.length) = mesW (partsW wy p ps ps.length).reverse := by simp [mesW]
  rw [e, partsW_rev]
  have key : ∀ (l : List Ne) (g : Nat → List Int), (∀ t ∈ l, okN t = true) → mesW ((List.range l.length).map fun k => (l.getD k .w, g k)) + l.length = 2 * sizs l := by
    intro l
    induction l with
    | nil => intro g _; simp [mesW, sizs]
    | cons t l ih =>
      intro g h
      have h1 := ih (fun k => g (k + 1)) fun u hu => h u (List.mem_cons_of_mem _ hu)
      have h2 := siz_pos t (h t List.mem_cons_self)
      simp only [List.length_cons, List.range_succ_eq_map, List.map_cons, List.map_map, mesW, List.sum_cons, sizs, Function.comp_def, List.getD_cons_zero, List.getD_cons_succ] at h1 ⊢
      omega
  exact key ps _ ok
theorem atI_sg (p : Bool) (k : Nat) : L2.atI [D.int (k : Int), D.int (-(k : Int))] (if p = false then 1 else 0) = some (.int (sgI p k)) := by
  cases p with
  | true => rfl
  | false => simp [sgI]
theorem eq_minus (p : Bool) (S : Sto) : fEq false (.str (sg p)) (.str "-") S = .ok (.bl (!p)) S := by
  have : decide (sg p = ("-" : Str)) = !p := by cases p <;> decide +kernel
  rw [ev_eqS]
  simp [this]
theorem rgC_get {lo : Int} {n i : Nat} {x : D} (h : (rgC lo (-1) n)[i]? = some x) : i < n ∧ x = .int (lo - (i : Int)) := by
  unfold rgC at h
  rw [List.getElem?_map, Option.map_eq_some_iff] at h
  obtain ⟨j, hj, rfl⟩ := h
  obtain ⟨h1, h2⟩ := List.getElem?_eq_some_iff.mp hj
  rw [List.getElem_range] at h2
  rw [List.length_range] at h1
  subst h2
  exact ⟨h1, by congr 1; omega⟩
theorem rgC_len (lo : Int) (n : Nat) : (rgC lo (-1) n).length = n := by simp [rgC]
/-- the parts of a knot are put to the pile -/
theorem ways_inner {X y5 : Option D} {p : Bool} {ps : List Ne} {wy : List Int} {F : List (List Int)} {Q : List (Ne × List Int)} (hl : ps.length ≤ 60) (h0 : 0 < ps.length) (hq : Q.length ≤ 1000) (hw : wy.length ≤ 1000) :
    ∃ y, forRun always (turn (gmName 5) b_law_ways_1) (rgC ((ps.length : Int) - 1) (-1) ps.length) [X, some (.obj 0), some (.obj 1), some (neD (.k p ps)), some (wD wy), y5] [.lst (F.map wD), .lst (Q.map wpD)] =
      .nx [X, some (.obj 0), some (.obj 1), some (neD (.k p ps)), some (wD wy), y] [.lst (F.map wD), .lst ((Q ++ partsW wy p ps ps.length).map wpD)] := by
  obtain ⟨G', S', e, y, rfl, rfl⟩ := for_inv (f := turn (gmName 5) b_law_ways_1) (l := rgC ((ps.length : Int) - 1) (-1) ps.length) (G := [X, some (.obj 0), some (.obj 1), some (neD (.k p ps)), some (wD wy), y5]) (S := [.lst (F.map wD), .lst (Q.map wpD)])
    (fun i G S => ∃ y, G = [X, some (.obj 0), some (.obj 1), some (neD (.k p ps)), some (wD wy), y] ∧ S = [.lst (F.map wD), .lst ((Q ++ partsW wy p ps i).map wpD)]) ⟨y5, rfl, by simp [partsW]⟩ (fun i x G S hx hI => by
      obtain ⟨hi, rfl⟩ := rgC_get hx
      obtain ⟨y, rfl, rfl⟩ := hI
      have hk : ((ps.length : Int) - 1 - (i : Int)) = ((ps.length - 1 - i : Nat) : Int) := by omega
      rw [hk]
      have hkl : ps.length - 1 - i < ps.length := by omega
      have hat : L2.atI (ps.map neD) ((ps.length - 1 - i : Nat) : Int) = some (neD (ps.getD (ps.length - 1 - i) .w)) := atI_nat (by rw [List.getElem?_map, List.getElem?_eq_getElem hkl, List.getD_eq_getElem?_getD, List.getElem?_eq_getElem hkl]; rfl)
      have hsg := atI_sg p (ps.length - 1 - i)
      have hem := eq_minus p
      have ee : (Q ++ partsW wy p ps (i + 1)).map wpD = (Q ++ partsW wy p ps i).map wpD ++ [.tup [neD (ps.getD (ps.length - 1 - i) .w), .tup (wy.map .int ++ [.int (sgI p (ps.length - 1 - i))])]] := by
        rw [partsW_succ, ← List.append_assoc, List.map_append]
        simp [wpD, wD]
      have hq1 : ((Q ++ partsW wy p ps i).map wpD).length < 100000 := by simp [partsW]; omega
      have hw1 : (wy.map D.int).length + 1 ≤ 100000 := by simp; omega
      have hw2 : (wy.map D.int).length ≤ 99999 := by simp; omega
      refine ⟨_, _, .inl ?_, some (.int ((ps.length - 1 - i : Nat) : Int)), rfl, rfl⟩
      rw [ee, neD_k]
      unfold wD
      generalize (Q ++ partsW wy p ps i).map wpD = PD at *
      generalize F.map wD = FD at *
      generalize neD (ps.getD (ps.length - 1 - i) .w) = VD at *
      generalize ps.map neD = PS at *
      generalize wy.map D.int = WD at *
      generalize sgI p (ps.length - 1 - i) = K at *
      generalize ps.length - 1 - i = kk at *
      simp [turn, b_law_ways_1, hat, hsg, hem, hq1, hw1, hw2])
  rw [rgC_len] at e
  exact ⟨y, e⟩
theorem while_ways (X : Option D) : ∀ (n : Nat) (P : List (Ne × List Int)) (F : List (List Int)) (y3 y4 y5 : Option D), (∀ q ∈ P, okN q.1 = true ∧ siz q.1 ≤ 60 ∧ q.2.length + ht q.1 ≤ 60) → mesW P < n → mesW P + F.length ≤ 900 →
    ∃ y3' y4' y5', mWhile (mBin (fEqX true) (mVar 2) (mLst false aNil)) b_law_ways_2 n [X, some (.obj 0), some (.obj 1), y3, y4, y5] [.lst (F.map wD), .lst (P.map wpD)] = .nx [X, some (.obj 0), some (.obj 1), y3', y4', y5'] [.lst ((F ++ outW P).map wD), .lst []]
  | 0, P, F, _, _, _, _, h, _ => by omega
  | n + 1, P, F, y3, y4, y5, hP, h, h9 => by
    by_cases hp : P = []
    · subst hp
      have e0 : F ++ outW [] = F := by simp [outW]
      rw [e0]
      refine ⟨y3, y4, y5, while_end ?_⟩
      simp
    · obtain ⟨Q, ⟨u, wy⟩, rfl⟩ : ∃ Q q, P = Q ++ [q] := ⟨P.dropLast, P.getLast hp, (List.dropLast_concat_getLast _).symm⟩
      obtain ⟨uok, u6, hwl⟩ := hP (u, wy) (by simp)
      simp only at uok u6 hwl
      have hQ : ∀ q ∈ Q, okN q.1 = true ∧ siz q.1 ≤ 60 ∧ q.2.length + ht q.1 ≤ 60 := fun q hq => hP q (by simp [hq])
      have hml := mesW_len (P := Q ++ [(u, wy)]) fun q hq => (hP q hq).1
      have hup := siz_pos u uok
      have hm1 : mesW [(u, wy)] = 2 * siz u - 1 := by simp [mesW]
      rw [mesW_app, hm1] at h h9 hml
      have hcond : ∀ b c d : Option D, (mBin (fEqX true) (mVar 2) (mLst false aNil)) [X, some (.obj 0), some (.obj 1), b, c, d] [.lst (F.map wD), .lst ((Q ++ [(u, wy)]).map wpD)] = .ok (.bl true) [.lst (F.map wD), .lst ((Q ++ [(u, wy)]).map wpD)] := fun b c d => by
        have : (Q ++ [(u, wy)]).map wpD ≠ [] := by simp
        generalize (Q ++ [(u, wy)]).map wpD = PD at *
        simp [this]
      have hpop : ((Q ++ [(u, wy)]).map wpD)[((Q ++ [(u, wy)]).map wpD).length - 1]? = some (.tup [neD u, wD wy]) := by simp [wpD]
      have hdl : ((Q ++ [(u, wy)]).map wpD).dropLast = Q.map wpD := by rw [List.map_append]; exact List.dropLast_concat
      have hFl : (F.map wD).length < 100000 := by rw [List.length_map]; omega
      cases u with
      | w =>
        obtain ⟨z3, z4, z5, e⟩ := while_ways X n Q (F ++ [wy]) (some .non) (some (wD wy)) y5 hQ (by simp [siz] at h ⊢; omega) (by simp [siz] at h9 ⊢; omega)
        refine ⟨z3, z4, z5, ?_⟩
        have eo : F ++ outW (Q ++ [(Ne.w, wy)]) = F ++ [wy] ++ outW Q := by rw [outW_app]; simp [outW, wayG]
        rw [eo, ← e]
        refine while_step (hcond _ _ _) (.inl ?_)
        have eF : (F ++ [wy]).map wD = F.map wD ++ [wD wy] := by simp
        rw [eF]
        rw [neD_w] at hpop
        generalize (Q ++ [(Ne.w, wy)]).map wpD = PD at *
        generalize Q.map wpD = QD at *
        generalize F.map wD = FD at *
        generalize wD wy = WD at *
        simp [b_law_ways_2, hpop, hdl, isNon, hFl]
      | k p ps =>
        have hl := okN_len uok
        simp only [siz] at u6 hm1 h h9 hml
        have hpl : ps.length ≤ 60 := by omega
        have hmp := mesW_parts (wy := wy) (p := p) (ps := ps) (fun t ht => (isN_part uok ht).1)
        have hP1 : ∀ q ∈ Q ++ partsW wy p ps ps.length, okN q.1 = true ∧ siz q.1 ≤ 60 ∧ q.2.length + ht q.1 ≤ 60 := fun q hq => by
          rcases List.mem_append.mp hq with h | h
          · exact hQ q h
          · unfold partsW at h
            obtain ⟨i, hi, rfl⟩ := List.mem_map.mp h
            have hi' := List.mem_range.mp hi
            have hlt : ps.length - 1 - i < ps.length := by omega
            have hgt : ps[ps.length - 1 - i]? = some (ps.getD (ps.length - 1 - i) .w) := by rw [List.getD_eq_getElem?_getD, List.getElem?_eq_getElem hlt]; rfl
            have hm := List.mem_of_getElem? hgt
            have h1 := sizs_le hm
            have h2 := hts_le hm
            simp only [ht] at hwl
            exact ⟨(isN_part uok hm).1, by simp only; omega, by simp only [List.length_append, List.length_singleton]; omega⟩
        obtain ⟨y, ei⟩ := ways_inner (X := X) (y5 := y5) (p := p) (ps := ps) (wy := wy) (F := F) (Q := Q) hpl (by omega) (by rw [List.length_append] at hml; omega) (by omega)
        obtain ⟨z3, z4, z5, e⟩ := while_ways X n (Q ++ partsW wy p ps ps.length) F (some (neD (.k p ps))) (some (wD wy)) y hP1 (by rw [mesW_app]; omega) (by rw [mesW_app]; omega)
        refine ⟨z3, z4, z5, ?_⟩
        have eo : outW (Q ++ [(Ne.k p ps, wy)]) = outW (Q ++ partsW wy p ps ps.length) := by
          rw [outW_app, outW_app, outW_parts]
          simp [outW, wayG]
        rw [eo, ← e]
        refine while_step (hcond _ _ _) (.inl ?_)
        have hi1 : ∀ S, fIx (neD (.k p ps)) (.int 1) S = .ok (.tup (ps.map neD)) S := fun S => by rw [neD_k]; simp
        have hN : isNon (neD (.k p ps)) = false := by rw [neD_k]; rfl
        have hlp : ((ps.map neD).length : Int) = (ps.length : Int) := by simp
        have b1 : (ps.length : Int) - 1 ≤ 1000000 := by omega
        have b2 : (-1000000 : Int) ≤ (ps.length : Int) - 1 := by omega
        have b3 : ((ps.length : Int) - 1 + 1).toNat = ps.length := by omega
        generalize (Q ++ partsW wy p ps ps.length).map wpD = PE at *
        generalize (Q ++ [(Ne.k p ps, wy)]).map wpD = PD at *
        generalize Q.map wpD = QD at *
        generalize F.map wD = FD at *
        generalize neD (.k p ps) = KD at *
        generalize ps.map neD = PS at *
        generalize wD wy = WD at *
        have hrg : ∀ G S, G[3]? = some (some KD) → iRg3 (aCons (mBin fSub (mCall fLen (aCons (mBin fIx (mVar 3) (mC (.int 1))) (aNil))) (mC (.int 1))) (aCons (mNeg (mC (.int 1))) (aCons (mNeg (mC (.int 1))) (aNil)))) G S = .ok (rgC ((ps.length : Int) - 1) (-1) ps.length) always S := fun G S hG => by
          have b4 : ((ps.length : Int) - 1 - -1).toNat = ps.length := by omega
          simp only [ev_iRg3, ev_aCons, ev_Bin, ev_Call, ev_Var, hG, ev_bind_ok, ev_C, hi1, ev_aNil, ev_abind_ok, ev_lenT, hlp, ev_subI, ev_Neg, ev_abindI_ok]
          have b5 : (ps.length : Int) ≤ 1000001 := by omega
          simp [b1, b2, b3, b4, b5]
        generalize hrgm : iRg3 (aCons (mBin fSub (mCall fLen (aCons (mBin fIx (mVar 3) (mC (.int 1))) (aNil))) (mC (.int 1))) (aCons (mNeg (mC (.int 1))) (aCons (mNeg (mC (.int 1))) (aNil)))) = rg at *
        unfold b_law_ways_2
        rw [hrgm]
        simp [hpop, hdl, hN, hrg, ei]
/-- the ways of a nest's words -/
theorem R_law_ways {t : Ne} (ok : okN t = true) (h6 : siz t ≤ 60) : Ret F_law_ways [neD t] (.lst true ((wayG [] t).map wD)) := by
  have hp := siz_pos t ok
  have hm : mesW [(t, [])] = 2 * siz t - 1 := by simp [mesW]
  obtain ⟨y3, y4, y5, e⟩ := while_ways (some (neD t)) 1000 [(t, [])] [] none none none (fun q hq => by rw [List.mem_singleton.mp hq]; exact ⟨ok, h6, by simp; omega⟩) (by omega) (by rw [hm]; simp; omega)
  have eo : [] ++ outW [(t, [])] = wayG [] t := by simp [outW]
  rw [eo] at e
  have e0 : [(t, ([] : List Int))].map wpD = [.tup [neD t, .tup []]] := rfl
  rw [e0, List.map_nil] at e
  refine Ret.of (e := .obj 0) (S' := [.lst ((wayG [] t).map wD), .lst []]) ?_ ?_ ?_
  · generalize (wayG [] t).map wD = FD at *
    generalize neD t = T at *
    simp [F_law_ways, ev_runF, m_law_ways, e]
  · rw [ev_resD]
    have : ∀ (g : Bool → Option Bool) (f : Nat → Option D) (L : List (List Int)), subs g f (L.map wD) = some (L.map wD) := fun g f L => subs_map g f wD L fun l _ => by simp [wD]
    simp [this]
  · simp only [allT, Bool.true_and]
    have : ∀ L : List (List Int), allTs (L.map wD) = true := fun L => by
      induction L with
      | nil => rfl
      | cons l L ih => simp [wD, allTs, ih]
    exact this _
end Ab

end
section
set_option maxRecDepth 100000
namespace Ab
open PySem PySem.Spec PyProof.Rows L2
/-- a nest laid open within one of the kind p -/
def opn (p : Bool) : Ne → List Ne
  | .w => [.w]
  | .k q ps => if q == p then ps else [.k q ps]
def joinN (p : Bool) (a b : Ne) : Ne := .k p (opn p a ++ opn p b)
theorem opn_ok {p : Bool} {t : Ne} (h : okN t = true) : (∀ u ∈ opn p t, okN u = true ∧ isK p u = false) ∧ sizs (opn p t) = siz t ∧ 1 ≤ (opn p t).length := by
  cases t with
  | w => simp [opn, okN, isK, sizs, siz]
  | k q ps =>
    by_cases hq : q = p
    · subst hq
      simp only [opn, beq_self_eq_true, if_true]
      exact ⟨fun u hu => isN_part h hu, rfl, by have := okN_len h; omega⟩
    · have hq2 : (q == p) = false := by simpa using hq
      simp only [opn, hq2, Bool.false_eq_true, if_false]
      refine ⟨fun u hu => ?_, by simp [sizs, siz], by simp⟩
      rw [List.mem_singleton.mp hu]
      exact ⟨h, hq2⟩
theorem joinN_ok {p : Bool} {a b : Ne} (ha : okN a = true) (hb : okN b = true) : okN (joinN p a b) = true ∧ siz (joinN p a b) = siz a + siz b := by
  obtain ⟨a1, a2, a3⟩ := opn_ok (p := p) ha
  obtain ⟨b1, b2, b3⟩ := opn_ok (p := p) hb
  refine ⟨?_, ?_⟩
  · simp only [joinN, okN, Bool.and_eq_true, decide_eq_true_eq]
    refine ⟨by simp; omega, okNs_iff.mpr fun t ht => ?_⟩
    rcases List.mem_append.mp ht with h | h
    · exact a1 t h
    · exact b1 t h
  · simp only [joinN, siz]
    rw [← a2, ← b2]
    simp [sizs_map]
theorem S_law_join_1 {p : Bool} {t : Ne} {y z : D} {x : Option D} {acc : List Ne} (h : acc.length + (opn p t).length ≤ 1000) :
    turn (gmName 4) b_law_join_1 (neD t) [some (.str (sg p)), some y, some z, some (.obj 0), x] [.lst (acc.map neD)] = .nx [some (.str (sg p)), some y, some z, some (.obj 0), some (neD t)] [.lst ((acc ++ opn p t).map neD)] := by
  have hl : acc.length < 100000 := by omega
  cases t with
  | w => simp [b_law_join_1, isNon, opn, hl]
  | k q ps =>
    by_cases hq : q = p
    · subst hq
      simp only [opn, beq_self_eq_true, if_true] at h ⊢
      have h2 : acc.length + ps.length ≤ 100000 := by omega
      simp [b_law_join_1, isNon, fExtendT, h2]
    · have hq2 : (q == p) = false := by simpa using hq
      have hs : ¬ sg q = sg p := by
        have := sg_eq (p := q) (q := p)
        rw [hq2] at this
        simpa using this
      simp [b_law_join_1, isNon, opn, hq2, hs, hl]
theorem R_law_join {p : Bool} {a b : Ne} (ha : okN a = true) (hb : okN b = true) (hz : siz a + siz b ≤ 500) : Ret F_law_join [.str (sg p), neD a, neD b] (neD (joinN p a b)) := by
  obtain ⟨a1, a2, a3⟩ := opn_ok (p := p) ha
  obtain ⟨b1, b2, b3⟩ := opn_ok (p := p) hb
  have la : (opn p a).length ≤ siz a := by
    rw [← a2]; have := sizs_pos p _ (okNs_iff.mpr a1); omega
  have lb : (opn p b).length ≤ siz b := by
    rw [← b2]; have := sizs_pos p _ (okNs_iff.mpr b1); omega
  have e1 := S_law_join_1 (p := p) (t := a) (y := neD a) (z := neD b) (x := none) (acc := []) (by simp; omega)
  have e2 := S_law_join_1 (p := p) (t := b) (y := neD a) (z := neD b) (x := some (neD a)) (acc := opn p a) (by omega)
  simp only [List.nil_append, List.map_nil] at e1
  have ho : ((opn p a ++ opn p b).map neD).length ≤ 100000 := by simp; omega
  refine Ret.imm (S' := [.lst ((opn p a ++ opn p b).map neD)]) ?_ (imm_ne _)
  rw [joinN, neD_k]
  simp [-ev_turn, -List.map_append, F_law_join, ev_runF, m_law_join, ev_forCons, e1, e2]
/-- the items of _law_nest -/
def itemsOk (m : Nat) (its : List Ne) : Prop := (∀ t ∈ its, okN t = true) ∧ sizs its = m
theorem itemsOk_len {m : Nat} {its : List Ne} (h : itemsOk m its) : its.length ≤ m := by
  obtain ⟨h1, h2⟩ := h
  rw [← h2]
  clear h2
  induction its with
  | nil => simp
  | cons t ts ih =>
    have := ih fun u hu => h1 u (List.mem_cons_of_mem _ hu)
    have := siz_pos t (h1 t List.mem_cons_self)
    simp [sizs]; omega
theorem sizs_append (a b : List Ne) : sizs (a ++ b) = sizs a + sizs b := by simp [sizs_map]
/-- one turn: two neighbours become one -/
theorem S_law_nest_1 {m : Nat} {its : List Ne} {c : Int} {cs : D} {a b d e : Option D} (ok : itemsOk m its) (h2 : 2 ≤ its.length) (hm : m ≤ 100) :
    ∃ its' x y, itemsOk m its' ∧ its'.length + 1 = its.length ∧ turn (gmName 2) b_law_nest_k21_1 (.int c) [some cs, some (.lst true (its.map neD)), a, b, d, e] [] = .nx [some cs, some (.lst true (its'.map neD)), some (.int c), x, y, e] [] := by
  obtain ⟨k, hk⟩ : ∃ k : Nat, (k : Int) = c / 2 % ((its.length : Int) - 1) := ⟨(c / 2 % ((its.length : Int) - 1)).toNat, by
    have := Int.emod_nonneg (c / 2) (b := (its.length : Int) - 1) (by omega)
    omega⟩
  have hk1 : k + 1 < its.length := by
    have := Int.emod_lt_of_pos (c / 2) (b := (its.length : Int) - 1) (by omega)
    omega
  obtain ⟨x, hx⟩ : ∃ x, its[k]? = some x := ⟨its[k], List.getElem?_eq_getElem (by omega)⟩
  obtain ⟨y, hy⟩ : ∃ y, its[k + 1]? = some y := ⟨its[k + 1], List.getElem?_eq_getElem hk1⟩
  have hsplit : its = its.take k ++ x :: y :: its.drop (k + 2) := by
    have e1 : its.drop k = x :: its.drop (k + 1) := by
      rw [List.drop_eq_getElem_cons (by omega)]
      congr 1
      rw [List.getElem?_eq_getElem (by omega)] at hx; exact Option.some.inj hx
    have e2 : its.drop (k + 1) = y :: its.drop (k + 2) := by
      rw [List.drop_eq_getElem_cons hk1]
      congr 1
      rw [List.getElem?_eq_getElem hk1] at hy; exact Option.some.inj hy
    rw [← e2, ← e1, List.take_append_drop]
  obtain ⟨p, hp⟩ : ∃ p : Bool, (p = decide (c % 2 = 0)) := ⟨_, rfl⟩
  have okx := ok.1 x (List.mem_of_getElem? hx)
  have oky := ok.1 y (List.mem_of_getElem? hy)
  have hs2 := ok.2
  rw [hsplit, sizs_append] at hs2
  simp only [sizs] at hs2
  obtain ⟨j1, j2⟩ := joinN_ok (p := p) okx oky
  have ok' : itemsOk m (its.take k ++ [joinN p x y] ++ its.drop (k + 2)) := by
    refine ⟨fun t ht => ?_, ?_⟩
    · simp only [List.mem_append, List.mem_singleton] at ht
      rcases ht with (h | h) | h
      · exact ok.1 t (List.mem_of_mem_take h)
      · rw [h]; exact j1
      · exact ok.1 t (List.mem_of_mem_drop h)
    · rw [sizs_append, sizs_append]
      simp only [sizs]
      omega
  refine ⟨_, some (.int k), some (neD (joinN p x y)), ok', ?_, ?_⟩
  · simp; omega
  have hj := (R_law_join (p := p) okx oky (by omega)).run (S := [])
  have hch : fIx (.str "+-") (.int (c % 2)) [] = .ok (.str (sg p)) [] := by
    have h1 := Int.emod_nonneg c (b := 2) (by decide)
    have h2 := Int.emod_lt_of_pos c (b := 2) (by decide)
    have : c % 2 = 0 ∨ c % 2 = 1 := by omega
    rcases this with h | h
    · rw [hp, h]; rfl
    · rw [hp, h]; rfl
  have ix1 : L2.atI (its.map neD) (k : Int) = some (neD x) := atI_nat (by rw [List.getElem?_map, hx]; rfl)
  have ix2 : L2.atI (its.map neD) ((k : Int) + 1) = some (neD y) := atI_nat (n := k + 1) (by rw [List.getElem?_map, hy]; rfl)
  have cut1 : cutD (its.map neD) none (some (k : Int)) = (its.take k).map neD := by rw [cutD_to (by omega)]; simp [List.map_take]
  have cut2 : cutD (its.map neD) (some ((k : Int) + 2)) none = (its.drop (k + 2)).map neD := by
    rw [cutD_from (by omega)]
    have : ((k : Int) + 2).toNat = k + 2 := by omega
    rw [this]; simp [List.map_drop]
  have hlen := itemsOk_len ok
  have l1 : (its.take k).length ≤ 100 := by simp; omega
  have l2 : (its.drop (k + 2)).length ≤ 100 := by simp; omega
  have hml : (its.map neD).length = its.length := List.length_map ..
  have hd2 : fDiv (.int c) (.int 2) [] = .ok (.int (c / 2)) [] := ev_divI (by decide) (n := 64) (by decide) (by decide)
  have hpos : (0 : Int) < (its.length : Int) - 1 := by omega
  have hpos1 : (1 : Int) < (its.length : Int) := by omega
  simp only [List.map_append, List.map_cons, List.map_nil]
  generalize (its.take k) = A at cut1 l1 ⊢
  generalize (its.drop (k + 2)) = B at cut2 l2 ⊢
  generalize joinN p x y = J at hj ⊢
  have l3 : A.length + 1 ≤ 100000 := by omega
  have l4 : A.length + 1 + B.length ≤ 100000 := by omega
  simp [b_law_nest_k21_1, hd2, hml, hpos1, ← hk, hch, ix1, ix2, hj, cut1, cut2, l3, l4]
theorem map_const_range (n : Nat) : (List.range n).map (fun _ => D.non) = (List.replicate n Ne.w).map neD := by
  apply List.ext_getElem?
  intro i
  by_cases h : i < n <;> simp [h]
theorem S_c_law_nest_k21_1 {cells : List Int} {b : Bool} {x y z u v : Option D} (h : cells.length ≤ 100) : c_law_nest_k21_1 [some (.lst b (cells.map .int)), x, y, z, u, v] [] = .ok (.lst true ((List.replicate (cells.length + 1) Ne.w).map neD)) [] := by
  rw [← map_const_range]
  unfold c_law_nest_k21_1
  refine comp_f0 (ck := always) (fun j : Nat => .int (j : Int)) (List.range (cells.length + 1)) (fun _ => .non) (fun j => [some (.lst b (cells.map .int)), x, y, z, u, some (.int (j : Int))]) ?_ (fun _ => rfl) (by simp; omega) (by simp) ?_ ?_ ?_
  · have h1 : (cells.length : Int) + 1 ≤ 1000000 := by omega
    have h2 : (-1000000 : Int) ≤ (cells.length : Int) + 1 := by omega
    have h3 : ((cells.length : Int) + 1).toNat = cells.length + 1 := by omega
    simp [h1, h2, h3, rgD_nat, natD]
  · rw [map_const_range]; exact objLts_ne _
  · intro j _; simp
  · intro j _ acc; simp
theorem R_law_nest_k21 {cells : List Int} {b : Bool} (h : cells.length ≤ 62) : ∃ t, okN t = true ∧ siz t = cells.length + 1 ∧ Ret F_law_nest_k21 [.lst b (cells.map .int)] (neD t) := by
  have l1 := for_inv (f := turn (gmName 2) b_law_nest_k21_1) (l := cells.map .int) (G := [some (.lst b (cells.map .int)), some (.lst true ((List.replicate (cells.length + 1) Ne.w).map neD)), none, none, none, none]) (S := [])
    (fun i G S => ∃ its x y z, itemsOk (cells.length + 1) its ∧ its.length + i = cells.length + 1 ∧ G = [some (.lst b (cells.map .int)), some (.lst true (its.map neD)), x, y, z, none] ∧ S = []) ⟨_, none, none, none, ⟨fun t ht => by
      rw [(List.mem_replicate.mp ht).2]; rfl, by rw [sizs_map]; simp [siz]⟩, by simp, rfl, rfl⟩ (fun i x G S hx hI => by
      obtain ⟨its, x', y', z', ok, hl, rfl, rfl⟩ := hI
      rw [List.getElem?_map, Option.map_eq_some_iff] at hx
      obtain ⟨c, hc, rfl⟩ := hx
      have hi : i < cells.length := (List.getElem?_eq_some_iff.mp hc).1
      obtain ⟨its', a', b', ok', hl', e⟩ := S_law_nest_1 (c := c) (cs := .lst b (cells.map .int)) (a := x') (b := y') (d := z') (e := none) ok (by omega) (by omega)
      exact ⟨_, _, .inl e, its', some (.int c), a', b', ok', by omega, rfl, rfl⟩)
  obtain ⟨G', S', e, its, x, y, z, ok, hl, rfl, rfl⟩ := l1
  rw [List.length_map] at hl
  have : its.length = 1 := by omega
  match its, this with
  | [t], _ =>
    have hz := ok.2
    simp only [sizs, Nat.add_zero] at hz
    refine ⟨t, ok.1 t (by simp), hz, Ret.imm (S' := []) ?_ (imm_ne t)⟩
    simp [-List.map_replicate, F_law_nest_k21, ev_runF, m_law_nest_k21, S_c_law_nest_k21_1 (by omega : cells.length ≤ 100), e]
end Ab

end
section
set_option maxRecDepth 100000
namespace Ab
open PySem PySem.Spec PyProof.Rows L2
theorem row_permR (t : Ne) : (row 0 t).Perm (List.range (siz t)) := by
  have h := row_ord t
  have e := row_len 0 t
  refine (List.perm_ext_iff_of_nodup h.1 List.nodup_range).mpr fun x => ?_
  rw [List.mem_range]
  exact ⟨fun hx => by have := h.2 x hx; omega, fun hx => nodup_full h (by omega)⟩
/-- by taking out of what is left -/
theorem R_law_free_k21 {cells : List Int} {b : Bool} (hl : cells.length ≤ 100) : ∃ l : List Nat, isOrd l ∧ l.length = cells.length ∧ Ret F_law_free_k21 [.lst b (cells.map .int)] (.lst true (natD l)) := by
  obtain ⟨G1, S1, e1, left, got, hp, hlen, x, rfl, rfl⟩ := for_pre (f := turn (gmName 3) b_law_free_k21_1) (ι := D.int) (l := cells) (G := [some (.lst b (cells.map .int)), some (.obj 0), some (.obj 1), none]) (S := [.lst (natD (List.range cells.length)), .lst []])
    (fun pre G S => ∃ left got : List Nat, (left ++ got).Perm (List.range cells.length) ∧ left.length + pre.length = cells.length ∧ ∃ x, G = [some (.lst b (cells.map .int)), some (.obj 0), some (.obj 1), x] ∧ S = [.lst (natD left), .lst (natD got)]) ⟨List.range cells.length, [], by simp, by simp, none, rfl, rfl⟩ (fun pre c post G S he hI => by
      obtain ⟨left, got, hp, hlen, x, rfl, rfl⟩ := hI
      have hpl : pre.length + (post.length + 1) = cells.length := by rw [he]; simp
      have hpos : 0 < left.length := by omega
      have d4 : ∀ S, fDiv (.int c) (.int 4) S = .ok (.int (c / 4)) S := fun S => div_small (by decide) (by decide)
      obtain ⟨i, hi⟩ := Int.eq_ofNat_of_zero_le (Int.emod_nonneg (c / 4) (b := (left.length : Int)) (by omega))
      have i1 := Int.emod_lt_of_pos (c / 4) (b := (left.length : Int)) (by omega)
      have hin : i < left.length := by omega
      obtain ⟨w, hw⟩ : ∃ w, left[i]? = some w := ⟨_, List.getElem?_eq_getElem hin⟩
      have hwD : (natD left)[i]? = some (.int (w : Nat)) := by rw [natD, List.getElem?_map, hw]; rfl
      have he2 := natD_erase left i
      have hpe := erase_perm hw
      have lN : (natD left).length = left.length := natD_len left
      have hg : got.length + left.length = cells.length := by
        have := hp.length_eq
        simp only [List.length_append, List.length_range] at this
        omega
      have hn : (natD got).length < 100000 := by rw [natD_len]; omega
      have hi100 : (i : Int) ≤ 100000 := by omega
      have hin100 : i ≤ 100000 := by omega
      refine ⟨_, _, .inl ?_, left.eraseIdx i, got ++ [w], ?_, ?_, some (.int c), rfl, rfl⟩
      · rw [natD_append, natD_one, ← he2]
        have hposi : (0 : Int) < left.length := by omega
        generalize natD left = L at *
        generalize natD got = Gt at *
        obtain ⟨hg1, hg2⟩ := List.getElem?_eq_some_iff.mp hwD
        simp [turn, b_law_free_k21_1, d4, lN, hpos, hposi, hi, hin, hi100, hin100, hwD, hg2, hn]
      · have : (left.eraseIdx i ++ (got ++ [w])).Perm (left ++ got) := by
          refine List.Perm.trans ?_ (hpe.append_right got)
          rw [← List.append_assoc]
          exact (List.perm_append_singleton w (left.eraseIdx i ++ got))
        exact this.trans hp
      · rw [List.length_eraseIdx, if_pos hin, List.length_append, List.length_singleton]; omega)
  have hl0 : left = [] := List.length_eq_zero_iff.mp (by omega)
  subst hl0
  rw [List.nil_append] at hp
  obtain ⟨o1, o2⟩ := isOrd_rng hp
  have hci : (cells.length : Int) ≤ 100000 := by omega
  have hcn : cells.length ≤ 100000 := by omega
  have er : rgD 0 cells.length = natD (List.range cells.length) := rgD_nat _
  refine ⟨got, o1, o2, Ret.of (e := .obj 1) (S' := [.lst (natD []), .lst (natD got)]) ?_ (by simp) (by simp [allT])⟩
  have lC : (cells.map D.int).length = cells.length := by simp
  generalize natD (List.range cells.length) = R at *
  generalize natD got = Gt at *
  generalize cells.map D.int = C at *
  simp [F_law_free_k21, ev_runF, m_law_free_k21, lC, hci, hcn, er, e1]
theorem nd_at {l : List Nat} (h : l.Nodup) {i j x : Nat} (hi : l[i]? = some x) (hj : l[j]? = some x) : i = j := by
  obtain ⟨h1, e1⟩ := List.getElem?_eq_some_iff.mp hi
  obtain ⟨h2, e2⟩ := List.getElem?_eq_some_iff.mp hj
  rcases Nat.lt_trichotomy i j with h3 | h3 | h3
  · exact absurd (e1.trans e2.symm) (List.pairwise_iff_getElem.mp h i j h1 h2 h3)
  · exact h3
  · exact absurd (e2.trans e1.symm) (List.pairwise_iff_getElem.mp h j i h2 h1 h3)
theorem swap_ord {l : List Nat} (h : isOrd l) {i j x y : Nat} (hi : l[i]? = some x) (hj : l[j]? = some y) : isOrd ((l.set i y).set j x) := by
  have hil := (List.getElem?_eq_some_iff.mp hi).1
  have hjl := (List.getElem?_eq_some_iff.mp hj).1
  constructor
  · have hg : ∀ k v, ((l.set i y).set j x)[k]? = some v → l[if k = j then i else if k = i then j else k]? = some v := fun k v hk => by
      rw [List.getElem?_set] at hk
      by_cases h1 : j = k
      · rw [if_pos h1] at hk
        subst h1
        rw [if_pos rfl]
        split at hk
        · rw [← hk]; exact hi
        · cases hk
      · rw [if_neg h1, List.getElem?_set] at hk
        rw [if_neg (fun e => h1 e.symm)]
        by_cases h2 : i = k
        · rw [if_pos h2] at hk
          subst h2
          rw [if_pos rfl]
          split at hk
          · rw [← hk]; exact hj
          · omega
        · rw [if_neg h2] at hk
          rw [if_neg (fun e => h2 e.symm)]; exact hk
    refine List.pairwise_iff_getElem.mpr fun a b ha hb hab e => ?_
    have ga := hg a _ (List.getElem?_eq_getElem ha)
    have gb := hg b _ (List.getElem?_eq_getElem hb)
    rw [e] at ga
    have := nd_at h.1 ga gb
    split at this <;> split at this <;> (try split at this) <;> (try split at this) <;> omega
  · intro z hz
    rw [List.length_set, List.length_set]
    rcases List.mem_or_eq_of_mem_set hz with hz | rfl
    · rcases List.mem_or_eq_of_mem_set hz with hz | rfl
      · exact h.2 z hz
      · exact h.2 _ (List.mem_of_getElem? hj)
    · exact h.2 _ (List.mem_of_getElem? hi)
theorem move_perm {l : List Nat} {i x : Nat} (h : l[i]? = some x) (j : Nat) : (((l.eraseIdx i).take j ++ [x]) ++ (l.eraseIdx i).drop j).Perm l := by
  refine List.Perm.trans ?_ (erase_perm h)
  have := List.take_append_drop j (l.eraseIdx i)
  rw [List.append_assoc]
  refine (List.perm_middle (a := x) (l₁ := (l.eraseIdx i).take j) (l₂ := (l.eraseIdx i).drop j)).trans ?_
  rw [this]
theorem ev_insZ {n : Nat} {k : Int} {y : D} {S : Sto} : fInsert (.obj n) [.int k, y] S = (match S[n]? with
  | some (.lst xs) => if xs.length < 100000 ∧ 0 ≤ k ∧ k ≤ 1000000 then .ok .non (S.set n (.lst (xs.take k.toNat ++ [y] ++ xs.drop k.toNat))) else .err
  | _ => .err) := (rfl)
theorem natD_set21 {l : List Nat} {a v : Nat} : (natD l).set a (.int v) = natD (l.set a v) := by simp [natD, List.map_set]
theorem R_law_order_k21 {ns : List Int} {b : Bool} (hn : ns.length ≤ 63) : ∃ l : List Nat, isOrd l ∧ 0 < l.length ∧ l.length ≤ 60 ∧ l.length ≤ max 1 (ns.length - 2) ∧ Ret F_law_order_k21 [.lst b (ns.map .int)] (.tup (natD l)) := by
  have cut0 : cutD (ns.map D.int) (some 2) (some 62) = ((ns.take 62).drop 2).map .int := by rw [cutD_mid (by omega) (by omega)]; simp [List.map_drop, List.map_take]
  have hcl : ((ns.take 62).drop 2).length ≤ 60 := by simp; omega
  have hcl2 : ((ns.take 62).drop 2).length ≤ ns.length - 2 := by simp; omega
  have c0 := fun S => (R_law_cell_at (ns := ns) (i := 0) (b := false) (by decide)).run (S := S)
  have c1 := fun S => (R_law_cell_at (ns := ns) (i := 1) (b := false) (by decide)).run (S := S)
  simp only [Int.toNat_zero] at c0
  have e1n : (1 : Int).toNat = 1 := rfl
  rw [e1n] at c1
  have w0 := Int.emod_nonneg (ns.getD 0 0) (b := 4) (by decide)
  have w1 := Int.emod_lt_of_pos (ns.getD 0 0) (b := 4) (by decide)
  have d60 : ∀ S, fDiv (.int (ns.getD 1 0)) (.int 60) S = .ok (.int (ns.getD 1 0 / 60)) S := fun S => div_small (by decide) (by decide)
  generalize (ns.take 62).drop 2 = cells at *
  generalize ns.getD 1 0 = c at *
  generalize hc00 : ns.getD 0 0 = cc at *
  generalize hw : cc % 4 = way at *
  by_cases hce : cells = []
  · subst hce
    refine ⟨[0], ⟨by simp, by simp⟩, by simp, by simp, by simp; omega, Ret.imm (S' := []) ?_ rfl⟩
    simp [F_law_order_k21, ev_runF, m_law_order_k21, cut0, c0, hw, natD]
  · have hcd : (cells.map D.int).isEmpty = false := by simpa using hce
    have hpos := List.length_pos_iff.mpr hce
    by_cases h0 : way = 0
    · obtain ⟨l, lo, ll, r⟩ := R_law_free_k21 (cells := cells) (b := false) (by omega)
      have r := fun S => r.run (S := S)
      refine ⟨l, lo, by omega, by omega, by omega, Ret.imm (S' := []) ?_ (by simp)⟩
      have sC : ∀ g f, subs g f (cells.map D.int) = some (cells.map D.int) := fun g f => subs_imm g f _ (imms_ints _)
      generalize natD l = N at *
      generalize cells.map D.int = C at *
      simp [F_law_order_k21, ev_runF, m_law_order_k21, cut0, c0, hw, h0, hcd, r, sC]
    · obtain ⟨t, ok, hz, r⟩ := R_law_nest_k21 (cells := cells.drop 1) (b := false) (by simp; omega)
      have r := fun S => r.run (S := S)
      have hzl : siz t = cells.length := by rw [hz]; simp; omega
      have hp := siz_pos t ok
      have cut1 : cutD (cells.map D.int) (some 1) none = (cells.drop 1).map .int := by rw [cutD_from (by omega)]; simp [List.map_drop]
      have rr := fun S => (R_law_row 70 t 0 ok (by omega) (by omega)).runO (S := S) (by rw [natD_int]; exact imms_ints _)
      simp only [Int.natCast_zero] at rr
      have ho := row_ord t
      have hl := row_len 0 t
      generalize row 0 t = l at *
      have lN : (natD l).length = l.length := natD_len l
      have sN : ∀ g f, sub g f (neD t) = some (neD t) := fun g f => sub_imm g f _ (imm_ne t)
      have sC : ∀ g f, subs g f ((cells.drop 1).map D.int) = some ((cells.drop 1).map D.int) := fun g f => subs_imm g f _ (imms_ints _)
      obtain ⟨i, hi⟩ := Int.eq_ofNat_of_zero_le (Int.emod_nonneg c (b := (l.length : Int)) (by omega))
      have hi1 := Int.emod_lt_of_pos c (b := (l.length : Int)) (by omega)
      obtain ⟨x, hx⟩ : ∃ x, l[i]? = some x := ⟨_, List.getElem?_eq_getElem (by omega)⟩
      have hlp : 0 < l.length := by omega
      have hlpi : (0 : Int) < l.length := by omega
      have ax : L2.atI (natD l) (i : Int) = some (.int (x : Nat)) := atI_nat (by rw [natD, List.getElem?_map, hx]; rfl)
      have ixi : L2.ixN l.length (i : Int) = some i := by rw [ixN_of (by omega) (by omega)]; rfl
      by_cases h1 : way = 1
      · obtain ⟨j, hj⟩ := Int.eq_ofNat_of_zero_le (Int.emod_nonneg (c / 60) (b := (l.length : Int)) (by omega))
        have hj1 := Int.emod_lt_of_pos (c / 60) (b := (l.length : Int)) (by omega)
        obtain ⟨y, hy⟩ : ∃ y, l[j]? = some y := ⟨_, List.getElem?_eq_getElem (by omega)⟩
        have ay : L2.atI (natD l) (j : Int) = some (.int (y : Nat)) := atI_nat (by rw [natD, List.getElem?_map, hy]; rfl)
        have ixj : L2.ixN l.length (j : Int) = some j := by rw [ixN_of (by omega) (by omega)]; rfl
        refine ⟨(l.set i y).set j x, swap_ord ho hx hy, by simp; omega, by simp; omega, by simp only [List.length_set]; omega, Ret.imm (S' := [.lst (natD ((l.set i y).set j x))]) ?_ (by simp)⟩
        rw [← natD_set21, ← natD_set21]
        generalize natD l = N at *
        generalize neD t = T at *
        generalize (cells.drop 1).map D.int = C1 at *
        generalize cells.map D.int = C at *
        simp [F_law_order_k21, ev_runF, m_law_order_k21, cut0, cut1, c0, c1, hw, h1, hcd, r, rr, sN, sC, lN, hi, hj, hlp, hlpi, ax, ay, ixi, ixj, d60, mSetIx]
      · by_cases h2 : way = 2
        · obtain ⟨j, hj⟩ := Int.eq_ofNat_of_zero_le (Int.emod_nonneg (c / 60) (b := (l.length : Int)) (by omega))
          have hj1 := Int.emod_lt_of_pos (c / 60) (b := (l.length : Int)) (by omega)
          have mp := move_perm hx j
          have em : natD (((l.eraseIdx i).take j ++ [x]) ++ (l.eraseIdx i).drop j) = (((natD l).eraseIdx i).take j ++ [.int (x : Nat)]) ++ ((natD l).eraseIdx i).drop j := by
            rw [natD_erase, natD_append, natD_append, natD_one]
            simp [natD, List.map_take, List.map_drop]
          have hxD : (natD l)[i]? = some (.int (x : Nat)) := by rw [natD, List.getElem?_map, hx]; rfl
          have lE : ((natD l).eraseIdx i).length = l.length - 1 := by rw [List.length_eraseIdx, if_pos (by rw [lN]; omega), lN]
          have q1 : ((l.length - 1 : Nat) : Int) + 1 = l.length := by omega
          have hil : i < l.length := by omega
          refine ⟨((l.eraseIdx i).take j ++ [x]) ++ (l.eraseIdx i).drop j, isOrd_perm ho mp, by rw [mp.length_eq]; omega, by rw [mp.length_eq]; omega, by rw [mp.length_eq]; omega, Ret.imm (S' := [.lst (natD (((l.eraseIdx i).take j ++ [x]) ++ (l.eraseIdx i).drop j))]) ?_ (by rw [imm_tup]; exact imms_natD _)⟩
          rw [em]
          have n1 : (i : Int) ≤ 100000 := by omega
          have n2 : i ≤ 100000 := by omega
          have n3 : l.length - 1 < 100000 := by omega
          have n4 : (j : Int) ≤ 1000000 := by omega
          have n5 : j ≤ 1000000 := by omega
          have n6 : l.length ≤ 100000 := by omega
          generalize natD l = N at *
          obtain ⟨hg1, hg2⟩ := List.getElem?_eq_some_iff.mp hxD
          generalize neD t = T at *
          generalize (cells.drop 1).map D.int = C1 at *
          generalize cells.map D.int = C at *
          simp [F_law_order_k21, ev_runF, m_law_order_k21, cut0, cut1, c0, c1, hw, h2, hcd, r, rr, sN, sC, lN, hi, hj, hlp, hlpi, d60, hxD, hg2, lE, q1, hil, n1, n2, n3, n4, n5, n6, ev_insZ]
        · refine ⟨l, ho, by omega, by omega, by omega, Ret.imm (S' := [.lst (natD l)]) ?_ (by simp)⟩
          generalize natD l = N at *
          generalize neD t = T at *
          generalize (cells.drop 1).map D.int = C1 at *
          generalize cells.map D.int = C at *
          simp [F_law_order_k21, ev_runF, m_law_order_k21, cut0, cut1, c0, c1, hw, h0, h1, h2, hcd, r, rr, sN, sC]
end Ab

end
section
set_option maxRecDepth 100000
namespace Ab
open PySem PySem.Spec PyProof.Rows L2
theorem wayLt_irr : ∀ a : List Int, wayLt a a = false
  | [] => rfl
  | x :: a => by simp [wayLt, wayLt_irr a]
theorem wayLt_asym : ∀ a b : List Int, wayLt a b = true → wayLt b a = false
  | [], [], _ => rfl
  | [], _ :: _, _ => rfl
  | _ :: _, [], h => by simp [wayLt] at h
  | x :: a, y :: b, h => by
    simp only [wayLt] at h ⊢
    by_cases e : x = y
    · subst e
      rw [if_pos rfl] at h ⊢
      exact wayLt_asym a b h
    · rw [if_neg e] at h
      rw [if_neg (Ne.symm e)]
      simp only [decide_eq_true_eq, decide_eq_false_iff_not] at h ⊢
      omega
theorem wayLt_app (p : List Int) (a b : List Int) : wayLt (p ++ a) (p ++ b) = wayLt a b := by
  induction p with
  | nil => rfl
  | cons x p ih => simp [wayLt, ih]
theorem wayLe_tot (W : List (List Int)) : PySem.W.TotalLe (wayLe W) := by
  rw [← dataLe_way]
  exact PySem.W.sortLe_total _ _ _
/-- a row in which each two stand in order is the sorted one -/
theorem waySort_eq {W : List (List Int)} {l : List Nat} (hp : l.Perm (List.range W.length)) (hs : l.Pairwise fun i j => wayLt (W.getD i []) (W.getD j []) = true) : waySort W = l := by
  have T := wayLe_tot W
  have h1 : (waySort W).Perm l := (List.mergeSort_perm _ _).trans hp.symm
  have h2 : (waySort W).Pairwise fun i j => wayLe W i j = true := List.pairwise_mergeSort (le := wayLe W) (fun a b c => T.trans a b c) (fun a b => by
    rcases T.total a b with h | h <;> simp [h]) _
  have nd : l.Nodup := hp.nodup_iff.mpr List.nodup_range
  have h3 : l.Pairwise fun i j => wayLe W i j = true := hs.imp fun {i j} h => by
    unfold wayLe
    rw [wayLt_asym _ _ h]; rfl
  refine List.Perm.eq_of_pairwise (le := fun i j => wayLe W i j = true) (fun a b ha hb hab hba => ?_) h2 h3 h1
  refine Classical.byContradiction fun ne => ?_
  have hb : b ∈ l := hb
  have ha' : a ∈ l := h1.mem_iff.mp ha
  have key : ∀ {l : List Nat}, l.Pairwise (fun i j => wayLt (W.getD i []) (W.getD j []) = true) → a ∈ l → b ∈ l → wayLt (W.getD a []) (W.getD b []) = true ∨ wayLt (W.getD b []) (W.getD a []) = true := by
    intro l
    induction l with
    | nil => intro _ h; cases h
    | cons x l ih =>
      intro h ma mb
      obtain ⟨q1, q2⟩ := List.pairwise_cons.mp h
      rcases List.mem_cons.mp ma with rfl | ma
      · rcases List.mem_cons.mp mb with rfl | mb
        · exact absurd rfl ne
        · exact .inl (q1 b mb)
      · rcases List.mem_cons.mp mb with rfl | mb
        · rcases List.mem_cons.mp ‹a ∈ _› with e | m
          · exact absurd e ne
          · exact .inr (q1 a m)
        · exact ih q2 ma mb
  rcases key hs ha' hb with h | h
  · unfold wayLe at hba
    rw [h] at hba; cases hba
  · unfold wayLe at hab
    rw [h] at hab; cases hab
mutual
theorem wayG_pre : ∀ (t : Ne) (pre w : List Int), w ∈ wayG pre t → ∃ s, w = pre ++ s
  | .w, pre, w, h => ⟨[], by simpa [wayG] using h⟩
  | .k p ps, pre, w, h => by
    obtain ⟨c, s, _, e⟩ := wayGs_pre ps pre w p 0 (by simpa [wayG] using h)
    exact ⟨sgI p c :: s, by rw [e]; simp⟩
theorem wayGs_pre : ∀ (ps : List Ne) (pre w : List Int) (p : Bool) (i : Nat), w ∈ wayGs pre p i ps → ∃ c s, i ≤ c ∧ w = pre ++ [sgI p c] ++ s
  | [], pre, w, p, i, h => by simp [wayGs] at h
  | t :: ts, pre, w, p, i, h => by
    simp only [wayGs, List.mem_append] at h
    rcases h with h | h
    · obtain ⟨s, e⟩ := wayG_pre t _ w h
      exact ⟨i, s, Nat.le_refl _, e⟩
    · obtain ⟨c, s, hc, e⟩ := wayGs_pre ts pre w p (i + 1) h
      exact ⟨c, s, by omega, e⟩
end
def ltAt (W : List (List Int)) (f i j : Nat) : Prop := wayLt (W.getD (i - f) []) (W.getD (j - f) []) = true
theorem getD_app1 {W V : List (List Int)} {i f : Nat} (h1 : f ≤ i) (h : i < f + W.length) : (W ++ V).getD (i - f) [] = W.getD (i - f) [] ∧ W.getD (i - f) [] ∈ W := by
  have hl : i - f < W.length := by omega
  rw [List.getD_eq_getElem?_getD, List.getD_eq_getElem?_getD, List.getElem?_append_left hl, List.getElem?_eq_getElem hl]
  exact ⟨rfl, List.getElem_mem hl⟩
theorem getD_app2 {W V : List (List Int)} {i f : Nat} (h1 : f + W.length ≤ i) (h : i < f + W.length + V.length) : (W ++ V).getD (i - f) [] = V.getD (i - (f + W.length)) [] ∧ V.getD (i - (f + W.length)) [] ∈ V := by
  have e : i - f - W.length = i - (f + W.length) := by omega
  have hl : i - (f + W.length) < V.length := by omega
  rw [List.getD_eq_getElem?_getD, List.getD_eq_getElem?_getD, List.getElem?_append_right (by omega), e, List.getElem?_eq_getElem hl]
  exact ⟨rfl, List.getElem_mem hl⟩
mutual
theorem row_ways : ∀ (t : Ne) (pre : List Int) (f : Nat), (row f t).Pairwise (ltAt (wayG pre t) f)
  | .w, pre, f => by simp [row]
  | .k p ps, pre, f => by
    cases p with
    | true => simpa [row, wayG] using (rows_ways ps pre f 0).1
    | false => simpa [row, wayG] using (rows_ways ps pre f 0).2
theorem rows_ways : ∀ (ps : List Ne) (pre : List Int) (f c : Nat), (rowsP f ps).Pairwise (ltAt (wayGs pre true c ps) f) ∧ (rowsM f ps).Pairwise (ltAt (wayGs pre false c ps) f)
  | [], pre, f, c => by simp [rowsP, rowsM]
  | t :: ts, pre, f, c => by
    have h1 := fun p => row_ways t (pre ++ [sgI p c]) f
    have h2 := rows_ways ts pre (f + siz t) (c + 1)
    have l1 := fun p => wayG_len t (pre ++ [sgI p c])
    have l2 := fun p => wayGs_len ts pre p (c + 1)
    have a1 : ∀ p (l : List Nat), (∀ x ∈ l, f ≤ x ∧ x < f + siz t) → l.Pairwise (ltAt (wayG (pre ++ [sgI p c]) t) f) → l.Pairwise (ltAt (wayGs pre p c (t :: ts)) f) := fun p l hl h => by
      refine h.imp_of_mem fun {i j} hi hj hij => ?_
      unfold ltAt at hij ⊢
      simp only [wayGs]
      rw [(getD_app1 (hl i hi).1 (by rw [l1]; exact (hl i hi).2)).1, (getD_app1 (hl j hj).1 (by rw [l1]; exact (hl j hj).2)).1]
      exact hij
    have a2 : ∀ p (l : List Nat), (∀ x ∈ l, f + siz t ≤ x ∧ x < f + siz t + sizs ts) → l.Pairwise (ltAt (wayGs pre p (c + 1) ts) (f + siz t)) → l.Pairwise (ltAt (wayGs pre p c (t :: ts)) f) := fun p l hl h => by
      refine h.imp_of_mem fun {i j} hi hj hij => ?_
      unfold ltAt at hij ⊢
      simp only [wayGs]
      have g1 := getD_app2 (W := wayG (pre ++ [sgI p c]) t) (V := wayGs pre p (c + 1) ts) (i := i) (f := f) (by rw [l1]; exact (hl i hi).1) (by rw [l1, l2]; exact (hl i hi).2)
      have g2 := getD_app2 (W := wayG (pre ++ [sgI p c]) t) (V := wayGs pre p (c + 1) ts) (i := j) (f := f) (by rw [l1]; exact (hl j hj).1) (by rw [l1, l2]; exact (hl j hj).2)
      rw [l1] at g1 g2
      rw [g1.1, g2.1]
      exact hij
    have cross : ∀ (p : Bool) (i j : Nat), (f ≤ i ∧ i < f + siz t) → (f + siz t ≤ j ∧ j < f + siz t + sizs ts) → (if p then ltAt (wayGs pre p c (t :: ts)) f i j else ltAt (wayGs pre p c (t :: ts)) f j i) := fun p i j hi hj => by
      have g1 := getD_app1 (W := wayG (pre ++ [sgI p c]) t) (V := wayGs pre p (c + 1) ts) (i := i) (f := f) hi.1 (by rw [l1]; exact hi.2)
      have g2 := getD_app2 (W := wayG (pre ++ [sgI p c]) t) (V := wayGs pre p (c + 1) ts) (i := j) (f := f) (by rw [l1]; exact hj.1) (by rw [l1, l2]; exact hj.2)
      obtain ⟨s, e1⟩ := wayG_pre t _ _ g1.2
      obtain ⟨c', s', hc, e2⟩ := wayGs_pre ts pre _ p (c + 1) g2.2
      unfold ltAt
      simp only [wayGs]
      rw [g1.1, g2.1, e1, e2]
      have hne : ∀ u v : Int, u < v → wayLt (pre ++ [u] ++ s) (pre ++ [v] ++ s') = true ∧ wayLt (pre ++ [u] ++ s') (pre ++ [v] ++ s) = true := fun u v huv => by
        rw [List.append_assoc, List.append_assoc, List.append_assoc, List.append_assoc, wayLt_app, wayLt_app]
        have : ¬ u = v := by omega
        simp [wayLt, this, huv]
      cases p with
      | true => exact (hne _ _ (by simp only [sgI, if_true]; omega)).1
      | false =>
        simp only [Bool.false_eq_true, if_false]
        exact (hne _ _ (by simp only [sgI, Bool.false_eq_true, if_false]; omega)).2
    have b1 : ∀ x ∈ row f t, f ≤ x ∧ x < f + siz t := fun x hx => row_bd f t x hx
    have bP : ∀ x ∈ rowsP (f + siz t) ts, f + siz t ≤ x ∧ x < f + siz t + sizs ts := fun x hx => rowsP_bd _ ts x hx
    have bM : ∀ x ∈ rowsM (f + siz t) ts, f + siz t ≤ x ∧ x < f + siz t + sizs ts := fun x hx => rowsM_bd _ ts x hx
    refine ⟨?_, ?_⟩
    · simp only [rowsP]
      rw [List.pairwise_append]
      exact ⟨a1 true _ b1 (h1 true), a2 true _ bP h2.1, fun i hi j hj => by simpa using cross true i j (b1 i hi) (bP j hj)⟩
    · simp only [rowsM]
      rw [List.pairwise_append]
      exact ⟨a2 false _ bM h2.2, a1 false _ b1 (h1 false), fun i hi j hj => by simpa using cross false j i (b1 j hj) (bM i hi)⟩
end
theorem waySort_row (t : Ne) : waySort (wayG [] t) = row 0 t := by
  refine waySort_eq ?_ ?_
  · rw [wayG_len]
    exact row_permR t
  · exact row_ways t [] 0
theorem waysOf_map (L : List (List Int)) : waysOf (L.map wD) = some L := by
  induction L with
  | nil => rfl
  | cons l L ih => simp only [List.map_cons, waysOf, wD, intsD_map, ih]
theorem okW_ways {t : Ne} (ok : okN t = true) (h6 : siz t ≤ 60) : okW (wayG [] t) = true := by
  have hl := wayG_len t []
  unfold okW
  rw [hl]
  simp only [Bool.and_eq_true, decide_eq_true_eq, Bool.or_eq_true, List.all_eq_true, Bool.not_eq_true']
  refine ⟨by omega, ?_⟩
  cases t with
  | w => right; rfl
  | k p ps =>
    left
    intro w hw
    obtain ⟨c, s, _, e⟩ := wayGs_pre ps [] w p 0 (by simpa [wayG] using hw)
    rw [e]; simp
end Ab

end
section
set_option maxRecDepth 100000
namespace Ab
open PySem PySem.Spec PyProof.Rows L2
theorem R_seen_row : ∀ (n : Nat) (t : Ne) (f : Nat), okN t = true → ht t < n → siz t ≤ 1000 → Ret (F_seen_row n) [neD t, .int f] (rowD (row f t))
  | 0, t, f, _, h, _ => by omega
  | n + 1, .w, f, _, _, _ => by
    refine Ret.of (e := .lst true [.int f]) (S' := []) ?_ (by simp [rowD, row, natD]) (by simp)
    simp [F_seen_row, ev_runF, m_seen_row, isNon]
  | n + 1, .k p ps, f, ok, h, hz => by
    have hl := okN_len ok
    simp only [ht] at h
    simp only [siz] at hz
    rw [neD_k]
    generalize hth : (D.tup [.str (sg p), .tup (ps.map neD)]) = th
    obtain ⟨G1, S1, e1, a, rfl, rfl⟩ := for_pre (f := turn (gmName 6) (b_seen_row_1 (F_seen_row n))) (ι := neD) (l := ps) (G := [some th, some (.int f), some (.str (sg p)), some (.tup (ps.map neD)), some (.obj 0), some (.int f), none, none, none]) (S := [.lst []])
      (fun pre G S => ∃ a, G = [some th, some (.int f), some (.str (sg p)), some (.tup (ps.map neD)), some (.obj 0), some (.int ((f + sizs pre : Nat) : Int)), a, none, none] ∧ S = [.lst ((rowsL f pre).map rowD)]) ⟨_, rfl, rfl⟩ (fun pre t post G S hp hI => by
        obtain ⟨a, rfl, rfl⟩ := hI
        have hm : t ∈ ps := by rw [hp]; simp
        have h1 := hts_le hm
        have h2 := sizs_le hm
        have hlp : pre.length < ps.length := by rw [hp]; simp
        refine ⟨_, _, .inl ?_, some (neD t), rfl, rfl⟩
        have hr := (R_seen_row n t (f + sizs pre) (isN_part ok hm).1 (by omega) (by omega)).run (S := [.lst ((rowsL f pre).map rowD)])
        have hlen : ((rowsL f pre).map rowD).length < 100000 := by rw [List.length_map, rowsL_len]; omega
        rw [rowsL_snoc, sizs_snoc, List.map_append]
        generalize (rowsL f pre).map rowD = L at hr hlen ⊢
        generalize hg : f + sizs pre = g at hr ⊢
        have hrl := row_len g t
        generalize row g t = r at hr hrl ⊢
        simp only [rowD] at hr
        simp [-Int.natCast_add, b_seen_row_1, hr, hlen, rowD, hrl]
        omega)
    generalize ((f + sizs ps : Nat) : Int) = zz at e1
    generalize hR : (if p then rowsL f ps else (rowsL f ps).reverse) = R
    have hRs : (R.map List.length).sum ≤ 100000 := by
      have : (R.map List.length).sum = sizs ps := by
        rw [← hR, ← rowsL_sum f ps]
        cases p
        · simp [List.sum_reverse]
        · simp
      omega
    obtain ⟨c, e2⟩ := extend_rows (f := turn (gmName 8) (b_seen_row_2 (F_seen_row n))) (G0 := fun x => [some th, some (.int f), some (.str (sg p)), some (.tup (ps.map neD)), some (.obj 0), some (.int zz), a, some (.obj 1), x]) R (R.map rowD) rfl hRs
      (fun r x acc hacc => by simp [b_seen_row_2, rowD, hacc]) none
    have hrow : row f (.k p ps) = R.flatten := by rw [row_k, hR]
    rw [hrow]
    refine Ret.of (e := .obj 1) (S' := [.lst (R.map rowD), .lst (natD R.flatten)]) ?_ (by simp [rowD]) (by simp [rowD])
    cases p with
    | true =>
      simp only [if_true] at hR
      have hs : ¬ (sg true = ("-" : Str)) := by decide +kernel
      rw [hR] at e1
      subst hth
      simp [F_seen_row, ev_runF, m_seen_row, isNon, e1, hs, e2]
    | false =>
      simp only [Bool.false_eq_true, if_false] at hR
      have hs : sg false = ("-" : Str) := rfl
      have hR2 : ((rowsL f ps).map rowD).reverse = R.map rowD := by rw [← hR]; simp
      subst hth
      rw [hs] at e1 e2 ⊢
      simp [F_seen_row, ev_runF, m_seen_row, isNon, e1, hR2, e2]
theorem R_seen {t : Ne} (ok : okN t = true) (h6 : siz t ≤ 60) : Ret F_seen [neD t] (tupD (row 0 t)) := by
  have h1 := siz_pos t ok
  have hr := (R_seen_row 70 t 0 ok (by omega) (by omega)).run (S := [])
  simp only [rowD, Int.natCast_zero] at hr
  refine Ret.imm (S' := []) ?_ (by simp [tupD])
  simp [F_seen, ev_runF, m_seen, (R_need_nest ok h6).run, hr, tupD]
def flat (p : Bool) (ts : List Ne) : List Ne := ts.flatMap (opn p)
def gth (p : Bool) (ts : List Ne) : Ne := match flat p ts with
  | [t] => t
  | us => .k p us
theorem flat_ok {p : Bool} {ts : List Ne} (h : ∀ t ∈ ts, okN t = true) : (∀ u ∈ flat p ts, okN u = true ∧ isK p u = false) ∧ sizs (flat p ts) = sizs ts ∧ ts.length ≤ (flat p ts).length := by
  induction ts with
  | nil => simp [flat]
  | cons t ts ih =>
    obtain ⟨a1, a2, a3⟩ := opn_ok (p := p) (h t List.mem_cons_self)
    obtain ⟨b1, b2, b3⟩ := ih fun u hu => h u (List.mem_cons_of_mem _ hu)
    have e : flat p (t :: ts) = opn p t ++ flat p ts := by simp [flat]
    rw [e]
    refine ⟨fun u hu => ?_, ?_, ?_⟩
    · rcases List.mem_append.mp hu with hu | hu
      · exact a1 u hu
      · exact b1 u hu
    · rw [sizs_append, a2, b2]; simp [sizs]
    · simp; omega
theorem gth_ok {p : Bool} {ts : List Ne} (hne : ts ≠ []) (h : ∀ t ∈ ts, okN t = true) : okN (gth p ts) = true ∧ siz (gth p ts) = sizs ts := by
  obtain ⟨a, b, c⟩ := flat_ok (p := p) h
  have hl : 1 ≤ ts.length := by
    cases ts with
    | nil => exact absurd rfl hne
    | cons t ts => simp
  unfold gth
  split
  · rename_i t e
    rw [e] at a b
    exact ⟨(a t (by simp)).1, by simpa [sizs] using b⟩
  · rename_i e
    refine ⟨?_, by simp only [siz]; exact b⟩
    simp only [okN, Bool.and_eq_true, decide_eq_true_eq]
    refine ⟨?_, okNs_iff.mpr a⟩
    have h2 : (flat p ts).length ≠ 1 := fun e2 => by
      obtain ⟨t, et⟩ := List.length_eq_one_iff.mp e2
      exact e t et
    omega
theorem rowsP_append (f : Nat) : ∀ (a b : List Ne), rowsP f (a ++ b) = rowsP f a ++ rowsP (f + sizs a) b
  | [], b => by simp [rowsP, sizs]
  | t :: a, b => by simp only [List.cons_append, rowsP, rowsP_append (f + siz t) a b, sizs, List.append_assoc, Nat.add_assoc]
theorem rowsM_append (f : Nat) : ∀ (a b : List Ne), rowsM f (a ++ b) = rowsM (f + sizs a) b ++ rowsM f a
  | [], b => by simp [rowsM, sizs]
  | t :: a, b => by simp only [List.cons_append, rowsM, rowsM_append (f + siz t) a b, sizs, List.append_assoc, Nat.add_assoc]
theorem rows_opn (f : Nat) (p : Bool) (t : Ne) : (p = true → rowsP f (opn p t) = row f t) ∧ (p = false → rowsM f (opn p t) = row f t) := by
  cases t with
  | w => simp [opn, rowsP, rowsM]
  | k q ps =>
    by_cases h : q = p
    · subst h
      simp only [opn, beq_self_eq_true, if_true]
      exact ⟨fun e => by simp [row, e], fun e => by simp [row, e]⟩
    · have h2 : (q == p) = false := by simpa using h
      simp [opn, h2, rowsP, rowsM]
theorem rowsP_flat (f : Nat) : ∀ ts : List Ne, (∀ t ∈ ts, okN t = true) → rowsP f (flat true ts) = rowsP f ts
  | [], _ => rfl
  | t :: ts, h => by
    have e : flat true (t :: ts) = opn true t ++ flat true ts := by simp [flat]
    rw [e, rowsP_append, (rows_opn f true t).1 rfl, (opn_ok (p := true) (h t List.mem_cons_self)).2.1, rowsP_flat _ ts fun u hu => h u (List.mem_cons_of_mem _ hu)]
    rfl
theorem rowsM_flat (f : Nat) : ∀ ts : List Ne, (∀ t ∈ ts, okN t = true) → rowsM f (flat false ts) = rowsM f ts
  | [], _ => rfl
  | t :: ts, h => by
    have e : flat false (t :: ts) = opn false t ++ flat false ts := by simp [flat]
    rw [e, rowsM_append, (rows_opn f false t).2 rfl, (opn_ok (p := false) (h t List.mem_cons_self)).2.1, rowsM_flat _ ts fun u hu => h u (List.mem_cons_of_mem _ hu)]
    rfl
theorem row_gth (f : Nat) (p : Bool) {ts : List Ne} (h : ∀ t ∈ ts, okN t = true) : row f (gth p ts) = if p then rowsP f ts else rowsM f ts := by
  unfold gth
  split
  · rename_i t e
    cases p
    · simp only [Bool.false_eq_true, if_false]
      rw [← rowsM_flat f ts h, e]; simp [rowsM]
    · simp only [if_true]
      rw [← rowsP_flat f ts h, e]; simp [rowsP]
  · cases p
    · simp only [row, Bool.false_eq_true, if_false]; exact rowsM_flat f ts h
    · simp only [row, if_true]; exact rowsP_flat f ts h
theorem S_gathered_1 {p : Bool} {t : Ne} {z : D} {x : Option D} {acc : List Ne} (h : acc.length + (opn p t).length ≤ 1000) :
    turn (gmName 3) b_gathered_1 (neD t) [some (.str (sg p)), some z, some (.obj 0), x] [.lst (acc.map neD)] = .nx [some (.str (sg p)), some z, some (.obj 0), some (neD t)] [.lst ((acc ++ opn p t).map neD)] := by
  have hl : acc.length < 100000 := by omega
  cases t with
  | w => simp [b_gathered_1, isNon, opn, hl]
  | k q ps =>
    by_cases hq : q = p
    · subst hq
      simp only [opn, beq_self_eq_true, if_true] at h ⊢
      have h2 : acc.length + ps.length ≤ 100000 := by omega
      simp [b_gathered_1, isNon, fExtendT, h2]
    · have hq2 : (q == p) = false := by simpa using hq
      have hs : ¬ sg q = sg p := by
        have := sg_eq (p := q) (q := p)
        rw [hq2] at this
        simpa using this
      simp [b_gathered_1, isNon, opn, hq2, hs, hl]
theorem len_sizs {ts : List Ne} (h : ∀ t ∈ ts, okN t = true) : ts.length ≤ sizs ts := by
  induction ts with
  | nil => simp [sizs]
  | cons t ts ih =>
    have := ih fun u hu => h u (List.mem_cons_of_mem _ hu)
    have := siz_pos t (h t List.mem_cons_self)
    simp [sizs]; omega
theorem R_gathered {p : Bool} {ts : List Ne} {b : Bool} (hne : ts ≠ []) (h : ∀ t ∈ ts, okN t = true) (hz : sizs ts ≤ 900) : Ret F_gathered [.str (sg p), .lst b (ts.map neD)] (neD (gth p ts)) := by
  obtain ⟨a, b1, c⟩ := flat_ok (p := p) h
  have hfl : (flat p ts).length ≤ 900 := by
    have := len_sizs fun u hu => (a u hu).1
    omega
  obtain ⟨G1, S1, e1, x, rfl, rfl⟩ := for_pre (f := turn (gmName 3) b_gathered_1) (ι := neD) (l := ts) (G := [some (.str (sg p)), some (.lst b (ts.map neD)), some (.obj 0), none]) (S := [.lst []])
    (fun pre G S => ∃ x, G = [some (.str (sg p)), some (.lst b (ts.map neD)), some (.obj 0), x] ∧ S = [.lst ((flat p pre).map neD)]) ⟨_, rfl, rfl⟩ (fun pre t post G S hp hI => by
      obtain ⟨x, rfl, rfl⟩ := hI
      have e : flat p (pre ++ [t]) = flat p pre ++ opn p t := by simp [flat]
      have hle : (flat p pre).length + (opn p t).length ≤ (flat p ts).length := by
        rw [hp]; simp [flat]
      refine ⟨_, _, .inl (S_gathered_1 (by omega)), some (neD t), rfl, by rw [e]⟩)
  have hl0 : 0 < ((flat p ts).map neD).length := by
    rw [List.length_map]
    cases ts with
    | nil => exact absurd rfl hne
    | cons t ts => simp at c; omega
  have hg : (flat p ts).map neD = [neD (gth p ts)] ∨ (((flat p ts).map neD).length ≠ 1 ∧ neD (gth p ts) = .tup [.str (sg p), .tup ((flat p ts).map neD)]) := by
    by_cases h1 : (flat p ts).length = 1
    · left
      obtain ⟨t, et⟩ := List.length_eq_one_iff.mp h1
      simp [gth, et]
    · right
      refine ⟨by simpa using h1, ?_⟩
      unfold gth
      split
      · rename_i t e; rw [e] at h1; simp at h1
      · simp
  refine Ret.imm (S' := [.lst ((flat p ts).map neD)]) ?_ (imm_ne _)
  generalize hL : (flat p ts).map neD = L at *
  have hl2 : L.length ≤ 100000 := by rw [← hL, List.length_map]; omega
  rcases hg with hg | ⟨hg1, hg2⟩
  · rw [hg] at e1 ⊢
    simp [F_gathered, ev_runF, m_gathered, e1]
  · have e2 : ¬ ((L.length : Nat) : Int) = 1 := by omega
    rw [hg2]
    simp [F_gathered, ev_runF, m_gathered, e1, e2]
end Ab

end
section
set_option maxRecDepth 100000
namespace Ab
open PySem PySem.Spec PyProof.Rows L2
theorem ordPerm {l : List Nat} (h : isOrd l) : l.Perm (List.range l.length) := by
  refine (List.perm_ext_iff_of_nodup h.1 List.nodup_range).mpr fun x => ?_
  rw [List.mem_range]; exact ⟨h.2 x, fun hx => nodup_full h hx⟩
def blk (os : List (List Nat)) (w : Nat) : List Nat := (os.getD w []).map (fstN os w + ·)
theorem putL_blk (l : List Nat) (os : List (List Nat)) : putL l os = l.flatMap (blk os) := rfl
theorem fst_all (os : List (List Nat)) : fstN os os.length = (os.map List.length).sum := by unfold fstN; rw [List.take_of_length_le (Nat.le_refl _)]
theorem fst_next {os : List (List Nat)} {w : Nat} (h : w < os.length) : fstN os (w + 1) = fstN os w + (os.getD w []).length :=
  fstN_succ (by rw [List.getD_eq_getElem?_getD, List.getElem?_eq_getElem h]; rfl)
theorem fst_mono (os : List (List Nat)) {v w : Nat} (h : v ≤ w) (hw : w ≤ os.length) : fstN os v ≤ fstN os w := by
  induction w with
  | zero =>
    have : v = 0 := by omega
    subst this; exact Nat.le_refl _
  | succ w ih =>
    by_cases e : v = w + 1
    · subst e; exact Nat.le_refl _
    · rw [fst_next (by omega)]
      have := ih (by omega) (by omega)
      omega
theorem getD_os {os : List (List Nat)} {w : Nat} (h : w < os.length) : os.getD w [] ∈ os := by
  rw [List.getD_eq_getElem?_getD, List.getElem?_eq_getElem h]; simp
theorem blk_in {os : List (List Nat)} (ho : ∀ o ∈ os, isOrd o) {w x : Nat} (h : w < os.length) (hx : x ∈ blk os w) : fstN os w ≤ x ∧ x < fstN os (w + 1) := by
  obtain ⟨y, hy, rfl⟩ := List.mem_map.mp hx
  have := (ho _ (getD_os h)).2 y hy
  rw [fst_next h]
  omega
theorem flatMap_range {os : List (List Nat)} (ho : ∀ o ∈ os, isOrd o) : ∀ n, n ≤ os.length → ((List.range n).flatMap (blk os)).Perm (List.range (fstN os n))
  | 0, _ => by simp [fstN]
  | n + 1, h => by
    rw [List.range_succ, List.flatMap_append, fst_next (by omega), List.range_add]
    refine (flatMap_range ho n (by omega)).append ?_
    rw [List.flatMap_cons, List.flatMap_nil, List.append_nil]
    exact (ordPerm (ho _ (getD_os (by omega)))).map _
theorem putL_perm {l : List Nat} {os : List (List Nat)} (hl : isOrd l) (hlo : os.length = l.length) (ho : ∀ o ∈ os, isOrd o) : (putL l os).Perm (List.range ((os.map List.length).sum)) := by
  rw [putL_blk, ← fst_all]
  refine ((ordPerm hl).flatMap_right _).trans ?_
  rw [← hlo]
  exact flatMap_range ho _ (Nat.le_refl _)
theorem putL_ord {l : List Nat} {os : List (List Nat)} (hl : isOrd l) (hlo : os.length = l.length) (ho : ∀ o ∈ os, isOrd o) : isOrd (putL l os) ∧ (putL l os).length = (os.map List.length).sum := isOrd_rng (putL_perm hl hlo ho)
theorem flatMap_single {α : Type} {w : Nat} (g : Nat → List α) : ∀ {l : List Nat}, l.Nodup → w ∈ l → (l.flatMap fun v => if v = w then g v else []) = g w
  | [], _, h => by cases h
  | v :: l, nd, h => by
    rw [List.nodup_cons] at nd
    rw [List.flatMap_cons]
    by_cases e : v = w
    · subst e
      have : (l.flatMap fun u => if u = v then g u else []) = [] := by
        rw [List.flatMap_eq_nil_iff]
        intro u hu
        rw [if_neg]
        intro e; subst e; exact nd.1 hu
      rw [if_pos rfl, this, List.append_nil]
    · rw [if_neg e, List.nil_append]
      refine flatMap_single g nd.2 ?_
      rcases List.mem_cons.mp h with h | h
      · exact absurd h.symm e
      · exact h
theorem rk_range' {f m x : Nat} (h : x ≤ m) : rkW (List.range' f m) (f + x) = x := by
  unfold rkW
  have e : m = x + (m - x) := by omega
  rw [e, ← List.range'_append_1, List.filter_append]
  have h1 : (List.range' f x).filter (fun y => decide (y < f + x)) = List.range' f x := List.filter_eq_self.mpr fun y hy => by
    rw [List.mem_range'_1] at hy; simp; omega
  have h2 : (List.range' (f + x) (m - x)).filter (fun y => decide (y < f + x)) = [] := List.filter_eq_nil_iff.mpr fun y hy => by
    rw [List.mem_range'_1] at hy; simp; omega
  rw [h1, h2]
  simp
theorem flatMap_congr' {α : Type} {f g : Nat → List α} : ∀ {l : List Nat}, (∀ x ∈ l, f x = g x) → l.flatMap f = l.flatMap g
  | [], _ => rfl
  | x :: l, h => by rw [List.flatMap_cons, List.flatMap_cons, h x List.mem_cons_self, flatMap_congr' fun y hy => h y (List.mem_cons_of_mem _ hy)]
theorem left_blk {l : List Nat} {os : List (List Nat)} (hl : isOrd l) (hlo : os.length = l.length) (ho : ∀ o ∈ os, isOrd o) {w : Nat} (hw : w < l.length) : leftL (putL l os) (List.range' (fstN os w) (os.getD w []).length) = os.getD w [] := by
  unfold leftL
  rw [putL_blk, List.filter_flatMap]
  have e : ∀ v ∈ l, (blk os v).filter (fun x => (List.range' (fstN os w) (os.getD w []).length).contains x) = if v = w then blk os v else [] := fun v hv => by
    have hv2 : v < os.length := by have := hl.2 v hv; omega
    have hn := fst_next (os := os) (w := w) (by omega)
    by_cases e : v = w
    · subst e
      rw [if_pos rfl]
      refine List.filter_eq_self.mpr fun x hx => ?_
      have := blk_in ho hv2 hx
      rw [List.contains_iff_mem, List.mem_range'_1]; omega
    · rw [if_neg e]
      refine List.filter_eq_nil_iff.mpr fun x hx => ?_
      have h1 := blk_in ho hv2 hx
      rw [List.contains_iff_mem, List.mem_range'_1]
      rcases Nat.lt_or_gt_of_ne e with h | h
      · have := fst_mono os (v := v + 1) (w := w) (by omega) (by omega)
        omega
      · have := fst_mono os (v := w + 1) (w := v) (by omega) (by omega)
        omega
  rw [flatMap_congr' e, flatMap_single _ hl.1 ((ordPerm hl).mem_iff.mpr (List.mem_range.mpr hw))]
  unfold blk
  rw [List.map_map]
  have hw2 : w < os.length := by omega
  have : ∀ y ∈ os.getD w [], (rkW (List.range' (fstN os w) (os.getD w []).length) ∘ (fstN os w + ·)) y = y := fun y hy => rk_range' (Nat.le_of_lt ((ho _ (getD_os hw2)).2 y hy))
  rw [List.map_congr_left this, List.map_id']
/-- one word of each -/
def oneR (os : List (List Nat)) (c : Nat → Nat) (n : Nat) : List Nat := (List.range n).map fun v => fstN os v + c v
theorem oneR_pw {os : List (List Nat)} {c : Nat → Nat} (hc : ∀ v, v < os.length → c v < (os.getD v []).length) : ∀ n, n ≤ os.length → (oneR os c n).Pairwise (· < ·) ∧ ∀ x ∈ oneR os c n, x < fstN os n
  | 0, _ => by simp [oneR]
  | n + 1, h => by
    obtain ⟨h1, h2⟩ := oneR_pw hc n (by omega)
    have e : oneR os c (n + 1) = oneR os c n ++ [fstN os n + c n] := by simp [oneR, List.range_succ]
    have hn := fst_next (os := os) (w := n) (by omega)
    have hcn := hc n (by omega)
    rw [e]
    refine ⟨List.pairwise_append.mpr ⟨h1, by simp, fun x hx y hy => ?_⟩, fun x hx => ?_⟩
    · rw [List.mem_singleton] at hy
      have := h2 x hx; omega
    · rcases List.mem_append.mp hx with hx | hx
      · have := h2 x hx; omega
      · rw [List.mem_singleton] at hx; omega
theorem left_one {l : List Nat} {os : List (List Nat)} {c : Nat → Nat} (hl : isOrd l) (hlo : os.length = l.length) (ho : ∀ o ∈ os, isOrd o) (hc : ∀ v, v < os.length → c v < (os.getD v []).length) : leftL (putL l os) (oneR os c l.length).reverse = l := by
  obtain ⟨pw, bd⟩ := oneR_pw hc l.length (by omega)
  unfold leftL
  have hmem : ∀ x, (oneR os c l.length).reverse.contains x = (oneR os c l.length).contains x := fun x => by
    rw [Bool.eq_iff_iff, List.contains_iff_mem, List.contains_iff_mem, List.mem_reverse]
  have hrk : ∀ x, rkW (oneR os c l.length).reverse x = rkW (oneR os c l.length) x := fun x => rkW_perm (List.reverse_perm _) x
  have e0 : rkW (oneR os c l.length).reverse = rkW (oneR os c l.length) := funext hrk
  simp only [hmem, e0]
  rw [putL_blk, List.filter_flatMap]
  have e : ∀ v ∈ l, (blk os v).filter (fun x => (oneR os c l.length).contains x) = [fstN os v + c v] := fun v hv => by
    have hv1 := hl.2 v hv
    have hv2 : v < os.length := by omega
    have hnv := fst_next hv2
    have hcv := hc v hv2
    have hov := ho _ (getD_os hv2)
    unfold blk
    rw [List.filter_map]
    have e1 : (os.getD v []).filter ((fun x => (oneR os c l.length).contains x) ∘ (fstN os v + ·)) = (os.getD v []).filter fun y => [c v].contains y := by
      refine List.filter_congr fun y hy => ?_
      have hy2 := hov.2 y hy
      rw [Bool.eq_iff_iff, Function.comp, List.contains_iff_mem, List.contains_iff_mem, List.mem_singleton]
      constructor
      · intro hm
        obtain ⟨u, hu, e⟩ := List.mem_map.mp hm
        have hu := List.mem_range.mp hu
        have hcu := hc u (by omega)
        have hnu := fst_next (os := os) (w := u) (by omega)
        by_cases hne : u = v
        · subst hne; omega
        · rcases Nat.lt_or_gt_of_ne hne with h | h
          · have := fst_mono os (v := u + 1) (w := v) (by omega) (by omega)
            omega
          · have := fst_mono os (v := v + 1) (w := u) (by omega) (by omega)
            omega
      · rintro rfl
        exact List.mem_map.mpr ⟨v, List.mem_range.mpr hv1, rfl⟩
    rw [e1]
    have hcm : c v ∈ os.getD v [] := (ordPerm hov).mem_iff.mpr (List.mem_range.mpr hcv)
    have hfo : (os.getD v []).filter (fun y => [c v].contains y) = [c v] := by
      have nd := hov.1
      generalize os.getD v [] = o at *
      clear e1 hov hcv hnv
      induction o with
      | nil => cases hcm
      | cons a o ih =>
        rw [List.nodup_cons] at nd
        by_cases ha : a = c v
        · subst ha
          rw [List.filter_cons_of_pos (by simp)]
          congr 1
          refine List.filter_eq_nil_iff.mpr fun y hy hh => ?_
          simp at hh; subst hh; exact nd.1 hy
        · rw [List.filter_cons_of_neg (by simp; exact ha)]
          refine ih ?_ nd.2
          rcases List.mem_cons.mp hcm with h | h
          · exact absurd h.symm ha
          · exact h
    rw [hfo]; rfl
  rw [flatMap_congr' e]
  have e2 : (l.flatMap fun v => [fstN os v + c v]) = l.map fun v => fstN os v + c v := by
    clear e hc hl hlo pw bd hmem hrk e0
    induction l with
    | nil => rfl
    | cons v l ih => rw [List.flatMap_cons, ih]; rfl
  rw [e2, List.map_map]
  have : ∀ v ∈ l, (rkW (oneR os c l.length) ∘ fun v => fstN os v + c v) v = v := fun v hv => by
    refine rk_at pw ?_
    unfold oneR
    rw [List.getElem?_map, List.getElem?_range (hl.2 v hv)]; rfl
  rw [List.map_congr_left this, List.map_id']
theorem fst_rev (os : List (List Nat)) (w : Nat) : fstN (os.map List.reverse) w = fstN os w := by
  unfold fstN
  rw [← List.map_take, List.map_map]
  congr 1
  exact List.map_congr_left fun o _ => List.length_reverse
theorem putL_mirror (l : List Nat) (os : List (List Nat)) : (putL l os).reverse = putL l.reverse (os.map List.reverse) := by
  rw [putL_blk, putL_blk, List.reverse_flatMap]
  refine flatMap_congr' fun w _ => ?_
  unfold blk
  rw [Function.comp, fst_rev, ← List.map_reverse]
  congr 1
  rw [List.getD_eq_getElem?_getD, List.getD_eq_getElem?_getD, List.getElem?_map]
  cases os[w]? <;> simp
end Ab

end
section
set_option maxRecDepth 100000
namespace Ab
open PySem PySem.Spec PyProof.Rows L2
def bkL (l : List Nat) : List Nat := (List.range l.length).map fun w => l.idxOf w
theorem bkL_len (l : List Nat) : (bkL l).length = l.length := by simp [bkL]
theorem idxOf_at : ∀ {l : List Nat} {p x : Nat}, l.Nodup → l[p]? = some x → l.idxOf x = p
  | [], p, x, _, h => by simp at h
  | a :: l, 0, x, _, h => by
    simp at h; subst h; simp
  | a :: l, p + 1, x, nd, h => by
    rw [List.nodup_cons] at nd
    simp only [List.getElem?_cons_succ] at h
    have hne : a ≠ x := fun e => by subst e; exact nd.1 (List.mem_of_getElem? h)
    have hb : (a == x) = false := by simpa using hne
    rw [List.idxOf_cons, hb, idxOf_at nd.2 h]; rfl
theorem bkL_at {l : List Nat} (hl : isOrd l) {p x : Nat} (h : l[p]? = some x) : (bkL l)[x]? = some p := by
  have hx := hl.2 x (List.mem_of_getElem? h)
  unfold bkL
  rw [List.getElem?_map, List.getElem?_range hx, Option.map_some, idxOf_at hl.1 h]
theorem ord_place {l : List Nat} (hl : isOrd l) {x : Nat} (h : x < l.length) : ∃ p, p < l.length ∧ l[p]? = some x := by
  obtain ⟨p, hp⟩ := List.mem_iff_getElem?.mp ((ordPerm hl).mem_iff.mpr (List.mem_range.mpr h))
  exact ⟨p, (List.getElem?_eq_some_iff.mp hp).1, hp⟩
theorem bkL_eq {l m : List Nat} (hl : isOrd l) (hlen : m.length = l.length) (h : ∀ p x : Nat, l[p]? = some x → m[x]? = some p) : m = bkL l := by
  refine List.ext_getElem? fun x => ?_
  by_cases hx : x < l.length
  · obtain ⟨p, _, hp⟩ := ord_place hl hx
    rw [h p x hp, bkL_at hl hp]
  · rw [List.getElem?_eq_none (by omega), List.getElem?_eq_none (by rw [bkL_len]; omega)]
theorem bkL_ord {l : List Nat} (hl : isOrd l) : isOrd (bkL l) := by
  refine ⟨?_, fun x hx => ?_⟩
  · unfold bkL
    refine List.pairwise_iff_getElem.mpr fun i j hi hj hij e => ?_
    simp only [List.length_map, List.length_range] at hi hj
    obtain ⟨p, _, hp⟩ := ord_place hl hi
    obtain ⟨q, _, hq⟩ := ord_place hl hj
    simp only [List.getElem_map, List.getElem_range] at e
    rw [idxOf_at hl.1 hp, idxOf_at hl.1 hq] at e
    subst e
    rw [hp] at hq
    have := Option.some.inj hq
    omega
  · unfold bkL at hx
    obtain ⟨w, hw, rfl⟩ := List.mem_map.mp hx
    have hw := List.mem_range.mp hw
    obtain ⟨p, hp1, hp⟩ := ord_place hl hw
    rw [idxOf_at hl.1 hp, bkL_len]; exact hp1
theorem flat_at {g : Nat → List Nat} : ∀ {l : List Nat} {j w i : Nat}, l[j]? = some w → i < (g w).length → (l.flatMap g)[((l.take j).map fun v => (g v).length).sum + i]? = (g w)[i]?
  | [], j, w, i, h, _ => by simp at h
  | a :: l, 0, w, i, h, hi => by
    simp at h; subst h
    simp only [List.take_zero, List.map_nil, List.sum_nil, Nat.zero_add, List.flatMap_cons]
    exact List.getElem?_append_left hi
  | a :: l, j + 1, w, i, h, hi => by
    simp only [List.getElem?_cons_succ] at h
    simp only [List.take_succ_cons, List.map_cons, List.sum_cons, List.flatMap_cons]
    rw [List.getElem?_append_right (by omega)]
    have e : (g a).length + ((l.take j).map fun v => (g v).length).sum + i - (g a).length = ((l.take j).map fun v => (g v).length).sum + i := by omega
    rw [e]
    exact flat_at h hi
theorem flat_inv {g : Nat → List Nat} : ∀ {l : List Nat} {p x : Nat}, (l.flatMap g)[p]? = some x → ∃ j w i, l[j]? = some w ∧ (g w)[i]? = some x ∧ p = ((l.take j).map fun v => (g v).length).sum + i
  | [], p, x, h => by simp at h
  | a :: l, p, x, h => by
    rw [List.flatMap_cons] at h
    by_cases hp : p < (g a).length
    · rw [List.getElem?_append_left hp] at h
      exact ⟨0, a, p, rfl, h, by simp⟩
    · rw [List.getElem?_append_right (by omega)] at h
      obtain ⟨j, w, i, h1, h2, h3⟩ := flat_inv h
      exact ⟨j + 1, w, i, h1, h2, by simp only [List.take_succ_cons, List.map_cons, List.sum_cons]; omega⟩
theorem take_lens {os : List (List Nat)} : ∀ {w : Nat}, w ≤ os.length → (os.take w).map List.length = (List.range w).map fun v => (os.getD v []).length
  | 0, _ => by simp
  | w + 1, h => by
    rw [List.range_succ, List.map_append, ← take_lens (w := w) (by omega), List.take_add_one, List.map_append]
    simp [List.getD_eq_getElem?_getD, List.getElem?_eq_getElem (show w < os.length by omega)]
theorem putL_back {l : List Nat} {os : List (List Nat)} (hl : isOrd l) (hlo : os.length = l.length) (ho : ∀ o ∈ os, isOrd o) : bkL (putL l os) = putL (bkL l) (l.map fun w => bkL (os.getD w [])) := by
  obtain ⟨po, pl⟩ := putL_ord hl hlo ho
  have ol : (l.map fun w => bkL (os.getD w [])).length = (bkL l).length := by rw [bkL_len, List.length_map]
  have oo : ∀ o ∈ (l.map fun w => bkL (os.getD w [])), isOrd o := fun o h => by
    obtain ⟨w, hw, rfl⟩ := List.mem_map.mp h
    exact bkL_ord (ho _ (getD_os (by have := hl.2 w hw; omega)))
  have hos : ∀ j w, l[j]? = some w → (l.map fun w => bkL (os.getD w [])).getD j [] = bkL (os.getD w []) := fun j w h => by
    rw [List.getD_eq_getElem?_getD, List.getElem?_map, h]; rfl
  -- how many stand ahead
  have e1 : ∀ j, j ≤ l.length → fstN (l.map fun w => bkL (os.getD w [])) j = ((l.take j).map fun v => (blk os v).length).sum := fun j hj => by
    unfold fstN
    rw [← List.map_take, List.map_map]
    congr 1
    refine List.map_congr_left fun v _ => ?_
    rw [Function.comp, bkL_len]; simp [blk]
  have e2 : ∀ w, w ≤ l.length → (((bkL l).take w).map fun v => (blk (l.map fun w => bkL (os.getD w [])) v).length).sum = fstN os w := fun w hw => by
    unfold fstN
    rw [take_lens (by omega)]
    congr 1
    have e : (bkL l).take w = (List.range w).map fun v => l.idxOf v := by
      unfold bkL
      rw [← List.map_take, List.take_range, Nat.min_eq_left hw]
    rw [e, List.map_map]
    refine List.map_congr_left fun v hv => ?_
    have hv := List.mem_range.mp hv
    obtain ⟨p, _, hp⟩ := ord_place hl (show v < l.length by omega)
    rw [Function.comp, idxOf_at hl.1 hp]
    unfold blk
    rw [List.length_map, hos p v hp, bkL_len]
  refine (bkL_eq po ?_ fun p x hpx => ?_).symm
  · rw [(putL_ord (bkL_ord hl) ol oo).2, pl, List.map_map]
    have := ((ordPerm hl).map fun w => (os.getD w []).length).sum_nat
    have e3 : (l.map (List.length ∘ fun w => bkL (os.getD w []))).sum = (l.map fun w => (os.getD w []).length).sum := by
      congr 1
      refine List.map_congr_left fun w _ => ?_
      rw [Function.comp, bkL_len]
    rw [e3, this, ← hlo, ← take_lens (Nat.le_refl _), List.take_of_length_le (Nat.le_refl _)]
  · rw [putL_blk] at hpx
    obtain ⟨j, w, i, h1, h2, rfl⟩ := flat_inv hpx
    have hj := (List.getElem?_eq_some_iff.mp h1).1
    have hwl := hl.2 w (List.mem_of_getElem? h1)
    unfold blk at h2
    rw [List.getElem?_map, Option.map_eq_some_iff] at h2
    obtain ⟨y, hy, rfl⟩ := h2
    have how := ho _ (getD_os (show w < os.length by omega))
    have hyl := how.2 y (List.mem_of_getElem? hy)
    rw [← e1 j (by omega), putL_blk, ← e2 w (by omega)]
    have hb := flat_at (g := blk (l.map fun w => bkL (os.getD w []))) (l := bkL l) (bkL_at hl h1) (i := y) (by
      unfold blk
      rw [List.length_map, hos j w h1, bkL_len]; exact hyl)
    rw [hb]
    unfold blk
    rw [List.getElem?_map, hos j w h1, bkL_at how hy]
    rfl
theorem R_mirror {l : List Nat} : Ret F_mirror [tupD l] (tupD l.reverse) := by
  refine Ret.imm (S' := []) ?_ (by simp [tupD])
  have e : natD l.reverse = (natD l).reverse := by simp [natD, List.map_reverse]
  unfold tupD
  rw [e]
  simp [F_mirror, ev_runF, m_mirror, mRevT]
theorem R_back {l : List Nat} (hl : isOrd l) (h9 : l.length ≤ 900) : Ret F_back [tupD l] (tupD (bkL l)) := by
  have hc : ∀ x y z, c_back_1 [some (tupD l), x, y, z] [] = .ok (.obj 0) [.lst (natD (List.replicate l.length 0))] := fun x y z => by
    have e : natD (List.replicate l.length 0) = l.map fun _ => D.int 0 := by
      rw [natD, List.map_replicate, List.map_const']
      rfl
    rw [e]
    unfold c_back_1
    refine comp_t0 (ck := always) (S1 := []) (fun n : Nat => D.int (n : Int)) l (fun _ => .int 0) (fun w => [some (tupD l), x, y, some (.int (w : Int))]) ?_ (fun _ => rfl) (by omega) ?_ ?_
    · simp [tupD, natD]
    · intro w _; simp
    · intro w _ acc; simp
  obtain ⟨G1, S1, e1, wh, hwl, hww, x, y, rfl, rfl⟩ := for_enum (f := turn (gmTup [2, 3]) b_back_1) (l := l) (G := [some (tupD l), some (.obj 0), none, none]) (S := [.lst (natD (List.replicate l.length 0))])
    (fun i G S => ∃ wh : List Nat, wh.length = l.length ∧ (∀ j w, j < i → l[j]? = some w → wh[w]? = some j) ∧ ∃ x y, G = [some (tupD l), some (.obj 0), x, y] ∧ S = [.lst (natD wh)]) ⟨List.replicate l.length 0, by simp, fun j w hj => by omega, none, none, rfl, rfl⟩ (fun i w0 G S hg hI => by
      obtain ⟨wh, hwl, hww, x, y, rfl, rfl⟩ := hI
      have hw0 := hl.2 w0 (List.mem_of_getElem? hg)
      have hx : L2.ixN (natD wh).length ((w0 : Nat) : Int) = some w0 := by rw [ixN_of (by omega) (by rw [natD_len]; omega)]; rfl
      have e2 : natD (wh.set w0 i) = (natD wh).set w0 (.int i) := by simp [natD, List.map_set]
      refine ⟨_, _, .inl ?_, wh.set w0 i, by simp [hwl], ?_, some (.int i), some (.int w0), rfl, rfl⟩
      · rw [e2]
        generalize natD wh = W at *
        generalize tupD l = T at *
        simp [turn, b_back_1, mSetIx, hx]
      · intro j w hj hgj
        by_cases hji : j = i
        · subst hji
          rw [hg] at hgj
          cases hgj
          rw [List.getElem?_set_self (by omega)]
        · have hne : w0 ≠ w := fun e => by
            subst e
            have a := idxOf_at hl.1 hgj
            have b := idxOf_at hl.1 hg
            omega
          rw [List.getElem?_set_ne hne]
          exact hww j w (by omega) hgj)
  have e9 : wh = bkL l := bkL_eq hl hwl fun p x h => hww p x (List.getElem?_eq_some_iff.mp h).1 h
  subst e9
  refine Ret.imm (S' := [.lst (natD (bkL l))]) ?_ (by simp [tupD])
  have hsrc : ∀ S, srcD S (tupD l) = some (natD l, always) := fun S => rfl
  have hc0 := hc none none none
  have et : tupD (bkL l) = .tup (natD (bkL l)) := rfl
  rw [et]
  generalize natD (bkL l) = B at *
  generalize natD (List.replicate l.length 0) = Z at *
  generalize natD l = NL at *
  generalize tupD l = T at *
  simp [F_back, ev_runF, m_back, hc0, hsrc, e1]
end Ab

end
section
set_option maxRecDepth 100000
namespace Ab
open PySem PySem.Spec PyProof.Rows L2
theorem hts_at : ∀ {ps : List Ne}, ps ≠ [] → ∃ u ∈ ps, ht u = hts ps
  | [], h => absurd rfl h
  | [t], _ => ⟨t, by simp, by simp [hts]⟩
  | t :: u :: ps, _ => by
    obtain ⟨x, hx, e⟩ := hts_at (ps := u :: ps) (by simp)
    by_cases h : ht t ≤ hts (u :: ps)
    · exact ⟨x, by simp [List.mem_cons.mp hx |> List.mem_cons.mpr |> fun h => List.mem_cons.mp h], by rw [e]; simp only [hts] at h ⊢; omega⟩
    · exact ⟨t, by simp, by simp only [hts] at h ⊢; omega⟩
theorem maxI_ht {ps : List Ne} (h : ps ≠ []) : maxI (ps.map fun t => (ht t : Int)) = (hts ps : Nat) := by
  have hne : (ps.map fun t => (ht t : Int)) ≠ [] := by simpa using h
  refine Int.le_antisymm ?_ ?_
  · obtain ⟨u, hu, e⟩ := List.mem_map.mp (maxI_mem hne)
    rw [← e]
    have := hts_le hu
    omega
  · obtain ⟨u, hu, e⟩ := hts_at h
    rw [← e]
    exact maxI_le (List.mem_map.mpr ⟨u, hu, rfl⟩)
theorem ev_maxL {ns : List Int} {b : Bool} {S : Sto} (h : ns ≠ []) : fMaxL [.lst b (ns.map .int)] S = .ok (.int (maxI ns)) S := by
  have e : (seqL S (.lst b (ns.map D.int))).bind intsD = some ns := by simp [seqL]
  have hn : ns.isEmpty = false := by cases ns; exact absurd rfl h; rfl
  unfold fMaxL
  simp only [e, hn]
  rfl
theorem R_deep : ∀ (n : Nat) (t : Ne), okN t = true → ht t < n → siz t ≤ 1000 → Ret (F_deep n) [neD t] (.int (ht t : Nat))
  | 0, _, _, h, _ => by omega
  | n + 1, .w, ok, h, hz => by
    refine Ret.imm (S' := []) ?_ rfl
    simp [F_deep, ev_runF, m_deep, isNon, ht]
  | n + 1, .k p ps, ok, h, hz => by
    have hl := okN_len ok
    simp only [ht] at h
    simp only [siz] at hz
    have hne : ps ≠ [] := fun e => by rw [e] at hl; simp at hl
    refine Ret.imm (S' := []) ?_ rfl
    have hc : c_deep_1 (F_deep n) [some (.tup [.str (sg p), .tup (ps.map neD)]), none] [] = .ok (.lst true ((ps.map fun t => (ht t : Int)).map .int)) [] := by
      have e : ((ps.map fun t => (ht t : Int)).map D.int) = ps.map fun t => .int (ht t : Int) := by simp
      rw [e]
      unfold c_deep_1
      refine comp_f0 (ck := always) neD ps _ (fun t => [some (.tup [.str (sg p), .tup (ps.map neD)]), some (neD t)]) (by simp) (fun _ => rfl) (by omega) (by simp) ?_ ?_ ?_
      · rw [← e]; exact objLts_ints _
      · intro t _; simp
      · intro t ht' acc
        have h1 := hts_le ht'
        have h2 := sizs_le ht'
        simp [(R_deep n t (isN_part ok ht').1 (by omega) (by omega)).run]
    have hm := fun S => ev_maxL (b := true) (S := S) (ns := ps.map fun t => (ht t : Int)) (by simpa using hne)
    rw [maxI_ht hne] at hm
    have e1 : ((ht (.k p ps) : Nat) : Int) = 1 + (hts ps : Nat) := by simp only [ht]; omega
    rw [e1]
    generalize (ps.map fun t => (ht t : Int)).map D.int = Q at *
    generalize hfm : fMaxL = fm at *
    unfold F_deep m_deep
    rw [hfm]
    simp [ev_runF, isNon, hc, hm]
theorem R_depth {t : Ne} (h : okN t = true) (h6 : siz t ≤ 60) : Ret F_depth [neD t] (.int (ht t : Nat)) := by
  refine Ret.imm (S' := []) ?_ rfl
  have := siz_pos t h
  simp [F_depth, ev_runF, m_depth, (R_need_nest h h6).run, (R_deep 70 t h (by omega) (by omega)).run]
theorem E_words_of {d : D} (h : badN d = true) : Exc F_words_of [low d] "NoNest" := by
  have hr := (E_need_nest_k12 h).run (S := [])
  simp only [badN, Bool.and_eq_true] at h
  unfold Exc
  have hs : sub gArg (frz gArg false [] 4) (low d) = some (low d) := sub_frzn _ _ (frzn_low d h.1.1)
  simp [F_words_of, ev_runF, m_words_of, hs, hr]
theorem E_depth {d : D} (h : badN d = true) : Exc F_depth [low d] "NoNest" := by
  have hr := (E_need_nest_k12 h).run (S := [])
  simp only [badN, Bool.and_eq_true] at h
  unfold Exc
  have hs : sub gArg (frz gArg false [] 4) (low d) = some (low d) := sub_frzn _ _ (frzn_low d h.1.1)
  simp [F_depth, ev_runF, m_depth, hs, hr]
theorem R_law_more {cells : List Int} {b : Bool} (hl : cells.length ≤ 60) : ∃ ms : List Int, ms.length = 3 * cells.length ∧ Ret F_law_more [.lst b (cells.map .int)] (.lst true (ms.map .int)) := by
  obtain ⟨G1, S1, e1, ms, hm, y, rfl, rfl⟩ := for_pre (f := turn (gmName 2) b_law_more_1) (ι := D.int) (l := cells) (G := [some (.lst b (cells.map .int)), some (.obj 0), none]) (S := [.lst []])
    (fun pre G S => ∃ ms : List Int, ms.length = 3 * pre.length ∧ ∃ y, G = [some (.lst b (cells.map .int)), some (.obj 0), y] ∧ S = [.lst (ms.map .int)]) ⟨[], rfl, none, rfl, rfl⟩ (fun pre c post G S he hI => by
      obtain ⟨ms, hm, y, rfl, rfl⟩ := hI
      have hpl : pre.length < cells.length := by rw [he]; simp
      refine ⟨_, _, .inl ?_, ms ++ [c, c / 4, c / 16], by simp; omega, some (.int c), rfl, rfl⟩
      have e : (ms ++ [c, c / 4, c / 16]).map D.int = ms.map D.int ++ [.int c, .int (c / 4), .int (c / 16)] := by simp
      rw [e]
      have d1 : ∀ S, fDiv (.int c) (.int 4) S = .ok (.int (c / 4)) S := fun S => div_small (by decide) (by decide)
      have d2 : ∀ S, fDiv (.int c) (.int 16) S = .ok (.int (c / 16)) S := fun S => div_small (by decide) (by decide)
      have hml : (ms.map D.int).length + 3 ≤ 100000 := by simp; omega
      generalize ms.map D.int = M at *
      generalize cells.map D.int = C at *
      simp [turn, b_law_more_1, d1, d2, hml])
  refine ⟨ms, hm, Ret.of (e := .obj 0) (S' := [.lst (ms.map .int)]) ?_ ?_ ?_⟩
  · generalize ms.map D.int = M at *
    generalize cells.map D.int = C at *
    simp [F_law_more, ev_runF, m_law_more, e1]
  · have := subs_imm gRes (frz gRes true [.lst (ms.map D.int)] 3) (ms.map D.int) (imms_ints ms)
    generalize ms.map D.int = M at *
    simp [this]
  · simp
end Ab

end
section
set_option maxRecDepth 100000
namespace Ab
open PySem PySem.Spec PyProof.Rows L2
theorem E_seen12 {d : D} (h : badN d = true) : Exc F_seen [low d] "NoNest" := by
  have hr := (E_need_nest_k12 h).run (S := [])
  simp only [badN, Bool.and_eq_true] at h
  have hs : ∀ f, sub gArg f (low d) = some (low d) := fun f => sub_frzn _ _ (frzn_low d h.1.1)
  unfold Exc
  generalize low d = L at *
  simp [F_seen, ev_runF, m_seen, hs, hr]
theorem sub_k12 : (subE "NoNest" "TurnError" && subE "NoNest" "NoNest" && subE "NoNest" "ValueError" && !(["NoOrder", "NoWords", "NoTurn", "NoNumber"] : List Str).any (subE "NoNest") && !(["TooMany", "NoText", "NoRow"] : List Str).any (subE "NoNest")) = true := by decide +kernel
theorem R_law_refused_k12 {d : D} (h : badN d = true) : Ret F_law_refused_k12 [low d] (.bl true) := by
  have hn : noObj d = true := by simp only [badN, Bool.and_eq_true] at h; exact h.1.1
  have hs' : ∀ f, sub gArg f (low d) = some (low d) := fun f => sub_frzn _ _ (frzn_low d hn)
  have e1 := fun S => (E_seen12 h).run (S := S)
  have q := sub_k12
  simp only [Bool.and_eq_true, Bool.not_eq_true'] at q
  obtain ⟨⟨⟨⟨q1, q2⟩, q3⟩, q4⟩, q5⟩ := q
  refine Ret.imm (S' := [.lst [], .lst [.bl true, .bl true, .bl false, .bl false]]) ?_ rfl
  have ht : mTryAs t_law_refused_k12_1 2 ["NoOrder", "NoWords", "NoNest", "NoTurn", "NoNumber", "TooMany", "NoText", "NoRow"] "TurnError" x_law_refused_k12_1 [some (low d), some (.obj 0), none] [.lst []] = .nx [some (low d), some (.obj 1), none] [.lst [], .lst [.bl true, .bl true, .bl false, .bl false]] := by
    refine ev_try_ex (c := "NoNest") (G' := [some (low d), some (.obj 0), none]) (S' := [.lst []]) (G2 := [some (low d), some (.obj 1), none]) ?_ (by decide +kernel) (by simp) q1 ?_
    · simp [t_law_refused_k12_1, hs', e1]
    · simp only [x_law_refused_k12_1, q2, q3, q4, q5]
      simp
  simp [F_law_refused_k12, ev_runF, m_law_refused_k12, ht]
theorem law_true (ns : List Int) (hn : ns.length ≤ 63) : ∃ S', F_law [.lst false (ns.map .int)] [.tbl true] = .rt (.bl true) S' := by
  have cut0 : cutD (ns.map D.int) (some 2) (some 62) = ((ns.take 62).drop 2).map .int := by rw [cutD_mid (by omega) (by omega)]; simp [List.map_drop, List.map_take]
  have rc := fun (k : Nat) (hk : k ≤ 1000) S => (R_law_cell (ns := ns) (i := (k : Int)) (k := k) (b := false) rfl hk).run (S := S)
  have rc0 := rc 0 (by decide)
  have hcl : ((ns.take 62).drop 2).length ≤ 60 := by simp; omega
  obtain ⟨ms, hml, rm⟩ := R_law_more (cells := (ns.take 62).drop 2) (b := false) hcl
  have rm := fun S => rm.run (S := S)
  obtain ⟨c0, hc0⟩ : ∃ c, celL ns 0 = c := ⟨_, rfl⟩
  rw [hc0] at rc0
  have pm := fun S => pm_at (S := S) c0
  have dv : ∀ k : Int, 0 < k → k < 1000 → ∀ c S, fDiv (.int c) (.int k) S = .ok (.int (c / k)) S := fun k h1 h2 c S => div_small h1 (by omega)
  have d2 := dv 2 (by decide) (by decide)
  have d4 := dv 4 (by decide) (by decide)
  obtain ⟨most, hmost, h60⟩ : ∃ most : Nat, L2.atI [D.int (2 + c0 / 4 % 8), D.int (2 + c0 / 4 % 59)] (c0 / 2 % 2) = some (.int (most : Nat)) ∧ most ≤ 60 := by
    have h2 : c0 / 2 % 2 = 0 ∨ c0 / 2 % 2 = 1 := by omega
    rcases h2 with h | h
    · have e : ((2 + c0 / 4 % 8).toNat : Int) = 2 + c0 / 4 % 8 := by omega
      exact ⟨(2 + c0 / 4 % 8).toNat, by rw [h, e]; rfl, by omega⟩
    · have e : ((2 + c0 / 4 % 59).toNat : Int) = 2 + c0 / 4 % 59 := by omega
      exact ⟨(2 + c0 / 4 % 59).toNat, by rw [h, e]; rfl, by omega⟩
  obtain ⟨t, ok, hz, _, rn⟩ := R_law_nest_k11 (cells := ms) (p := decide (c0 % 2 = 0)) (b := false) (most := most) (by omega) h60
  have h6 : siz t ≤ 60 := by omega
  have rn := fun S => rn.run (S := S)
  have rw_ := fun S => (R_law_ways ok h6).run (S := S)
  have rs := fun S => (R_seen ok h6).run (S := S)
  have rs0 := fun S => (R_seen (t := .w) rfl (by decide)).run (S := S)
  have e0 : tupD (row 0 .w) = .tup [.int 0] := rfl
  rw [e0] at rs0
  simp only [neD_w] at rs0
  have hk : ∀ G : Gam, G[4]? = some (some (.lst true ((wayG [] t).map wD))) → mSortKey 4 (mCall fLen (aCons (mVar 4) aNil)) G [.tbl true] = .ok (.lst true (natD (row 0 t))) [.tbl false] := fun G hG => by
    have hw := waysOf_map (wayG [] t)
    have hok := okW_ways ok h6
    have hs := waySort_row t
    have hl : (((wayG [] t).map wD).length : Int) = ((wayG [] t).length : Int) := by simp
    generalize (wayG [] t).map wD = WL at *
    simp [hG, hw, hok, hs, hl]
  have sT : ∀ g f, sub g f (neD t) = some (neD t) := fun g f => sub_imm g f _ (imm_ne t)
  have sNS : ∀ g f, subs g f (ns.map D.int) = some (ns.map D.int) := fun g f => subs_imm g f _ (imms_ints ns)
  have sMS : ∀ g f, subs g f (ms.map D.int) = some (ms.map D.int) := fun g f => subs_imm g f _ (imms_ints ms)
  have sCS : ∀ g f, subs g f (((ns.take 62).drop 2).map D.int) = some (((ns.take 62).drop 2).map D.int) := fun g f => subs_imm g f _ (imms_ints _)
  have hqT : ∀ neg S, fEq neg (.tup (natD (row 0 t))) (.tup (natD (row 0 t))) S = .ok (.bl (!neg == true)) S := fun neg S => by
    cases neg <;> simp
  have q0 : ∀ S, fEq false (.tup [.int 0]) (.tup [.int 0]) S = .ok (.bl true) S := fun S => by simp
  -- the numbers
  obtain ⟨G1, S1, e1, y7, rfl, rfl⟩ := for_pre (f := turn (gmName 7) b_law_1) (ι := fun w : Nat => D.int (w : Int)) (l := row 0 t) (G := [some (.lst false (ns.map .int)), some (.int c0), some (.int (most : Nat)), some (neD t), some (.lst true ((wayG [] t).map wD)), some (.lst true (natD (row 0 t))), some (tupD (row 0 t)), none, none]) (S := [.tbl false])
    (fun _ G S => ∃ y, G = [some (.lst false (ns.map .int)), some (.int c0), some (.int (most : Nat)), some (neD t), some (.lst true ((wayG [] t).map wD)), some (.lst true (natD (row 0 t))), some (tupD (row 0 t)), y, none] ∧ S = [.tbl false]) ⟨none, rfl, rfl⟩ (fun pre w post G S _ hI => by
      obtain ⟨y, rfl, rfl⟩ := hI
      refine ⟨_, _, .inl ?_, some (.int w), rfl, rfl⟩
      simp [turn, b_law_1, isT, tyD])
  -- the refusals
  obtain ⟨G2, S2, e2, y8, rfl, rfl⟩ := for_rg (f := turn (gmName 8) b_law_2) (lo := 1) (n := 4) (G := [some (.lst false (ns.map .int)), some (.int c0), some (.int (most : Nat)), some (neD t), some (.lst true ((wayG [] t).map wD)), some (.lst true (natD (row 0 t))), some (tupD (row 0 t)), y7, none]) (S := [.tbl false])
    (fun i G S => ∃ y, G = [some (.lst false (ns.map .int)), some (.int c0), some (.int (most : Nat)), some (neD t), some (.lst true ((wayG [] t).map wD)), some (.lst true (natD (row 0 t))), some (tupD (row 0 t)), y7, y] ∧ S = [.tbl false]) ⟨none, rfl, rfl⟩ (fun i hi G S hI => by
      obtain ⟨y, rfl, rfl⟩ := hI
      have rci := rc (i + 1) (by omega)
      have ei : ((i + 1 : Nat) : Int) = 1 + (i : Int) := by omega
      rw [ei] at rci
      generalize celL ns (i + 1) = ci at *
      obtain ⟨d, b1, b2, rd⟩ := R_law_none_k12 (t := t) (c := ci) ok h6
      have rd := fun S => rd.run (S := S)
      have hno : noObj d = true := by simp only [badN, Bool.and_eq_true] at b1; exact b1.1.1
      have hsd : ∀ f, sub gArg f d = some (low d) := fun f => sub_low _ _ hno
      have r1 := fun S => (R_law_refused_k12 b1).run (S := S)
      refine ⟨_, _, .inl ?_, some (.int (1 + (i : Int))), rfl, rfl⟩
      generalize low d = LD at *
      generalize neD t = T at *
      generalize ns.map D.int = NS at *
      simp [turn, b_law_2, rci, rd, sNS, sT, hsd, r1])
  have e1' : forRun always (turn (gmName 7) b_law_1) (natD (row 0 t)) [some (.lst false (ns.map .int)), some (.int c0), some (.int (most : Nat)), some (neD t), some (.lst true ((wayG [] t).map wD)), some (.lst true (natD (row 0 t))), some (.tup (natD (row 0 t))), none, none] [.tbl false] = .nx [some (.lst false (ns.map .int)), some (.int c0), some (.int (most : Nat)), some (neD t), some (.lst true ((wayG [] t).map wD)), some (.lst true (natD (row 0 t))), some (.tup (natD (row 0 t))), y7, none] [.tbl false] := e1
  have rc0 : ∀ S, runP F_law_cell [.lst false (ns.map .int), .int 0] S = .ok (.int c0) S := rc0
  refine ⟨[.tbl false], ?_⟩
  unfold tupD at *
  clear rc e1
  generalize hsk : mSortKey 4 (mCall fLen (aCons (mVar 4) aNil)) = sk at *
  generalize (wayG [] t).map wD = WL at *
  generalize ((ns.take 62).drop 2).map D.int = CS at *
  generalize ms.map D.int = MS at *
  generalize ns.map D.int = NS at *
  generalize neD t = T at *
  generalize natD (row 0 t) = RT at *
  unfold F_law m_law
  rw [hsk]
  simp [ev_runX, rc0, d2, d4, hmost, cut0, rm, pm, rn, rw_, hk, rs, rs0, sT, sNS, sMS, sCS, hqT, q0, e1', e2, isT, -ev_eqT1, -ev_eqT2]
end Ab

end
section
set_option Elab.async false
set_option linter.all false
set_option maxRecDepth 100000
namespace Ab
open PySem PySem.Spec PyProof.Rows L2
set_option maxHeartbeats 4000000
def top (i : Nat) : Stmt := PySem.Challenge.pw_turnnest_k12_nests_seen.main.body.getD i (.Pass ⟨0, 0, 0, 0⟩)
def d_is_nest : He.DefD := ⟨("is_nest", none), "is_nest", "is_nest", defArgs (top 12), defBody (top 12), defScope (top 12), [], []⟩
def d_need_nest_k12 : He.DefD := ⟨("need_nest", none), "need_nest", "need_nest", defArgs (top 13), defBody (top 13), defScope (top 13), [], []⟩
def d_seen_row : He.DefD := ⟨("seen_row", none), "seen_row", "seen_row", defArgs (top 14), defBody (top 14), defScope (top 14), [], []⟩
def d_seen : He.DefD := ⟨("seen", none), "seen", "seen", defArgs (top 15), defBody (top 15), defScope (top 15), [], []⟩
def d_law_stir : He.DefD := ⟨("_law_stir", none), "_law_stir", "_law_stir", defArgs (top 17), defBody (top 17), defScope (top 17), [], []⟩
def d_law_cell : He.DefD := ⟨("_law_cell", none), "_law_cell", "_law_cell", defArgs (top 18), defBody (top 18), defScope (top 18), [], []⟩
def d_law_more : He.DefD := ⟨("_law_more", none), "_law_more", "_law_more", defArgs (top 19), defBody (top 19), defScope (top 19), [], []⟩
def d_law_lack : He.DefD := ⟨("_law_lack", none), "_law_lack", "_law_lack", defArgs (top 20), defBody (top 20), defScope (top 20), [], []⟩
def d_law_nest_k11 : He.DefD := ⟨("_law_nest", none), "_law_nest", "_law_nest", defArgs (top 21), defBody (top 21), defScope (top 21), [], []⟩
def d_law_ways : He.DefD := ⟨("_law_ways", none), "_law_ways", "_law_ways", defArgs (top 22), defBody (top 22), defScope (top 22), [], []⟩
def d_law_refused_k12 : He.DefD := ⟨("_law_refused", none), "_law_refused", "_law_refused", defArgs (top 23), defBody (top 23), defScope (top 23), [], []⟩
def d_law_none_k12 : He.DefD := ⟨("_law_none", none), "_law_none", "_law_none", defArgs (top 24), defBody (top 24), defScope (top 24), [], []⟩
def d_law : He.DefD := ⟨("law", none), "law", "law", defArgs (top 25), defBody (top 25), defScope (top 25), [], []⟩
def fn : List He.DefD := ([d_is_nest, d_need_nest_k12, d_seen_row, d_seen, d_law_stir, d_law_cell, d_law_more, d_law_lack, d_law_nest_k11, d_law_ways, d_law_refused_k12, d_law_none_k12, d_law] : List He.DefD)
def fa : List He.Fa := ([.glo "is_nest", .glo "need_nest", .glo "seen_row", .glo "seen", .glo "_law_stir", .glo "_law_cell", .glo "_law_more", .glo "_law_lack", .glo "_law_nest", .glo "_law_ways", .glo "_law_refused", .glo "_law_none", .glo "law", .glo "TurnError", .exc "TurnError", .glo "NoOrder", .exc "NoOrder", .glo "NoWords", .exc "NoWords", .glo "NoNest", .exc "NoNest", .glo "NoTurn", .exc "NoTurn", .glo "NoNumber", .exc "NoNumber", .glo "TooMany", .exc "TooMany", .glo "NoText", .exc "NoText", .glo "NoRow"] : List He.Fa) ++ ([.exc "NoRow", .int "MOST_WORDS" 60, .free "ValueError", .free "bool", .free "int", .free "isinstance", .free "len", .free "max", .free "range", .free "sorted", .free "str", .free "tuple"] : List He.Fa)
/-- what the top has left -/
structure Txt (K : PySem.W.Frag) (mg : Str → Option Value) : Prop where
  says : He.SaysD fa fn K
  ex : ExK K ["NoOrder", "NoWords", "NoNest", "NoTurn", "NoNumber", "TooMany", "NoText", "NoRow"] ["NoOrder", "NoWords", "NoNest", "NoTurn", "NoNumber", "TooMany", "NoText", "NoRow", "TurnError", "ValueError"]
  g_is_nest : mg "is_nest" = some (.ref (He.ga K "is_nest"))
  g_need_nest_k12 : mg "need_nest" = some (.ref (He.ga K "need_nest"))
  g_seen_row : mg "seen_row" = some (.ref (He.ga K "seen_row"))
  g_seen : mg "seen" = some (.ref (He.ga K "seen"))
  g_law_stir : mg "_law_stir" = some (.ref (He.ga K "_law_stir"))
  g_law_cell : mg "_law_cell" = some (.ref (He.ga K "_law_cell"))
  g_law_more : mg "_law_more" = some (.ref (He.ga K "_law_more"))
  g_law_lack : mg "_law_lack" = some (.ref (He.ga K "_law_lack"))
  g_law_nest_k11 : mg "_law_nest" = some (.ref (He.ga K "_law_nest"))
  g_law_ways : mg "_law_ways" = some (.ref (He.ga K "_law_ways"))
  g_law_refused_k12 : mg "_law_refused" = some (.ref (He.ga K "_law_refused"))
  g_law_none_k12 : mg "_law_none" = some (.ref (He.ga K "_law_none"))
  g_law : mg "law" = some (.ref (He.ga K "law"))
  g_TurnError : mg "TurnError" = some (.ref (He.ga K "TurnError"))
  x_TurnError : PySem.W.excIn K (He.ga K "TurnError") He.veBase "ValueError.__new__" = true ∧ PySem.W.keepIn K (.ref (He.ga K "TurnError")) = true ∧ PySem.W.subIn K (.ref (He.ga K "TurnError")) (.type "BaseException") = some true ∧ PySem.W.typeIn K (.ref (He.ga K "TurnError")) = some (.type "type")
  g_NoOrder : mg "NoOrder" = some (.ref (He.ga K "NoOrder"))
  x_NoOrder : PySem.W.excIn K (He.ga K "NoOrder") He.veBase "ValueError.__new__" = true ∧ PySem.W.keepIn K (.ref (He.ga K "NoOrder")) = true ∧ PySem.W.subIn K (.ref (He.ga K "NoOrder")) (.type "BaseException") = some true ∧ PySem.W.typeIn K (.ref (He.ga K "NoOrder")) = some (.type "type")
  g_NoWords : mg "NoWords" = some (.ref (He.ga K "NoWords"))
  x_NoWords : PySem.W.excIn K (He.ga K "NoWords") He.veBase "ValueError.__new__" = true ∧ PySem.W.keepIn K (.ref (He.ga K "NoWords")) = true ∧ PySem.W.subIn K (.ref (He.ga K "NoWords")) (.type "BaseException") = some true ∧ PySem.W.typeIn K (.ref (He.ga K "NoWords")) = some (.type "type")
  g_NoNest : mg "NoNest" = some (.ref (He.ga K "NoNest"))
  x_NoNest : PySem.W.excIn K (He.ga K "NoNest") He.veBase "ValueError.__new__" = true ∧ PySem.W.keepIn K (.ref (He.ga K "NoNest")) = true ∧ PySem.W.subIn K (.ref (He.ga K "NoNest")) (.type "BaseException") = some true ∧ PySem.W.typeIn K (.ref (He.ga K "NoNest")) = some (.type "type")
  g_NoTurn : mg "NoTurn" = some (.ref (He.ga K "NoTurn"))
  x_NoTurn : PySem.W.excIn K (He.ga K "NoTurn") He.veBase "ValueError.__new__" = true ∧ PySem.W.keepIn K (.ref (He.ga K "NoTurn")) = true ∧ PySem.W.subIn K (.ref (He.ga K "NoTurn")) (.type "BaseException") = some true ∧ PySem.W.typeIn K (.ref (He.ga K "NoTurn")) = some (.type "type")
  g_NoNumber : mg "NoNumber" = some (.ref (He.ga K "NoNumber"))
  x_NoNumber : PySem.W.excIn K (He.ga K "NoNumber") He.veBase "ValueError.__new__" = true ∧ PySem.W.keepIn K (.ref (He.ga K "NoNumber")) = true ∧ PySem.W.subIn K (.ref (He.ga K "NoNumber")) (.type "BaseException") = some true ∧ PySem.W.typeIn K (.ref (He.ga K "NoNumber")) = some (.type "type")
  g_TooMany : mg "TooMany" = some (.ref (He.ga K "TooMany"))
  x_TooMany : PySem.W.excIn K (He.ga K "TooMany") He.veBase "ValueError.__new__" = true ∧ PySem.W.keepIn K (.ref (He.ga K "TooMany")) = true ∧ PySem.W.subIn K (.ref (He.ga K "TooMany")) (.type "BaseException") = some true ∧ PySem.W.typeIn K (.ref (He.ga K "TooMany")) = some (.type "type")
  g_NoText : mg "NoText" = some (.ref (He.ga K "NoText"))
  x_NoText : PySem.W.excIn K (He.ga K "NoText") He.veBase "ValueError.__new__" = true ∧ PySem.W.keepIn K (.ref (He.ga K "NoText")) = true ∧ PySem.W.subIn K (.ref (He.ga K "NoText")) (.type "BaseException") = some true ∧ PySem.W.typeIn K (.ref (He.ga K "NoText")) = some (.type "type")
  g_NoRow : mg "NoRow" = some (.ref (He.ga K "NoRow"))
  x_NoRow : PySem.W.excIn K (He.ga K "NoRow") He.veBase "ValueError.__new__" = true ∧ PySem.W.keepIn K (.ref (He.ga K "NoRow")) = true ∧ PySem.W.subIn K (.ref (He.ga K "NoRow")) (.type "BaseException") = some true ∧ PySem.W.typeIn K (.ref (He.ga K "NoRow")) = some (.type "type")
  k_MOST_WORDS : ∃ t, mg "MOST_WORDS" = some (.int 60 t)
  f_ValueError : mg "ValueError" = none
  f_bool : mg "bool" = none
  f_int : mg "int" = none
  f_isinstance : mg "isinstance" = none
  f_len : mg "len" = none
  f_max : mg "max" = none
  f_range : mg "range" = none
  f_sorted : mg "sorted" = none
  f_str : mg "str" = none
  f_tuple : mg "tuple" = none
section
variable {P : Program} {w : World} {K : PySem.W.Frag} {mg : Str → Option Value} {base : Heap}
theorem sc_is_nest : FnScope ["thing", "words", "pile", "here", "above", "kind", "parts", "part"] ["thing"] (defScope (top 12)) := ⟨rfl, rfl, rfl, by decide +kernel, rfl, by decide +kernel, by decide +kernel⟩
theorem fx_is_nest (T : Txt K mg) : Fx P w K mg base "is_nest" F_is_nest 1 := by
  obtain ⟨fd, D⟩ := T.says.def_ 0 (d := d_is_nest) rfl
  exact mk_fx (k := 0) D sc_is_nest T.g_is_nest (D.bindsN fun _ _ _ _ _ _ us hl => match us, hl with | [_], _ => rfl) m_is_nest (fun cdv A outer s H E hr => by
      exact (jss_cons (js_set 1 sc_is_nest.nd rfl (by first | exact Or.inl rfl | exact Or.inr rfl) (je_int)) (jss_cons (js_set 2 sc_is_nest.nd rfl (by first | exact Or.inl rfl | exact Or.inr rfl) (je_lst true (ja_cons (je_tup (ja_cons (je_var 0) (ja_cons (je_str) (ja_nil)))) (ja_nil)))) (jss_cons (js_while 1000 (passes_of rfl) (jt_cmpR (cr_neE (room_hu hr)) (je_var 2) (je_lst false (ja_nil)) (nomark _)) (jss_cons (js_unp [3, 4] rfl (pgs_cons (pg_name (i := 3) sc_is_nest.nd rfl (by first | exact Or.inl rfl | exact Or.inr rfl)) (pgs_cons (pg_name (i := 4) sc_is_nest.nd rfl (by first | exact Or.inl rfl | exact Or.inr rfl)) pgs_nil)) (je_pop (je_var 2))) (jss_cons (js_if (jt_cmpR cr_isN (je_var 3) (je_non) (nomark _)) (jss_cons (js_augAdd 1 sc_is_nest.nd rfl (by first | exact Or.inl rfl | exact Or.inr rfl) (je_int)) (jss_cons (js_if (jt_cmpR cr_gt (je_var 1) (je_globI rfl T.k_MOST_WORDS) (nomark _)) (jss_one (js_ret (je_bl))) (jss_nil)) (jss_one (js_cont)))) (jss_nil)) (jss_cons (js_if (jt_w (jw_or (jt_not (jt_val (je_isi kt_tuple rfl T.f_isinstance rfl T.f_tuple (by decide +kernel) (je_var 3)))) (jw_or (jt_cmpR (cr_ne (room_hu hr)) (je_len rfl T.f_len (ja_cons (je_var 3) (ja_nil))) (je_int) (nomark _)) (jw_or1 (jt_not (jt_val (je_isi kt_str rfl T.f_isinstance rfl T.f_str (by decide +kernel) (je_ix (je_var 3) (je_int) (fun _ _ => rfl))))))))) (jss_one (js_ret (je_bl))) (jss_nil)) (jss_cons (js_unp [5, 6] rfl (pgs_cons (pg_name (i := 5) sc_is_nest.nd rfl (by first | exact Or.inl rfl | exact Or.inr rfl)) (pgs_cons (pg_name (i := 6) sc_is_nest.nd rfl (by first | exact Or.inl rfl | exact Or.inr rfl)) pgs_nil)) (je_var 3)) (jss_cons (js_if (jt_w (jw_or (jt_cmpR cr_notIn (je_var 5) (je_tup (ja_cons (je_str) (ja_cons (je_str) (ja_nil)))) (by with_unfolding_all rfl)) (jw_or (jt_cmpR (cr_eq (room_hu hr)) (je_var 5) (je_var 4) (nomark _)) (jw_or (jt_not (jt_val (je_isi kt_tuple rfl T.f_isinstance rfl T.f_tuple (by decide +kernel) (je_var 6)))) (jw_or1 (jt_cmpR cr_lt (je_len rfl T.f_len (ja_cons (je_var 6) (ja_nil))) (je_int) (nomark _))))))) (jss_one (js_ret (je_bl))) (jss_nil)) (jss_one (js_expr (je_extend (je_var 2) (ja_cons (je_comp false [("part", 7)] rfl sc_is_nest.nd (ji_any (je_var 6)) (blkOk_by (N := ["thing", "words", "pile", "here", "above", "kind", "parts", "part"]) (sc := defScope (top 12)) (by decide +kernel)) ⟨⟨gName 7, fun _ _ _ _ _ => pg_name (i := 7) sc_is_nest.nd rfl (Or.inl rfl), simg_name 7, keepsW_name (by decide)⟩⟩ (blkT_nil) (fun _ _ _ _ _ => je_tup (ja_cons (je_var 7) (ja_cons (je_var 5) (ja_nil))))) (ja_nil))))))))))) (jss_one (js_ret (je_bl)))))))
theorem sc_need_nest_k12 : FnScope ["thing"] ["thing"] (defScope (top 13)) := ⟨rfl, rfl, rfl, by decide +kernel, rfl, by decide +kernel, by decide +kernel⟩
theorem fx_need_nest_k12 (T : Txt K mg) : Fx P w K mg base "need_nest" F_need_nest_k12 2 := by
  obtain ⟨fd, D⟩ := T.says.def_ 1 (d := d_need_nest_k12) rfl
  exact mk_fx (k := 1) D sc_need_nest_k12 T.g_need_nest_k12 (D.bindsN fun _ _ _ _ _ _ us hl => match us, hl with | [_], _ => rfl) m_need_nest_k12 (fun cdv A outer s H E hr => by
      exact (jss_cons (js_if (jt_not (jt_val (je_call ((fx_is_nest T).cal hr (by decide)) (takes_of rfl rfl rfl rfl) rfl (ja_cons (je_var 0) (ja_nil))))) (jss_one (js_raise rfl (takes_of rfl rfl rfl rfl) T.x_NoNest.1 T.g_NoNest T.x_NoNest.2.1 T.x_NoNest.2.2.1 T.x_NoNest.2.2.2 rfl)) (jss_nil)) (jss_one (js_ret (je_var 0)))))
theorem sc_seen_row : FnScope ["nest", "first", "kind", "parts", "rows", "at", "part", "found", "row"] ["nest", "first"] (defScope (top 14)) := ⟨rfl, rfl, rfl, by decide +kernel, rfl, by decide +kernel, by decide +kernel⟩
theorem fx_seen_row (T : Txt K mg) : ∀ n : Nat, Fx P w K mg base "seen_row" (F_seen_row n) (0 + n)
  | 0 => by
    obtain ⟨fd, D⟩ := T.says.def_ 2 (d := d_seen_row) rfl
    exact (mk_zero (ps := ["nest", "first"]) D T.g_seen_row (D.bindsN fun _ _ _ _ _ _ us hl => match us, hl with | [_, _], _ => rfl)).mono (Nat.zero_le _)
  | n + 1 => by
    have hF := fx_seen_row T n
    obtain ⟨fd, D⟩ := T.says.def_ 2 (d := d_seen_row) rfl
    exact mk_fx (k := 0 + n) D sc_seen_row T.g_seen_row (D.bindsN fun _ _ _ _ _ _ us hl => match us, hl with | [_, _], _ => rfl) (m_seen_row (F_seen_row n)) (fun cdv A outer s H E hr => by
      exact (jss_cons (js_if (jt_cmpR cr_isN (je_var 0) (je_non) (nomark _)) (jss_one (js_ret (je_lst false (ja_cons (je_var 1) (ja_nil))))) (jss_nil)) (jss_cons (js_unp [2, 3] rfl (pgs_cons (pg_name (i := 2) sc_seen_row.nd rfl (by first | exact Or.inl rfl | exact Or.inr rfl)) (pgs_cons (pg_name (i := 3) sc_seen_row.nd rfl (by first | exact Or.inl rfl | exact Or.inr rfl)) pgs_nil)) (je_var 0)) (jss_cons (js_set 4 sc_seen_row.nd rfl (by first | exact Or.inl rfl | exact Or.inr rfl) (je_lst true (ja_nil))) (jss_cons (js_set 5 sc_seen_row.nd rfl (by first | exact Or.inl rfl | exact Or.inr rfl) (je_var 1)) (jss_cons (js_for (passes_of rfl) rfl (ji_any (je_var 3)) (jg_name 6 sc_seen_row.nd rfl (by first | exact Or.inl rfl | exact Or.inr rfl)) (jss_cons (js_expr (je_append (je_var 4) (ja_cons (je_call (hF.cal hr (by omega)) (takes_of rfl rfl rfl rfl) rfl (ja_cons (je_var 6) (ja_cons (je_var 5) (ja_nil)))) (ja_nil)))) (jss_one (js_augAdd 5 sc_seen_row.nd rfl (by first | exact Or.inl rfl | exact Or.inr rfl) (je_len rfl T.f_len (ja_cons (je_ix (je_var 4) (je_neg (je_int)) (fun _ _ => rfl)) (ja_nil))))))) (jss_cons (js_if (jt_cmpR (cr_eq (room_hu hr)) (je_var 2) (je_str) (nomark _)) (jss_one (js_expr (je_reverse (je_var 4)))) (jss_nil)) (jss_cons (js_set 7 sc_seen_row.nd rfl (by first | exact Or.inl rfl | exact Or.inr rfl) (je_lst true (ja_nil))) (jss_cons (js_for (passes_of rfl) rfl (ji_any (je_var 4)) (jg_name 8 sc_seen_row.nd rfl (by first | exact Or.inl rfl | exact Or.inr rfl)) (jss_one (js_expr (je_extend (je_var 7) (ja_cons (je_var 8) (ja_nil)))))) (jss_one (js_ret (je_var 7))))))))))))
theorem sc_seen : FnScope ["nest"] ["nest"] (defScope (top 15)) := ⟨rfl, rfl, rfl, by decide +kernel, rfl, by decide +kernel, by decide +kernel⟩
theorem fx_seen (T : Txt K mg) : Fx P w K mg base "seen" F_seen 71 := by
  obtain ⟨fd, D⟩ := T.says.def_ 3 (d := d_seen) rfl
  exact mk_fx (k := 70) D sc_seen T.g_seen (D.bindsN fun _ _ _ _ _ _ us hl => match us, hl with | [_], _ => rfl) m_seen (fun cdv A outer s H E hr => by
      exact (jss_one (js_ret (je_tupleOf rfl T.f_tuple (ja_cons (je_call ((fx_seen_row T 70).cal hr (by decide)) (takes_of rfl rfl rfl rfl) rfl (ja_cons (je_call ((fx_need_nest_k12 T).cal hr (by decide)) (takes_of rfl rfl rfl rfl) rfl (ja_cons (je_var 0) (ja_nil))) (ja_cons (je_int) (ja_nil)))) (ja_nil))))))
theorem sc_law_stir : FnScope ["cell", "k", "number"] ["cell", "k"] (defScope (top 17)) := ⟨rfl, rfl, rfl, by decide +kernel, rfl, by decide +kernel, by decide +kernel⟩
theorem fx_law_stir (T : Txt K mg) : Fx P w K mg base "_law_stir" F_law_stir 1 := by
  obtain ⟨fd, D⟩ := T.says.def_ 4 (d := d_law_stir) rfl
  exact mk_fx (k := 0) D sc_law_stir T.g_law_stir (D.bindsN fun _ _ _ _ _ _ us hl => match us, hl with | [_, _], _ => rfl) m_law_stir (fun cdv A outer s H E hr => by
      exact (jss_cons (js_set 2 sc_law_stir.nd rfl (by first | exact Or.inl rfl | exact Or.inr rfl) (je_mod (je_mul false (je_add false (je_add false (je_mod (je_var 0) (je_int)) (je_mul false (je_int) (je_var 1))) (je_int)) (je_int)) (je_int))) (jss_cons (js_set 2 sc_law_stir.nd rfl (by first | exact Or.inl rfl | exact Or.inr rfl) (je_mod (je_mul false (je_var 2) (je_var 2)) (je_int))) (jss_one (js_ret (je_mod (je_mul false (je_var 2) (je_int)) (je_int)))))))
theorem sc_law_cell : FnScope ["script", "k"] ["script", "k"] (defScope (top 18)) := ⟨rfl, rfl, rfl, by decide +kernel, rfl, by decide +kernel, by decide +kernel⟩
theorem fx_law_cell (T : Txt K mg) : Fx P w K mg base "_law_cell" F_law_cell 2 := by
  obtain ⟨fd, D⟩ := T.says.def_ 5 (d := d_law_cell) rfl
  exact mk_fx (k := 1) D sc_law_cell T.g_law_cell (D.bindsN fun _ _ _ _ _ _ us hl => match us, hl with | [_, _], _ => rfl) m_law_cell (fun cdv A outer s H E hr => by
      exact (jss_cons (js_if (jt_cmpR cr_lt (je_var 1) (je_len rfl T.f_len (ja_cons (je_var 0) (ja_nil))) (nomark _)) (jss_one (js_ret (je_ix (je_var 0) (je_var 1) (fun _ _ => rfl)))) (jss_nil)) (jss_cons (js_if (jt_cmpR (cr_eq (room_hu hr)) (je_len rfl T.f_len (ja_cons (je_var 0) (ja_nil))) (je_int) (nomark _)) (jss_one (js_ret (je_call ((fx_law_stir T).cal hr (by decide)) (takes_of rfl rfl rfl rfl) rfl (ja_cons (je_mul false (je_var 1) (je_var 1)) (ja_cons (je_var 1) (ja_nil)))))) (jss_nil)) (jss_one (js_ret (je_call ((fx_law_stir T).cal hr (by decide)) (takes_of rfl rfl rfl rfl) rfl (ja_cons (je_ix (je_var 0) (je_mod (je_var 1) (je_len rfl T.f_len (ja_cons (je_var 0) (ja_nil)))) (fun _ _ => rfl)) (ja_cons (je_var 1) (ja_nil)))))))))
theorem sc_law_more : FnScope ["cells", "found", "cell"] ["cells"] (defScope (top 19)) := ⟨rfl, rfl, rfl, by decide +kernel, rfl, by decide +kernel, by decide +kernel⟩
theorem fx_law_more (T : Txt K mg) : Fx P w K mg base "_law_more" F_law_more 1 := by
  obtain ⟨fd, D⟩ := T.says.def_ 6 (d := d_law_more) rfl
  exact mk_fx (k := 0) D sc_law_more T.g_law_more (D.bindsN fun _ _ _ _ _ _ us hl => match us, hl with | [_], _ => rfl) m_law_more (fun cdv A outer s H E hr => by
      exact (jss_cons (js_set 1 sc_law_more.nd rfl (by first | exact Or.inl rfl | exact Or.inr rfl) (je_lst true (ja_nil))) (jss_cons (js_for (passes_of rfl) rfl (ji_any (je_var 0)) (jg_name 2 sc_law_more.nd rfl (by first | exact Or.inl rfl | exact Or.inr rfl)) (jss_one (js_expr (je_extend (je_var 1) (ja_cons (je_lst false (ja_cons (je_var 2) (ja_cons (je_div (je_var 2) (je_int)) (ja_cons (je_div (je_var 2) (je_int)) (ja_nil))))) (ja_nil)))))) (jss_one (js_ret (je_var 1))))))
theorem sc_law_lack : FnScope ["pile", "lack", "kind", "parts"] ["pile"] (defScope (top 20)) := ⟨rfl, rfl, rfl, by decide +kernel, rfl, by decide +kernel, by decide +kernel⟩
theorem fx_law_lack (T : Txt K mg) : Fx P w K mg base "_law_lack" F_law_lack 1 := by
  obtain ⟨fd, D⟩ := T.says.def_ 7 (d := d_law_lack) rfl
  exact mk_fx (k := 0) D sc_law_lack T.g_law_lack (D.bindsN fun _ _ _ _ _ _ us hl => match us, hl with | [_], _ => rfl) m_law_lack (fun cdv A outer s H E hr => by
      exact (jss_cons (js_set 1 sc_law_lack.nd rfl (by first | exact Or.inl rfl | exact Or.inr rfl) (je_max2 rfl rfl T.f_max (ja_cons (je_int) (ja_cons (je_sub (je_int) (je_len rfl T.f_len (ja_cons (je_ix (je_ix (je_var 0) (je_neg (je_int)) (fun _ _ => rfl)) (je_int) (fun _ _ => rfl)) (ja_nil)))) (ja_nil))))) (jss_cons (js_for (passes_of rfl) rfl (ji_any (je_sl false (je_var 0) (jo_none) (jo_some (je_neg (je_int))))) (jg_lst [2, 3] rfl (pgs_cons (pg_name (i := 2) sc_law_lack.nd rfl (by first | exact Or.inl rfl | exact Or.inr rfl)) (pgs_cons (pg_name (i := 3) sc_law_lack.nd rfl (by first | exact Or.inl rfl | exact Or.inr rfl)) pgs_nil))) (jss_one (js_set 1 sc_law_lack.nd rfl (by first | exact Or.inl rfl | exact Or.inr rfl) (je_add false (je_var 1) (je_max2 rfl rfl T.f_max (ja_cons (je_int) (ja_cons (je_sub (je_int) (je_len rfl T.f_len (ja_cons (je_var 3) (ja_nil)))) (ja_nil)))))))) (jss_one (js_ret (je_var 1))))))
theorem sc_law_nest_k11 : FnScope ["cells", "kind", "most", "pile", "words", "cell", "room", "closed"] ["cells", "kind", "most"] (defScope (top 21)) := ⟨rfl, rfl, rfl, by decide +kernel, rfl, by decide +kernel, by decide +kernel⟩
theorem fx_law_nest_k11 (T : Txt K mg) : Fx P w K mg base "_law_nest" F_law_nest_k11 2 := by
  obtain ⟨fd, D⟩ := T.says.def_ 8 (d := d_law_nest_k11) rfl
  exact mk_fx (k := 1) D sc_law_nest_k11 T.g_law_nest_k11 (D.bindsN fun _ _ _ _ _ _ us hl => match us, hl with | [_, _, _], _ => rfl) m_law_nest_k11 (fun cdv A outer s H E hr => by
      exact (jss_cons (js_if (jt_w (jw_or (jt_cmpR cr_lt (je_var 2) (je_int) (nomark _)) (jw_or1 (jt_cmpR (cr_eqE (room_hu hr)) (je_var 0) (je_lst false (ja_nil)) (nomark _))))) (jss_one (js_ret (je_non))) (jss_nil)) (jss_cons (js_set 3 sc_law_nest_k11.nd rfl (by first | exact Or.inl rfl | exact Or.inr rfl) (je_lst true (ja_cons (je_lst true (ja_cons (je_var 1) (ja_cons (je_lst true (ja_nil)) (ja_nil)))) (ja_nil)))) (jss_cons (js_set 4 sc_law_nest_k11.nd rfl (by first | exact Or.inl rfl | exact Or.inr rfl) (je_int)) (jss_cons (js_for (passes_of rfl) rfl (ji_any (je_var 0)) (jg_name 5 sc_law_nest_k11.nd rfl (by first | exact Or.inl rfl | exact Or.inr rfl)) (jss_cons (js_set 6 sc_law_nest_k11.nd rfl (by first | exact Or.inl rfl | exact Or.inr rfl) (je_sub (je_sub (je_var 2) (je_var 4)) (je_call ((fx_law_lack T).cal hr (by decide)) (takes_of rfl rfl rfl rfl) rfl (ja_cons (je_var 3) (ja_nil))))) (jss_one (js_if (jt_w (jw_and (jt_cmpR (cr_eq (room_hu hr)) (je_mod (je_var 5) (je_int)) (je_int) (nomark _)) (jw_and1 (jt_w (jw_or (jt_cmpR cr_gt (je_var 6) (je_int) (nomark _)) (jw_or1 (jt_w (jw_and (jt_cmpR (cr_eq (room_hu hr)) (je_var 6) (je_int) (nomark _)) (jw_and1 (jt_cmpR cr_lt (je_len rfl T.f_len (ja_cons (je_ix (je_ix (je_var 3) (je_neg (je_int)) (fun _ _ => rfl)) (je_int) (fun _ _ => rfl)) (ja_nil))) (je_int) (nomark _))))))))))) (jss_one (js_expr (je_append (je_var 3) (ja_cons (je_lst true (ja_cons (je_ix (je_str) (je_intOf rfl T.f_int (ja_cons (je_cmpR (cr_eq (room_hu hr)) (je_ix (je_ix (je_var 3) (je_neg (je_int)) (fun _ _ => rfl)) (je_int) (fun _ _ => rfl)) (je_str) (nomark _)) (ja_nil))) (fun _ _ => rfl)) (ja_cons (je_lst true (ja_nil)) (ja_nil)))) (ja_nil))))) (jss_one (js_if (jt_w (jw_and (jt_cmpR (cr_eq (room_hu hr)) (je_mod (je_var 5) (je_int)) (je_int) (nomark _)) (jw_and (jt_cmpR cr_gt (je_len rfl T.f_len (ja_cons (je_var 3) (ja_nil))) (je_int) (nomark _)) (jw_and1 (jt_cmpR cr_gt (je_len rfl T.f_len (ja_cons (je_ix (je_ix (je_var 3) (je_neg (je_int)) (fun _ _ => rfl)) (je_int) (fun _ _ => rfl)) (ja_nil))) (je_int) (nomark _)))))) (jss_cons (js_set 7 sc_law_nest_k11.nd rfl (by first | exact Or.inl rfl | exact Or.inr rfl) (je_pop (je_var 3))) (jss_one (js_expr (je_append (je_ix (je_ix (je_var 3) (je_neg (je_int)) (fun _ _ => rfl)) (je_int) (fun _ _ => rfl)) (ja_cons (je_tup (ja_cons (je_ix (je_var 7) (je_int) (fun _ _ => rfl)) (ja_cons (je_tupleOf rfl T.f_tuple (ja_cons (je_ix (je_var 7) (je_int) (fun _ _ => rfl)) (ja_nil))) (ja_nil)))) (ja_nil)))))) (jss_one (js_if (jt_w (jw_or (jt_cmpR cr_gt (je_var 6) (je_int) (nomark _)) (jw_or1 (jt_cmpR cr_lt (je_len rfl T.f_len (ja_cons (je_ix (je_ix (je_var 3) (je_neg (je_int)) (fun _ _ => rfl)) (je_int) (fun _ _ => rfl)) (ja_nil))) (je_int) (nomark _))))) (jss_cons (js_expr (je_append (je_ix (je_ix (je_var 3) (je_neg (je_int)) (fun _ _ => rfl)) (je_int) (fun _ _ => rfl)) (ja_cons (je_non) (ja_nil)))) (jss_one (js_set 4 sc_law_nest_k11.nd rfl (by first | exact Or.inl rfl | exact Or.inr rfl) (je_add false (je_var 4) (je_int))))) (jss_nil))))))))) (jss_cons (js_while 1000 (passes_of rfl) (jt_cmpR cr_gt (je_len rfl T.f_len (ja_cons (je_var 3) (ja_nil))) (je_int) (nomark _)) (jss_cons (js_set 7 sc_law_nest_k11.nd rfl (by first | exact Or.inl rfl | exact Or.inr rfl) (je_pop (je_var 3))) (jss_one (js_expr (je_append (je_ix (je_ix (je_var 3) (je_neg (je_int)) (fun _ _ => rfl)) (je_int) (fun _ _ => rfl)) (ja_cons (je_tup (ja_cons (je_ix (je_var 7) (je_int) (fun _ _ => rfl)) (ja_cons (je_tupleOf rfl T.f_tuple (ja_cons (je_add false (je_ix (je_var 7) (je_int) (fun _ _ => rfl)) (je_mul false (je_lst false (ja_cons (je_non) (ja_nil))) (je_sub (je_int) (je_len rfl T.f_len (ja_cons (je_ix (je_var 7) (je_int) (fun _ _ => rfl)) (ja_nil)))))) (ja_nil))) (ja_nil)))) (ja_nil))))))) (jss_one (js_ret (je_tup (ja_cons (je_var 1) (ja_cons (je_tupleOf rfl T.f_tuple (ja_cons (je_add false (je_ix (je_ix (je_var 3) (je_int) (fun _ _ => rfl)) (je_int) (fun _ _ => rfl)) (je_mul false (je_lst false (ja_cons (je_non) (ja_nil))) (je_sub (je_int) (je_len rfl T.f_len (ja_cons (je_ix (je_ix (je_var 3) (je_int) (fun _ _ => rfl)) (je_int) (fun _ _ => rfl)) (ja_nil)))))) (ja_nil))) (ja_nil))))))))))))
theorem sc_law_ways : FnScope ["nest", "found", "pile", "here", "way", "k"] ["nest"] (defScope (top 22)) := ⟨rfl, rfl, rfl, by decide +kernel, rfl, by decide +kernel, by decide +kernel⟩
theorem fx_law_ways (T : Txt K mg) : Fx P w K mg base "_law_ways" F_law_ways 1 := by
  obtain ⟨fd, D⟩ := T.says.def_ 9 (d := d_law_ways) rfl
  exact mk_fx (k := 0) D sc_law_ways T.g_law_ways (D.bindsN fun _ _ _ _ _ _ us hl => match us, hl with | [_], _ => rfl) m_law_ways (fun cdv A outer s H E hr => by
      exact (jss_cons (js_set 1 sc_law_ways.nd rfl (by first | exact Or.inl rfl | exact Or.inr rfl) (je_lst true (ja_nil))) (jss_cons (js_set 2 sc_law_ways.nd rfl (by first | exact Or.inl rfl | exact Or.inr rfl) (je_lst true (ja_cons (je_tup (ja_cons (je_var 0) (ja_cons (je_tup (ja_nil)) (ja_nil)))) (ja_nil)))) (jss_cons (js_while 1000 (passes_of rfl) (jt_cmpR (cr_neE (room_hu hr)) (je_var 2) (je_lst false (ja_nil)) (nomark _)) (jss_cons (js_unp [3, 4] rfl (pgs_cons (pg_name (i := 3) sc_law_ways.nd rfl (by first | exact Or.inl rfl | exact Or.inr rfl)) (pgs_cons (pg_name (i := 4) sc_law_ways.nd rfl (by first | exact Or.inl rfl | exact Or.inr rfl)) pgs_nil)) (je_pop (je_var 2))) (jss_one (js_if (jt_cmpR cr_isN (je_var 3) (je_non) (nomark _)) (jss_one (js_expr (je_append (je_var 1) (ja_cons (je_var 4) (ja_nil))))) (jss_one (js_for (passes_of rfl) rfl (ji_range3 rfl T.f_range (ja_cons (je_sub (je_len rfl T.f_len (ja_cons (je_ix (je_var 3) (je_int) (fun _ _ => rfl)) (ja_nil))) (je_int)) (ja_cons (je_neg (je_int)) (ja_cons (je_neg (je_int)) (ja_nil))))) (jg_name 5 sc_law_ways.nd rfl (by first | exact Or.inl rfl | exact Or.inr rfl)) (jss_one (js_expr (je_append (je_var 2) (ja_cons (je_tup (ja_cons (je_ix (je_ix (je_var 3) (je_int) (fun _ _ => rfl)) (je_var 5) (fun _ _ => rfl)) (ja_cons (je_add false (je_var 4) (je_tup (ja_cons (je_ix (je_lst false (ja_cons (je_var 5) (ja_cons (je_sub (je_int) (je_var 5)) (ja_nil)))) (je_intOf rfl T.f_int (ja_cons (je_cmpR (cr_eq (room_hu hr)) (je_ix (je_var 3) (je_int) (fun _ _ => rfl)) (je_str) (nomark _)) (ja_nil))) (fun _ _ => rfl)) (ja_nil)))) (ja_nil)))) (ja_nil))))))))))) (jss_one (js_ret (je_var 1)))))))
theorem sc_law_refused_k12 : FnScope ["thing", "kinds", "e"] ["thing"] (defScope (top 23)) := ⟨rfl, rfl, rfl, by decide +kernel, rfl, by decide +kernel, by decide +kernel⟩
theorem fx_law_refused_k12 (T : Txt K mg) : Fx P w K mg base "_law_refused" F_law_refused_k12 72 := by
  obtain ⟨fd, D⟩ := T.says.def_ 10 (d := d_law_refused_k12) rfl
  exact mk_fx (k := 71) D sc_law_refused_k12 T.g_law_refused_k12 (D.bindsN fun _ _ _ _ _ _ us hl => match us, hl with | [_], _ => rfl) m_law_refused_k12 (fun cdv A outer s H E hr => by
      exact (jss_cons (js_set 1 sc_law_refused_k12.nd rfl (by first | exact Or.inl rfl | exact Or.inr rfl) (je_lst true (ja_nil))) (jss_cons (js_tryAs rfl rfl sc_law_refused_k12.nd rfl rfl rfl T.g_TurnError T.ex (by decide) (takes_of rfl rfl rfl rfl) (fun W pn xe tk po => jss_one (js_expr (je_call ((fx_seen T).cal hr (by decide)).tr tk rfl (ja_cons (je_var 0) (ja_nil))))) (fun a oe pn c hc hz hff => jse_cons (jse_set 1 (by decide) sc_law_refused_k12.nd rfl (by first | exact Or.inl rfl | exact Or.inr rfl) (jee_lst true (jae_cons (jee_is T.ex hc (by decide) hz hff rfl T.f_isinstance rfl (by first | exact Or.inl rfl | exact Or.inr (Or.inl rfl) | exact Or.inr (Or.inr rfl)) ⟨rfl, by decide, .inl ⟨by decide, T.g_NoNest⟩⟩) (jae_cons (jee_is T.ex hc (by decide) hz hff rfl T.f_isinstance rfl (by first | exact Or.inl rfl | exact Or.inr (Or.inl rfl) | exact Or.inr (Or.inr rfl)) ⟨rfl, by decide, .inr ⟨rfl, T.f_ValueError⟩⟩) (jae_nil))))) (jse_cons (jse_expr (jee_append (je_var 1) (jae_cons (jee_isT T.ex hc (by decide) (by decide) hz hff rfl T.f_isinstance rfl (by first | exact Or.inl rfl | exact Or.inr (Or.inl rfl) | exact Or.inr (Or.inr rfl)) (NamesCs.cons ⟨rfl, by decide, .inl ⟨by decide, T.g_NoOrder⟩⟩ rfl (NamesCs.cons ⟨rfl, by decide, .inl ⟨by decide, T.g_NoWords⟩⟩ rfl (NamesCs.cons ⟨rfl, by decide, .inl ⟨by decide, T.g_NoTurn⟩⟩ rfl (NamesCs.cons ⟨rfl, by decide, .inl ⟨by decide, T.g_NoNumber⟩⟩ rfl NamesCs.nil))))) jae_nil))) (jse_one (jse_expr (jee_append (je_var 1) (jae_cons (jee_isT T.ex hc (by decide) (by decide) hz hff rfl T.f_isinstance rfl (by first | exact Or.inl rfl | exact Or.inr (Or.inl rfl) | exact Or.inr (Or.inr rfl)) (NamesCs.cons ⟨rfl, by decide, .inl ⟨by decide, T.g_TooMany⟩⟩ rfl (NamesCs.cons ⟨rfl, by decide, .inl ⟨by decide, T.g_NoText⟩⟩ rfl (NamesCs.cons ⟨rfl, by decide, .inl ⟨by decide, T.g_NoRow⟩⟩ rfl NamesCs.nil)))) jae_nil))))))) (jss_one (js_ret (je_cmpR (cr_eq (room_hu hr)) (je_var 1) (je_lst false (ja_cons (je_bl) (ja_cons (je_bl) (ja_cons (je_bl) (ja_cons (je_bl) (ja_nil)))))) (nomark _)))))))
theorem sc_law_none_k12 : FnScope ["nest", "cell", "some", "bad", "kind", "parts", "at", "inner"] ["nest", "cell"] (defScope (top 24)) := ⟨rfl, rfl, rfl, by decide +kernel, rfl, by decide +kernel, by decide +kernel⟩
theorem fx_law_none_k12 (T : Txt K mg) : Fx P w K mg base "_law_none" F_law_none_k12 1 := by
  obtain ⟨fd, D⟩ := T.says.def_ 11 (d := d_law_none_k12) rfl
  exact mk_fx (k := 0) D sc_law_none_k12 T.g_law_none_k12 (D.bindsN fun _ _ _ _ _ _ us hl => match us, hl with | [_, _], _ => rfl) m_law_none_k12 (fun cdv A outer s H E hr => by
      exact (jss_cons (js_set 2 sc_law_none_k12.nd rfl (by first | exact Or.inl rfl | exact Or.inr rfl) (je_lst false (ja_cons (je_int) (ja_cons (je_bl) (ja_cons (je_str) (ja_cons (je_str) (ja_cons (je_lst false (ja_nil)) (ja_cons (je_tup (ja_nil)) (ja_cons (je_lst false (ja_cons (je_non) (ja_cons (je_non) (ja_nil)))) (ja_cons (je_tup (ja_cons (je_str) (ja_cons (je_tup (ja_cons (je_non) (ja_nil))) (ja_nil)))) (ja_cons (je_tup (ja_cons (je_str) (ja_cons (je_tup (ja_cons (je_non) (ja_cons (je_non) (ja_nil)))) (ja_nil)))) (ja_cons (je_emp false) (ja_cons (je_tup (ja_cons (je_non) (ja_cons (je_non) (ja_nil)))) (ja_cons (je_tup (ja_cons (je_str) (ja_cons (je_lst false (ja_nil)) (ja_nil)))) (ja_nil))))))))))))))) (jss_cons (js_set 3 sc_law_none_k12.nd rfl (by first | exact Or.inl rfl | exact Or.inr rfl) (je_ix (je_var 2) (je_mod (je_div (je_var 1) (je_int)) (je_len rfl T.f_len (ja_cons (je_var 2) (ja_nil)))) (fun _ _ => rfl))) (jss_cons (js_if (jt_cmpR cr_isN (je_var 0) (je_non) (nomark _)) (jss_one (js_ret (je_var 3))) (jss_nil)) (jss_cons (js_unp [4, 5] rfl (pgs_cons (pg_name (i := 4) sc_law_none_k12.nd rfl (by first | exact Or.inl rfl | exact Or.inr rfl)) (pgs_cons (pg_name (i := 5) sc_law_none_k12.nd rfl (by first | exact Or.inl rfl | exact Or.inr rfl)) pgs_nil)) (je_var 0)) (jss_cons (js_if (jt_cmpR (cr_eq (room_hu hr)) (je_mod (je_var 1) (je_int)) (je_int) (nomark _)) (jss_one (js_ret (je_tup (ja_cons (je_var 4) (ja_cons (je_add false (je_var 5) (je_tup (ja_cons (je_var 0) (ja_nil)))) (ja_nil)))))) (jss_nil)) (jss_cons (js_set 6 sc_law_none_k12.nd rfl (by first | exact Or.inl rfl | exact Or.inr rfl) (je_mod (je_div (je_var 1) (je_int)) (je_len rfl T.f_len (ja_cons (je_var 5) (ja_nil))))) (jss_cons (js_if (jt_w (jw_and (jt_cmpR (cr_eq (room_hu hr)) (je_mod (je_var 1) (je_int)) (je_int) (nomark _)) (jw_and1 (jt_cmpR cr_notN (je_ix (je_var 5) (je_var 6) (fun _ _ => rfl)) (je_non) (nomark _))))) (jss_cons (js_set 7 sc_law_none_k12.nd rfl (by first | exact Or.inl rfl | exact Or.inr rfl) (je_ix (je_var 5) (je_var 6) (fun _ _ => rfl))) (jss_one (js_ret (je_tup (ja_cons (je_var 4) (ja_cons (je_add false (je_add false (je_sl false (je_var 5) (jo_none) (jo_some (je_var 6))) (je_tup (ja_cons (je_tup (ja_cons (je_ix (je_var 7) (je_int) (fun _ _ => rfl)) (ja_cons (je_add false (je_sl false (je_ix (je_var 7) (je_int) (fun _ _ => rfl)) (jo_none) (jo_some (je_neg (je_int)))) (je_tup (ja_cons (je_var 3) (ja_nil)))) (ja_nil)))) (ja_nil)))) (je_sl false (je_var 5) (jo_some (je_add false (je_var 6) (je_int))) (jo_none))) (ja_nil))))))) (jss_nil)) (jss_cons (js_if (jt_cmpR (cr_eq (room_hu hr)) (je_mod (je_var 1) (je_int)) (je_int) (nomark _)) (jss_one (js_ret (je_tup (ja_cons (je_var 4) (ja_cons (je_add false (je_var 5) (je_mul false (je_tup (ja_cons (je_non) (ja_nil))) (je_int))) (ja_nil)))))) (jss_nil)) (jss_one (js_ret (je_tup (ja_cons (je_var 4) (ja_cons (je_add false (je_add false (je_sl false (je_var 5) (jo_none) (jo_some (je_var 6))) (je_tup (ja_cons (je_var 3) (ja_nil)))) (je_sl false (je_var 5) (jo_some (je_add false (je_var 6) (je_int))) (jo_none))) (ja_nil)))))))))))))))
theorem sc_law : FnScope ["script", "cell", "most", "nest", "ways", "due", "found", "number", "k"] ["script"] (defScope (top 25)) := ⟨rfl, rfl, rfl, by decide +kernel, rfl, by decide +kernel, by decide +kernel⟩
theorem fn_law (T : Txt K mg) {fd : FuncData} (D : FunD K "law" "law" (defArgs (top 25)) (defBody (top 25)) (defScope (top 25)) [] [] (He.ga K "law") fd) (TB : LamX.TabB base mg (lawCode K) (tabA K)) : FnOk P w K mg base (L2.CX P w) 73 (He.ga K "law") fd ["script"] (spX K F_law) :=
  mk_fnXT (k := 72) D sc_law m_law TB (fun A outer s H E hr => by
      exact (jss_cons (js_set 1 sc_law.nd rfl (by first | exact Or.inl rfl | exact Or.inr rfl) (je_call ((fx_law_cell T).cal hr (by decide)) (takes_of rfl rfl rfl rfl) rfl (ja_cons (je_var 0) (ja_cons (je_int) (ja_nil))))) (jss_cons (js_set 2 sc_law.nd rfl (by first | exact Or.inl rfl | exact Or.inr rfl) (je_ix (je_lst false (ja_cons (je_add false (je_int) (je_mod (je_div (je_var 1) (je_int)) (je_int))) (ja_cons (je_add false (je_int) (je_mod (je_div (je_var 1) (je_int)) (je_int))) (ja_nil)))) (je_mod (je_div (je_var 1) (je_int)) (je_int)) (fun _ _ => rfl))) (jss_cons (js_set 3 sc_law.nd rfl (by first | exact Or.inl rfl | exact Or.inr rfl) (je_call ((fx_law_nest_k11 T).cal hr (by decide)) (takes_of rfl rfl rfl rfl) rfl (ja_cons (je_call ((fx_law_more T).cal hr (by decide)) (takes_of rfl rfl rfl rfl) rfl (ja_cons (je_sl false (je_var 0) (jo_some (je_int)) (jo_some (je_int))) (ja_nil))) (ja_cons (je_ix (je_str) (je_mod (je_var 1) (je_int)) (fun _ _ => rfl)) (ja_cons (je_var 2) (ja_nil)))))) (jss_cons (js_set 4 sc_law.nd rfl (by first | exact Or.inl rfl | exact Or.inr rfl) (je_call ((fx_law_ways T).cal hr (by decide)) (takes_of rfl rfl rfl rfl) rfl (ja_cons (je_var 3) (ja_nil)))) (jss_cons (js_set 5 sc_law.nd rfl (by first | exact Or.inl rfl | exact Or.inr rfl) (je_sortKey 4 TB rfl hr rfl rfl T.f_sorted rfl T.f_range (je_len rfl T.f_len (ja_cons (je_var 4) (ja_nil))) rfl rfl rfl rfl rfl rfl (by decide) rfl (fun _ _ _ _ _ _ => rfl) (by decide) (by decide) (by decide) rfl rfl rfl rfl rfl rfl)) (jss_cons (js_set 6 sc_law.nd rfl (by first | exact Or.inl rfl | exact Or.inr rfl) (je_call ((fx_seen T).cal hr (by decide)) (takes_of rfl rfl rfl rfl) rfl (ja_cons (je_var 3) (ja_nil)))) (jss_cons (js_if (jt_w (jw_or (jt_not (jt_val (je_isi kt_tuple rfl T.f_isinstance rfl T.f_tuple (by decide +kernel) (je_var 6)))) (jw_or1 (jt_cmpR (cr_ne (room_hu hr)) (je_var 6) (je_tupleOf rfl T.f_tuple (ja_cons (je_var 5) (ja_nil))) (nomark _))))) (jss_one (js_ret (je_bl))) (jss_nil)) (jss_cons (js_for (passes_of rfl) rfl (ji_any (je_var 6)) (jg_name 7 sc_law.nd rfl (by first | exact Or.inl rfl | exact Or.inr rfl)) (jss_one (js_if (jt_w (jw_or (jt_not (jt_val (je_isi kt_int rfl T.f_isinstance rfl T.f_int (by decide +kernel) (je_var 7)))) (jw_or1 (jt_val (je_isi kt_bool rfl T.f_isinstance rfl T.f_bool (by decide +kernel) (je_var 7)))))) (jss_one (js_ret (je_bl))) (jss_nil)))) (jss_cons (js_for (passes_of rfl) rfl (ji_range2 rfl T.f_range (ja_cons (je_int) (ja_cons (je_int) (ja_nil)))) (jg_name 8 sc_law.nd rfl (by first | exact Or.inl rfl | exact Or.inr rfl)) (jss_one (js_if (jt_not (jt_val (je_call ((fx_law_refused_k12 T).cal hr (by decide)) (takes_of rfl rfl rfl rfl) rfl (ja_cons (je_call ((fx_law_none_k12 T).cal hr (by decide)) (takes_of rfl rfl rfl rfl) rfl (ja_cons (je_var 3) (ja_cons (je_call ((fx_law_cell T).cal hr (by decide)) (takes_of rfl rfl rfl rfl) rfl (ja_cons (je_var 0) (ja_cons (je_var 8) (ja_nil)))) (ja_nil)))) (ja_nil))))) (jss_one (js_ret (je_bl))) (jss_nil)))) (jss_one (js_ret (je_and (je_cmpR (cr_eq (room_hu hr)) (je_call ((fx_seen T).cal hr (by decide)) (takes_of rfl rfl rfl rfl) rfl (ja_cons (je_non) (ja_nil))) (je_tup (ja_cons (je_int) (ja_nil))) (nomark _)) (je_one (je_cmpR (cr_eq (room_hu hr)) (je_call ((fx_seen T).cal hr (by decide)) (takes_of rfl rfl rfl rfl) rfl (ja_cons (je_var 3) (ja_nil))) (je_var 6) (nomark _))))))))))))))))
end
def loose : List PySem.Str := (["TurnError", "NoOrder", "NoWords", "NoNest", "NoTurn", "NoNumber", "TooMany", "NoText", "NoRow", "MOST_WORDS", "is_nest", "need_nest", "seen_row", "seen", "_law_stir", "_law_cell", "_law_more", "_law_lack", "_law_nest", "_law_ways", "_law_refused", "_law_none"] : List PySem.Str)
abbrev R : PySem.W.OpenRow := PySem.W.OpenLaw.row PySem.Challenge.rw_turnnest_k12_nests_seen
abbrev hk : PySem.W.Hook := hookT 5 fa fn (exB ["NoOrder", "NoWords", "NoNest", "NoTurn", "NoNumber", "TooMany", "NoText", "NoRow"] ["NoOrder", "NoWords", "NoNest", "NoTurn", "NoNumber", "TooMany", "NoText", "NoRow", "TurnError", "ValueError"])
def ob (s : PySem.W.SharedT) : He.AlD × Bool := obsTG 5 fa fn (exB ["NoOrder", "NoWords", "NoNest", "NoTurn", "NoNumber", "TooMany", "NoText", "NoRow"] ["NoOrder", "NoWords", "NoNest", "NoTurn", "NoNumber", "TooMany", "NoText", "NoRow", "TurnError", "ValueError"]) (HandSHeadRun.getT s)
theorem ob_eq (s : PySem.W.SharedT) : ob s = hk.obs s.abs := obsTG_eq (HandSHeadRun.getT_eq s)
set_option maxHeartbeats 0 in
theorem run (w : World) : HandSHeadRun.RunEq R (PySem.W.view R.prog [25]) hk ob 6000 loose w := by
  intro os
  kernel_rfl
theorem facts {P : Program} {w : World} {K : PySem.W.Frag} {h : Heap} {mg : Str → Option Value} {f : Addr} (X : K.In h) (G : h.Ns mainGlobals mg) (hfa : mg ("law" : Str) = some (.ref f)) (c : He.SaysD fa fn K) (cx : exB ["NoOrder", "NoWords", "NoNest", "NoTurn", "NoNumber", "TooMany", "NoText", "NoRow"] ["NoOrder", "NoWords", "NoNest", "NoTurn", "NoNumber", "TooMany", "NoText", "NoRow", "TurnError", "ValueError"] K = true) :
    ∃ fd : FuncData, (∀ (s : Shared) (v : Value), BindsTo s fd ⟨[v], []⟩ [("script", v)]) ∧ ∀ base : Heap, K.In base → base.Ns mainGlobals mg → LamX.TabB base mg (lawCode K) (tabA K) → FnOk P w K mg base (L2.CX P w) 73 f fd ["script"] (spX K F_law) := by
  have T : Txt K mg := ⟨c, exB_ok cx, He.glo_ok X G (c.fact 0 (f := .glo "is_nest") rfl), He.glo_ok X G (c.fact 1 (f := .glo "need_nest") rfl), He.glo_ok X G (c.fact 2 (f := .glo "seen_row") rfl), He.glo_ok X G (c.fact 3 (f := .glo "seen") rfl), He.glo_ok X G (c.fact 4 (f := .glo "_law_stir") rfl), He.glo_ok X G (c.fact 5 (f := .glo "_law_cell") rfl), He.glo_ok X G (c.fact 6 (f := .glo "_law_more") rfl), He.glo_ok X G (c.fact 7 (f := .glo "_law_lack") rfl), He.glo_ok X G (c.fact 8 (f := .glo "_law_nest") rfl), He.glo_ok X G (c.fact 9 (f := .glo "_law_ways") rfl), He.glo_ok X G (c.fact 10 (f := .glo "_law_refused") rfl), He.glo_ok X G (c.fact 11 (f := .glo "_law_none") rfl), He.glo_ok X G (c.fact 12 (f := .glo "law") rfl), He.glo_ok X G (c.fact 13 (f := .glo "TurnError") rfl), He.exc_ok (c.fact 14 (f := .exc "TurnError") rfl), He.glo_ok X G (c.fact 15 (f := .glo "NoOrder") rfl), He.exc_ok (c.fact 16 (f := .exc "NoOrder") rfl), He.glo_ok X G (c.fact 17 (f := .glo "NoWords") rfl), He.exc_ok (c.fact 18 (f := .exc "NoWords") rfl), He.glo_ok X G (c.fact 19 (f := .glo "NoNest") rfl), He.exc_ok (c.fact 20 (f := .exc "NoNest") rfl), He.glo_ok X G (c.fact 21 (f := .glo "NoTurn") rfl), He.exc_ok (c.fact 22 (f := .exc "NoTurn") rfl), He.glo_ok X G (c.fact 23 (f := .glo "NoNumber") rfl), He.exc_ok (c.fact 24 (f := .exc "NoNumber") rfl), He.glo_ok X G (c.fact 25 (f := .glo "TooMany") rfl), He.exc_ok (c.fact 26 (f := .exc "TooMany") rfl), He.glo_ok X G (c.fact 27 (f := .glo "NoText") rfl), He.exc_ok (c.fact 28 (f := .exc "NoText") rfl), He.glo_ok X G (c.fact 29 (f := .glo "NoRow") rfl), He.exc_ok (c.fact 30 (f := .exc "NoRow") rfl), He.int_ok X G (c.fact 31 (f := .int "MOST_WORDS" 60) rfl), He.free_ok X G (c.fact 32 (f := .free "ValueError") rfl), He.free_ok X G (c.fact 33 (f := .free "bool") rfl), He.free_ok X G (c.fact 34 (f := .free "int") rfl), He.free_ok X G (c.fact 35 (f := .free "isinstance") rfl), He.free_ok X G (c.fact 36 (f := .free "len") rfl), He.free_ok X G (c.fact 37 (f := .free "max") rfl), He.free_ok X G (c.fact 38 (f := .free "range") rfl), He.free_ok X G (c.fact 39 (f := .free "sorted") rfl), He.free_ok X G (c.fact 40 (f := .free "str") rfl), He.free_ok X G (c.fact 41 (f := .free "tuple") rfl)⟩
  obtain ⟨fd, D⟩ := c.def_ 12 (d := d_law) rfl
  have e := hfa.symm.trans T.g_law
  cases e
  have b := FunD.bindsA (ps := ["script"]) D fun _ _ _ _ _ _ us hl => match us, hl with | [_], _ => rfl
  exact ⟨fd, fun s v => b s [v] rfl, fun base _ _ TB => fn_law T D TB⟩
end Ab

end
open PySem PySem.W PySem.Calls PyProof.Rows
set_option maxRecDepth 100000 in
set_option maxHeartbeats 0 in
theorem PySem.Challenge.cw_turnnest_k12_nests_seen_holds : PySem.Challenge.rw_turnnest_k12_nests_seen.Holds := by
  w_on; o_law
  refine HandSHeadRun.head_any (r := OpenLaw.row PySem.Challenge.rw_turnnest_k12_nests_seen) (q := view (OpenLaw.row PySem.Challenge.rw_turnnest_k12_nests_seen).prog [25]) (H := Ab.hk) (ob := Ab.ob) (M := 6000) (loose := Ab.loose) (d := HandSHeadRun.topDef (OpenLaw.row PySem.Challenge.rw_turnnest_k12_nests_seen).prog 25) (kwd := []) Ab.ob_eq
    (by kernel_rfl) (fun s => by kernel_rfl) Ab.run (by kernel_rfl) (by kernel_rfl) (by kernel_rfl) (by rfl) (by first | assumption | decide +kernel) (by decide +kernel) ⟨rfl, rfl, rfl, rfl, rfl, by decide +kernel⟩ ?hw ?hc
  case hw => w_witness2
  case hc =>
    refine Ab.walk_ofET (l := PySem.Challenge.rw_turnnest_k12_nests_seen) (n := 63) (k := 73) (x := "script") (CX := Ab.CXu) rfl (by decide) (by kernel_rfl) ⟨rfl, by decide, by decide⟩ ?F (fun _ _ _ _ z => by
      obtain ⟨P, w, _, _, _, _, _, _, _, _, _, _, _, _, z⟩ := z
      exact z)
    intro w mg fa h Y G hmg0
    obtain ⟨K, KX, c, cx, tB, tE⟩ := Y
    have hmg : mg ("law" : PySem.Str) = some (.ref fa) := by
      have e : (HandSHeadRun.topDef (OpenLaw.row PySem.Challenge.rw_turnnest_k12_nests_seen).prog 25).name = ("law" : PySem.Str) := by kernel_rfl
      rw [← e]
      exact hmg0
    obtain ⟨fd, hb, hF⟩ := Ab.facts (P := (PySem.Challenge.rw_turnnest_k12_nests_seen).prog) (w := w) KX G hmg c cx
    exact ⟨K, fd, Ab.spX K Ab.F_law, KX, tB, tE, hb, fun H a ns hl nT hT hS => (Ab.law_true ns hl).elim fun _ hF => Ab.law_spT nT hT hS hF, fun base hK hN TB => Ab.fnok_cx (hF base hK hN TB)⟩
