import PyProof.Rows.All
import Wide.All
import OpenK.AllK
import Wide.FinOn
import HandS.ForMost
import HandS.IsInst
import HandS.Codes
import PySem.Challenge.RW_linkyard_k08_a_part_kept
set_option Elab.async false
set_option linter.all false
set_option maxRecDepth 100000
set_option maxHeartbeats 4000000
/-! Parts, data and heaps: what is said of them, and how it lasts. -/
namespace KP
open PySem PySem.Spec PyProof.Rows L2
/-! ### the text by places -/
def top (i : Nat) : Stmt := PySem.Challenge.pw_linkyard_k08_a_part_kept.main.body.getD i (.Pass ⟨0, 0, 0, 0⟩)
abbrev sInit : Stmt := inClass (top 1) 0
abbrev sNms : Stmt := inClass (top 1) 1
abbrev sPlace : Stmt := inClass (top 1) 2
abbrev sCell : Stmt := top 3
abbrev sMix : Stmt := top 4
abbrev sNames : Stmt := top 5
abbrev sWhole : Stmt := top 6
abbrev sSecR : Stmt := top 7
abbrev sPlcR : Stmt := top 8
abbrev sTold : Stmt := top 9
abbrev sDue : Stmt := top 10
abbrev sMade : Stmt := top 11
abbrev sRight : Stmt := top 12
abbrev sLaw : Stmt := top 13

/-! ### data -/
structure Sec where
  kind : Str
  called : Str
  shared : Bool
  row : List Int
structure Plc where
  sec : Int
  off : Int
  way : Str
  name : Str
  line : Int
structure Dat where
  name : Str
  secs : List Sec
  wants : List Str
  places : List Plc
def secV (s : Sec) (r : Addr) : List V := [.str s.kind, .str s.called, .bl s.shared, .ref r]
def plcV (p : Plc) : List V := [.int p.sec, .int p.off, .str p.way, .str p.name, .int p.line]
/-- a text of real signs -/
def SOk (x : Str) : Prop := ∀ c ∈ x.cps.toList, c < 0x110000
theorem SOk.strOk {x : Str} (h : SOk x) : PyData.strOk x = true := by
  unfold PyData.strOk
  rw [← Array.all_toList, List.all_eq_true]
  intro c hc
  exact decide_eq_true (h c hc)
theorem sok_of {x : Str} (h : PyData.strOk x = true) : SOk x := by
  unfold PyData.strOk at h
  rw [← Array.all_toList, List.all_eq_true] at h
  exact fun c hc => of_decide_eq_true (h c hc)
theorem sok_app {a b : Str} (ha : SOk a) (hb : SOk b) : SOk (a ++ b) := by
  intro c hc
  have e : (a ++ b).cps.toList = a.cps.toList ++ b.cps.toList := by
    show (a.cps ++ b.cps).toList = _
    rw [Array.toList_append]
  rw [e] at hc
  rcases List.mem_append.mp hc with h | h
  · exact ha c h
  · exact hb c h
theorem sok_cut {z : Str} (h : SOk z) (lo hi : Option Int) : SOk (cutS z lo hi) := by
  intro c hc
  have hc : c ∈ (z.cps.toList.drop (HT.sIx z.length 0 lo)).take (HT.sIx z.length z.length hi - HT.sIx z.length 0 lo) := hc
  exact h c (List.mem_of_mem_drop (List.mem_of_mem_take hc))
theorem at_mem {α : Type} {xs : List α} {i : Int} {c : α} (h : atI xs i = some c) : c ∈ xs := by
  unfold atI at h
  obtain ⟨j, _, h2⟩ := Option.bind_eq_some_iff.mp h
  exact List.mem_of_getElem? h2
theorem sok_sign {z : Str} (h : SOk z) {i : Int} {c : Nat} (e : atI z.cps.toList i = some c) : SOk ⟨#[c]⟩ := by
  intro d hd
  have : d = c := by simpa using hd
  rw [this]
  exact h c (at_mem e)
theorem sok_join {y : Str} (hy : SOk y) : ∀ {ps : List Str}, (∀ p ∈ ps, SOk p) → SOk (Str.join y ps)
  | [], _ => fun c hc => by simp [Str.join, Str.empty] at hc
  | [p], h => h p (by simp)
  | p :: q :: r, h => by
    show SOk (p ++ y ++ Str.join y (q :: r))
    exact sok_app (sok_app (h p (by simp)) hy) (sok_join hy fun z hz => h z (List.mem_cons_of_mem _ hz))
theorem at_some {α : Type} {xs : List α} {i : Int} (h0 : 0 ≤ i) (h1 : i < xs.length) : ∃ c, atI xs i = some c := by
  obtain ⟨j, rfl⟩ := Int.eq_ofNat_of_zero_le h0
  have hj : j < xs.length := by omega
  exact ⟨xs[j], atI_nat (List.getElem?_eq_getElem hj)⟩
theorem sign_len (c : Nat) : (⟨#[c]⟩ : Str).length = 1 := rfl
theorem len_app (a b : Str) : (a ++ b).length = a.length + b.length := by
  show (a.cps ++ b.cps).size = _
  rw [Array.size_append]
  rfl
theorem mod_case {x m : Int} (hm : 0 < m) {P : Int → Prop} (h : ∀ r, 0 ≤ r → r < m → P r) : P (x % m) := h _ (Int.emod_nonneg _ (by omega)) (Int.emod_lt_of_pos _ hm)

/-! ### lists of pairs -/
section
variable {α β : Type} {R : α → β → Prop}
theorem pr_get : ∀ {ts : List α} {xs : List β} {i : Nat} {t : α}, Paired R ts xs → ts[i]? = some t → ∃ x, xs[i]? = some x ∧ R t x
  | _, _, _, _, .nil, h => by simp at h
  | _, _, 0, _, .cons r _, h => by
    simp at h
    subst h
    exact ⟨_, rfl, r⟩
  | _, _, i + 1, t, .cons _ q, h => by
    obtain ⟨x, h1, h2⟩ := pr_get (i := i) (t := t) q (by simpa using h)
    exact ⟨x, by simpa using h1, h2⟩
theorem pr_getR : ∀ {ts : List α} {xs : List β} {i : Nat} {x : β}, Paired R ts xs → xs[i]? = some x → ∃ t, ts[i]? = some t ∧ R t x
  | _, _, _, _, .nil, h => by simp at h
  | _, _, 0, _, .cons r _, h => by
    simp at h
    subst h
    exact ⟨_, rfl, r⟩
  | _, _, i + 1, t, .cons _ q, h => by
    obtain ⟨x, h1, h2⟩ := pr_getR (i := i) (x := t) q (by simpa using h)
    exact ⟨x, by simpa using h1, h2⟩
end

/-! ### what stands in a heap: N tells which places are taken -/
abbrev Sel := Addr → Prop
def Any : Sel := fun _ => True
def SecAt (N : Sel) (H : Hp) (t : Addr) (s : Sec) : Prop := N t ∧ ∃ r, N r ∧ H t = some (.tup (secV s r)) ∧ H r = some (.lst (s.row.map V.int))
def PlcAt (N : Sel) (H : Hp) (t : Addr) (p : Plc) : Prop := N t ∧ H t = some (.tup (plcV p))
def SecsAt (N : Sel) (H : Hp) (l : Addr) (ss : List Sec) : Prop := N l ∧ ∃ ts : List Addr, H l = some (.lst (ts.map V.ref)) ∧ Paired (SecAt N H) ts ss
def StrsAt (N : Sel) (H : Hp) (l : Addr) (ws : List Str) : Prop := N l ∧ H l = some (.lst (ws.map V.str))
def PlcsAt (N : Sel) (H : Hp) (l : Addr) (ps : List Plc) : Prop := N l ∧ ∃ ts : List Addr, H l = some (.lst (ts.map V.ref)) ∧ Paired (PlcAt N H) ts ps
def DueAt (N : Sel) (H : Hp) (t : Addr) (d : Dat) : Prop := N t ∧ ∃ ls lw lp, H t = some (.tup [.str "part", .str d.name, .ref ls, .ref lw, .ref lp]) ∧ SecsAt N H ls d.secs ∧ StrsAt N H lw d.wants ∧ PlcsAt N H lp d.places
def pf (nm : Str) (ls lw lp : Addr) : List (Str × V) := putF "places" (.ref lp) (putF "wants" (.ref lw) (putF "sections" (.ref ls) (putF "name" (.str nm) [])))
def PartAt (N : Sel) (C : Addr) (H : Hp) (x : Addr) (d : Dat) : Prop := N x ∧ ∃ dx ls lw lp, H x = some (.ins C dx (pf d.name ls lw lp)) ∧ SecsAt N H ls d.secs ∧ StrsAt N H lw d.wants ∧ PlcsAt N H lp d.places
/-- what N takes stays -/
def Stay (N : Sel) (H H' : Hp) : Prop := ∀ b o, N b → H b = some o → H' b = some o
section
variable {N M : Sel} {H H' : Hp}
theorem SecAt.stay {t : Addr} {s : Sec} (x : SecAt N H t s) (k : Stay N H H') : SecAt N H' t s := by
  obtain ⟨n, r, nr, h1, h2⟩ := x
  exact ⟨n, r, nr, k _ _ n h1, k _ _ nr h2⟩
theorem PlcAt.stay {t : Addr} {p : Plc} (x : PlcAt N H t p) (k : Stay N H H') : PlcAt N H' t p := ⟨x.1, k _ _ x.1 x.2⟩
theorem SecsAt.stay {l : Addr} {ss : List Sec} (x : SecsAt N H l ss) (k : Stay N H H') : SecsAt N H' l ss := by
  obtain ⟨n, ts, h, q⟩ := x
  exact ⟨n, ts, k _ _ n h, L2.Paired.mapP q fun _ _ z => z.stay k⟩
theorem StrsAt.stay {l : Addr} {ws : List Str} (x : StrsAt N H l ws) (k : Stay N H H') : StrsAt N H' l ws := ⟨x.1, k _ _ x.1 x.2⟩
theorem PlcsAt.stay {l : Addr} {ps : List Plc} (x : PlcsAt N H l ps) (k : Stay N H H') : PlcsAt N H' l ps := by
  obtain ⟨n, ts, h, q⟩ := x
  exact ⟨n, ts, k _ _ n h, L2.Paired.mapP q fun _ _ z => z.stay k⟩
theorem DueAt.stay {t : Addr} {d : Dat} (x : DueAt N H t d) (k : Stay N H H') : DueAt N H' t d := by
  obtain ⟨n, ls, lw, lp, h, h1, h2, h3⟩ := x
  exact ⟨n, ls, lw, lp, k _ _ n h, h1.stay k, h2.stay k, h3.stay k⟩
theorem PartAt.stay {C x : Addr} {d : Dat} (p : PartAt N C H x d) (k : Stay N H H') : PartAt N C H' x d := by
  obtain ⟨n, dx, ls, lw, lp, h, h1, h2, h3⟩ := p
  exact ⟨n, dx, ls, lw, lp, k _ _ n h, h1.stay k, h2.stay k, h3.stay k⟩
theorem SecAt.any {t : Addr} {s : Sec} (x : SecAt N H t s) : SecAt Any H t s := by
  obtain ⟨n, r, nr, h1, h2⟩ := x
  exact ⟨True.intro, r, True.intro, h1, h2⟩
theorem PlcAt.any {t : Addr} {p : Plc} (x : PlcAt N H t p) : PlcAt Any H t p := ⟨True.intro, x.2⟩
theorem SecsAt.any {l : Addr} {ss : List Sec} (x : SecsAt N H l ss) : SecsAt Any H l ss := by
  obtain ⟨n, ts, h, q⟩ := x
  exact ⟨True.intro, ts, h, L2.Paired.mapP q fun _ _ z => z.any⟩
theorem PlcsAt.any {l : Addr} {ps : List Plc} (x : PlcsAt N H l ps) : PlcsAt Any H l ps := by
  obtain ⟨n, ts, h, q⟩ := x
  exact ⟨True.intro, ts, h, L2.Paired.mapP q fun _ _ z => z.any⟩
theorem PartAt.any {C x : Addr} {d : Dat} (p : PartAt N C H x d) : PartAt Any C H x d := by
  obtain ⟨n, dx, ls, lw, lp, h, h1, h2, h3⟩ := p
  exact ⟨True.intro, dx, ls, lw, lp, h, h1.any, ⟨True.intro, h2.2⟩, h3.any⟩
theorem same_stay (s : Same H H') : Stay N H H' := fun b o _ h => s b o h
theorem same_upd {p : Addr} {o : HO} (h : H p = none) : Same H (upd H p o) := fun b x e => by
  rw [upd_ne (ne_of_none e h)]
  exact e
end

/-! ### a part's fields -/
theorem nn1 : ¬ (("name" : Str) = "sections") := by decide +kernel
theorem nn2 : ¬ (("name" : Str) = "wants") := by decide +kernel
theorem nn3 : ¬ (("name" : Str) = "places") := by decide +kernel
theorem ns2 : ¬ (("sections" : Str) = "wants") := by decide +kernel
theorem ns3 : ¬ (("sections" : Str) = "places") := by decide +kernel
theorem nw3 : ¬ (("wants" : Str) = "places") := by decide +kernel
section
variable (nm : Str) (ls lw lp : Addr)
theorem pf_name : (pf nm ls lw lp).lookup ("name" : Str) = some (.str nm) := by
  unfold pf
  rw [lookup_putF, if_neg nn3, lookup_putF, if_neg nn2, lookup_putF, if_neg nn1, lookup_putF, if_pos rfl]
theorem pf_secs : (pf nm ls lw lp).lookup ("sections" : Str) = some (.ref ls) := by
  unfold pf
  rw [lookup_putF, if_neg ns3, lookup_putF, if_neg ns2, lookup_putF, if_pos rfl]
theorem pf_wants : (pf nm ls lw lp).lookup ("wants" : Str) = some (.ref lw) := by
  unfold pf
  rw [lookup_putF, if_neg nw3, lookup_putF, if_pos rfl]
theorem pf_places : (pf nm ls lw lp).lookup ("places" : Str) = some (.ref lp) := by
  unfold pf
  rw [lookup_putF, if_pos rfl]
theorem pf_no {m : Str} (h1 : ¬ m = "name") (h2 : ¬ m = "sections") (h3 : ¬ m = "wants") (h4 : ¬ m = "places") : (pf nm ls lw lp).lookup m = none := by
  unfold pf
  rw [lookup_putF, if_neg h4, lookup_putF, if_neg h3, lookup_putF, if_neg h2, lookup_putF, if_neg h1]
  all_goals rfl
end
theorem putF_len (f : Str) (v : V) : ∀ fs : List (Str × V), (putF f v fs).length ≤ fs.length + 1
  | [] => Nat.le_refl _
  | (g, x) :: r => by
    unfold putF
    split
    · simp
    · have := putF_len f v r
      simp only [List.length_cons]
      omega

/-! ### the least facts of a due thing -/
structure Fit (d : Dat) : Prop where
  secs : d.secs.length ≤ 6
  rows : ∀ s ∈ d.secs, s.row.length ≤ 9
  wants : d.wants.length ≤ 24
  places : d.places.length ≤ 5
  okN : SOk d.name
  okS : ∀ s ∈ d.secs, SOk s.kind ∧ SOk s.called
  okW : ∀ w ∈ d.wants, SOk w
  okP : ∀ p ∈ d.places, SOk p.way ∧ SOk p.name

/-! ### as data, for == -/
def secD (s : Sec) : PyData := .tuple [.str s.kind, .str s.called, .bool s.shared, .list (s.row.map PyData.int)]
def plcD (p : Plc) : PyData := .tuple [.int p.sec, .int p.off, .str p.way, .str p.name, .int p.line]
def datD (d : Dat) : PyData := .tuple [.str "part", .str d.name, .list (d.secs.map secD), .list (d.wants.map PyData.str), .list (d.places.map plcD)]
section
variable {K : PySem.W.Frag} {N : Sel} {H : Hp}
theorem dp_ints : ∀ ns : List Int, DpAll K H (ns.map V.int) (ns.map PyData.int)
  | [] => .nil
  | n :: r => .cons (.int n) (dp_ints r)
theorem dp_strs : ∀ ns : List Str, DpAll K H (ns.map V.str) (ns.map PyData.str)
  | [] => .nil
  | n :: r => .cons (.str n) (dp_strs r)
theorem dp_sec {t : Addr} {s : Sec} (x : SecAt N H t s) : Dp K H (.ref t) (secD s) := by
  obtain ⟨_, r, _, h1, h2⟩ := x
  exact .tup (SqT.of h1) (.cons (.str _) (.cons (.str _) (.cons (.bl _) (.cons (.lst (SqL.of h2) (dp_ints _)) .nil))))
theorem dp_plc {t : Addr} {p : Plc} (x : PlcAt N H t p) : Dp K H (.ref t) (plcD p) :=
  .tup (SqT.of x.2) (.cons (.int _) (.cons (.int _) (.cons (.str _) (.cons (.str _) (.cons (.int _) .nil)))))
theorem dp_refs {α : Type} {R : Addr → α → Prop} {f : α → PyData} (h : ∀ t x, R t x → Dp K H (.ref t) (f x)) : ∀ {ts : List Addr} {xs : List α}, Paired R ts xs → DpAll K H (ts.map V.ref) (xs.map f)
  | _, _, .nil => .nil
  | _, _, .cons r q => .cons (h _ _ r) (dp_refs h q)
theorem dp_due {t : Addr} {d : Dat} (x : DueAt N H t d) : Dp K H (.ref t) (datD d) := by
  obtain ⟨_, ls, lw, lp, h, ⟨_, ts, h1, q1⟩, ⟨_, h2⟩, ⟨_, us, h3, q3⟩⟩ := x
  exact .tup (SqT.of h) (.cons (.str _) (.cons (.str _) (.cons (.lst (SqL.of h1) (dp_refs (R := SecAt N H) (f := secD) (fun _ _ => dp_sec) q1)) (.cons (.lst (SqL.of h2) (dp_strs _)) (.cons (.lst (SqL.of h3) (dp_refs (R := PlcAt N H) (f := plcD) (fun _ _ => dp_plc) q3)) .nil)))))
end
theorem lay_all {α : Type} {f : α → PyData} : ∀ {xs : List α}, (∀ x ∈ xs, (f x).canLay0 = true) → PyData.canLayAll0 (xs.map f) = true
  | [], _ => by simp [PyData.canLayAll0]
  | x :: r, h => by
    rw [List.map_cons, PyData.canLayAll0, h x (by simp), lay_all fun y hy => h y (List.mem_cons_of_mem _ hy)]
    rfl
theorem dep_all {α : Type} {f : α → PyData} {n : Nat} : ∀ {xs : List α}, (∀ x ∈ xs, (f x).depth ≤ n) → PyData.depthAll (xs.map f) ≤ n
  | [], _ => by simp [PyData.depthAll]
  | x :: r, h => by
    rw [List.map_cons, PyData.depthAll]
    exact Nat.max_le.mpr ⟨h x (by simp), dep_all fun y hy => h y (List.mem_cons_of_mem _ hy)⟩
theorem lay_sec {s : Sec} (h : SOk s.kind ∧ SOk s.called) : (secD s).canLay0 = true := by
  simp only [secD, PyData.canLay0, PyData.canLayAll0, h.1.strOk, h.2.strOk, lay_all (f := PyData.int) (xs := s.row) (fun _ _ => by simp [PyData.canLay0]), Bool.and_self]
theorem lay_plc {p : Plc} (h : SOk p.way ∧ SOk p.name) : (plcD p).canLay0 = true := by
  simp only [plcD, PyData.canLay0, PyData.canLayAll0, h.1.strOk, h.2.strOk, Bool.and_self]
theorem dep_sec (s : Sec) : (secD s).depth ≤ 2 := by
  have h := dep_all (f := PyData.int) (n := 0) (xs := s.row) (fun _ _ => by simp [PyData.depth])
  simp only [secD, PyData.depth, PyData.depthAll]
  omega
theorem dep_plc (p : Plc) : (plcD p).depth ≤ 2 := by
  simp only [plcD, PyData.depth, PyData.depthAll]
  omega
theorem part_ok : SOk ("part" : Str) := sok_of (by decide +kernel)
theorem dat_shaped {d : Dat} (h : Fit d) : SeqAt.shaped (datD d) = true := by
  unfold SeqAt.shaped
  have h1 := lay_all (f := secD) (xs := d.secs) fun s hs => lay_sec (h.okS s hs)
  have h2 := lay_all (f := PyData.str) (xs := d.wants) fun w hw => by simp only [PyData.canLay0]; exact (h.okW w hw).strOk
  have h3 := lay_all (f := plcD) (xs := d.places) fun p hp => lay_plc (h.okP p hp)
  have e1 := dep_all (f := secD) (n := 2) (xs := d.secs) fun s _ => dep_sec s
  have e2 := dep_all (f := PyData.str) (n := 0) (xs := d.wants) fun w _ => by simp [PyData.depth]
  have e3 := dep_all (f := plcD) (n := 2) (xs := d.places) fun p _ => dep_plc p
  have z : (datD d).canLay0 = true := by
    simp only [datD, PyData.canLay0, PyData.canLayAll0, h1, h2, h3, part_ok.strOk, h.okN.strOk, Bool.and_self]
  have y : (datD d).depth ≤ 64 := by
    simp only [datD, PyData.depth, PyData.depthAll]
    omega
  rw [z, decide_eq_true y]
  rfl
theorem dat_eqv {d : Dat} (h : Fit d) : PyData.eqv (datD d) (datD d) = true := PySem.SeqAt.eqv_refl _ (PySem.SeqAt.canLay_of_shaped (dat_shaped h))
theorem strs_shaped {ys : List Str} (h : ∀ y ∈ ys, SOk y) : SeqAt.shaped (.list (ys.map PyData.str)) = true := by
  unfold SeqAt.shaped
  have h2 := lay_all (f := PyData.str) (xs := ys) fun w hw => by simp only [PyData.canLay0]; exact (h w hw).strOk
  have e2 := dep_all (f := PyData.str) (n := 0) (xs := ys) fun w _ => by simp [PyData.depth]
  have z : (PyData.list (ys.map PyData.str)).canLay0 = true := by
    simp only [PyData.canLay0, h2]
  have y : (PyData.list (ys.map PyData.str)).depth ≤ 64 := by
    simp only [PyData.depth]
    omega
  rw [z, decide_eq_true y]
  rfl
theorem strs_eqv {ys : List Str} (h : ∀ y ∈ ys, SOk y) : PyData.eqv (.list (ys.map PyData.str)) (.list (ys.map PyData.str)) = true := PySem.SeqAt.eqv_refl _ (PySem.SeqAt.canLay_of_shaped (strs_shaped h))

/-! ### sorted texts: one order -/
theorem str_ext {a b : Str} (h : a.cps.toList = b.cps.toList) : a = b := by
  cases a with
  | mk x =>
    cases b with
    | mk y =>
      have : x = y := by
        have h' : x.toList = y.toList := h
        exact Array.toList_inj.mp h'
      rw [this]
theorem lt_tri : ∀ a b : List Nat, ltCps a b = false → ltCps b a = false → a = b
  | [], [], _, _ => rfl
  | [], _ :: _, h, _ => by simp [ltCps] at h
  | _ :: _, [], _, h => by simp [ltCps] at h
  | a :: r, b :: t, h, g => by
    simp only [ltCps, Bool.or_eq_false_iff, Bool.and_eq_false_iff, decide_eq_false_iff_not, beq_eq_false_iff_ne] at h g
    have e : a = b := by omega
    subst e
    have h2 : ltCps r t = false := by
      rcases h.2 with z | z
      · exact absurd rfl z
      · exact z
    have g2 : ltCps t r = false := by
      rcases g.2 with z | z
      · exact absurd rfl z
      · exact z
    rw [lt_tri r t h2 g2]
theorem le_trans3 : ∀ a b c : List Nat, ltCps b a = false → ltCps c b = false → ltCps c a = false
  | a, b, [], h, g => by
    cases b with
    | nil => exact h
    | cons y t => simp [ltCps] at g
  | [], b, z :: u, h, g => by simp [ltCps]
  | x :: r, [], z :: u, h, g => by simp [ltCps] at h
  | x :: r, y :: t, z :: u, h, g => by
    simp only [ltCps, Bool.or_eq_false_iff, Bool.and_eq_false_iff, decide_eq_false_iff_not, beq_eq_false_iff_ne] at h g ⊢
    refine ⟨by omega, ?_⟩
    by_cases e : z = x
    · subst e
      have e2 : y = z := by omega
      subst e2
      refine .inr (le_trans3 r t u ?_ ?_)
      · rcases h.2 with w | w
        · exact absurd rfl w
        · exact w
      · rcases g.2 with w | w
        · exact absurd rfl w
        · exact w
    · exact .inl e
abbrev leS (a b : Str) : Prop := ltCps b.cps.toList a.cps.toList = false
theorem rise_pw : ∀ (l : List Str) (p : Str), risingS p l = true → (p :: l).Pairwise leS
  | [], p, _ => List.pairwise_singleton _ _
  | x :: r, p, h => by
    simp only [risingS, Bool.and_eq_true, Bool.not_eq_true'] at h
    have q := rise_pw r x h.2
    refine List.pairwise_cons.mpr ⟨fun y hy => ?_, q⟩
    rcases List.mem_cons.mp hy with e | hy
    · rw [e]
      exact h.1
    · exact le_trans3 _ _ _ h.1 ((List.pairwise_cons.mp q).1 y hy)
theorem sort_pw : ∀ {l : List Str}, sortedS l = true → l.Pairwise leS
  | [], _ => List.Pairwise.nil
  | x :: r, h => rise_pw r x h
theorem sort_one {a b l : List Str} (ha : a.Perm l) (hb : b.Perm l) (sa : sortedS a = true) (sb : sortedS b = true) : a = b :=
  List.Perm.eq_of_pairwise (le := leS) (fun x y _ _ h g => str_ext (lt_tri _ _ g h)) (sort_pw sa) (sort_pw sb) (ha.trans hb.symm)

/-! ### the first section of a name -/
def FirstAt (ss : List Sec) (nm : Str) (i : Nat) : Prop := (∃ s, ss[i]? = some s ∧ s.called = nm) ∧ ∀ m s, m < i → ss[m]? = some s → s.called ≠ nm
def PlaceIs (ss : List Sec) (nm : Str) (v : V) : Prop := (∃ i, v = .int (i : Nat) ∧ FirstAt ss nm i) ∨ (v = .non ∧ ∀ s ∈ ss, s.called ≠ nm)

/-! ### classes and names of the text -/
structure Tx (K : PySem.W.Frag) (mg : Str → Option Value) (C : Addr) : Prop where
  ins : C8.InsC K C
  nN : NoAttr K C "name"
  nS : NoAttr K C "sections"
  nW : NoAttr K C "wants"
  nP : NoAttr K C "places"
  mgC : mg "Part" = some (.ref C)
  list : mg "list" = none
  len : mg "len" = none
  isi : mg "isinstance" = none
  int : mg "int" = none
  bool : mg "bool" = none
  tuple : mg "tuple" = none
  str : mg "str" = none
  sorted : mg "sorted" = none
  enum : mg "enumerate" = none
  range : mg "range" = none
theorem Tx.cl {K : PySem.W.Frag} {mg : Str → Option Value} {C : Addr} (T : Tx K mg C) : Cls K C := T.ins.cl
/-! ### rules that forget -/
/-- a text of real signs, of n at most -/
def Sg (n : Nat) (x : Str) : Prop := x.length ≤ n ∧ SOk x
theorem Sg.line {n : Nat} {x : Str} (h : Sg n x) (hn : n ≤ 1000) : x.length ≤ sizeLine := Nat.le_trans h.1 (Nat.le_trans hn (by decide))
section
variable {X : Cx}
theorem opr_w {f : Value → Value → Sem Value} {r r' : R2} (h : OpR X f r) (k : ∀ x y H Q, r' x y H Q → r x y H Q) : OpR X f r' := fun pins s a H x y v u Q I rx ry q => h pins s a H x y v u Q I rx ry (k x y H Q q)
theorem ixr_w {r r' : R2} (h : IxR X r) (k : ∀ x y H Q, r' x y H Q → r x y H Q) : IxR X r' := fun e e' pins s a H x y v u Q I rx ry q => h e e' pins s a H x y v u Q I rx ry (k x y H Q q)
theorem clr_w {f : Value} {r r' : List V → Hp → VK → Prop} (h : CallR X f r) (k : ∀ x H Q, r' x H Q → r x H Q) : CallR X f r' := fun pins s a H x v Q I rx q => h pins s a H x v Q I rx (k x H Q q)
theorem slr_w {r r' : V → Option Int → Option Int → Hp → VK → Prop} (h : SlR X r) (k : ∀ x lo hi H Q, r' x lo hi H Q → r x lo hi H Q) : SlR X r' := fun pins s a H x v vl vu lo hi sl Q I rx hs pl pu q => h pins s a H x v vl vu lo hi sl Q I rx hs pl pu (k x lo hi H Q q)
theorem op_modG : OpR X (binaryOp .Mod) (fun x y H Q => ∃ i j : Int, x = .int i ∧ y = .int j ∧ 0 < j ∧ ∀ r : Int, 0 ≤ r → r < j → Q (.int r) H) := opr_w op_mod fun x y H Q q => by
  obtain ⟨i, j, rfl, rfl, h, q⟩ := q
  exact ⟨i, j, rfl, rfl, h, q _ (Int.emod_nonneg _ (by omega)) (Int.emod_lt_of_pos _ h)⟩
theorem op_fdivG : OpR X (binaryOp .FloorDiv) (fun x y H Q => ∃ i j : Int, x = .int i ∧ y = .int j ∧ (0 < j ∧ j < 1073741824) ∧ 0 ≤ i ∧ ∀ r : Int, 0 ≤ r → r * j ≤ i → Q (.int r) H) := opr_w op_fdiv fun x y H Q q => by
  obtain ⟨i, j, rfl, rfl, h, h0, q⟩ := q
  exact ⟨i, j, rfl, rfl, h, q _ (Int.ediv_nonneg h0 (by omega)) (Int.ediv_mul_le _ (by omega))⟩
theorem op_mulG : OpR X (binaryOp .Mult) (fun x y H Q => ∃ i j : Int, x = .int i ∧ y = .int j ∧ ((-(2 ^ 64) < i ∧ i < 2 ^ 64) ∨ (-(2 ^ 64) < j ∧ j < 2 ^ 64)) ∧ ∀ r : Int, Q (.int r) H) := opr_w op_mul fun x y H Q q => by
  obtain ⟨i, j, rfl, rfl, h, q⟩ := q
  exact ⟨i, j, rfl, rfl, h, q _⟩
theorem op_addS : OpR X (binaryOp .Add) (fun x y H Q => ∃ (i j : Str) (n m : Nat), x = .str i ∧ y = .str j ∧ Sg n i ∧ Sg m j ∧ n + m ≤ 1000 ∧ ∀ z : Str, z.length = i.length + j.length → Sg (n + m) z → Q (.str z) H) := opr_w op_add_str fun x y H Q q => by
  obtain ⟨i, j, n, m, rfl, rfl, hi, hj, h, q⟩ := q
  have h1 := hi.1
  have h2 := hj.1
  refine ⟨i, j, rfl, rfl, Nat.le_trans (by omega : i.length + j.length ≤ 1000) (by decide), q _ (len_app i j) ⟨?_, sok_app hi.2 hj.2⟩⟩
  rw [len_app]
  omega
theorem ix_strG : IxR X (fun x y H Q => ∃ (z : Str) (i : Int) (n : Nat), x = .str z ∧ y = .int i ∧ Sg n z ∧ n ≤ 1000 ∧ 0 ≤ i ∧ i < z.length ∧ ∀ c : Str, c.length = 1 → Sg 1 c → Q (.str c) H) := ixr_w ix_str fun x y H Q q => by
  obtain ⟨z, i, n, rfl, rfl, hz, hn, h0, h1, q⟩ := q
  obtain ⟨c, hc⟩ := at_some (xs := z.cps.toList) h0 (by rw [Array.length_toList]; exact h1)
  exact ⟨z, i, c, rfl, rfl, hz.line hn, hc, q _ rfl ⟨Nat.le_refl _, sok_sign hz.2 hc⟩⟩
theorem sl_strG : SlR X (fun x lo hi H Q => ∃ (z : Str) (n : Nat), x = .str z ∧ Sg n z ∧ n ≤ 1000 ∧ ∀ y : Str, Sg n y → Q (.str y) H) := slr_w sl_str fun x lo hi H Q q => by
  obtain ⟨z, n, rfl, hz, hn, q⟩ := q
  exact ⟨z, rfl, hz.line hn, q _ ⟨Nat.le_trans (cutS_length z lo hi) hz.1, sok_cut hz.2 lo hi⟩⟩
/-! ### isinstance, answers -/
theorem is_list : CallR X (.builtin "isinstance") (fun xs H Q => ∃ (a : Addr) (ys : List V), xs = [.ref a, .ty "list"] ∧ H a = some (.lst ys) ∧ Q (.bl true) H) := clr_w call_isi fun x H Q q => by
  obtain ⟨a, ys, rfl, e, q⟩ := q
  exact ⟨_, _, _, _, true, rfl, .ty _, .base (.lst e), kit_ty (by decide +kernel), q⟩
theorem is_tup : CallR X (.builtin "isinstance") (fun xs H Q => ∃ (a : Addr) (ys : List V), xs = [.ref a, .ty "tuple"] ∧ H a = some (.tup ys) ∧ Q (.bl true) H) := clr_w call_isi fun x H Q q => by
  obtain ⟨a, ys, rfl, e, q⟩ := q
  exact ⟨_, _, _, _, true, rfl, .ty _, .base (.tup e), kit_ty (by decide +kernel), q⟩
theorem is_bool : CallR X (.builtin "isinstance") (fun xs H Q => ∃ b : Bool, xs = [.bl b, .ty "bool"] ∧ Q (.bl true) H) := clr_w call_isi fun x H Q q => by
  obtain ⟨b, rfl, q⟩ := q
  exact ⟨_, _, _, _, true, rfl, .ty _, .base (.bl b), kit_ty (by decide +kernel), q⟩
theorem is_int : CallR X (.builtin "isinstance") (fun xs H Q => ∃ b : Int, xs = [.int b, .ty "int"] ∧ Q (.bl true) H) := clr_w call_isi fun x H Q q => by
  obtain ⟨b, rfl, q⟩ := q
  exact ⟨_, _, _, _, true, rfl, .ty _, .base (.int b), kit_ty (by decide +kernel), q⟩
theorem is_nbool : CallR X (.builtin "isinstance") (fun xs H Q => ∃ b : Int, xs = [.int b, .ty "bool"] ∧ Q (.bl false) H) := clr_w call_isi fun x H Q q => by
  obtain ⟨b, rfl, q⟩ := q
  exact ⟨_, _, _, _, false, rfl, .ty _, .base (.int b), kit_ty (by decide +kernel), q⟩
theorem is_str : CallR X (.builtin "isinstance") (fun xs H Q => ∃ b : Str, xs = [.str b, .ty "str"] ∧ Q (.bl true) H) := clr_w call_isi fun x H Q q => by
  obtain ⟨b, rfl, q⟩ := q
  exact ⟨_, _, _, _, true, rfl, .ty _, .base (.str b), kit_ty (by decide +kernel), q⟩
theorem is_own {C : Addr} (c : C8.InsC X.K C) : CallR X (.builtin "isinstance") (fun xs H Q => ∃ a dx fs, xs = [.ref a, .ref C] ∧ H a = some (.ins C dx fs) ∧ Q (.bl true) H) := C8.call_isC c
/-- isinstance(x, T), T a built-in type -/
theorem pe_isT {x : Expr} {tx : TE} {n : Str} {m : String} {r : List V → Hp → VK → Prop} {p p1 p2 : Pos} (hc : CallR X (.builtin "isinstance") r) (hg : Gl X "isinstance") (hm : X.mg "isinstance" = none) (hx : PE X x tx) (gn : Gl X n) (mn : X.mg n = none) (bn : bootBuiltins n = some (.type m))
    (bi : bootBuiltins ("isinstance" : Str) = some (.builtin "isinstance") := by decide +kernel) (hn : n ≠ "__name__" := by decide) (hd : (n == ("__debug__" : Str)) = false := by decide)
    (he : starEach [x, .Name n p1] X.env = (false, eval x X.env) :: starEach [.Name n p1] X.env := by rfl) (hpl : (backTo p2 (starEach [.Name n p1] X.env)).any (·.1) = false := by rfl) :
    PE X (.Call (.Name "isinstance" p) [x, .Name n p1] [] p2) (tCB r (tCons tx (tCons (tC (.ty m)) tNil))) :=
  pe_callB hc hg hm bi (pa_cons hx (pa_cons (pe_bltn (v := .ty m) gn mn bn rfl hn hd) pa_nil (by rfl)) he) (by decide) (by decide) he hpl
end
end KP

namespace KP
open PySem PySem.Spec PyProof.Rows L2
section
variable {P : Program} {w : World} {K : PySem.W.Frag} {mg : Str → Option Value} {base : Heap} {C f : Addr} {fd : FuncData}
/-! ### a cell of the script -/
def spCell (K : PySem.W.Frag) : Sp := fun vs H Q _ => ∃ (a : Addr) (ns : List Int) (k : Int), vs = [.ref a, .int k] ∧ SqL K H a (ns.map V.int) ∧ 0 ≤ k ∧ ∀ r : Int, Q (.int r) H
theorem scCell : FnScope ["_law_script", "_law_k"] ["_law_script", "_law_k"] (defScope sCell) := ⟨rfl, rfl, rfl, by decide +kernel, rfl, by decide +kernel, by decide +kernel⟩
theorem ok_cell (F : Fun K "_law_cell_at" "_law_cell_at" sCell f fd) (T : Tx K mg C) : FnOk P w K mg base CX0 1 f fd ["_law_script", "_law_k"] (spCell K) := by
  refine F.ok scCell (fun vs H Q E h => ?_) (fun cdv A outer s H vs Q E hr h => ?_)
  · obtain ⟨a, ns, k, rfl, _⟩ := h
    rfl
  · obtain ⟨a, ns, k, rfl, hS, h0, q⟩ := h
    refine ⟨_, pss_cons (ps_if (pt_cmpR op_lt (pv 1) (pe_callB call_len_seq (by rfl) T.len PySem.boot_len (pa_cons (pv 0) pa_nil)) (nomark _))
        (pss_one (ps_ret (pe_ix ix_list (pv 0) (pv 1) (fun _ _ => rfl)))) pss_nil) (pss_one (ps_ret pe_int)), ?_⟩
    refine ⟨_, rfl, _, rfl, a, _, rfl, .inl hS, _, _, rfl, rfl, _, rfl, ite2 (fun e => ?_) (fun _ => ?_)⟩
    · have e : k < ((ns.map V.int).length : Int) := of_decide_eq_true e
      rw [List.length_map] at e
      obtain ⟨j, rfl⟩ := Int.eq_ofNat_of_zero_le h0
      have hj : j < ns.length := by omega
      have g : (ns.map V.int)[j]? = some (.int ns[j]) := by
        rw [List.getElem?_map, List.getElem?_eq_getElem hj]
        rfl
      exact ⟨_, rfl, _, rfl, a, _, _, _, rfl, rfl, hS, atI_nat g, q _⟩
    · exact q 0
/-! ### a number drawn -/
def spMix : Sp := fun vs H Q _ => ∃ (c k : Int), vs = [.int c, .int k] ∧ (-(2 ^ 64) < k ∧ k < 2 ^ 64) ∧ ∀ r : Int, 0 ≤ r → r < 1000003 → Q (.int r) H
theorem scMix : FnScope ["_law_cell", "_law_k", "_law_number"] ["_law_cell", "_law_k"] (defScope sMix) := ⟨rfl, rfl, rfl, by decide +kernel, rfl, by decide +kernel, by decide +kernel⟩
theorem ok_mix (F : Fun K "_law_mixed" "_law_mixed" sMix f fd) : FnOk P w K mg base CX0 1 f fd ["_law_cell", "_law_k"] spMix := by
  refine F.ok scMix (fun vs H Q E h => ?_) (fun cdv A outer s H vs Q E hr h => ?_)
  · obtain ⟨c, k, rfl, _⟩ := h
    rfl
  · obtain ⟨c, k, rfl, hk, q⟩ := h
    refine ⟨_, pss_cons (ps_set (i := 2) scMix.nd rfl (Or.inl rfl) (pe_op op_modG (pe_op op_add (pe_op op_add (pe_op op_mulG (pv 0) pe_int) (pe_op op_mulG pe_int (pv 1))) pe_int) pe_int))
      (pss_one (ps_ret (pe_op op_modG (pe_op op_mulG (pe_op op_modG (pe_op op_mulG (pv 2) (pv 2)) pe_int) (pv 2)) pe_int))), ?_⟩
    refine ⟨_, rfl, _, _, rfl, rfl, .inr ⟨by decide, by decide⟩, fun u1 => ⟨_, rfl, _, _, rfl, rfl, .inr hk, fun u2 => ⟨_, _, rfl, rfl, _, _, rfl, rfl, _, _, rfl, rfl, (by decide), fun n h0 h1 => ?_⟩⟩⟩
    refine ⟨_, rfl, _, rfl, _, _, rfl, rfl, .inl ⟨by omega, by omega⟩, fun u3 => ⟨_, _, rfl, rfl, (by decide), fun u4 h3 h4 => ⟨_, rfl, _, _, rfl, rfl, .inr ⟨by omega, by omega⟩, fun u5 => ⟨_, _, rfl, rfl, (by decide), fun r h5 h6 => q r h5 h6⟩⟩⟩⟩
/-! ### a whole number -/
def spWhole : Sp := fun vs H Q _ => ∃ i : Int, vs = [.int i] ∧ Q (.bl true) H
theorem scWhole : FnScope ["_law_found"] ["_law_found"] (defScope sWhole) := ⟨rfl, rfl, rfl, by decide +kernel, rfl, by decide +kernel, by decide +kernel⟩
theorem ok_whole (F : Fun K "_law_whole" "_law_whole" sWhole f fd) (T : Tx K mg C) : FnOk P w K mg base CX0 1 f fd ["_law_found"] spWhole := by
  refine F.ok scWhole (fun vs H Q E h => ?_) (fun cdv A outer s H vs Q E hr h => ?_)
  · obtain ⟨i, rfl, _⟩ := h
    rfl
  · obtain ⟨i, rfl, q⟩ := h
    refine ⟨_, pss_one (ps_ret (pe_and (pe_isT (m := "int") is_int (by rfl) T.isi (pv 0) (by rfl) T.int (by decide +kernel)) (pe_one (pe_not (pe_isT (m := "bool") is_nbool (by rfl) T.isi (pv 0) (by rfl) T.bool (by decide +kernel)))))), ?_⟩
    exact ⟨_, rfl, _, rfl, _, rfl, iteT ⟨_, rfl, _, rfl, _, rfl, q⟩⟩
end
end KP

namespace KP
open PySem PySem.Spec PyProof.Rows L2
theorem lt_eq {a b c : Int} (h : a < b) (e : b = c) : a < c := e ▸ h
theorem join_sg {ys : List Str} (h : ∀ y ∈ ys, Sg 1 y) : Sg ys.length (Txt.join "" ys) ∧ (ys.map (·.length)).sum ≤ ys.length := by
  have hs : ∀ zs : List Str, (∀ y ∈ zs, Sg 1 y) → (zs.map (·.length)).sum ≤ zs.length := by
    intro zs
    induction zs with
    | nil => intro _; exact Nat.le_refl _
    | cons a r ih =>
      intro q
      have q1 := (q a (by simp)).1
      have q2 := ih fun y hy => q y (List.mem_cons_of_mem _ hy)
      rw [List.map_cons, List.sum_cons, List.length_cons]
      omega
  have e0 : ("" : Str).length = 0 := by decide +kernel
  have h1 := hs ys h
  refine ⟨?_, h1⟩
  rw [show Txt.join ("" : Str) ys = Str.join "" ys from TL.join_eq "" ys]
  refine ⟨?_, sok_join (fun c hc => ?_) fun y hy => (h y hy).2⟩
  · have h2 := PySem.StrLaws.join_length_le ("" : Str) ys
    rw [e0] at h2
    omega
  · have : ("" : Str).cps.toList = [] := by decide +kernel
    rw [this] at hc
    cases hc
def splitC (a b : Str) (n : Nat) : Bool := (b.length != 0) && decide (a.length ≤ 1000) && ((Txt.split a b).length == n) && (Txt.split a b).all PyData.strOk
section
variable {X : Cx}
theorem mtr_w {id : String} {r r' : V → List V → Hp → VK → Prop} (h : MtR X id r) (k : ∀ x xs H Q, r' x xs H Q → r x xs H Q) : MtR X id r' := fun pins s a H x xs v us Q I rx rxs q => h pins s a H x xs v us Q I rx rxs (k x xs H Q q)
theorem mt_splitG : MtR X "str.split" (fun x xs H Q => ∃ (a b : Str) (n : Nat), x = .str a ∧ xs = [.str b] ∧ splitC a b n = true ∧ ∀ (p : Addr) (ys : List Str), H p = none → ys.length = n → (∀ y ∈ ys, SOk y) → Q (.ref p) (upd H p (.lst (ys.map V.str)))) := mtr_w mt_split fun x xs H Q q => by
  obtain ⟨a, b, n, rfl, rfl, h, q⟩ := q
  simp only [splitC, Bool.and_eq_true, decide_eq_true_eq, List.all_eq_true, bne_iff_ne, beq_iff_eq] at h
  obtain ⟨⟨⟨h1, h2⟩, h3⟩, h4⟩ := h
  exact ⟨a, b, rfl, rfl, beq_eq_false_iff_ne.mpr h1, Nat.le_trans (Nat.add_le_add_right h2 2) (by decide), fun p hp => q p _ hp h3 fun y hy => sok_of (h4 y hy)⟩
theorem mt_joinG : MtR X "str.join" (fun x xs H Q => ∃ (p : Addr) (ys : List Str) (n : Nat), x = .str "" ∧ xs = [.ref p] ∧ SqL X.K H p (ys.map V.str) ∧ ys.length = n ∧ n ≤ 1000 ∧ (∀ y ∈ ys, Sg 1 y) ∧ ∀ z : Str, Sg n z → Q (.str z) H) := mtr_w mt_join fun x xs H Q q => by
  obtain ⟨p, ys, n, rfl, rfl, hS, hn, hl, hy, q⟩ := q
  subst hn
  obtain ⟨h1, h2⟩ := join_sg hy
  have e0 : ("" : Str).length = 0 := by decide +kernel
  refine ⟨_, p, ys, rfl, rfl, .inl hS, ?_, q _ h1⟩
  rw [e0]
  omega
theorem pe_w {e : Expr} {t t' : TE} (h : PE X e t) (k : ∀ a H Q, t' a H Q → t a H Q) : PE X e t' := ⟨fun pins s a H Q I q => h.run pins s a H Q I (k a H Q q)⟩
theorem pe_strG {x : Str} {j : Nat} {pos : Pos} : PE X (.Constant (.str x) j pos) (fun _ H Q => ∃ n : Nat, (x.length == n && PyData.strOk x) = true ∧ ∀ z : Str, z.length = n → Sg n z → Q (.str z) H) := pe_w pe_str fun a H Q q => by
  obtain ⟨n, h, q⟩ := q
  simp only [Bool.and_eq_true, beq_iff_eq] at h
  exact q x h.1 ⟨Nat.le_of_eq h.1, sok_of h.2⟩
end
/-- the slots in the loop -/
abbrev slN (c : Int) (lt sg : Str) (n : Int) (fr : Str) (a z : Int) (p : Addr) (v9 v10 v11 : Option V) : L2.St := [some (.int c), some (.int 24), some (.str lt), some (.str sg), some (.int n), some (.str fr), some (.int a), some (.int z), some (.ref p), v9, v10, v11, none]
def NInv (H : Hp) (c : Int) (lt sg : Str) (n : Int) (fr : Str) (a z : Int) (p : Addr) (i : Nat) (st : L2.St) (H' : Hp) : Prop :=
  ∃ (v9 v10 v11 : Option V) (ss : List Str), st = slN c lt sg n fr a z p v9 v10 v11 ∧ ss.length = i ∧ (∀ x ∈ ss, SOk x) ∧ H' p = some (.lst (ss.map V.str)) ∧ Same H H'
theorem nfin {H : Hp} {c : Int} {lt sg : Str} {n : Int} {fr : Str} {a z : Int} {p : Addr} {i : Nat} {v9 v10 v11 : Option V} {ss : List Str} {y : Str} {H2 : Hp} (hp : H p = none) (el : ss.length = i) (hs : ∀ x ∈ ss, SOk x) (hy : SOk y) (sm : Same H H2) :
    NInv H c lt sg n fr a z p (i + 1) (slN c lt sg n fr a z p v9 v10 v11) (upd H2 p (.lst (ss.map V.str ++ [V.str y]))) := by
  refine ⟨v9, v10, v11, ss ++ [y], rfl, by simp [el], fun x hx => ?_, by rw [upd_same, List.map_append]; rfl, fun b o e => ?_⟩
  · rcases List.mem_append.mp hx with w | w
    · exact hs x w
    · rw [List.mem_singleton.mp w]
      exact hy
  · rw [upd_ne (ne_of_none e hp)]
    exact sm b o e
section
variable {P : Program} {w : World} {K : PySem.W.Frag} {mg : Str → Option Value} {base : Heap} {C f : Addr} {fd : FuncData}
/-! ### twenty-four names -/
def spNames : Sp := fun vs H Q _ => ∃ c : Int, vs = [.int c, .int 24] ∧ ∀ (H' : Hp) (p : Addr) (ss : List Str), Same H H' → H' p = some (.lst (ss.map V.str)) → ss.length = 24 → (∀ x ∈ ss, SOk x) → Q (.ref p) H'
abbrev NN : List Str := ["_law_cell", "_law_many", "_law_letters", "_law_signs", "_law_number", "_law_frame", "_law_at", "_law_size", "_law_found", "_law_k", "_law_sign", "_law_some", "_law_j"]
theorem scNames : FnScope NN ["_law_cell", "_law_many"] (defScope sNames) := ⟨rfl, rfl, rfl, by decide +kernel, rfl, by decide +kernel, by decide +kernel⟩
theorem ok_names {fM : Addr} {fdM : FuncData} (F : Fun K "_law_names" "_law_names" sNames f fd) (T : Tx K mg C) (FM : Fun K "_law_mixed" "_law_mixed" sMix fM fdM) (bM : Binds K fdM ["_law_cell", "_law_k"] []) (gM : mg "_law_mixed" = some (.ref fM)) :
    FnOk P w K mg base CX0 2 f fd ["_law_cell", "_law_many"] spNames := by
  have GM : FnOk P w K mg base CX0 1 fM fdM ["_law_cell", "_law_k"] spMix := ok_mix FM
  refine F.ok scNames (fun vs H Q E h => ?_) (fun cdv A outer s H vs Q E hr h => ?_)
  · obtain ⟨c, rfl, _⟩ := h
    rfl
  · obtain ⟨c, rfl, q⟩ := h
    have nd := scNames.nd
    refine ⟨_, pss_cons (ps_set (i := 2) nd rfl (Or.inl rfl) pe_strG)
      (pss_cons (ps_set (i := 3) nd rfl (Or.inr rfl) (pe_op op_addS (pv 2) pe_str))
      (pss_cons (ps_set (i := 4) nd rfl (Or.inl rfl) (pe_call GM hr (by rfl) gM FM.kp bM .nil pass0 (pa_cons (pv 0) (pa_cons pe_int pa_nil))))
      (pss_cons (ps_set (i := 5) nd rfl (Or.inl rfl) (pe_op op_addS (pe_ix ix_strG (pv 2) (pe_op op_modG (pe_op op_fdivG (pv 4) pe_int) pe_int) (fun _ _ => rfl))
        (pe_m1 PySem.F.slot_str_join PySem.F.type_str_join mt_joinG pe_str (pe_lc (own := [("_law_j", 12)]) rfl nd (pi_range1 (by rfl) T.range (pa_cons pe_int pa_nil)) (blkOk_by (N := NN) (sc := defScope sNames) (by decide +kernel))
          (fun _ _ _ _ _ => pg_name (i := 12) nd rfl (Or.inl rfl)) (fun _ _ _ _ _ => pts_nil)
          (fun _ _ _ _ _ => pe_ix ix_strG (pv 3) (pe_op op_modG (pe_call GM hr (by rfl) gM FM.kp bM .nil pass0 (pa_cons (pv 0) (pa_cons (pe_op op_add pe_int (pv 12)) pa_nil))) pe_int) (fun _ _ => rfl))))))
      (pss_cons (ps_set (i := 6) nd rfl (Or.inl rfl) (pe_op op_modG (pe_op op_fdivG (pv 4) pe_int) pe_int))
      (pss_cons (ps_set (i := 7) nd rfl (Or.inl rfl) (pe_op op_add (pv 6) (pe_op op_modG (pe_op op_fdivG (pv 4) pe_int) (pe_op op_sub pe_int (pv 6)))))
      (pss_cons (ps_set (i := 8) nd rfl (Or.inl rfl) (pe_lst pa_nil))
      (pss_cons (ps_for PassesOwn.never rfl (pi_range1 (by rfl) T.range (pa_cons (pv 1) pa_nil)) (pg_name (i := 9) nd rfl (Or.inl rfl))
        (pss_cons (ps_set (i := 10) nd rfl (Or.inl rfl) (pe_ix ix_strG (pv 3) (pe_op op_modG (pe_op op_add (pe_op op_fdivG (pv 4) pe_int) (pe_op op_mulG pe_int (pv 9))) pe_int) (fun _ _ => rfl)))
        (C8.pss_cut (ps_if (pt_cmpR op_eq (pv 6) pe_int (nomark _)) (pss_one (ps_set (i := 10) nd rfl (Or.inl rfl) (pe_ix ix_strG (pv 2) (pe_op op_modG (pe_op op_add (pe_op op_fdivG (pv 4) pe_int) (pe_op op_mulG pe_int (pv 9))) pe_int) (fun _ _ => rfl)))) pss_nil)
        (pss_one (ps_if (pt_cmpR op_eq (pe_op op_modG (pv 4) pe_int) pe_int (nomark _))
          (pss_one (ps_expr (pe_bm PySem.F.plainAttrs_list PySem.F.slot_list_append PySem.F.type_list_append mt_append (pv 8) (pa_cons
            (pe_op op_addS (pe_op op_addS (pe_slice sl_strG (pv 5) po_none (po_some (pv 6))) (pv 10)) (pe_slice sl_strG (pv 5) (po_some (pv 6)) (po_some (pv 7)))) pa_nil))))
          (pss_one (ps_if (pt_cmpR op_eq (pe_op op_modG (pv 4) pe_int) pe_int (nomark _))
            (pss_one (ps_expr (pe_bm PySem.F.plainAttrs_list PySem.F.slot_list_append PySem.F.type_list_append mt_append (pv 8) (pa_cons
              (pe_slice sl_strG (pe_op op_addS (pe_ix ix_strG pe_str (pe_op op_fdivG (pv 9) pe_int) (fun _ _ => rfl)) (pv 5)) po_none (po_some (pe_op op_add pe_int (pe_op op_modG (pv 9) pe_int)))) pa_nil))))
            (pss_cons (ps_set (i := 11) nd rfl (Or.inl rfl) pe_str)
            (pss_cons (ps_set (i := 11) nd rfl (Or.inl rfl) (pe_op op_add_str (pv 11) pe_str))
            (pss_one (ps_expr (pe_bm PySem.F.plainAttrs_list PySem.F.slot_list_append PySem.F.type_list_append mt_append (pv 8) (pa_cons
              (pe_ix ix_list (pe_m1 PySem.F.slot_str_split PySem.F.type_str_split mt_splitG (pv 11) pe_str) (pe_op op_modG (pe_op op_add (pe_op op_fdivG (pv 4) pe_int) (pv 9)) pe_int) (fun _ _ => rfl)) pa_nil)))))))))))))
      (pss_one (ps_ret (pv 8)))))))))), ?_⟩
    -- the letters, the signs, the number
    refine ⟨26, by decide +kernel, fun lt llt hlt => ⟨_, rfl, _, _, 26, 10, rfl, rfl, hlt, ⟨by decide +kernel, sok_of (by decide +kernel)⟩, by decide, fun sg lsg0 hsg => ?_⟩⟩
    have lsg : (sg.length : Int) = 36 := by
      rw [lsg0, llt]
      decide +kernel
    have llt : (lt.length : Int) = 26 := by rw [llt]; rfl
    refine ⟨_, rfl, c, 3, rfl, ⟨by decide, by decide⟩, fun n n0 n1 => ?_⟩
    -- the frame
    refine ⟨_, rfl, _, rfl, _, _, rfl, rfl, ⟨by decide, by decide⟩, n0, fun u1 _ _ => ⟨_, _, rfl, rfl, by decide, fun u2 u20 u21 => ⟨lt, _, 26, rfl, rfl, hlt, by decide, u20, lt_eq u21 llt.symm, fun c1 _ hc1 => ?_⟩⟩⟩
    refine ⟨⟨_, rfl⟩, 6, rfl, by decide, by decide, fun D hD => lc_range (lo := 0) (n := 6) (fun i H' => ∃ ys : List Str, ys.length = i ∧ (∀ y ∈ ys, Sg 1 y) ∧ H' D = some (.lst (ys.map V.str)) ∧ Same H H')
      ⟨[], rfl, (fun _ h => nomatch h), upd_same, same_upd hD⟩ ?_ ?_⟩
    · rintro i H' hi ⟨ys, el, hy, eD, sm⟩
      refine ⟨rfl, _, rfl, _, rfl, _, rfl, _, _, rfl, rfl, c, _, rfl, ⟨by omega, by omega⟩, fun m m0 m1 => ⟨_, _, rfl, rfl, by decide, fun u u0 u1 => ⟨sg, _, 36, rfl, rfl, hsg, by decide, u0, lt_eq u1 lsg.symm, fun d _ hd => ?_⟩⟩⟩
      refine ⟨_, eD, ?_, ys ++ [d], by simp [el], fun y hy' => ?_, by rw [upd_same, List.map_append]; rfl, fun b o e => ?_⟩
      · rw [List.length_map, el]
        exact small1000 (by omega)
      · rcases List.mem_append.mp hy' with z | z
        · exact hy y z
        · rw [List.mem_singleton.mp z]
          exact hd
      · rw [upd_ne (ne_of_none e hD)]
        exact sm b o e
    rintro H1 ⟨ys, el, hy, eD, s1⟩
    refine ⟨D, ys, 6, rfl, rfl, SqL.of eD, el, by decide, hy, fun z hz => ⟨c1, z, 1, 6, rfl, rfl, hc1, hz, by decide, fun fr _ hfr => ?_⟩⟩
    -- the place, the size, the list
    refine ⟨_, rfl, _, _, rfl, rfl, ⟨by decide, by decide⟩, n0, fun u2 _ _ => ⟨_, _, rfl, rfl, by decide, fun at_ a0 a1 => ?_⟩⟩
    refine ⟨_, rfl, _, rfl, _, _, rfl, rfl, ⟨by decide, by decide⟩, n0, fun u3 _ _ => ⟨_, rfl, _, _, rfl, rfl, _, _, rfl, rfl, (show (0 : Int) < 8 - at_ by omega), fun u4 _ _ => ⟨_, _, rfl, rfl, ?_⟩⟩⟩
    refine ⟨Nat.zero_le _, fun p hp => ?_⟩
    have hp0 : H p = none := s1.free hp
    -- the loop
    refine ⟨_, rfl, 24, rfl, by decide, by decide, for_range (lo := 0) (n := 24) (NInv H c lt sg n fr at_ (at_ + u4) p) ⟨none, none, none, [], rfl, rfl, (fun _ h => nomatch h), upd_same, s1.trans (same_upd hp)⟩ ?_ ?_⟩
    · rintro i σ H' hi ⟨v9, v10, v11, ss, rfl, el', hss, ep, sm⟩
      have hsz : (ss.map V.str).length < sizeLine := by
        rw [List.length_map, el']
        exact small1000 (by omega)
      -- the sign
      refine ⟨_, rfl, _, rfl, _, _, rfl, rfl, ⟨by decide, by decide⟩, n0, fun w1 _ _ => ⟨_, rfl, _, _, rfl, rfl, .inl ⟨by decide, by decide⟩, fun w2 => ⟨_, _, rfl, rfl, _, _, rfl, rfl, by decide, fun w3 w30 w31 => ⟨sg, _, 36, rfl, rfl, hsg, by decide, w30, lt_eq w31 lsg.symm, fun d ld hd => ?_⟩⟩⟩⟩
      refine ⟨fun σ2 H2 => H2 = H' ∧ ∃ d : Str, Sg 1 d ∧ σ2 = slN c lt sg n fr at_ (at_ + u4) p (some (.int (0 + (i : Nat)))) (some (.str d)) v11, ?_, ?_⟩
      · refine ⟨_, rfl, rfl, _, rfl, ite2 (fun _ => ?_) (fun _ => ?_)⟩
        · refine ⟨_, rfl, _, rfl, _, _, rfl, rfl, ⟨by decide, by decide⟩, n0, fun w1 _ _ => ⟨_, rfl, _, _, rfl, rfl, .inl ⟨by decide, by decide⟩, fun w2 => ⟨_, _, rfl, rfl, _, _, rfl, rfl, by decide, fun w3 w30 w31 => ⟨lt, _, 26, rfl, rfl, hlt, by decide, w30, lt_eq w31 llt.symm, fun d' _ hd' => ?_⟩⟩⟩⟩
          exact ⟨rfl, d', hd', rfl⟩
        · exact ⟨rfl, d, hd, rfl⟩
      rintro σ2 H2 ⟨rfl, d2, hd2, rfl⟩
      refine ⟨_, rfl, _, _, rfl, rfl, by decide, fun r1 _ _ => ⟨rfl, _, rfl, ite2 (fun _ => ?_) (fun _ => ?_)⟩⟩
      · -- a sign within the frame
        refine ⟨_, rfl, .inl ⟨rfl, _, SqL.of ep⟩, _, rfl, _, rfl, _, rfl, fr, 7, rfl, hfr, by decide, fun y1 hy1 => ⟨_, rfl, _, _, 7, 1, rfl, rfl, hy1, hd2, by decide, fun y2 _ hy2 => ⟨_, rfl, _, rfl, _, rfl, _, rfl, _, rfl, fr, 7, rfl, hfr, by decide, fun y3 hy3 => ⟨_, _, 8, 7, rfl, rfl, hy2, hy3, by decide, fun y4 _ hy4 => ?_⟩⟩⟩⟩
        exact ⟨p, _, _, rfl, rfl, ep, hsz, nfin hp0 el' hss hy4.2 sm⟩
      refine ⟨_, rfl, _, _, rfl, rfl, by decide, fun r2 _ _ => ⟨rfl, _, rfl, ite2 (fun _ => ?_) (fun _ => ?_)⟩⟩
      · -- beginnings
        refine ⟨_, rfl, .inl ⟨rfl, _, SqL.of ep⟩, _, rfl, _, _, rfl, rfl, ⟨by decide, by decide⟩, (show (0 : Int) ≤ 0 + (i : Nat) by omega), fun w1 w10 w11 => ⟨_, _, 3, rfl, rfl, ⟨by decide +kernel, sok_of (by decide +kernel)⟩, by decide, w10, lt_eq (show w1 < 3 by omega) (by decide +kernel), fun d _ hd => ⟨_, rfl, _, _, 1, 7, rfl, rfl, hd, hfr, by decide, fun y1 _ hy1 => ?_⟩⟩⟩
        refine ⟨_, rfl, _, _, rfl, rfl, by decide, fun w2 _ _ => ⟨_, _, rfl, rfl, _, rfl, y1, 8, rfl, hy1, by decide, fun y2 hy2 => ?_⟩⟩
        exact ⟨p, _, _, rfl, rfl, ep, hsz, nfin hp0 el' hss hy2.2 sm⟩
      · -- words
        refine ⟨_, rfl, _, _, rfl, rfl, by decide +kernel, ?_⟩
        refine ⟨_, rfl, .inl ⟨rfl, _, SqL.of ep⟩, _, rfl, ⟨_, rfl⟩, _, _, 24, rfl, rfl, by decide +kernel, fun g ys ng ly hy => ?_⟩
        have ep2 : (upd H2 g (.lst (ys.map V.str))) p = some (.lst (ss.map V.str)) := by
          rw [upd_ne (ne_of_none ep ng)]
          exact ep
        refine ⟨_, rfl, _, _, rfl, rfl, ⟨by decide, by decide⟩, n0, fun w1 _ _ => ⟨_, rfl, _, _, rfl, rfl, _, _, rfl, rfl, by decide, fun w2 w20 w21 => ?_⟩⟩
        obtain ⟨j, rfl⟩ := Int.eq_ofNat_of_zero_le w20
        have hj : j < ys.length := by omega
        have gj : (ys.map V.str)[j]? = some (.str ys[j]) := by
          rw [List.getElem?_map, List.getElem?_eq_getElem hj]
          rfl
        exact ⟨g, _, _, _, rfl, rfl, SqL.of upd_same, atI_nat gj, p, _, _, rfl, rfl, ep2, hsz, nfin hp0 el' hss (hy _ (List.getElem_mem hj)) (sm.trans (same_upd ng))⟩
    · rintro σ H' ⟨v9, v10, v11, ss, rfl, el', hss, ep, sm⟩
      exact ⟨_, rfl, q H' p ss sm ep el' hss⟩
end
end KP

namespace KP
open PySem PySem.Spec PyProof.Rows L2
/-! ### how heaps last -/
section
variable {N M : Sel} {H H' H2 : Hp} {p : Addr} {o : HO}
theorem Stay.trans (a : Stay N H H') (b : Stay N H' H2) : Stay N H H2 := fun c x n e => b c x n (a c x n e)
theorem stay_new (h : H p = none) : Stay N H (upd H p o) := fun b x _ e => by
  rw [upd_ne (ne_of_none e h)]
  exact e
theorem stay_at (h : ¬ N p) : Stay N H (upd H p o) := fun b x n e => by
  rw [upd_ne (fun q => by
    rw [q] at n
    exact h n)]
  exact e
theorem same_over {H0 : Hp} (s : Same H0 H) (h : H0 p = none) : Same H0 (upd H p o) := fun b x e => by
  rw [upd_ne (ne_of_none e h)]
  exact s b x e
theorem SecAt.mono {t : Addr} {s : Sec} (x : SecAt N H t s) (k : ∀ b, N b → M b) : SecAt M H t s := by
  obtain ⟨n, r, nr, h1, h2⟩ := x
  exact ⟨k _ n, r, k _ nr, h1, h2⟩
end
section
variable {N M : Sel} {H : Hp}
theorem PlcAt.mono {t : Addr} {p : Plc} (x : PlcAt N H t p) (k : ∀ b, N b → M b) : PlcAt M H t p := ⟨k _ x.1, x.2⟩
theorem SecsAt.mono {l : Addr} {ss : List Sec} (x : SecsAt N H l ss) (k : ∀ b, N b → M b) : SecsAt M H l ss := by
  obtain ⟨n, ts, h, q⟩ := x
  exact ⟨k _ n, ts, h, L2.Paired.mapP q fun _ _ z => z.mono k⟩
theorem PlcsAt.mono {l : Addr} {ps : List Plc} (x : PlcsAt N H l ps) (k : ∀ b, N b → M b) : PlcsAt M H l ps := by
  obtain ⟨n, ts, h, q⟩ := x
  exact ⟨k _ n, ts, h, L2.Paired.mapP q fun _ _ z => z.mono k⟩
theorem DueAt.mono {t : Addr} {d : Dat} (x : DueAt N H t d) (k : ∀ b, N b → M b) : DueAt M H t d := by
  obtain ⟨n, ls, lw, lp, h, h1, h2, h3⟩ := x
  exact ⟨k _ n, ls, lw, lp, h, h1.mono k, ⟨k _ h2.1, h2.2⟩, h3.mono k⟩
theorem PartAt.mono {C x : Addr} {d : Dat} (p : PartAt N C H x d) (k : ∀ b, N b → M b) : PartAt M C H x d := by
  obtain ⟨n, dx, ls, lw, lp, h, h1, h2, h3⟩ := p
  exact ⟨k _ n, dx, ls, lw, lp, h, h1.mono k, ⟨k _ h2.1, h2.2⟩, h3.mono k⟩
/-- where nothing stands none of it stands -/
theorem SecAt.off {t g : Addr} {s : Sec} (x : SecAt N H t s) (hg : H g = none) : SecAt (fun b => b ≠ g) H t s := by
  obtain ⟨n, r, nr, h1, h2⟩ := x
  exact ⟨ne_of_none h1 hg, r, ne_of_none h2 hg, h1, h2⟩
theorem PlcAt.off {t g : Addr} {p : Plc} (x : PlcAt N H t p) (hg : H g = none) : PlcAt (fun b => b ≠ g) H t p := ⟨ne_of_none x.2 hg, x.2⟩
theorem SecsAt.off {l g : Addr} {ss : List Sec} (x : SecsAt N H l ss) (hg : H g = none) : SecsAt (fun b => b ≠ g) H l ss := by
  obtain ⟨n, ts, h, q⟩ := x
  exact ⟨ne_of_none h hg, ts, h, L2.Paired.mapP q fun _ _ z => z.off hg⟩
theorem PlcsAt.off {l g : Addr} {ps : List Plc} (x : PlcsAt N H l ps) (hg : H g = none) : PlcsAt (fun b => b ≠ g) H l ps := by
  obtain ⟨n, ts, h, q⟩ := x
  exact ⟨ne_of_none h hg, ts, h, L2.Paired.mapP q fun _ _ z => z.off hg⟩
theorem DueAt.off {t g : Addr} {d : Dat} (x : DueAt N H t d) (hg : H g = none) : DueAt (fun b => b ≠ g) H t d := by
  obtain ⟨n, ls, lw, lp, h, h1, h2, h3⟩ := x
  exact ⟨ne_of_none h hg, ls, lw, lp, h, h1.off hg, ⟨ne_of_none h2.2 hg, h2.2⟩, h3.off hg⟩
theorem PartAt.off {C x g : Addr} {d : Dat} (p : PartAt N C H x d) (hg : H g = none) : PartAt (fun b => b ≠ g) C H x d := by
  obtain ⟨n, dx, ls, lw, lp, h, h1, h2, h3⟩ := p
  exact ⟨ne_of_none h hg, dx, ls, lw, lp, h, h1.off hg, ⟨ne_of_none h2.2 hg, h2.2⟩, h3.off hg⟩
end
/-- a place that holds no list -/
def NL (H : Hp) : Sel := fun b => ∀ xs, H b ≠ some (.lst xs)
theorem nl_none {H : Hp} {b : Addr} (h : H b = none) : NL H b := fun xs e => by
  rw [h] at e
  cases e
theorem nl_tup {H : Hp} {b : Addr} {ys : List V} (h : H b = some (.tup ys)) : NL H b := fun xs e => by
  rw [h] at e
  cases e
theorem take_snoc {α : Type} {l : List α} {i : Nat} {x : α} (h : l[i]? = some x) : l.take (i + 1) = l.take i ++ [x] := by
  rw [List.take_add_one, h]
  rfl
theorem map_get {α : Type} {g : α → V} {l : List α} {i : Nat} {y : V} (h : (l.map g)[i]? = some y) : ∃ t, l[i]? = some t ∧ y = g t := by
  rw [List.getElem?_map] at h
  obtain ⟨t, h1, h2⟩ := Option.map_eq_some_iff.mp h
  exact ⟨t, h1, h2.symm⟩
/-- one more section in a new list -/
theorem sec_snoc {N : Sel} {H H1 : Hp} {D l p : Addr} {us : List Addr} {ss : List Sec} {s : Sec} (qs : Paired (SecAt N H) us ss) (sm : Stay N H H1) (nD : ¬ N D) (nl : N l) (np : N p) (hp : H1 p = some (.tup (secV s l))) (hl : H1 l = some (.lst (s.row.map V.int))) :
    Paired (SecAt N (upd H1 D (.lst (us.map V.ref ++ [V.ref p])))) (us ++ [p]) (ss ++ [s]) := by
  have k : Stay N H1 (upd H1 D (.lst (us.map V.ref ++ [V.ref p]))) := stay_at nD
  refine PySem.Paired.snoc (L2.Paired.mapP qs fun _ _ z => z.stay (sm.trans k)) ⟨np, l, nl, k _ _ np hp, k _ _ nl hl⟩
/-- a for over enumerate(a list that stands still) -/
theorem for_enum {K : PySem.W.Frag} {a : Addr} {xs : List V} {g : TG} {tb : TS} {D : Ends} {st : L2.St} {H : Hp} (Pv : Nat → L2.St → Hp → Prop) (h0 : Pv 0 st H) (hl : ∀ i st H, i ≤ xs.length → Pv i st H → SqL K H a xs)
    (hs : ∀ i x st H T, xs[i]? = some x → Pv i st H → H T = none → g (.ref T) st (upd H T (.tup [.int (i : Nat), x])) fun s2 H2 => tb { D with nx := Pv (i + 1), ct := Pv (i + 1), bk := D.nx } s2 H2) (hd : ∀ st H, Pv xs.length st H → D.nx st H) :
    ∃ W : Nat → Nat → L2.St → Hp → Prop, (∃ m, W 0 m st H) ∧ ∀ i m st H, W i m st H →
      ((Ite K a).stop i H ∧ D.nx st H) ∨ ((Ite K a).go i H ∧ ∃ N : L2.St → Hp → Prop, (∀ s' H', N s' H' → ∃ m', m' < m ∧ W (i + 1) m' s' H') ∧ ∀ x H', (Ite K a).yld i H x H' → g x st H' fun s2 H2 => tb { D with nx := N, ct := N, bk := D.nx } s2 H2) := by
  refine ⟨fun i m st H => m = xs.length - i ∧ i ≤ xs.length ∧ Pv i st H, ⟨xs.length, by simp, Nat.zero_le _, h0⟩, ?_⟩
  rintro i m st H ⟨rfl, hi, p⟩
  have q := hl i st H hi p
  by_cases hlt : i < xs.length
  · refine .inr ⟨⟨xs, xs[i], q, by simp [hlt]⟩, Pv (i + 1), fun s' H' p' => ⟨xs.length - (i + 1), by omega, rfl, hlt, p'⟩, fun x H' y => ?_⟩
    obtain ⟨T, z, rfl, nT, rfl, fz⟩ := y
    exact hs i z st H T (fz xs q) p nT
  · have e : i = xs.length := by omega
    subst e
    exact .inl ⟨⟨xs, q, Nat.le_refl _⟩, hd st H p⟩
/-! ### rules over what is tracked -/
section
variable {X : Cx}
theorem call_listT : CallR X (.type "list") (fun xs H Q => ∃ (p : Addr) (ys : List V), xs = [.ref p] ∧ H p = some (.lst ys) ∧ ∀ l, H l = none → Q (.ref l) (upd H l (.lst ys))) := clr_w call_list_of fun x H Q q => by
  obtain ⟨p, ys, rfl, h, q⟩ := q
  exact ⟨p, ys, rfl, .inl (SqL.of h), q⟩
theorem ix_tupT : IxR X (fun x y H Q => ∃ (p : Addr) (xs : List V) (i : Int) (v : V), x = .ref p ∧ y = .int i ∧ H p = some (.tup xs) ∧ atI xs i = some v ∧ Q v H) := ixr_w ix_tup fun x y H Q q => by
  obtain ⟨p, xs, i, v, rfl, rfl, h, e, q⟩ := q
  exact ⟨p, xs, i, v, rfl, rfl, SqT.of h, e, q⟩
theorem ix_listT : IxR X (fun x y H Q => ∃ (p : Addr) (xs : List V) (i : Int) (v : V), x = .ref p ∧ y = .int i ∧ H p = some (.lst xs) ∧ atI xs i = some v ∧ Q v H) := ixr_w ix_list fun x y H Q q => by
  obtain ⟨p, xs, i, v, rfl, rfl, h, e, q⟩ := q
  exact ⟨p, xs, i, v, rfl, rfl, SqL.of h, e, q⟩
theorem sl_tupT : SlR X (fun x lo hi H Q => ∃ (a : Addr) (xs : List V), x = .ref a ∧ H a = some (.tup xs) ∧ ¬ (HT.sIx xs.length 0 lo = 0 ∧ HT.sIx xs.length xs.length hi = xs.length) ∧ ∀ p, H p = none → Q (.ref p) (upd H p (.tup (cutV xs lo hi)))) := slr_w sl_tup fun x lo hi H Q q => by
  obtain ⟨a, xs, rfl, h, e, q⟩ := q
  exact ⟨a, xs, rfl, SqT.of h, e, q⟩
theorem op_catTT : OpR X (binaryOp .Add) (fun x y H Q => ∃ (a b : Addr) (xs ys : List V), x = .ref a ∧ y = .ref b ∧ H a = some (.tup xs) ∧ H b = some (.tup ys) ∧ xs ≠ [] ∧ ys ≠ [] ∧ xs.length + ys.length ≤ 1000 ∧ ∀ p, H p = none → Q (.ref p) (upd H p (.tup (xs ++ ys)))) := opr_w op_catT fun x y H Q q => by
  obtain ⟨a, b, xs, ys, rfl, rfl, h1, h2, n1, n2, hz, q⟩ := q
  exact ⟨a, b, xs, ys, rfl, rfl, SqT.of h1, SqT.of h2, n1, Nat.le_trans hz (by decide), fun e => absurd e n2, fun _ => q⟩
end
/-- a target of four names -/
abbrev g4 (K : PySem.W.Frag) (a b c d : Nat) : TG := gTup K 4 (gCons (gName a) (gCons (gName b) (gCons (gName c) (gCons (gName d) gNil))))
section
variable {P : Program} {w : World} {K : PySem.W.Frag} {mg : Str → Option Value} {base : Heap} {C f : Addr} {fd : FuncData}
/-! ### a part is made -/
def spInit (C : Addr) : Sp := fun vs H Q _ => ∃ (H0 : Hp) (x dx : Addr) (d : Dat) (ls lw lp : Addr), vs = [.ref x, .str d.name, .ref ls, .ref lw, .ref lp] ∧ Same H0 H ∧ H0 x = none ∧ H x = some (.ins C dx []) ∧
  SecsAt Any H0 ls d.secs ∧ StrsAt Any H0 lw d.wants ∧ PlcsAt Any H0 lp d.places ∧ Fit d ∧ ∀ H', Same H0 H' → PartAt (NL H0) C H' x d → Q .non H'
abbrev NI : List Str := ["self", "name", "sections", "wants", "places", "kind", "called", "shared", "row"]
theorem scInit : FnScope NI ["self", "name", "sections", "wants", "places"] (defScope sInit) := ⟨rfl, rfl, rfl, by decide +kernel, rfl, by decide +kernel, by decide +kernel⟩
theorem ok_init (F : Fun K "__init__" "Part.__init__" sInit f fd) (T : Tx K mg C) : FnOk P w K mg base CX0 1 f fd ["self", "name", "sections", "wants", "places"] (spInit C) := by
  refine F.ok scInit (fun vs H Q E h => ?_) (fun cdv A outer s H vs Q E hr h => ?_)
  · obtain ⟨H0, x, dx, d, ls, lw, lp, rfl, _⟩ := h
    rfl
  · obtain ⟨H0, x, dx, d, ls, lw, lp, rfl, s0, x0, hx, ⟨_, ts, hls, qs⟩, ⟨_, hlw⟩, ⟨_, us, hlp, qp⟩, fit, k⟩ := h
    have nd := scInit.nd
    refine ⟨_, pss_cons (ps_fld (pv 0) (pv 1) rfl)
      (pss_cons (ps_fld (pv 0) (pe_lc (g := g4 K 5 6 7 8) (own := [("kind", 5), ("called", 6), ("shared", 7), ("row", 8)]) rfl nd (pi_list (pv 2)) (blkOk_by (N := NI) (sc := defScope sInit) (by decide +kernel))
        (fun _ _ _ _ _ => pg_tup rfl (pgs_cons (pg_name (i := 5) nd rfl (Or.inl rfl)) (pgs_cons (pg_name (i := 6) nd rfl (Or.inl rfl)) (pgs_cons (pg_name (i := 7) nd rfl (Or.inl rfl)) (pgs_cons (pg_name (i := 8) nd rfl (Or.inl rfl)) pgs_nil)))))
        (fun _ _ _ _ _ => pts_nil)
        (fun _ _ _ _ _ => pe_tup (pa_cons (pv 5) (pa_cons (pv 6) (pa_cons (pv 7) (pa_cons (pe_callTy call_listT (by rfl) T.list (by decide +kernel) (pa_cons (pv 8) pa_nil)) pa_nil)))))) rfl)
      (pss_cons (ps_fld (pv 0) (pe_callTy call_listT (by rfl) T.list (by decide +kernel) (pa_cons (pv 3) pa_nil)) rfl)
      (pss_one (ps_fld (pv 0) (pe_callTy call_listT (by rfl) T.list (by decide +kernel) (pa_cons (pv 4) pa_nil)) rfl)))), ?_⟩
    have sa : Same H0 (upd H x (.ins C dx (putF "name" (.str d.name) []))) := same_over s0 x0
    refine ⟨_, rfl, _, rfl, x, C, dx, [], rfl, hx, T.cl, T.nN, (by show 0 < 1000; decide), ?_⟩
    -- the sections, copied
    refine ⟨_, rfl, ls, rfl, ⟨_, SqL.of (sa _ _ hls)⟩, fun D hD => ?_⟩
    have xD : x ≠ D := ne_of_none upd_same hD
    have D0 : H0 D = none := sa.free hD
    refine lc_list (K := K) (a := ls) (xs := ts.map V.ref) (fun i H' => Same H0 H' ∧ H' x = some (.ins C dx (putF "name" (.str d.name) [])) ∧ ∃ us : List Addr, us.length = i ∧ H' D = some (.lst (us.map V.ref)) ∧ Paired (SecAt (fun b => NL H0 b ∧ b ≠ D ∧ b ≠ x) H') us (d.secs.take i))
      ⟨sa.trans (same_upd hD), by rw [upd_ne xD, upd_same], [], rfl, upd_same, .nil⟩ (fun i H' _ q => SqL.of (q.1 _ _ hls)) ?_ ?_
    · rintro i y H' hi ⟨sm, hx', us', eu, eD, q'⟩
      obtain ⟨t, hit, rfl⟩ := map_get hi
      obtain ⟨sc, hsc, _, r, _, ht, hr'⟩ := pr_get qs hit
      refine ⟨t, secV sc r, rfl, SqT.of (sm _ _ ht), rfl, _, _, rfl, _, _, rfl, _, _, rfl, _, _, rfl, rfl, rfl, _, rfl, _, rfl, _, rfl, _, rfl, r, _, rfl, sm _ _ hr', fun l hl => ⟨(by show 4 ≤ sizeLine; decide), fun p hp => ?_⟩⟩
      have lD : l ≠ D := (ne_of_none eD hl).symm
      have lx : l ≠ x := (ne_of_none hx' hl).symm
      have pl : p ≠ l := (ne_of_none upd_same hp).symm
      have hp' : H' p = none := by
        rw [upd_ne pl] at hp
        exact hp
      have pD : p ≠ D := (ne_of_none eD hp').symm
      have px : p ≠ x := (ne_of_none hx' hp').symm
      have sm2 : Same H' (upd (upd H' l (.lst (sc.row.map V.int))) p (.tup (secV sc l))) := (same_upd hl).trans (same_upd hp)
      have il : i < sizeLine := small1000 (by
        have h1 := (List.getElem?_eq_some_iff.mp hsc).1
        have h2 := fit.secs
        omega)
      refine ⟨_, sm2 _ _ eD, by rw [List.length_map, eu]; exact il, same_over (sm.trans sm2) D0, by rw [upd_ne xD]; exact sm2 _ _ hx', us' ++ [p], by simp [eu], by rw [upd_same, List.map_append]; rfl, ?_⟩
      rw [take_snoc hsc]
      refine sec_snoc q' (same_stay sm2) (fun n => n.2.1 rfl) ⟨nl_none (sm.free hl), lD, lx⟩ ⟨nl_none (sm.free hp'), pD, px⟩ upd_same ?_
      rw [upd_ne pl.symm, upd_same]
    rintro Hb ⟨sb, hxb, us', eu, eDb, qb⟩
    have qb' : Paired (SecAt (fun b => NL H0 b ∧ b ≠ D ∧ b ≠ x) Hb) us' d.secs := by
      rw [List.length_map, qs.length, List.take_length] at qb
      exact qb
    refine ⟨_, rfl, x, C, dx, _, rfl, hxb, T.cl, T.nS, ?_, ?_⟩
    · have := putF_len "name" (.str d.name) []
      show (putF "name" (.str d.name) []).length < 1000
      simp only [List.length_nil] at this
      omega
    -- the wants
    have sc : Same H0 (upd Hb x (.ins C dx (putF "sections" (.ref D) (putF "name" (.str d.name) [])))) := same_over sb x0
    refine ⟨_, rfl, lw, _, rfl, sc _ _ hlw, fun l hl => ⟨_, rfl, x, C, dx, _, rfl, by rw [upd_ne (ne_of_none upd_same hl)]; exact upd_same, T.cl, T.nW, ?_, ?_⟩⟩
    · have h1 := putF_len "name" (.str d.name) []
      have h2 := putF_len "sections" (.ref D) (putF "name" (.str d.name) [])
      simp only [List.length_nil] at h1
      show (putF "sections" (.ref D) (putF "name" (.str d.name) [])).length < 1000
      omega
    have xl : x ≠ l := ne_of_none upd_same hl
    have hlb : Hb l = none := by
      rw [upd_ne xl.symm] at hl
      exact hl
    have lD : l ≠ D := (ne_of_none eDb hlb).symm
    -- the places
    generalize hHd : upd (upd (upd Hb x (.ins C dx (putF "sections" (.ref D) (putF "name" (.str d.name) [])))) l (.lst (d.wants.map V.str))) x (.ins C dx (putF "wants" (.ref l) (putF "sections" (.ref D) (putF "name" (.str d.name) [])))) = Hd
    have sd : Same H0 Hd := by
      rw [← hHd]
      exact same_over (sc.trans (same_upd hl)) x0
    have xd : Hd x = some (.ins C dx (putF "wants" (.ref l) (putF "sections" (.ref D) (putF "name" (.str d.name) [])))) := by
      rw [← hHd]
      exact upd_same
    have kd : ∀ b o, b ≠ x → Hb b = some o → Hd b = some o := fun b o nb e => by
      rw [← hHd, upd_ne nb, upd_ne (ne_of_none e hlb), upd_ne nb]
      exact e
    have ld : Hd l = some (.lst (d.wants.map V.str)) := by
      rw [← hHd, upd_ne xl.symm, upd_same]
    refine ⟨_, rfl, lp, _, rfl, sd _ _ hlp, fun m hm => ⟨_, rfl, x, C, dx, _, rfl, by rw [upd_ne (ne_of_none xd hm)]; exact xd, T.cl, T.nP, ?_, ?_⟩⟩
    · have h1 := putF_len "name" (.str d.name) []
      have h2 := putF_len "sections" (.ref D) (putF "name" (.str d.name) [])
      have h3 := putF_len "wants" (.ref l) (putF "sections" (.ref D) (putF "name" (.str d.name) []))
      simp only [List.length_nil] at h1
      show (putF "wants" (.ref l) (putF "sections" (.ref D) (putF "name" (.str d.name) []))).length < 1000
      omega
    have mx : m ≠ x := (ne_of_none xd hm).symm
    have ke : ∀ b o, b ≠ x → Hd b = some o → (upd (upd Hd m (.lst (us.map V.ref))) x (.ins C dx (putF "places" (.ref m) (putF "wants" (.ref l) (putF "sections" (.ref D) (putF "name" (.str d.name) [])))))) b = some o := fun b o nb e => by
      rw [upd_ne nb, upd_ne (ne_of_none e hm)]
      exact e
    refine k _ (same_over (sd.trans (same_upd hm)) x0) ⟨nl_none x0, dx, D, l, m, upd_same, ⟨nl_none D0, us', ke _ _ xD.symm (kd _ _ xD.symm eDb), ?_⟩, ⟨nl_none (sb.free hlb), ke _ _ xl.symm ld⟩, ⟨nl_none (sd.free hm), us, by rw [upd_ne mx, upd_same], ?_⟩⟩
    · refine L2.Paired.mapP qb' fun t sc' z => ?_
      exact (z.stay fun b o n e => ke b o n.2.2 (kd b o n.2.2 e)).mono fun b n => n.1
    · refine L2.Paired.mapP qp fun t pl z => ⟨nl_tup z.2, ?_⟩
      have tx : t ≠ x := ne_of_none z.2 x0
      exact ke _ _ tx (sd _ _ z.2)
end
end KP

namespace KP
open PySem PySem.Spec PyProof.Rows L2
section
variable {P : Program} {w : World} {K : PySem.W.Frag} {mg : Str → Option Value} {base : Heap} {C f : Addr} {fd : FuncData}
/-! ### the shared names -/
def shown (d : Dat) : List Str := (d.secs.filter (·.shared)).map (·.called)
def spNms (C : Addr) : Sp := fun vs H Q _ => ∃ (x : Addr) (d : Dat), vs = [.ref x] ∧ PartAt Any C H x d ∧ Fit d ∧ ∀ (H' : Hp) (p : Addr) (ys : List Str), Same H H' → H p = none → H' p = some (.lst (ys.map V.str)) → ys.Perm (shown d) → sortedS ys = true → Q (.ref p) H'
abbrev NM : List Str := ["self", "kind", "called", "shared", "row"]
theorem scNms : FnScope NM ["self"] (defScope sNms) := ⟨rfl, rfl, rfl, by decide +kernel, rfl, by decide +kernel, by decide +kernel⟩
theorem ok_nms (F : Fun K "names" "Part.names" sNms f fd) (T : Tx K mg C) : FnOk P w K mg base CX0 1 f fd ["self"] (spNms C) := by
  refine F.ok scNms (fun vs H Q E h => ?_) (fun cdv A outer s H vs Q E hr h => ?_)
  · obtain ⟨x, d, rfl, _⟩ := h
    rfl
  · obtain ⟨x, d, rfl, ⟨_, dx, ls, lw, lp, hx, ⟨_, ts, hls, qs⟩, hw, hp⟩, fit, k⟩ := h
    have nd := scNms.nd
    refine ⟨_, pss_one (ps_ret (pe_callB cr_sortedS (by rfl) T.sorted (by decide +kernel) (pa_cons (pe_lc (g := g4 K 1 2 3 4) (own := [("kind", 1), ("called", 2), ("shared", 3), ("row", 4)]) rfl nd (pi_list (pe_fld (pv 0) rfl)) (blkOk_by (N := NM) (sc := defScope sNms) (by decide +kernel))
        (fun _ _ _ _ _ => pg_tup rfl (pgs_cons (pg_name (i := 1) nd rfl (Or.inl rfl)) (pgs_cons (pg_name (i := 2) nd rfl (Or.inl rfl)) (pgs_cons (pg_name (i := 3) nd rfl (Or.inl rfl)) (pgs_cons (pg_name (i := 4) nd rfl (Or.inl rfl)) pgs_nil)))))
        (fun _ _ _ _ _ => pts_one (pt_val (pv 3))) (fun _ _ _ _ _ => pv 2)) pa_nil))), ?_⟩
    refine ⟨_, rfl, x, C, dx, _, _, rfl, hx, T.cl, T.nS, pf_secs _ _ _ _, ls, rfl, ⟨_, SqL.of hls⟩, fun D hD => ?_⟩
    refine lc_list (K := K) (a := ls) (xs := ts.map V.ref) (fun i H' => Same H H' ∧ ∃ ys : List Str, H' D = some (.lst (ys.map V.str)) ∧ ys = ((d.secs.take i).filter (·.shared)).map (·.called))
      ⟨same_upd hD, [], upd_same, rfl⟩ (fun i H' _ q => SqL.of (q.1 _ _ hls)) ?_ ?_
    · rintro i y H' hi ⟨sm, ys, eD, ey⟩
      obtain ⟨t, hit, rfl⟩ := map_get hi
      obtain ⟨sc, hsc, _, r, _, ht, hr'⟩ := pr_get qs hit
      have ils : i < d.secs.length := (List.getElem?_eq_some_iff.mp hsc).1
      have lys : ys.length ≤ 6 := by
        rw [ey, List.length_map]
        refine Nat.le_trans (List.length_filter_le _ _) ?_
        rw [List.length_take]
        have := fit.secs
        omega
      refine ⟨t, secV sc r, rfl, SqT.of (sm _ _ ht), rfl, _, _, rfl, _, _, rfl, _, _, rfl, _, _, rfl, rfl, rfl, _, rfl, _, rfl, ?_⟩
      rw [take_snoc hsc, List.filter_append, List.map_append, ← ey]
      cases hsh : sc.shared with
      | true =>
        refine ⟨_, rfl, _, eD, by rw [List.length_map]; exact small1000 (by omega), same_over sm hD, ys ++ [sc.called], by rw [upd_same, List.map_append]; rfl, ?_⟩
        simp [hsh]
      | false =>
        refine ⟨sm, ys, eD, ?_⟩
        simp [hsh]
    rintro Hb ⟨sb, ys, eD, ey⟩
    rw [List.length_map, qs.length, List.take_length] at ey
    refine ⟨D, ys, rfl, SqL.of eD, ?_, fun zs p hz sz hp => ?_⟩
    · rw [ey, List.length_map]
      refine Nat.lt_of_le_of_lt (List.length_filter_le _ _) ?_
      have := fit.secs
      omega
    · refine k _ p zs (sb.trans (same_upd hp)) (sb.free hp) upd_same ?_ sz
      rw [ey] at hz
      exact hz
/-! ### the number of a section -/
def spPlace (C : Addr) : Sp := fun vs H Q _ => ∃ (x : Addr) (d : Dat) (nm : Str), vs = [.ref x, .str nm] ∧ PartAt Any C H x d ∧ ∀ (H' : Hp) (v : V), Same H H' → PlaceIs d.secs nm v → Q v H'
theorem scPlace : FnScope ["self", "name", "number", "section"] ["self", "name"] (defScope sPlace) := ⟨rfl, rfl, rfl, by decide +kernel, rfl, by decide +kernel, by decide +kernel⟩
theorem ok_place (F : Fun K "place_of" "Part.place_of" sPlace f fd) (T : Tx K mg C) : FnOk P w K mg base CX0 1 f fd ["self", "name"] (spPlace C) := by
  refine F.ok scPlace (fun vs H Q E h => ?_) (fun cdv A outer s H vs Q E hr h => ?_)
  · obtain ⟨x, d, nm, rfl, _⟩ := h
    rfl
  · obtain ⟨x, d, nm, rfl, ⟨_, dx, ls, lw, lp, hx, ⟨_, ts, hls, qs⟩, hw, hp⟩, k⟩ := h
    have nd := scPlace.nd
    refine ⟨_, pss_cons (ps_for PassesOwn.never rfl (pi_enum (by rfl) T.enum (pa_cons (pe_fld (pv 0) rfl) pa_nil)) (pg_tup rfl (pgs_cons (pg_name (i := 2) nd rfl (Or.inl rfl)) (pgs_cons (pg_name (i := 3) nd rfl (Or.inl rfl)) pgs_nil)))
        (pss_one (ps_if (pt_cmpR op_eq (pe_ix ix_tup (pv 3) pe_int (fun _ _ => rfl)) (pv 1) (nomark _)) (pss_one (ps_ret (pv 2))) pss_nil)))
      (pss_one (ps_ret pe_non)), ?_⟩
    refine ⟨_, rfl, x, C, dx, _, _, rfl, hx, T.cl, T.nS, pf_secs _ _ _ _, ls, _, rfl, SqL.of hls, ?_⟩
    refine for_enum (K := K) (a := ls) (xs := ts.map V.ref) (fun i st H' => Same H H' ∧ (∃ v2 v3, st = [some (.ref x), some (.str nm), v2, v3]) ∧ ∀ (m : Nat) (sc : Sec), m < i → d.secs[m]? = some sc → sc.called ≠ nm)
      ⟨Same.refl _, ⟨none, none, rfl⟩, fun m sc h _ => absurd h (Nat.not_lt_zero _)⟩ (fun i st H' _ q => SqL.of (q.1 _ _ hls)) ?_ ?_
    · rintro i y st H' U hi ⟨sm, ⟨v2, v3, rfl⟩, hno⟩ hU
      obtain ⟨t, hit, rfl⟩ := map_get hi
      obtain ⟨sc, hsc, _, r, _, ht, hr'⟩ := pr_get qs hit
      have s2 : Same H (upd H' U (.tup [.int (i : Nat), .ref t])) := sm.trans (same_upd hU)
      refine ⟨U, _, rfl, SqT.of upd_same, rfl, _, _, rfl, _, _, rfl, rfl, ?_⟩
      refine ⟨_, rfl, t, _, 1, .str sc.called, rfl, rfl, SqT.of (s2 _ _ ht), rfl, _, rfl, rfl, _, rfl, ite2 (fun e => ?_) (fun e => ?_)⟩
      · have e : V.str sc.called = V.str nm := of_decide_eq_true e
        exact ⟨_, rfl, k _ _ s2 (.inl ⟨i, rfl, ⟨sc, hsc, V.str.inj e⟩, hno⟩)⟩
      · refine ⟨s2, ⟨_, _, rfl⟩, fun m sc' hm hsc' => ?_⟩
        by_cases hmi : m = i
        · subst hmi
          rw [hsc] at hsc'
          cases hsc'
          intro z
          exact e (decide_eq_true (by rw [z]))
        · exact hno m sc' (by omega) hsc'
    · rintro st H' ⟨sm, ⟨v2, v3, rfl⟩, hno⟩
      refine k _ _ sm (.inr ⟨rfl, fun sc hsc => ?_⟩)
      obtain ⟨m, hm, e⟩ := List.getElem_of_mem hsc
      refine hno m sc ?_ (by rw [List.getElem?_eq_getElem hm, e])
      rw [List.length_map, qs.length]
      exact hm
end
end KP

namespace KP
open PySem PySem.Spec PyProof.Rows L2
section
variable {X : Cx}
theorem op_neS (hu : X.A.units + 64 < cLine) : OpR X (compareOp .NotEq) (fun x y H Q => ∃ d, Dp X.K H x d ∧ Dp X.K H y d ∧ SeqAt.shaped d = true ∧ Q (.bl false) H) := opr_w (op_neD hu) fun x y H Q q => by
  obtain ⟨d, h1, h2, h3, q⟩ := q
  refine ⟨d, d, h1, h2, h3, h3, ?_⟩
  rw [PySem.SeqAt.eqv_refl d (PySem.SeqAt.canLay_of_shaped h3)]
  exact q
theorem op_eqS (hu : X.A.units + 64 < cLine) : OpR X (compareOp .Eq) (fun x y H Q => ∃ d, Dp X.K H x d ∧ Dp X.K H y d ∧ SeqAt.shaped d = true ∧ Q (.bl true) H) := opr_w (op_eqD hu) fun x y H Q q => by
  obtain ⟨d, h1, h2, h3, q⟩ := q
  refine ⟨d, d, h1, h2, h3, h3, ?_⟩
  rw [PySem.SeqAt.eqv_refl d (PySem.SeqAt.canLay_of_shaped h3)]
  exact q
end
theorem nil_shaped : SeqAt.shaped (.list []) = true := strs_shaped (ys := []) (fun _ h => nomatch h)
section
variable {P : Program} {w : World} {K : PySem.W.Frag} {mg : Str → Option Value} {base : Heap} {C f : Addr} {fd : FuncData}
/-! ### sections of the right kinds -/
def spSecR : Sp := fun vs H Q _ => ∃ (l : Addr) (ss : List Sec), vs = [.ref l] ∧ SecsAt Any H l ss ∧ ∀ H', Same H H' → Q (.bl true) H'
abbrev NS : List Str := ["_law_sections", "_law_section", "_law_one"]
theorem scSecR : FnScope NS ["_law_sections"] (defScope sSecR) := ⟨rfl, rfl, rfl, by decide +kernel, rfl, by decide +kernel, by decide +kernel⟩
theorem ok_secR {fW : Addr} {fdW : FuncData} (F : Fun K "_law_sections_right" "_law_sections_right" sSecR f fd) (T : Tx K mg C) (FW : Fun K "_law_whole" "_law_whole" sWhole fW fdW) (bW : Binds K fdW ["_law_found"] []) (gW : mg "_law_whole" = some (.ref fW)) :
    FnOk P w K mg base CX0 2 f fd ["_law_sections"] spSecR := by
  have GW : FnOk P w K mg base CX0 1 fW fdW ["_law_found"] spWhole := ok_whole FW T
  refine F.ok scSecR (fun vs H Q E h => ?_) (fun cdv A outer s H vs Q E hr h => ?_)
  · obtain ⟨l, ss, rfl, _⟩ := h
    rfl
  · obtain ⟨l, ss, rfl, ⟨_, ts, hls, qs⟩, k⟩ := h
    have nd := scSecR.nd
    refine ⟨_, pss_cons (ps_for PassesOwn.never rfl (pi_list (pv 0)) (pg_name (i := 1) nd rfl (Or.inl rfl))
      (pss_cons (ps_if (PW.pt (pw_or (pt_not (pt_val (pe_isT (m := "tuple") is_tup (by rfl) T.isi (pv 1) (by rfl) T.tuple (by decide +kernel))))
          (pw_or (pt_cmpR op_ne (pe_callB call_len_seq (by rfl) T.len PySem.boot_len (pa_cons (pv 1) pa_nil)) pe_int (nomark _))
          (pw_or1 (pt_not (pt_val (pe_isT (m := "bool") is_bool (by rfl) T.isi (pe_ix ix_tupT (pv 1) pe_int (fun _ _ => rfl)) (by rfl) T.bool (by decide +kernel))))))))
        (pss_one (ps_ret pe_bl)) pss_nil)
      (pss_one (ps_if (PW.pt (pw_or (pt_not (pt_val (pe_isT (m := "list") is_list (by rfl) T.isi (pe_ix ix_tupT (pv 1) pe_int (fun _ _ => rfl)) (by rfl) T.list (by decide +kernel))))
          (pw_or1 (pt_cmpR (op_neS hr.units) (pe_lc (own := [("_law_one", 2)]) rfl nd (pi_list (pe_ix ix_tupT (pv 1) pe_int (fun _ _ => rfl))) (blkOk_by (N := NS) (sc := defScope sSecR) (by decide +kernel))
              (fun _ _ _ _ _ => pg_name (i := 2) nd rfl (Or.inl rfl)) (fun _ _ _ _ _ => pts_one (pt_not (pt_val (pe_call GW hr (by rfl) gW FW.kp bW .nil pass0 (pa_cons (pv 2) pa_nil))))) (fun _ _ _ _ _ => pv 2)) (pe_lst pa_nil) (nomark _)))))
        (pss_one (ps_ret pe_bl)) pss_nil))))
      (pss_one (ps_ret pe_bl)), ?_⟩
    refine ⟨_, rfl, l, rfl, ⟨_, SqL.of hls⟩, for_list (K := K) (a := l) (xs := ts.map V.ref) (fun i st H' => Same H H' ∧ ∃ v1, st = [some (.ref l), v1, none]) ⟨Same.refl _, none, rfl⟩ (fun i st H' _ q => SqL.of (q.1 _ _ hls)) ?_ ?_⟩
    · rintro i y st H' hi ⟨sm, v1, rfl⟩
      obtain ⟨t, hit, rfl⟩ := map_get hi
      obtain ⟨sc, hsc, _, r, _, ht, hr'⟩ := pr_get qs hit
      refine ⟨_, rfl, t, _, rfl, sm _ _ ht, _, rfl, _, rfl, t, _, rfl, .inr (SqT.of (sm _ _ ht)), rfl, _, rfl, _, rfl, t, _, 2, .bl sc.shared, rfl, rfl, sm _ _ ht, rfl, _, rfl, _, rfl, ?_⟩
      refine ⟨_, rfl, t, _, 3, .ref r, rfl, rfl, sm _ _ ht, rfl, r, _, rfl, sm _ _ hr', _, rfl, ?_⟩
      refine ⟨_, rfl, t, _, 3, .ref r, rfl, rfl, sm _ _ ht, rfl, r, rfl, ⟨_, SqL.of (sm _ _ hr')⟩, fun D hD => ?_⟩
      refine lc_list (K := K) (a := r) (xs := sc.row.map V.int) (fun _ H2 => Same H' H2 ∧ H2 D = some (.lst [])) ⟨same_upd hD, upd_same⟩ (fun i H2 _ q => SqL.of (q.1 _ _ (sm _ _ hr'))) ?_ ?_
      · rintro j z H2 hj ⟨s2, e2⟩
        obtain ⟨n, _, rfl⟩ := map_get hj
        exact ⟨rfl, _, rfl, n, rfl, _, rfl, s2, e2⟩
      · rintro H2 ⟨s2, e2⟩
        refine ⟨Nat.zero_le _, fun e he => ⟨.list [], .lst (SqL.of (by rw [upd_ne (ne_of_none e2 he)]; exact e2)) .nil, .lst (SqL.of upd_same) .nil, nil_shaped, _, rfl, ?_⟩⟩
        exact ⟨sm.trans (s2.trans (same_upd he)), _, rfl⟩
    · rintro st H' ⟨sm, v1, rfl⟩
      exact k _ sm
/-! ### places of the right kinds -/
def spPlcR : Sp := fun vs H Q _ => ∃ (l : Addr) (ps : List Plc), vs = [.ref l] ∧ PlcsAt Any H l ps ∧ Q (.bl true) H
theorem scPlcR : FnScope ["_law_places", "_law_place"] ["_law_places"] (defScope sPlcR) := ⟨rfl, rfl, rfl, by decide +kernel, rfl, by decide +kernel, by decide +kernel⟩
theorem ok_plcR {fW : Addr} {fdW : FuncData} (F : Fun K "_law_places_right" "_law_places_right" sPlcR f fd) (T : Tx K mg C) (FW : Fun K "_law_whole" "_law_whole" sWhole fW fdW) (bW : Binds K fdW ["_law_found"] []) (gW : mg "_law_whole" = some (.ref fW)) :
    FnOk P w K mg base CX0 2 f fd ["_law_places"] spPlcR := by
  have GW : FnOk P w K mg base CX0 1 fW fdW ["_law_found"] spWhole := ok_whole FW T
  refine F.ok scPlcR (fun vs H Q E h => ?_) (fun cdv A outer s H vs Q E hr h => ?_)
  · obtain ⟨l, ps, rfl, _⟩ := h
    rfl
  · obtain ⟨l, ps, rfl, ⟨_, ts, hls, qs⟩, k⟩ := h
    have nd := scPlcR.nd
    refine ⟨_, pss_cons (ps_for PassesOwn.never rfl (pi_list (pv 0)) (pg_name (i := 1) nd rfl (Or.inl rfl))
      (pss_cons (ps_if (PW.pt (pw_or (pt_not (pt_val (pe_isT (m := "tuple") is_tup (by rfl) T.isi (pv 1) (by rfl) T.tuple (by decide +kernel))))
          (pw_or1 (pt_cmpR op_ne (pe_callB call_len_seq (by rfl) T.len PySem.boot_len (pa_cons (pv 1) pa_nil)) pe_int (nomark _)))))
        (pss_one (ps_ret pe_bl)) pss_nil)
      (pss_one (ps_if (PW.pt (pw_or (pt_not (pt_val (pe_call GW hr (by rfl) gW FW.kp bW .nil pass0 (pa_cons (pe_ix ix_tupT (pv 1) pe_int (fun _ _ => rfl)) pa_nil))))
          (pw_or (pt_not (pt_val (pe_call GW hr (by rfl) gW FW.kp bW .nil pass0 (pa_cons (pe_ix ix_tupT (pv 1) pe_int (fun _ _ => rfl)) pa_nil))))
          (pw_or1 (pt_not (pt_val (pe_call GW hr (by rfl) gW FW.kp bW .nil pass0 (pa_cons (pe_ix ix_tupT (pv 1) pe_int (fun _ _ => rfl)) pa_nil))))))))
        (pss_one (ps_ret pe_bl)) pss_nil))))
      (pss_one (ps_ret pe_bl)), ?_⟩
    refine ⟨_, rfl, l, rfl, ⟨_, SqL.of hls⟩, for_list (K := K) (a := l) (xs := ts.map V.ref) (fun i st H' => H' = H ∧ ∃ v1, st = [some (.ref l), v1]) ⟨rfl, none, rfl⟩ (fun i st H' _ q => SqL.of (by rw [q.1]; exact hls)) ?_ ?_⟩
    · rintro i y st H' hi ⟨rfl, v1, rfl⟩
      obtain ⟨t, hit, rfl⟩ := map_get hi
      obtain ⟨pl, hpl, _, ht⟩ := pr_get qs hit
      refine ⟨_, rfl, t, _, rfl, ht, _, rfl, _, rfl, t, _, rfl, .inr (SqT.of ht), rfl, _, rfl, ?_⟩
      refine ⟨_, rfl, t, _, 0, .int pl.sec, rfl, rfl, ht, rfl, _, rfl, _, rfl, _, rfl, t, _, 1, .int pl.off, rfl, rfl, ht, rfl, _, rfl, _, rfl, _, rfl, t, _, 4, .int pl.line, rfl, rfl, ht, rfl, _, rfl, _, rfl, ?_⟩
      exact ⟨rfl, _, rfl⟩
    · rintro st H' ⟨rfl, v1, rfl⟩
      exact k
end
end KP

namespace KP
open PySem PySem.Spec PyProof.Rows L2
theorem cut3 (s : Sec) (r : Addr) : cutV (secV s r) none (some 3) = [.str s.kind, .str s.called, .bl s.shared] := rfl
theorem cut3_no (s : Sec) (r : Addr) : ¬ (HT.sIx (secV s r).length 0 none = 0 ∧ HT.sIx (secV s r).length (secV s r).length (some 3) = (secV s r).length) := by
  intro h
  have h2 : (3 : Nat) = 4 := h.2
  omega
/-- a section copied by slice and sum: what the heap holds behind it -/
theorem copy_heap {H : Hp} {a l b p : Addr} {s : Sec} {X1 X2 : HO} (ha : H a = none) (hl : (upd H a X1) l = none) (hb : (upd (upd H a X1) l (.lst (s.row.map V.int))) b = none) (hp : (upd (upd (upd H a X1) l (.lst (s.row.map V.int))) b X2) p = none) :
    Same H (upd (upd (upd (upd H a X1) l (.lst (s.row.map V.int))) b X2) p (.tup (secV s l))) ∧ H l = none ∧ H p = none ∧
      (upd (upd (upd (upd H a X1) l (.lst (s.row.map V.int))) b X2) p (.tup (secV s l))) l = some (.lst (s.row.map V.int)) := by
  refine ⟨(same_upd ha).trans ((same_upd hl).trans ((same_upd hb).trans (same_upd hp))), (same_upd ha).free hl, ((same_upd ha).trans ((same_upd hl).trans (same_upd hb))).free hp, ?_⟩
  exact ((same_upd hb).trans (same_upd hp)) _ _ upd_same
section
variable {P : Program} {w : World} {K : PySem.W.Frag} {mg : Str → Option Value} {base : Heap} {C f : Addr} {fd : FuncData}
/-! ### what a part tells -/
def spTold (C : Addr) : Sp := fun vs H Q _ => ∃ (x : Addr) (d : Dat), vs = [.ref x] ∧ PartAt Any C H x d ∧ Fit d ∧ ∀ (H' : Hp) (t : Addr), Same H H' → DueAt Any H' t d → Q (.ref t) H'
abbrev NT : List Str := ["_law_part", "_law_sections", "_law_section"]
theorem scTold : FnScope NT ["_law_part"] (defScope sTold) := ⟨rfl, rfl, rfl, by decide +kernel, rfl, by decide +kernel, by decide +kernel⟩
theorem ok_told {fW fS fP : Addr} {fdW fdS fdP : FuncData} (F : Fun K "_law_told" "_law_told" sTold f fd) (T : Tx K mg C) (FW : Fun K "_law_whole" "_law_whole" sWhole fW fdW) (bW : Binds K fdW ["_law_found"] []) (gW : mg "_law_whole" = some (.ref fW))
    (FS : Fun K "_law_sections_right" "_law_sections_right" sSecR fS fdS) (bS : Binds K fdS ["_law_sections"] []) (gS : mg "_law_sections_right" = some (.ref fS))
    (FP : Fun K "_law_places_right" "_law_places_right" sPlcR fP fdP) (bP : Binds K fdP ["_law_places"] []) (gP : mg "_law_places_right" = some (.ref fP)) :
    FnOk P w K mg base CX0 3 f fd ["_law_part"] (spTold C) := by
  have GS : FnOk P w K mg base CX0 2 fS fdS ["_law_sections"] spSecR := ok_secR FS T FW bW gW
  have GP : FnOk P w K mg base CX0 2 fP fdP ["_law_places"] spPlcR := ok_plcR FP T FW bW gW
  refine F.ok scTold (fun vs H Q E h => ?_) (fun cdv A outer s H vs Q E hr h => ?_)
  · obtain ⟨x, d, rfl, _⟩ := h
    rfl
  · obtain ⟨x, d, rfl, ⟨_, dx, ls, lw, lp, hx, ⟨_, ts, hls, qs⟩, ⟨_, hlw⟩, ⟨_, us, hlp, qp⟩⟩, fit, k⟩ := h
    have nd := scTold.nd
    refine ⟨_, pss_cons (ps_if (PW.pt (pw_or (pt_not (pt_val (pe_callB (is_own T.ins) (by rfl) T.isi (by decide +kernel) (pa_cons (pv 0) (pa_cons (pe_glob (v := .ref C) (by rfl) T.mgC rfl) pa_nil)))))
          (pw_or (pt_not (pt_val (pe_isT (m := "list") is_list (by rfl) T.isi (pe_fld (pv 0) rfl) (by rfl) T.list (by decide +kernel))))
          (pw_or1 (pt_not (pt_val (pe_isT (m := "list") is_list (by rfl) T.isi (pe_fld (pv 0) rfl) (by rfl) T.list (by decide +kernel))))))))
        (pss_one (ps_ret pe_non)) pss_nil)
      (pss_cons (ps_if (PW.pt (pw_or (pt_not (pt_val (pe_call GS hr (by rfl) gS FS.kp bS .nil pass0 (pa_cons (pe_fld (pv 0) rfl) pa_nil))))
          (pw_or1 (pt_not (pt_val (pe_call GP hr (by rfl) gP FP.kp bP .nil pass0 (pa_cons (pe_fld (pv 0) rfl) pa_nil)))))))
        (pss_one (ps_ret pe_non)) pss_nil)
      (pss_cons (ps_if (PW.pt (pw_or (pt_not (pt_val (pe_isT (m := "list") is_list (by rfl) T.isi (pe_fld (pv 0) rfl) (by rfl) T.list (by decide +kernel))))
          (pw_or1 (pt_not (pt_val (pe_isT (m := "str") is_str (by rfl) T.isi (pe_fld (pv 0) rfl) (by rfl) T.str (by decide +kernel)))))))
        (pss_one (ps_ret pe_non)) pss_nil)
      (pss_cons (ps_setLc (i := 1) (own := [("_law_section", 2)]) rfl nd rfl rfl (sw_true rfl rfl rfl (by decide +kernel)) (pi_list (pe_fld (pv 0) rfl)) (blkOk_by (N := NT) (sc := defScope sTold) (by decide +kernel))
        (fun _ _ _ _ _ => pg_name (i := 2) nd rfl (Or.inl rfl)) (fun _ _ _ _ _ => pts_nil)
        (fun _ _ _ _ _ => pe_op op_catTT (pe_slice sl_tupT (pv 2) po_none (po_some pe_int)) (pe_tup (pa_cons (pe_callTy call_listT (by rfl) T.list (by decide +kernel) (pa_cons (pe_ix ix_tupT (pv 2) pe_int (fun _ _ => rfl)) pa_nil)) pa_nil))))
      (pss_one (ps_ret (pe_tup (pa_cons pe_str (pa_cons (pe_fld (pv 0) rfl) (pa_cons (pv 1) (pa_cons (pe_callTy call_listT (by rfl) T.list (by decide +kernel) (pa_cons (pe_fld (pv 0) rfl) pa_nil))
        (pa_cons (pe_callTy call_listT (by rfl) T.list (by decide +kernel) (pa_cons (pe_fld (pv 0) rfl) pa_nil)) pa_nil))))))))))), ?_⟩
    -- the kinds
    refine ⟨_, rfl, x, dx, _, rfl, hx, _, rfl, ?_⟩
    refine ⟨_, rfl, x, C, dx, _, _, rfl, hx, T.cl, T.nS, pf_secs _ _ _ _, ls, _, rfl, hls, _, rfl, ?_⟩
    refine ⟨_, rfl, x, C, dx, _, _, rfl, hx, T.cl, T.nP, pf_places _ _ _ _, lp, _, rfl, hlp, _, rfl, ?_⟩
    refine ⟨_, rfl, x, C, dx, _, _, rfl, hx, T.cl, T.nS, pf_secs _ _ _ _, ls, d.secs, rfl, ⟨True.intro, ts, hls, qs⟩, fun H1 s1 => ⟨_, rfl, ?_⟩⟩
    have x1 := s1 _ _ hx
    have qp1 : Paired (PlcAt Any H1) us d.places := L2.Paired.mapP qp fun _ _ z => z.stay (same_stay s1)
    refine ⟨_, rfl, x, C, dx, _, _, rfl, x1, T.cl, T.nP, pf_places _ _ _ _, lp, d.places, rfl, ⟨True.intro, us, s1 _ _ hlp, qp1⟩, _, rfl, ?_⟩
    refine ⟨_, rfl, x, C, dx, _, _, rfl, x1, T.cl, T.nW, pf_wants _ _ _ _, lw, _, rfl, s1 _ _ hlw, _, rfl, ?_⟩
    refine ⟨_, rfl, x, C, dx, _, _, rfl, x1, T.cl, T.nN, pf_name _ _ _ _, _, rfl, _, rfl, ?_⟩
    -- the sections, copied
    refine ⟨_, rfl, x, C, dx, _, _, rfl, x1, T.cl, T.nS, pf_secs _ _ _ _, ls, rfl, ⟨_, SqL.of (s1 _ _ hls)⟩, fun D hD => ?_⟩
    have D0 : H D = none := s1.free hD
    refine lc_list (K := K) (a := ls) (xs := ts.map V.ref) (fun i H' => Same H H' ∧ ∃ vs : List Addr, vs.length = i ∧ H' D = some (.lst (vs.map V.ref)) ∧ Paired (SecAt (fun b => b ≠ D) H') vs (d.secs.take i))
      ⟨s1.trans (same_upd hD), [], rfl, upd_same, .nil⟩ (fun i H' _ q => SqL.of (q.1 _ _ hls)) ?_ ?_
    · rintro i y H' hi ⟨sm, vs, eu, eD, q'⟩
      obtain ⟨t, hit, rfl⟩ := map_get hi
      obtain ⟨sc, hsc, _, r, _, ht, hr'⟩ := pr_get qs hit
      have ht' := sm _ _ ht
      have hr2 := sm _ _ hr'
      refine ⟨rfl, _, rfl, 3, rfl, t, secV sc r, rfl, ht', cut3_no sc r, fun a ha => ?_⟩
      refine ⟨_, rfl, t, secV sc r, 3, .ref r, rfl, rfl, same_upd ha _ _ ht', rfl, r, _, rfl, same_upd ha _ _ hr2, fun l hl => ⟨(by show 1 ≤ sizeLine; decide), fun b hb => ?_⟩⟩
      refine ⟨a, b, cutV (secV sc r) none (some 3), [.ref l], rfl, rfl, ((same_upd hl).trans (same_upd hb)) _ _ upd_same, upd_same, (by rw [cut3]; simp), (by simp), (by show 3 + 1 ≤ 1000; decide), fun p hp => ?_⟩
      obtain ⟨sm2, hl0, hp0, hl3⟩ := copy_heap (s := sc) ha hl hb hp
      have il : i < sizeLine := small1000 (by
        have h1 := (List.getElem?_eq_some_iff.mp hsc).1
        have h2 := fit.secs
        omega)
      refine ⟨_, sm2 _ _ eD, by rw [List.length_map, eu]; exact il, same_over (sm.trans sm2) D0, vs ++ [p], by simp [eu], by rw [upd_same, List.map_append]; rfl, ?_⟩
      rw [take_snoc hsc]
      exact sec_snoc q' (same_stay sm2) (fun n => n rfl) (ne_of_none eD hl0).symm (ne_of_none eD hp0).symm upd_same hl3
    rintro Hb ⟨sb, vs, eu, eDb, qb⟩
    rw [List.length_map, qs.length, List.take_length] at qb
    have xb := sb _ _ hx
    -- the end
    refine ⟨_, rfl, x, C, dx, _, _, rfl, xb, T.cl, T.nN, pf_name _ _ _ _, _, rfl, _, rfl, x, C, dx, _, _, rfl, xb, T.cl, T.nW, pf_wants _ _ _ _, lw, _, rfl, sb _ _ hlw, fun m hm => ?_⟩
    have sm : Same Hb (upd Hb m (.lst (d.wants.map V.str))) := same_upd hm
    refine ⟨_, rfl, x, C, dx, _, _, rfl, sm _ _ xb, T.cl, T.nP, pf_places _ _ _ _, lp, _, rfl, sm _ _ (sb _ _ hlp), fun n hn => ⟨(by show 5 ≤ sizeLine; decide), fun t ht => ?_⟩⟩
    have sn := same_upd (o := .lst (us.map V.ref)) hn
    have st := same_upd (o := .tup [.str "part", .str d.name, .ref D, .ref m, .ref n]) ht
    have sl := sm.trans (sn.trans st)
    refine k _ t (sb.trans sl) ⟨True.intro, D, m, n, upd_same, ⟨True.intro, vs, sl _ _ eDb, ?_⟩, ⟨True.intro, (sn.trans st) _ _ upd_same⟩, ⟨True.intro, us, st _ _ upd_same, ?_⟩⟩
    · exact L2.Paired.mapP qb fun _ _ z => z.any.stay (same_stay sl)
    · exact L2.Paired.mapP qp fun _ _ z => z.stay (same_stay (sb.trans sl))
end
end KP

namespace KP
open PySem PySem.Spec PyProof.Rows L2
theorem two_ix {a b : Str} {r : Int} (h0 : 0 ≤ r) (h1 : r < 2) (ha : SOk a) (hb : SOk b) : ∃ z : Str, atI [V.str a, V.str b] r = some (.str z) ∧ SOk z := by
  have : r = 0 ∨ r = 1 := by omega
  rcases this with rfl | rfl
  · exact ⟨a, rfl, ha⟩
  · exact ⟨b, rfl, hb⟩
theorem cut_strs (ns : List Str) (lo hi : Option Int) : ∃ zs : List Str, cutV (ns.map V.str) lo hi = zs.map V.str ∧ (∀ z ∈ zs, z ∈ ns) ∧ zs.length = min (HT.sIx ns.length ns.length hi - HT.sIx ns.length 0 lo) (ns.length - HT.sIx ns.length 0 lo) := by
  refine ⟨(ns.drop (HT.sIx ns.length 0 lo)).take (HT.sIx ns.length ns.length hi - HT.sIx ns.length 0 lo), ?_, fun z hz => List.mem_of_mem_drop (List.mem_of_mem_take hz), ?_⟩
  · unfold cutV
    rw [List.length_map, List.map_take, List.map_drop]
  · rw [List.length_take, List.length_drop]
theorem str_at {ns : List Str} {i : Int} (h0 : 0 ≤ i) (h1 : i < ns.length) : ∃ z, atI (ns.map V.str) i = some (.str z) ∧ z ∈ ns := by
  obtain ⟨j, rfl⟩ := Int.eq_ofNat_of_zero_le h0
  have hj : j < ns.length := by omega
  exact ⟨ns[j], atI_nat (by rw [List.getElem?_map, List.getElem?_eq_getElem hj]; rfl), List.getElem_mem hj⟩
section
variable {P : Program} {w : World} {K : PySem.W.Frag} {mg : Str → Option Value} {base : Heap} {C f : Addr} {fd : FuncData}
/-! ### what is due -/
def spDue : Sp := fun vs H Q _ => ∃ (c : Int) (a : Addr) (ns : List Str), vs = [.int c, .ref a] ∧ H a = some (.lst (ns.map V.str)) ∧ ns.length = 24 ∧ (∀ x ∈ ns, SOk x) ∧ ∀ (H' : Hp) (t : Addr) (d : Dat), Same H H' → DueAt (fun b => H b = none) H' t d → Fit d → Q (.ref t) H'
abbrev ND : List Str := ["_law_cell", "_law_names_here", "_law_number", "_law_many", "_law_sections", "_law_k", "_law_more", "_law_row", "_law_wants", "_law_places", "_law_name", "_law_j"]
theorem scDue : FnScope ND ["_law_cell", "_law_names_here"] (defScope sDue) := ⟨rfl, rfl, rfl, by decide +kernel, rfl, by decide +kernel, by decide +kernel⟩
theorem ok_due {fM : Addr} {fdM : FuncData} (F : Fun K "_law_due" "_law_due" sDue f fd) (T : Tx K mg C) (FM : Fun K "_law_mixed" "_law_mixed" sMix fM fdM) (bM : Binds K fdM ["_law_cell", "_law_k"] []) (gM : mg "_law_mixed" = some (.ref fM)) :
    FnOk P w K mg base CX0 2 f fd ["_law_cell", "_law_names_here"] spDue := by
  have GM : FnOk P w K mg base CX0 1 fM fdM ["_law_cell", "_law_k"] spMix := ok_mix FM
  refine F.ok scDue (fun vs H Q E h => ?_) (fun cdv A outer s H vs Q E hr h => ?_)
  · obtain ⟨c, a, ns, rfl, _⟩ := h
    rfl
  · obtain ⟨c, a, ns, rfl, ha, h24, hok, q⟩ := h
    have nd := scDue.nd
    refine ⟨_, pss_cons (ps_set (i := 2) nd rfl (Or.inl rfl) (pe_call GM hr (by rfl) gM FM.kp bM .nil pass0 (pa_cons (pv 0) (pa_cons pe_int pa_nil))))
      (pss_cons (ps_set (i := 3) nd rfl (Or.inl rfl) (pe_op op_add pe_int (pe_op op_modG (pv 2) pe_int)))
      (pss_cons (ps_set (i := 4) nd rfl (Or.inl rfl) (pe_lst pa_nil))
      (pss_cons (ps_for PassesOwn.never rfl (pi_range1 (by rfl) T.range (pa_cons (pv 3) pa_nil)) (pg_name (i := 5) nd rfl (Or.inl rfl))
        (pss_cons (ps_set (i := 6) nd rfl (Or.inr rfl) (pe_call GM hr (by rfl) gM FM.kp bM .nil pass0 (pa_cons (pv 0) (pa_cons (pe_op op_add pe_int (pv 5)) pa_nil))))
        (pss_cons (ps_setLc (i := 7) (own := [("_law_j", 11)]) rfl nd rfl rfl (sw_true rfl rfl rfl (by decide +kernel)) (pi_range1 (by rfl) T.range (pa_cons (pe_op op_add pe_int (pe_op op_modG (pe_op op_fdivG (pv 6) pe_int) pe_int)) pa_nil)) (blkOk_by (N := ND) (sc := defScope sDue) (by decide +kernel))
          (fun _ _ _ _ _ => pg_name (i := 11) nd rfl (Or.inl rfl)) (fun _ _ _ _ _ => pts_nil) (fun _ _ _ _ _ => pe_op op_modG (pe_call GM hr (by rfl) gM FM.kp bM .nil pass0 (pa_cons (pv 6) (pa_cons (pv 11) pa_nil))) pe_int))
        (pss_one (ps_expr (pe_bm PySem.F.plainAttrs_list PySem.F.slot_list_append PySem.F.type_list_append mt_append (pv 4) (pa_cons (pe_tup (pa_cons (pe_ix ix_listT (pe_lst (pa_cons pe_str (pa_cons pe_str pa_nil))) (pe_op op_modG (pv 6) pe_int) (fun _ _ => rfl))
          (pa_cons (pe_ix ix_listT (pv 1) (pe_op op_add pe_int (pv 5)) (fun _ _ => rfl)) (pa_cons (pe_cmpR op_eq (pe_op op_modG (pe_op op_fdivG (pv 6) pe_int) pe_int) pe_int (nomark _)) (pa_cons (pv 7) pa_nil))))) pa_nil)))))))
      (pss_cons (ps_set (i := 8) nd rfl (Or.inl rfl) (pe_slice sl_list (pv 1) (po_some pe_int) (po_some (pe_op op_add pe_int (pe_op op_modG (pe_op op_fdivG (pv 2) pe_int) pe_int)))))
      (pss_cons (ps_set (i := 9) nd rfl (Or.inl rfl) (pe_lst pa_nil))
      (pss_cons (ps_for PassesOwn.never rfl (pi_range1 (by rfl) T.range (pa_cons (pe_op op_modG (pe_op op_fdivG (pv 2) pe_int) pe_int) pa_nil)) (pg_name (i := 5) nd rfl (Or.inl rfl))
        (pss_cons (ps_set (i := 6) nd rfl (Or.inr rfl) (pe_call GM hr (by rfl) gM FM.kp bM .nil pass0 (pa_cons (pv 0) (pa_cons (pe_op op_add pe_int (pv 5)) pa_nil))))
        (pss_cons (ps_set (i := 10) nd rfl (Or.inl rfl) (pe_ix ix_listT (pe_op op_cat (pe_slice sl_list (pv 1) (po_some pe_int) (po_some (pe_op op_add pe_int (pv 3)))) (pv 8)) (pe_op op_modG (pe_op op_fdivG (pv 6) pe_int) (pe_op op_add (pv 3) (pe_callB call_len_seq (by rfl) T.len PySem.boot_len (pa_cons (pv 8) pa_nil)))) (fun _ _ => rfl)))
        (pss_one (ps_expr (pe_bm PySem.F.plainAttrs_list PySem.F.slot_list_append PySem.F.type_list_append mt_append (pv 9) (pa_cons (pe_tup (pa_cons (pe_op op_modG (pv 6) (pv 3)) (pa_cons (pe_op op_modG (pe_op op_fdivG (pv 6) pe_int) pe_int)
          (pa_cons (pe_ix ix_listT (pe_lst (pa_cons pe_str (pa_cons pe_str pa_nil))) (pe_op op_modG (pe_op op_fdivG (pv 6) pe_int) pe_int) (fun _ _ => rfl)) (pa_cons (pv 10) (pa_cons (pe_op op_add pe_int (pe_op op_modG (pe_op op_fdivG (pv 6) pe_int) pe_int)) pa_nil)))))) pa_nil)))))))
      (pss_one (ps_ret (pe_tup (pa_cons pe_str (pa_cons (pe_ix ix_listT (pv 1) pe_int (fun _ _ => rfl)) (pa_cons (pv 4) (pa_cons (pv 8) (pa_cons (pv 9) pa_nil)))))))))))))), ?_⟩
    -- the number, how many
    refine ⟨_, rfl, c, 1, rfl, ⟨by decide, by decide⟩, fun n n0 n1 => ⟨_, rfl, _, _, rfl, rfl, by decide, fun m m0 m1 => ⟨_, _, rfl, rfl, Nat.zero_le _, fun L hL => ?_⟩⟩⟩
    -- the sections
    refine ⟨_, rfl, 1 + m, rfl, by omega, by omega, for_range (lo := 0) (n := (1 + m).toNat) (fun i st H' => ∃ (v5 v6 v7 : Option V) (ts : List Addr) (ss : List Sec), st = [some (.int c), some (.ref a), some (.int n), some (.int (1 + m)), some (.ref L), v5, v6, v7, none, none, none, none] ∧
      ss.length = i ∧ (∀ x ∈ ss, x.row.length ≤ 9 ∧ SOk x.kind ∧ SOk x.called) ∧ Same H H' ∧ H' L = some (.lst (ts.map V.ref)) ∧ Paired (SecAt (fun b => b ≠ L ∧ H b = none) H') ts ss)
      ⟨none, none, none, [], [], rfl, rfl, (fun _ h => nomatch h), same_upd hL, upd_same, .nil⟩ ?_ ?_⟩
    · rintro i st H' hi ⟨v5, v6, v7, ts, ss, rfl, el, hss, sm, eL, qs⟩
      have i6 : i < 6 := by omega
      refine ⟨_, rfl, _, rfl, _, _, rfl, rfl, c, _, rfl, ⟨by omega, by omega⟩, fun mo mo0 mo1 => ?_⟩
      refine ⟨_, rfl, _, _, rfl, rfl, ⟨by decide, by decide⟩, mo0, fun u1 _ _ => ⟨_, _, rfl, rfl, by decide, fun r r0 r1 => ⟨_, _, rfl, rfl, 1 + r, rfl, by omega, by omega, fun D hD => ?_⟩⟩⟩
      refine lc_range (lo := 0) (n := (1 + r).toNat) (fun j H2 => Same H' H2 ∧ ∃ rs : List Int, rs.length = j ∧ H2 D = some (.lst (rs.map V.int))) ⟨same_upd hD, [], rfl, upd_same⟩ ?_ ?_
      · rintro j H2 hj ⟨s2, rs, er, eD⟩
        refine ⟨rfl, _, rfl, _, rfl, mo, _, rfl, ⟨by omega, by omega⟩, fun z z0 z1 => ⟨_, _, rfl, rfl, by decide, fun y y0 y1 => ?_⟩⟩
        refine ⟨_, eD, by rw [List.length_map, er]; exact small1000 (by omega), same_over s2 hD, rs ++ [y], by simp [er], ?_⟩
        rw [upd_same, List.map_append]
        rfl
      rintro H2 ⟨s2, rs, er, eD⟩
      have lr : rs.length ≤ 9 := by
        rw [er]
        omega
      have sm2 := sm.trans s2
      have hD' : H D = none := sm.free hD
      have LD : D ≠ L := (ne_of_none eL hD).symm
      refine ⟨_, rfl, .inl ⟨rfl, _, SqL.of (s2 _ _ eL)⟩, (by show 2 ≤ sizeLine; decide), fun g hg => ⟨_, rfl, _, _, rfl, rfl, by decide, fun b b0 b1 => ?_⟩⟩
      obtain ⟨kd, hkd, okd⟩ := two_ix (a := "code") (b := "data") b0 b1 (sok_of (by decide +kernel)) (sok_of (by decide +kernel))
      have sg : Same H2 (upd H2 g (.lst [.str "code", .str "data"])) := same_upd hg
      obtain ⟨nm, hnm, inm⟩ := str_at (ns := ns) (i := 1 + (0 + (i : Nat))) (by omega) (by omega)
      refine ⟨g, _, _, _, rfl, rfl, upd_same, hkd, _, rfl, _, rfl, _, _, rfl, rfl, a, _, _, _, rfl, rfl, sg _ _ (sm2 _ _ ha), hnm, ?_⟩
      refine ⟨_, rfl, _, _, rfl, rfl, ⟨by decide, by decide⟩, mo0, fun u2 _ _ => ⟨_, _, rfl, rfl, by decide, fun b2 _ _ => ⟨rfl, _, rfl, (by show 4 ≤ sizeLine; decide), fun p hp => ?_⟩⟩⟩
      have sp := same_upd (o := .tup [.str kd, .str nm, .bl (decide (V.int b2 = V.int 1)), .ref D]) hp
      have s3 := sg.trans sp
      have pL : p ≠ L := by
        refine (ne_of_none (sg _ _ (s2 _ _ eL)) hp).symm
      refine ⟨L, _, _, rfl, rfl, s3 _ _ (s2 _ _ eL), ?_, _, _, _, ts ++ [p], ss ++ [⟨kd, nm, decide (V.int b2 = V.int 1), rs⟩], rfl, by simp [el], fun x hx => ?_, same_over (sm2.trans s3) hL, by rw [upd_same, List.map_append]; rfl, ?_⟩
      · rw [List.length_map, qs.length, el]
        exact small1000 (by omega)
      · rcases List.mem_append.mp hx with z | z
        · exact hss x z
        · rw [List.mem_singleton.mp z]
          exact ⟨lr, okd, hok _ inm⟩
      · exact sec_snoc (s := ⟨kd, nm, decide (V.int b2 = V.int 1), rs⟩) qs (same_stay (s2.trans s3)) (fun z => z.1 rfl) ⟨LD, hD'⟩ ⟨pL, sm2.free (sg.free hp)⟩ upd_same (s3 _ _ eD)
    rintro st Hs ⟨v5, v6, v7, ts, ss, rfl, el, hss, ss1, eL, qs⟩
    -- the wants
    refine ⟨_, rfl, 10, rfl, _, rfl, _, _, rfl, rfl, ⟨by decide, by decide⟩, n0, fun u1 _ _ => ⟨_, _, rfl, rfl, by decide, fun r r0 r1 => ⟨_, _, rfl, rfl, _, rfl, a, _, rfl, SqL.of (ss1 _ _ ha), fun W hW => ?_⟩⟩⟩
    obtain ⟨ws, hws, iws, lws⟩ := cut_strs ns (some 10) (some (10 + r))
    rw [hws]
    have lws24 : ws.length ≤ 24 := by omega
    have sW : Same Hs (upd Hs W (.lst (ws.map V.str))) := same_upd hW
    refine ⟨Nat.zero_le _, fun Lp hLp => ?_⟩
    have WLp : W ≠ Lp := ne_of_none upd_same hLp
    have Lp0 : H Lp = none := (ss1.trans sW).free hLp
    -- the places
    refine ⟨_, rfl, _, _, rfl, rfl, ⟨by decide, by decide⟩, n0, fun u2 _ _ => ⟨_, _, rfl, rfl, by decide, fun g g0 g1 => ⟨g, rfl, by omega, by omega, ?_⟩⟩⟩
    refine for_range (lo := 0) (n := g.toNat) (fun i st H' => ∃ (v5 v6 v10 : Option V) (us : List Addr) (ps : List Plc), st = [some (.int c), some (.ref a), some (.int n), some (.int (1 + m)), some (.ref L), v5, v6, v7, some (.ref W), some (.ref Lp), v10, none] ∧
      ps.length = i ∧ (∀ x ∈ ps, SOk x.way ∧ SOk x.name) ∧ Same (upd Hs W (.lst (ws.map V.str))) H' ∧ H' Lp = some (.lst (us.map V.ref)) ∧ Paired (PlcAt (fun b => b ≠ Lp ∧ H b = none) H') us ps)
      ⟨v5, v6, none, [], [], rfl, rfl, (fun _ h => nomatch h), same_upd hLp, upd_same, .nil⟩ ?_ ?_
    · rintro i st H' hi ⟨v5, v6, v10, us, ps, rfl, el2, hps, sm, eLp, qp⟩
      have sH : Same H H' := (ss1.trans sW).trans sm
      refine ⟨_, rfl, _, rfl, _, _, rfl, rfl, c, _, rfl, ⟨by omega, by omega⟩, fun mo mo0 mo1 => ?_⟩
      refine ⟨_, rfl, 1, rfl, _, rfl, _, _, rfl, rfl, _, rfl, a, _, rfl, SqL.of (sH _ _ ha), fun Y hY => ?_⟩
      obtain ⟨ys, hys, iys, lys⟩ := cut_strs ns (some 1) (some (1 + (1 + m)))
      rw [hys]
      obtain ⟨M, hM⟩ := Int.eq_ofNat_of_zero_le (show (0 : Int) ≤ 1 + (1 + m) by omega)
      have lys2 : (ys.length : Int) = 1 + m := by
        rw [lys, h24, hM, HT.sIx_nat 24 24 M, show HT.sIx 24 0 (some 1) = 1 from rfl]
        omega
      have sY : Same H' (upd H' Y (.lst (ys.map V.str))) := same_upd hY
      refine ⟨_, rfl, Y, W, _, _, rfl, rfl, upd_same, sY _ _ (sm _ _ upd_same), ?_, fun Z hZ => ?_⟩
      · rw [List.length_map, List.length_map]
        exact Nat.le_trans (by omega : ys.length + ws.length ≤ 1000) (by decide)
      rw [← List.map_append]
      have sZ : Same (upd H' Y (.lst (ys.map V.str))) (upd (upd H' Y (.lst (ys.map V.str))) Z (.lst ((ys ++ ws).map V.str))) := same_upd hZ
      refine ⟨_, rfl, _, _, rfl, rfl, ⟨by decide, by decide⟩, mo0, fun u3 _ _ => ⟨_, rfl, _, rfl, W, _, rfl, .inl (SqL.of ((sY.trans sZ) _ _ (sm _ _ upd_same))), _, _, rfl, rfl, _, _, rfl, rfl, ?_, fun e e0 e1 => ?_⟩⟩
      · show (0 : Int) < (1 + m) + ((ws.map V.str).length : Int)
        omega
      rw [List.length_map] at e1
      obtain ⟨nm, hnm, inm⟩ := str_at (ns := ys ++ ws) (i := e) e0 (by rw [List.length_append]; omega)
      have onm : SOk nm := by
        rcases List.mem_append.mp inm with z | z
        · exact hok _ (iys _ z)
        · exact hok _ (iws _ z)
      refine ⟨Z, _, _, _, rfl, rfl, upd_same, hnm, ?_⟩
      -- the tuple
      have s4 := sY.trans sZ
      refine ⟨_, rfl, .inl ⟨rfl, _, SqL.of (s4 _ _ eLp)⟩, _, rfl, _, rfl, _, _, rfl, rfl, (show (0 : Int) < 1 + m by omega), fun w1 _ _ => ⟨_, rfl, _, _, rfl, rfl, ⟨by decide, by decide⟩, mo0, fun u4 _ _ => ⟨_, _, rfl, rfl, by decide, fun w2 _ _ => ⟨(by show 2 ≤ sizeLine; decide), fun B hB => ?_⟩⟩⟩⟩
      refine ⟨_, rfl, _, _, rfl, rfl, ⟨by decide, by decide⟩, mo0, fun u5 _ _ => ⟨_, _, rfl, rfl, by decide, fun w3 w30 w31 => ?_⟩⟩
      obtain ⟨wy, hwy, owy⟩ := two_ix (a := "near") (b := "far") w30 w31 (sok_of (by decide +kernel)) (sok_of (by decide +kernel))
      have sB := same_upd (o := .lst [.str "near", .str "far"]) hB
      refine ⟨B, _, _, _, rfl, rfl, upd_same, hwy, _, rfl, _, rfl, _, _, rfl, rfl, ⟨by decide, by decide⟩, mo0, fun u6 _ _ => ⟨_, _, rfl, rfl, by decide, fun w4 _ _ => ⟨_, _, rfl, rfl, (by show 5 ≤ sizeLine; decide), fun p hp => ?_⟩⟩⟩
      have sp := same_upd (o := .tup (plcV ⟨w1, w2, wy, nm, 1 + w4⟩)) hp
      have s5 := s4.trans (sB.trans sp)
      have pLp : p ≠ Lp := (ne_of_none ((s4.trans sB) _ _ eLp) hp).symm
      refine ⟨Lp, _, _, rfl, rfl, s5 _ _ eLp, ?_, _, _, _, us ++ [p], ps ++ [⟨w1, w2, wy, nm, 1 + w4⟩], rfl, by simp [el2], fun x hx => ?_, same_over (sm.trans s5) hLp, by rw [upd_same, List.map_append]; rfl, ?_⟩
      · rw [List.length_map, qp.length, el2]
        exact small1000 (by omega)
      · rcases List.mem_append.mp hx with z | z
        · exact hps x z
        · rw [List.mem_singleton.mp z]
          exact ⟨owy, onm⟩
      · have kk : Stay (fun b => b ≠ Lp ∧ H b = none) H' _ := (same_stay s5).trans (stay_at (o := .lst (us.map V.ref ++ [V.ref p])) fun z => z.1 rfl)
        refine PySem.Paired.snoc (L2.Paired.mapP qp fun _ _ z => z.stay kk) ⟨⟨pLp, sH.free ((s4.trans sB).free hp)⟩, ?_⟩
        rw [upd_ne pLp]
        exact upd_same
    -- the end
    rintro st Hq ⟨w5, w6, v10, us, ps, rfl, el2, hps, sm, eLp, qp⟩
    have sH : Same H Hq := (ss1.trans sW).trans sm
    obtain ⟨nm, hnm, inm⟩ := str_at (ns := ns) (i := 0) (by omega) (by omega)
    refine ⟨_, rfl, a, _, 0, _, rfl, rfl, sH _ _ ha, hnm, _, rfl, _, rfl, _, rfl, (by show 5 ≤ sizeLine; decide), fun t ht => ?_⟩
    have st := same_upd (o := .tup [.str "part", .str nm, .ref L, .ref W, .ref Lp]) ht
    have sl := sm.trans st
    refine q _ t ⟨nm, ss, ws, ps⟩ (sH.trans st) ⟨sH.free ht, L, W, Lp, upd_same, ⟨hL, ts, (sW.trans sl) _ _ eL, ?_⟩, ⟨ss1.free hW, sl _ _ upd_same⟩, ⟨Lp0, us, st _ _ eLp, ?_⟩⟩ ⟨?_, fun x hx => (hss x hx).1, lws24, ?_, hok _ inm, fun x hx => (hss x hx).2, fun x hx => hok _ (iws x hx), hps⟩
    · exact L2.Paired.mapP qs fun _ _ z => (z.stay (same_stay (sW.trans sl))).mono fun _ n => n.2
    · exact L2.Paired.mapP qp fun _ _ z => ⟨z.1.2, st _ _ z.2⟩
    · show ss.length ≤ 6
      omega
    · show ps.length ≤ 5
      omega
end
end KP

namespace KP
open PySem PySem.Spec PyProof.Rows L2
/-- what stands behind H2, but the lists that were new before it -/
def Kpr (H H1 H2 H' : Hp) : Prop := ∀ b o, (NL H1 b ∨ H b ≠ none) → H2 b = some o → H' b = some o
section
variable {H H1 H2 H' : Hp} {p : Addr} {o : HO} {xs : List V}
theorem kpr_new (k : Kpr H H1 H2 H') (h : H' p = none) : Kpr H H1 H2 (upd H' p o) := fun b x n e => by
  have q := k b x n e
  rw [upd_ne (ne_of_none q h)]
  exact q
theorem kpr_at (k : Kpr H H1 H2 H') (h : H p = none) (h1 : H1 p = some (.lst xs)) : Kpr H H1 H2 (upd H' p o) := fun b x n e => by
  rw [upd_ne (fun q => by
    rw [q] at n
    rcases n with n | n
    · exact n xs h1
    · exact n h)]
  exact k b x n e
end
theorem ixN_zero {n : Nat} (h : 0 < n) : ixN n 0 = some 0 := by
  unfold ixN
  rw [if_pos (by decide), if_pos (by omega)]
  rfl
/-- a row that may be changed -/
def RowAt (H H1 H' : Hp) (D W L : Addr) (n : Nat) (u : Addr) : Prop := ∃ (s : Sec) (r : Addr), H' u = some (.tup (secV s r)) ∧ H r = none ∧ (∃ xs, H1 r = some (.lst xs)) ∧ r ≠ D ∧ r ≠ W ∧ r ≠ L ∧ ∃ ms : List Int, ms.length ≤ n ∧ H' r = some (.lst (ms.map V.int))
theorem RowAt.keep {H H1 H' : Hp} {D W L : Addr} {n m : Nat} {u r : Addr} {ms : List Int} (x : RowAt H H1 H' D W L n u) (hn : n ≤ m) (hm : ms.length ≤ m) {xs : List V} (hr : H' r = some (.lst xs)) : RowAt H H1 (upd H' r (.lst (ms.map V.int))) D W L m u := by
  obtain ⟨s, q, h1, h2, h3, h4, h5, h6, ns, h7, h8⟩ := x
  refine ⟨s, q, by rw [upd_ne (ne_of h1 hr (fun z => by cases z))]; exact h1, h2, h3, h4, h5, h6, ?_⟩
  by_cases e : q = r
  · subst e
    exact ⟨ms, hm, upd_same⟩
  · exact ⟨ns, Nat.le_trans h7 hn, by rw [upd_ne e]; exact h8⟩
section
variable {P : Program} {w : World} {K : PySem.W.Frag} {mg : Str → Option Value} {base : Heap} {C f : Addr} {fd : FuncData}
/-! ### a part by hand; what was handed in is changed -/
def spMade (C : Addr) : Sp := fun vs H Q _ => ∃ (t : Addr) (d : Dat), vs = [.ref t] ∧ DueAt Any H t d ∧ Fit d ∧ ∀ (H' : Hp) (x : Addr), Same H H' → PartAt (NL H) C H' x d → Q (.ref x) H'
abbrev NG : List Str := ["_law_due_here", "_law_section", "_law_sections", "_law_wants", "_law_places", "_law_made_here"]
theorem scMade : FnScope NG ["_law_due_here"] (defScope sMade) := ⟨rfl, rfl, rfl, by decide +kernel, rfl, by decide +kernel, by decide +kernel⟩
theorem ok_made {fI : Addr} {fdI : FuncData} (F : Fun K "_law_made" "_law_made" sMade f fd) (T : Tx K mg C) (M : Mk K C fI) (FI : Fun K "__init__" "Part.__init__" sInit fI fdI) (bI : Binds K fdI ["self", "name", "sections", "wants", "places"] []) :
    FnOk P w K mg base CX0 3 f fd ["_law_due_here"] (spMade C) := by
  have GI : FnOk P w K mg base CX0 1 fI fdI ["self", "name", "sections", "wants", "places"] (spInit C) := ok_init FI T
  refine F.ok scMade (fun vs H Q E h => ?_) (fun cdv A outer s H vs Q E hr h => ?_)
  · obtain ⟨t, d, rfl, _⟩ := h
    rfl
  · obtain ⟨t, d, rfl, ⟨_, ls, lw, lp, ht, ⟨_, ts, hls, qs⟩, ⟨_, hlw⟩, ⟨_, us, hlp, qp⟩⟩, fit, k⟩ := h
    have nd := scMade.nd
    refine ⟨_, pss_cons (ps_setLc (i := 2) (own := [("_law_section", 1)]) rfl nd rfl rfl (sw_true rfl rfl rfl (by decide +kernel)) (pi_list (pe_ix ix_tupT (pv 0) pe_int (fun _ _ => rfl))) (blkOk_by (N := NG) (sc := defScope sMade) (by decide +kernel))
        (fun _ _ _ _ _ => pg_name (i := 1) nd rfl (Or.inl rfl)) (fun _ _ _ _ _ => pts_nil)
        (fun _ _ _ _ _ => pe_op op_catTT (pe_slice sl_tupT (pv 1) po_none (po_some pe_int)) (pe_tup (pa_cons (pe_callTy call_listT (by rfl) T.list (by decide +kernel) (pa_cons (pe_ix ix_tupT (pv 1) pe_int (fun _ _ => rfl)) pa_nil)) pa_nil))))
      (pss_cons (ps_set (i := 3) nd rfl (Or.inl rfl) (pe_callTy call_listT (by rfl) T.list (by decide +kernel) (pa_cons (pe_ix ix_tupT (pv 0) pe_int (fun _ _ => rfl)) pa_nil)))
      (pss_cons (ps_set (i := 4) nd rfl (Or.inl rfl) (pe_callTy call_listT (by rfl) T.list (by decide +kernel) (pa_cons (pe_ix ix_tupT (pv 0) pe_int (fun _ _ => rfl)) pa_nil)))
      (pss_cons (ps_set (i := 5) nd rfl (Or.inl rfl) (pe_make M GI hr (by rfl) T.mgC bI .nil pass0 (pa_cons (pe_ix ix_tupT (pv 0) pe_int (fun _ _ => rfl)) (pa_cons (pv 2) (pa_cons (pv 3) (pa_cons (pv 4) pa_nil))))))
      (pss_cons (ps_for PassesOwn.never rfl (pi_list (pv 2)) (pg_name (i := 1) nd rfl (Or.inl rfl))
        (pss_cons (ps_expr (pe_bm PySem.F.plainAttrs_list PySem.F.slot_list_append PySem.F.type_list_append mt_append (pe_ix ix_tupT (pv 1) pe_int (fun _ _ => rfl)) (pa_cons pe_int pa_nil)))
        (pss_one (ps_asg pe_int (pg_sub (pe_ix ix_tupT (pv 1) pe_int (fun _ _ => rfl)) pe_int set_list)))))
      (pss_cons (ps_expr (pe_bm PySem.F.plainAttrs_list PySem.F.slot_list_append PySem.F.type_list_append mt_append (pv 2) (pa_cons (pe_tup (pa_cons pe_str (pa_cons pe_str (pa_cons pe_bl (pa_cons (pe_lst (pa_cons pe_int pa_nil)) pa_nil))))) pa_nil)))
      (pss_cons (ps_expr (pe_bm PySem.F.plainAttrs_list PySem.F.slot_list_append PySem.F.type_list_append mt_append (pv 3) (pa_cons pe_str pa_nil)))
      (pss_cons (ps_expr (pe_bm PySem.F.plainAttrs_list PySem.F.slot_list_append PySem.F.type_list_append mt_append (pv 4) (pa_cons (pe_tup (pa_cons pe_int (pa_cons pe_int (pa_cons pe_str (pa_cons pe_str (pa_cons pe_int pa_nil)))))) pa_nil)))
      (pss_one (ps_ret (pv 5)))))))))), ?_⟩
    -- the sections, copied
    refine ⟨_, rfl, t, _, 2, .ref ls, rfl, rfl, ht, rfl, ls, rfl, ⟨_, SqL.of hls⟩, fun D hD => ?_⟩
    refine lc_list (K := K) (a := ls) (xs := ts.map V.ref) (fun i H' => Same H H' ∧ ∃ vs : List Addr, vs.length = i ∧ H' D = some (.lst (vs.map V.ref)) ∧ Paired (SecAt (fun b => b ≠ D ∧ H b = none) H') vs (d.secs.take i))
      ⟨same_upd hD, [], rfl, upd_same, .nil⟩ (fun i H' _ q => SqL.of (q.1 _ _ hls)) ?_ ?_
    · rintro i y H' hi ⟨sm, vs, eu, eD, q'⟩
      obtain ⟨t', hit, rfl⟩ := map_get hi
      obtain ⟨sc, hsc, _, r, _, ht1, hr'⟩ := pr_get qs hit
      have ht' := sm _ _ ht1
      have hr2 := sm _ _ hr'
      refine ⟨rfl, _, rfl, 3, rfl, t', secV sc r, rfl, ht', cut3_no sc r, fun a ha => ?_⟩
      refine ⟨_, rfl, t', secV sc r, 3, .ref r, rfl, rfl, same_upd ha _ _ ht', rfl, r, _, rfl, same_upd ha _ _ hr2, fun l hl => ⟨(by show 1 ≤ sizeLine; decide), fun b hb => ?_⟩⟩
      refine ⟨a, b, cutV (secV sc r) none (some 3), [.ref l], rfl, rfl, ((same_upd hl).trans (same_upd hb)) _ _ upd_same, upd_same, (by rw [cut3]; simp), (by simp), (by show 3 + 1 ≤ 1000; decide), fun p hp => ?_⟩
      obtain ⟨sm2, hl0, hp0, hl3⟩ := copy_heap (s := sc) ha hl hb hp
      have il : i < sizeLine := small1000 (by
        have h1 := (List.getElem?_eq_some_iff.mp hsc).1
        have h2 := fit.secs
        omega)
      refine ⟨_, sm2 _ _ eD, by rw [List.length_map, eu]; exact il, same_over (sm.trans sm2) hD, vs ++ [p], by simp [eu], by rw [upd_same, List.map_append]; rfl, ?_⟩
      rw [take_snoc hsc]
      exact sec_snoc q' (same_stay sm2) (fun n => n.1 rfl) ⟨(ne_of_none eD hl0).symm, sm.free hl0⟩ ⟨(ne_of_none eD hp0).symm, sm.free hp0⟩ upd_same hl3
    rintro Hb ⟨sb, vs, eu, eDb, qb⟩
    rw [List.length_map, qs.length, List.take_length] at qb
    -- the wants, the places, the part
    refine ⟨_, rfl, t, _, 3, .ref lw, rfl, rfl, sb _ _ ht, rfl, lw, _, rfl, sb _ _ hlw, fun W hW => ?_⟩
    have sW := same_upd (o := .lst (d.wants.map V.str)) hW
    refine ⟨_, rfl, t, _, 4, .ref lp, rfl, rfl, sW _ _ (sb _ _ ht), rfl, lp, _, rfl, sW _ _ (sb _ _ hlp), fun Lp hLp => ?_⟩
    have sL := same_upd (o := .lst (us.map V.ref)) hLp
    have sbW := sb.trans sW
    have s1 := sbW.trans sL
    generalize hH1 : upd (upd Hb W (.lst (d.wants.map V.str))) Lp (.lst (us.map V.ref)) = H1 at s1 sL
    have hL1 : H1 Lp = some (.lst (us.map V.ref)) := by
      rw [← hH1]
      exact upd_same
    have hW1 : H1 W = some (.lst (d.wants.map V.str)) := sL _ _ upd_same
    have hD1 : H1 D = some (.lst (vs.map V.ref)) := (sW.trans sL) _ _ eDb
    have W0 : H W = none := sb.free hW
    have L0 : H Lp = none := sbW.free hLp
    have DW : D ≠ W := ne_of_none eDb hW
    have DL : D ≠ Lp := ne_of_none (sW _ _ eDb) hLp
    have WL : W ≠ Lp := ne_of_none upd_same hLp
    refine ⟨_, rfl, t, _, 1, .str d.name, rfl, rfl, s1 _ _ ht, rfl, _, rfl, _, rfl, _, rfl, fun x dx hx hdx hne => ?_⟩
    refine ⟨H1, x, dx, d, D, W, Lp, rfl, (same_upd hdx).trans (same_upd (by rw [upd_ne hne.symm]; exact hx)), hx, upd_same, ⟨True.intro, vs, hD1, L2.Paired.mapP qb fun _ _ z => z.any.stay (same_stay (sW.trans sL))⟩, ⟨True.intro, hW1⟩, ⟨True.intro, us, hL1, L2.Paired.mapP qp fun _ _ z => z.stay (same_stay s1)⟩, fit, fun H2 s2 hP => ⟨rfl, ?_⟩⟩
    -- the rows change
    have rows0 : ∀ u ∈ vs, RowAt H H1 H2 D W Lp 9 u := fun u hu => by
      obtain ⟨j, hj, rfl⟩ := List.getElem_of_mem hu
      obtain ⟨sc, hsc, _, r, ⟨nD, nr⟩, h1, h2⟩ := pr_get qb (List.getElem?_eq_getElem hj)
      have k2 := (sW.trans sL).trans s2
      exact ⟨sc, r, k2 _ _ h1, nr, ⟨_, (sW.trans sL) _ _ h2⟩, nD, ne_of_none h2 hW, ne_of_none (sW _ _ h2) hLp, sc.row, fit.rows sc (List.mem_of_getElem? hsc), k2 _ _ h2⟩
    refine ⟨_, rfl, D, rfl, ⟨_, SqL.of (s2 _ _ hD1)⟩, for_list (K := K) (a := D) (xs := vs.map V.ref) (fun i st H' => (∃ v1, st = [some (.ref t), v1, some (.ref D), some (.ref W), some (.ref Lp), some (.ref x)]) ∧ Kpr H H1 H2 H' ∧ H' D = some (.lst (vs.map V.ref)) ∧ H' W = some (.lst (d.wants.map V.str)) ∧ H' Lp = some (.lst (us.map V.ref)) ∧ ∀ u ∈ vs, RowAt H H1 H' D W Lp (9 + i) u)
      ⟨⟨none, rfl⟩, fun _ _ _ e => e, s2 _ _ hD1, s2 _ _ hW1, s2 _ _ hL1, rows0⟩ (fun i st H' _ q => SqL.of q.2.2.1) ?_ ?_⟩
    · rintro i y st H' hi ⟨⟨v1, rfl⟩, kp, eD, eW, eL, rows⟩
      obtain ⟨u, hu, rfl⟩ := map_get hi
      have i6 : i < 6 := by
        have h1 := (List.getElem?_eq_some_iff.mp hu).1
        have h2 := qb.length
        have h3 := fit.secs
        omega
      obtain ⟨sc, r, g1, g2, ⟨xs, g3⟩, g4, g5, g6, ms, g7, g8⟩ := rows u (List.mem_of_getElem? hu)
      have ur : u ≠ r := ne_of g1 g8 (fun z => by cases z)
      refine ⟨_, rfl, u, _, 3, .ref r, rfl, rfl, g1, rfl, .inl ⟨rfl, _, SqL.of g8⟩, r, _, _, rfl, rfl, g8, by rw [List.length_map]; exact small1000 (by omega), ?_⟩
      refine ⟨_, rfl, u, _, 3, .ref r, rfl, rfl, by rw [upd_ne ur]; exact g1, rfl, r, _, 0, 0, rfl, rfl, upd_same, ixN_zero (by simp), ?_⟩
      rw [upd_upd, show (ms.map V.int ++ [V.int 7]).set 0 (V.int 300) = ((ms ++ [7]).set 0 300).map V.int by rw [List.map_set, List.map_append]; rfl]
      refine ⟨⟨_, rfl⟩, kpr_at kp g2 g3, by rw [upd_ne g4.symm]; exact eD, by rw [upd_ne g5.symm]; exact eW, by rw [upd_ne g6.symm]; exact eL, fun v hv => (rows v hv).keep (by omega) ?_ g8⟩
      rw [List.length_set, List.length_append, List.length_singleton]
      omega
    rintro st H3 ⟨⟨v1, rfl⟩, kp, eD, eW, eL, rows⟩
    -- the lists grow
    refine ⟨_, rfl, .inl ⟨rfl, _, SqL.of eD⟩, (by show 1 ≤ sizeLine; decide), fun g hg => ⟨(by show 4 ≤ sizeLine; decide), fun p hp => ?_⟩⟩
    have sg := same_upd (o := .lst [.int 0]) hg
    have sp := same_upd (o := .tup [.str "data", .str "zz", .bl true, .ref g]) hp
    have s3 := sg.trans sp
    have k3 := kpr_new (o := .tup [.str "data", .str "zz", .bl true, .ref g]) (kpr_new (o := .lst [.int 0]) kp hg) hp
    refine ⟨D, _, _, rfl, rfl, s3 _ _ eD, ?_, ?_⟩
    · rw [List.length_map, qb.length]
      exact small1000 (by have := fit.secs; omega)
    have k4 := kpr_at (o := .lst (vs.map V.ref ++ [V.ref p])) k3 hD hD1
    have eW4 : (upd (upd (upd H3 g (.lst [.int 0])) p (.tup [.str "data", .str "zz", .bl true, .ref g])) D (.lst (vs.map V.ref ++ [V.ref p]))) W = some (.lst (d.wants.map V.str)) := by
      rw [upd_ne DW.symm]
      exact s3 _ _ eW
    have eL4 : (upd (upd (upd H3 g (.lst [.int 0])) p (.tup [.str "data", .str "zz", .bl true, .ref g])) D (.lst (vs.map V.ref ++ [V.ref p]))) Lp = some (.lst (us.map V.ref)) := by
      rw [upd_ne DL.symm]
      exact s3 _ _ eL
    refine ⟨_, rfl, .inl ⟨rfl, _, SqL.of eW4⟩, W, _, _, rfl, rfl, eW4, ?_, ?_⟩
    · rw [List.length_map]
      exact small1000 (by have := fit.wants; omega)
    have k5 := kpr_at (o := .lst (d.wants.map V.str ++ [V.str "zz"])) k4 W0 hW1
    refine ⟨_, rfl, .inl ⟨rfl, _, SqL.of (by rw [upd_ne WL.symm]; exact eL4)⟩, (by show 5 ≤ sizeLine; decide), fun q hq => ⟨Lp, _, _, rfl, rfl, same_upd hq _ _ (by rw [upd_ne WL.symm]; exact eL4), ?_, ?_⟩⟩
    · rw [List.length_map, qp.length]
      exact small1000 (by have := fit.places; omega)
    have k6 := kpr_at (o := .lst (us.map V.ref ++ [V.ref q])) (kpr_new (o := .tup [.int 0, .int 0, .str "far", .str "zz", .int 1]) k5 hq) L0 hL1
    refine ⟨_, rfl, k _ x (fun b o e => k6 b o (.inr (by rw [e]; exact fun z => nomatch z)) (s2 _ _ (s1 _ _ e))) ?_⟩
    exact (hP.stay fun b o n e => k6 b o (.inl n) e).mono fun b n xs e => n xs (s1 _ _ e)
end
end KP

namespace KP
open PySem PySem.Spec PyProof.Rows L2
/-- what was held: pairs of equal lists of texts, apart from the holder -/
def PairAt (H : Hp) (hd h : Addr) : Prop := h ≠ hd ∧ ∃ (f c : Addr) (ys : List Str), f ≠ hd ∧ c ≠ hd ∧ H h = some (.tup [.ref f, .ref c]) ∧ H f = some (.lst (ys.map V.str)) ∧ H c = some (.lst (ys.map V.str)) ∧ ∀ y ∈ ys, SOk y
def HeldAt (H : Hp) (hd : Addr) (n : Nat) : Prop := ∃ hs : List Addr, hs.length = n ∧ H hd = some (.lst (hs.map V.ref)) ∧ ∀ h ∈ hs, PairAt H hd h
theorem PairAt.keep {H H' : Hp} {hd h : Addr} (x : PairAt H hd h) (k : ∀ b o, b ≠ hd → H b = some o → H' b = some o) : PairAt H' hd h := by
  obtain ⟨n, f, c, ys, nf, nc, h1, h2, h3, ok⟩ := x
  exact ⟨n, f, c, ys, nf, nc, k _ _ n h1, k _ _ nf h2, k _ _ nc h3, ok⟩
/-- flat texts -/
theorem flat_strs : ∀ ys : List Str, (ys.map V.str).all flatV = true
  | [] => rfl
  | y :: r => by
    rw [List.map_cons, List.all_cons, flat_strs r]
    rfl
theorem inV_strs (nm : Str) : ∀ ys : List Str, inV (.str nm) (ys.map V.str) = decide (nm ∈ ys)
  | [] => by simp [inV]
  | y :: r => by
    have ih := inV_strs nm r
    have e0 : inV (.str nm) ((y :: r).map V.str) = ((y == nm) || inV (.str nm) (r.map V.str)) := rfl
    rw [e0, ih]
    by_cases e : y = nm
    · subst e
      simp
    · have e2 : nm ≠ y := fun z => e z.symm
      simp [e, e2]
section
variable {X : Cx}
theorem op_inT : OpR X (compareOp .In) (fun x y H Q => ∃ (p : Addr) (ys : List Str) (nm : Str), x = .str nm ∧ y = .ref p ∧ H p = some (.lst (ys.map V.str)) ∧ (nm ∈ ys → Q (.bl true) H) ∧ (nm ∉ ys → Q (.bl false) H)) := opr_w op_in_seq fun x y H Q q => by
  obtain ⟨p, ys, nm, rfl, rfl, h, q1, q2⟩ := q
  refine ⟨p, _, rfl, .inl (SqL.of h), rfl, flat_strs ys, ?_⟩
  show Q (.bl (inV (.str nm) (ys.map V.str))) H
  rw [inV_strs]
  by_cases e : nm ∈ ys
  · rw [decide_eq_true e]
    exact q1 e
  · rw [decide_eq_false e]
    exact q2 e
theorem op_notInT : OpR X (compareOp .NotIn) (fun x y H Q => ∃ (p : Addr) (ys : List Str) (nm : Str), x = .str nm ∧ y = .ref p ∧ H p = some (.lst (ys.map V.str)) ∧ (nm ∈ ys → Q (.bl false) H) ∧ (nm ∉ ys → Q (.bl true) H)) := opr_w op_notIn_seq fun x y H Q q => by
  obtain ⟨p, ys, nm, rfl, rfl, h, q1, q2⟩ := q
  refine ⟨p, _, rfl, .inl (SqL.of h), rfl, flat_strs ys, ?_⟩
  show Q (.bl (!inV (.str nm) (ys.map V.str))) H
  rw [inV_strs]
  by_cases e : nm ∈ ys
  · rw [decide_eq_true e]
    exact q1 e
  · rw [decide_eq_false e]
    exact q2 e
end
theorem n_names : ¬ (("names" : Str) = "name") ∧ ¬ (("names" : Str) = "sections") ∧ ¬ (("names" : Str) = "wants") ∧ ¬ (("names" : Str) = "places") := by decide +kernel
theorem n_place : ¬ (("place_of" : Str) = "name") ∧ ¬ (("place_of" : Str) = "sections") ∧ ¬ (("place_of" : Str) = "wants") ∧ ¬ (("place_of" : Str) = "places") := by decide +kernel
theorem shown_ok {d : Dat} (h : Fit d) {ys : List Str} (p : ys.Perm (shown d)) : ∀ y ∈ ys, SOk y := fun y hy => by
  have hy := p.mem_iff.mp hy
  obtain ⟨s, hs, rfl⟩ := List.mem_map.mp hy
  exact (h.okS s (List.mem_filter.mp hs).1).2
theorem shown_len (d : Dat) : (shown d).length ≤ d.secs.length := by
  unfold shown
  rw [List.length_map]
  exact List.length_filter_le _ _
theorem more_ok : SOk ("more" : Str) := sok_of (by decide +kernel)
section
variable {P : Program} {w : World} {K : PySem.W.Frag} {mg : Str → Option Value} {base : Heap} {C f : Addr} {fd : FuncData}
/-! ### a part is right -/
def spRight (C : Addr) : Sp := fun vs H Q _ => ∃ (x t a hd : Addr) (d : Dat) (ns : List Str) (n : Nat), vs = [.ref x, .ref t, .ref a, .ref hd] ∧ PartAt (fun b => b ≠ hd) C H x d ∧ DueAt (fun b => b ≠ hd) H t d ∧ Fit d ∧ a ≠ hd ∧ H a = some (.lst (ns.map V.str)) ∧ ns.length = 24 ∧
  HeldAt H hd n ∧ n ≤ 100 ∧ ∀ H' : Hp, (∀ b o, b ≠ hd → H b = some o → H' b = some o) → HeldAt H' hd (n + 1) → Q (.bl true) H'
abbrev NR : List Str := ["_law_made_here", "_law_due_here", "_law_names_here", "_law_held", "_law_found", "_law_own", "_law_name", "_law_place", "_law_section"]
theorem scRight : FnScope NR ["_law_made_here", "_law_due_here", "_law_names_here", "_law_held"] (defScope sRight) := ⟨rfl, rfl, rfl, by decide +kernel, rfl, by decide +kernel, by decide +kernel⟩
theorem ok_right {fT fW fN fP : Addr} {fdT fdW fdN fdP : FuncData} (F : Fun K "_law_right" "_law_right" sRight f fd) (T : Tx K mg C)
    (GT : FnOk P w K mg base CX0 3 fT fdT ["_law_part"] (spTold C)) (kT : PySem.W.keepIn K (.ref fT) = true) (bT : Binds K fdT ["_law_part"] []) (gT : mg "_law_told" = some (.ref fT))
    (FW : Fun K "_law_whole" "_law_whole" sWhole fW fdW) (bW : Binds K fdW ["_law_found"] []) (gW : mg "_law_whole" = some (.ref fW))
    (FN : Fun K "names" "Part.names" sNms fN fdN) (bN : Binds K fdN ["self"] []) (mN : Meth K C "names" fN)
    (FP : Fun K "place_of" "Part.place_of" sPlace fP fdP) (bP : Binds K fdP ["self", "name"] []) (mP : Meth K C "place_of" fP) :
    FnOk P w K mg base CX0 4 f fd ["_law_made_here", "_law_due_here", "_law_names_here", "_law_held"] (spRight C) := by
  have GW : FnOk P w K mg base CX0 1 fW fdW ["_law_found"] spWhole := ok_whole FW T
  have GN : FnOk P w K mg base CX0 1 fN fdN ["self"] (spNms C) := ok_nms FN T
  have GP : FnOk P w K mg base CX0 1 fP fdP ["self", "name"] (spPlace C) := ok_place FP T
  refine F.ok scRight (fun vs H Q E h => ?_) (fun cdv A outer s H vs Q E hr h => ?_)
  · obtain ⟨x, t, a, hd, d, ns, n, rfl, _⟩ := h
    rfl
  · obtain ⟨x, t, a, hd, d, ns, n, rfl, hP, hDu, fit, nahd, ha, h24, hH, hn, k⟩ := h
    have nd := scRight.nd
    have hr1 : Room 1 _ := hr.mono (by decide)
    refine ⟨_, pss_cons (ps_if (pt_cmpR (op_neS hr.units) (pe_call GT hr (by rfl) gT kT bT .nil pass0 (pa_cons (pv 0) pa_nil)) (pv 1) (nomark _)) (pss_one (ps_ret pe_bl)) pss_nil)
      (pss_cons (ps_set (i := 4) nd rfl (Or.inl rfl) (pe_meth0 (pv 0) T.cl mN GN hr1 bN .nil pass0))
      (pss_cons (ps_if (PW.pt (pw_or (pt_not (pt_val (pe_isT (m := "list") is_list (by rfl) T.isi (pv 4) (by rfl) T.list (by decide +kernel))))
          (pw_or1 (pt_cmpR (op_neS hr.units) (pv 4) (pe_callB cr_sortedS (by rfl) T.sorted (by decide +kernel) (pa_cons (pe_lc (own := [("_law_section", 8)]) rfl nd (pi_list (pe_ix ix_tupT (pv 1) pe_int (fun _ _ => rfl))) (blkOk_by (N := NR) (sc := defScope sRight) (by decide +kernel))
            (fun _ _ _ _ _ => pg_name (i := 8) nd rfl (Or.inl rfl)) (fun _ _ _ _ _ => pts_one (pt_val (pe_ix ix_tupT (pv 8) pe_int (fun _ _ => rfl)))) (fun _ _ _ _ _ => pe_ix ix_tupT (pv 8) pe_int (fun _ _ => rfl))) pa_nil)) (nomark _)))))
        (pss_one (ps_ret pe_bl)) pss_nil)
      (pss_cons (ps_expr (pe_bm PySem.F.plainAttrs_list PySem.F.slot_list_append PySem.F.type_list_append mt_append (pv 4) (pa_cons pe_str pa_nil)))
      (pss_cons (ps_expr (pe_bm PySem.F.plainAttrs_list PySem.F.slot_list_append PySem.F.type_list_append mt_append (pv 3) (pa_cons (pe_tup (pa_cons (pv 4) (pa_cons (pe_callTy call_listT (by rfl) T.list (by decide +kernel) (pa_cons (pv 4) pa_nil)) pa_nil))) pa_nil)))
      (pss_cons (ps_setLc (i := 5) (own := [("_law_section", 8)]) rfl nd rfl rfl (sw_true rfl rfl rfl (by decide +kernel)) (pi_list (pe_ix ix_tupT (pv 1) pe_int (fun _ _ => rfl))) (blkOk_by (N := NR) (sc := defScope sRight) (by decide +kernel))
        (fun _ _ _ _ _ => pg_name (i := 8) nd rfl (Or.inl rfl)) (fun _ _ _ _ _ => pts_nil) (fun _ _ _ _ _ => pe_ix ix_tupT (pv 8) pe_int (fun _ _ => rfl)))
      (pss_cons (ps_for PassesOwn.never rfl (pi_list (pe_op op_cat (pv 2) (pe_lst (pa_cons pe_str pa_nil)))) (pg_name (i := 6) nd rfl (Or.inl rfl))
        (pss_cons (ps_set (i := 7) nd rfl (Or.inl rfl) (pe_meth (pv 0) T.cl mP GP hr1 bP .nil pass0 (pa_cons (pv 6) pa_nil)))
        (pss_cons (ps_if (PW.pt (pw_and (pt_cmpR op_notInT (pv 6) (pv 5) (by rfl)) (pw_and1 (pt_cmp (pc_notN (pv 7)))))) (pss_one (ps_ret pe_bl)) pss_nil)
        (pss_one (ps_if (PW.pt (pw_and (pt_cmpR op_inT (pv 6) (pv 5) (by rfl)) (pw_and1 (PW.pt (pw_or (pt_not (pt_val (pe_call GW hr1 (by rfl) gW FW.kp bW .nil pass0 (pa_cons (pv 7) pa_nil))))
            (pw_or1 (pt_cmpR op_ne (pv 7) (pe_bm PySem.F.plainAttrs_list PySem.F.slot_list_index PySem.F.type_list_index mt_index (pv 5) (pa_cons (pv 6) pa_nil)) (nomark _)))))))) (pss_one (ps_ret pe_bl)) pss_nil)))))
      (pss_one (ps_ret pe_bl)))))))), ?_⟩
    -- what it tells
    refine ⟨_, rfl, x, d, rfl, hP.any, fit, fun H1 t1 s1 hD1 => ⟨_, rfl, datD d, dp_due hD1, dp_due (hDu.stay (same_stay s1)), dat_shaped fit, _, rfl, ?_⟩⟩
    -- the names
    have hP1 := hP.stay (same_stay s1)
    obtain ⟨_, dx, ls', lw', lp', hx, _⟩ := id hP
    have hx1 := s1 _ _ hx
    refine ⟨_, rfl, x, dx, _, rfl, hx1, pf_no _ _ _ _ n_names.1 n_names.2.1 n_names.2.2.1 n_names.2.2.2, x, d, rfl, hP1.any, fit, fun H2 p ys s2 hp0 hp hperm hsort => ?_⟩
    have okys := shown_ok fit hperm
    have lys : ys.length ≤ 6 := by
      rw [hperm.length_eq]
      exact Nat.le_trans (shown_len d) fit.secs
    have s12 := s1.trans s2
    obtain ⟨_, ls, lw, lp, ht, ⟨_, ts, hls, qs⟩, _⟩ := id hDu
    refine ⟨_, rfl, p, _, rfl, hp, _, rfl, _, rfl, _, rfl, t, _, 2, .ref ls, rfl, rfl, s12 _ _ ht, rfl, ls, rfl, ⟨_, SqL.of (s12 _ _ hls)⟩, fun D hD => ?_⟩
    refine lc_list (K := K) (a := ls) (xs := ts.map V.ref) (fun i H' => Same H2 H' ∧ ∃ zs : List Str, H' D = some (.lst (zs.map V.str)) ∧ zs = ((d.secs.take i).filter (·.shared)).map (·.called))
      ⟨same_upd hD, [], upd_same, rfl⟩ (fun i H' _ q => SqL.of (q.1 _ _ (s12 _ _ hls))) ?_ ?_
    · rintro i y H' hi ⟨sm, zs, eD, ez⟩
      obtain ⟨u, hit, rfl⟩ := map_get hi
      obtain ⟨sc, hsc, _, r, _, hu, hr'⟩ := pr_get qs hit
      have hu' := sm _ _ (s12 _ _ hu)
      have lzs : zs.length ≤ 6 := by
        rw [ez, List.length_map]
        refine Nat.le_trans (List.length_filter_le _ _) ?_
        rw [List.length_take]
        have := fit.secs
        omega
      refine ⟨rfl, _, rfl, u, _, 2, .bl sc.shared, rfl, rfl, hu', rfl, _, rfl, ?_⟩
      rw [take_snoc hsc, List.filter_append, List.map_append, ← ez]
      cases hsh : sc.shared with
      | true =>
        refine ⟨_, rfl, u, _, 1, .str sc.called, rfl, rfl, hu', rfl, _, eD, by rw [List.length_map]; exact small1000 (by omega), same_over sm hD, zs ++ [sc.called], by rw [upd_same, List.map_append]; rfl, ?_⟩
        simp [hsh]
      | false =>
        refine ⟨sm, zs, eD, ?_⟩
        simp [hsh]
    rintro Hb ⟨sb, zs, eD, ez⟩
    rw [List.length_map, qs.length, List.take_length] at ez
    refine ⟨D, zs, rfl, SqL.of eD, ?_, fun ws q hw sw hq => ?_⟩
    · rw [ez]
      exact Nat.lt_of_le_of_lt (Nat.le_trans (shown_len d) fit.secs) (by decide)
    have ew : ws = ys := sort_one (l := shown d) (by rw [ez] at hw; exact hw) hperm sw hsort
    subst ew
    have s3 := sb.trans (same_upd (o := .lst (ws.map V.str)) hq)
    refine ⟨.list (ws.map PyData.str), .lst (SqL.of (s3 _ _ hp)) (dp_strs _), .lst (SqL.of upd_same) (dp_strs _), strs_shaped okys, _, rfl, ?_⟩
    -- the found list grows, and is held
    generalize hH3 : upd Hb q (.lst (ws.map V.str)) = H3 at s3
    have hp3 := s3 _ _ hp
    refine ⟨_, rfl, .inl ⟨rfl, _, SqL.of hp3⟩, p, _, _, rfl, rfl, hp3, by rw [List.length_map]; exact small1000 (by omega), ?_⟩
    have pH : H p = none := s1.free hp0
    have s4 : Same H (upd H3 p (.lst (ws.map V.str ++ [V.str "more"]))) := same_over (s12.trans s3) pH
    rw [show ws.map V.str ++ [V.str "more"] = (ws ++ [("more" : Str)]).map V.str by rw [List.map_append]; rfl] at s4 ⊢
    have okm : ∀ y ∈ ws ++ [("more" : Str)], SOk y := fun y hy => by
      rcases List.mem_append.mp hy with z | z
      · exact okys y z
      · rw [List.mem_singleton.mp z]
        exact more_ok
    generalize hms : ws ++ [("more" : Str)] = ms at s4 okm ⊢
    obtain ⟨hs, ehs, hhd, pairs⟩ := hH
    refine ⟨_, rfl, .inl ⟨rfl, _, SqL.of (s4 _ _ hhd)⟩, _, rfl, _, rfl, p, _, rfl, upd_same, fun l hl => ⟨(by show 2 ≤ sizeLine; decide), fun h hh => ?_⟩⟩
    have sl := same_upd (o := .lst (ms.map V.str)) hl
    have sh := same_upd (o := .tup [.ref p, .ref l]) hh
    have s6 := s4.trans (sl.trans sh)
    refine ⟨hd, _, _, rfl, rfl, s6 _ _ hhd, by rw [List.length_map, ehs]; exact small1000 (by omega), ?_⟩
    have k7 : ∀ b o, b ≠ hd → H b = some o → (upd (upd (upd (upd H3 p (.lst (ms.map V.str))) l (.lst (ms.map V.str))) h (.tup [.ref p, .ref l])) hd (.lst (hs.map V.ref ++ [V.ref h]))) b = some o := fun b o nb e => by
      rw [upd_ne nb]
      exact s6 _ _ e
    have held7 : HeldAt (upd (upd (upd (upd H3 p (.lst (ms.map V.str))) l (.lst (ms.map V.str))) h (.tup [.ref p, .ref l])) hd (.lst (hs.map V.ref ++ [V.ref h]))) hd (n + 1) := by
      refine ⟨hs ++ [h], by simp [ehs], by rw [upd_same, List.map_append]; rfl, fun g hg => ?_⟩
      have phd : p ≠ hd := (ne_of_none hhd pH).symm
      have lhd : l ≠ hd := (ne_of_none (s4 _ _ hhd) hl).symm
      have hhd' : h ≠ hd := (ne_of_none ((s4.trans sl) _ _ hhd) hh).symm
      rcases List.mem_append.mp hg with z | z
      · exact (pairs g z).keep k7
      · rw [List.mem_singleton.mp z]
        refine ⟨hhd', p, l, ms, phd, lhd, by rw [upd_ne hhd', upd_same], ?_, ?_, okm⟩
        · rw [upd_ne phd]
          exact (sl.trans sh) _ _ upd_same
        · rw [upd_ne lhd]
          exact sh _ _ upd_same
    generalize hH7 : upd (upd (upd (upd H3 p (.lst (ms.map V.str))) l (.lst (ms.map V.str))) h (.tup [.ref p, .ref l])) hd (.lst (hs.map V.ref ++ [V.ref h])) = H7 at k7 held7
    -- its own names
    have hD7 : DueAt (fun b => b ≠ hd) H7 t d := hDu.stay fun b o nb e => k7 b o nb e
    have hP7 : PartAt (fun b => b ≠ hd) C H7 x d := hP.stay fun b o nb e => k7 b o nb e
    have a7 := k7 _ _ nahd ha
    obtain ⟨_, ls7, lw7, lp7, ht7, ⟨_, ts7, hls7, qs7⟩, _⟩ := id hD7
    refine ⟨_, rfl, t, _, 2, .ref ls7, rfl, rfl, ht7, rfl, ls7, rfl, ⟨_, SqL.of hls7⟩, fun O hO => ?_⟩
    refine lc_list (K := K) (a := ls7) (xs := ts7.map V.ref) (fun i H' => Same H7 H' ∧ H' O = some (.lst (((d.secs.take i).map (·.called)).map V.str)))
      ⟨same_upd hO, upd_same⟩ (fun i H' _ q => SqL.of (q.1 _ _ hls7)) ?_ ?_
    · rintro i y H' hi ⟨sm, eO⟩
      obtain ⟨u, hit, rfl⟩ := map_get hi
      obtain ⟨sc, hsc, _, r, _, hu, hr'⟩ := pr_get qs7 hit
      have hu' := sm _ _ hu
      refine ⟨rfl, _, rfl, u, _, 1, .str sc.called, rfl, rfl, hu', rfl, _, eO, ?_, same_over sm hO, ?_⟩
      · rw [List.length_map, List.length_map, List.length_take]
        exact small1000 (by have := fit.secs; omega)
      · rw [upd_same, take_snoc hsc, List.map_append, List.map_append]
        rfl
    rintro H8 ⟨s8, eO⟩
    rw [List.length_map, qs7.length, List.take_length] at eO
    -- name by name
    refine ⟨_, rfl, (by show 1 ≤ sizeLine; decide), fun z hz => ⟨a, z, _, _, rfl, rfl, same_upd hz _ _ (s8 _ _ a7), upd_same, ?_, fun Y hY => ?_⟩⟩
    · rw [List.length_map, h24]
      exact Nat.le_of_lt (small1000 (by decide))
    have s9 := s8.trans ((same_upd (o := .lst [.str "zz"]) hz).trans (same_upd (o := .lst (ns.map V.str ++ [V.str "zz"])) hY))
    have eO9 := ((same_upd (o := .lst [.str "zz"]) hz).trans (same_upd (o := .lst (ns.map V.str ++ [V.str "zz"])) hY)) _ _ eO
    generalize hH9 : upd (upd H8 z (.lst [.str "zz"])) Y (.lst (ns.map V.str ++ [V.str "zz"])) = H9 at s9 eO9
    have eY : H9 Y = some (.lst ((ns ++ [("zz" : Str)]).map V.str)) := by
      rw [← hH9, upd_same, List.map_append]
      rfl
    refine ⟨Y, rfl, ⟨_, SqL.of eY⟩, for_list (K := K) (a := Y) (xs := (ns ++ [("zz" : Str)]).map V.str) (fun i st H' => (∃ v6 v7, st = [some (.ref x), some (.ref t), some (.ref a), some (.ref hd), some (.ref p), some (.ref O), v6, v7, none]) ∧ Same H9 H') ⟨⟨none, none, rfl⟩, Same.refl _⟩ (fun i st H' _ q => SqL.of (q.2 _ _ eY)) ?_ ?_⟩
    · rintro i y st H' hi ⟨⟨v6, v7, rfl⟩, sm⟩
      obtain ⟨nm, hnm, rfl⟩ := map_get hi
      have s7' := s9.trans sm
      obtain ⟨_, dx7, _, _, _, hx7, _⟩ := id hP7
      refine ⟨_, rfl, x, dx7, _, rfl, s7' _ _ hx7, pf_no _ _ _ _ n_place.1 n_place.2.1 n_place.2.2.1 n_place.2.2.2, _, rfl, x, d, nm, rfl, (hP7.stay (same_stay s7')).any, fun Hc v sc hv => ?_⟩
      have eOc := (sm.trans sc) _ _ eO9
      have done : ∀ v6 v7, (∃ v6' v7', ([some (.ref x), some (.ref t), some (.ref a), some (.ref hd), some (.ref p), some (.ref O), v6, v7, none] : L2.St) = [some (.ref x), some (.ref t), some (.ref a), some (.ref hd), some (.ref p), some (.ref O), v6', v7', none]) ∧ Same H9 Hc := fun v6 v7 => ⟨⟨v6, v7, rfl⟩, sm.trans sc⟩
      refine ⟨_, rfl, _, rfl, O, _, nm, rfl, rfl, eOc, fun hin => ⟨_, rfl, ?_⟩, fun hno => ⟨_, rfl, ?_⟩⟩
      · -- there
        refine ⟨_, rfl, _, rfl, O, _, nm, rfl, rfl, eOc, fun _ => ⟨_, rfl, ?_⟩, fun hno => absurd hin hno⟩
        rcases hv with ⟨j, rfl, ⟨s', hs', es'⟩, hfirst⟩ | ⟨rfl, hall⟩
        · refine ⟨_, rfl, j, rfl, _, rfl, ?_⟩
          have gj : ((d.secs.map (·.called)).map V.str)[j]? = some (.str nm) := by
            rw [List.getElem?_map, List.getElem?_map, hs', ← es']
            rfl
          refine ⟨_, rfl, _, rfl, .inl ⟨rfl, _, SqL.of eOc⟩, _, rfl, O, _, .str nm, j, .str nm, rfl, rfl, SqL.of eOc, rfl, flat_strs _, gj, (by show (nm == nm) = true; simp), fun m z' hm hz' => ?_, rfl, _, rfl, iteNS rfl (done _ _)⟩
          rw [List.getElem?_map, List.getElem?_map] at hz'
          cases hsm : d.secs[m]? with
          | none =>
            rw [hsm] at hz'
            cases hz'
          | some s2 =>
            rw [hsm] at hz'
            have e2 : V.str s2.called = z' := Option.some.inj hz'
            rw [← e2]
            show (s2.called == nm) = false
            exact beq_eq_false_iff_ne.mpr (hfirst m s2 hm hsm)
        · obtain ⟨s', hs', es'⟩ := List.mem_map.mp hin
          exact absurd es' (hall s' hs')
      · -- not there
        rcases hv with ⟨j, rfl, ⟨s', hs', es'⟩, hfirst⟩ | ⟨rfl, hall⟩
        · exact absurd (List.mem_map.mpr ⟨s', List.mem_of_getElem? hs', es'⟩) hno
        · refine ⟨_, rfl, _, rfl, iteNS rfl ?_⟩
          refine ⟨_, rfl, _, rfl, O, _, nm, rfl, rfl, eOc, fun hin => absurd hin hno, fun _ => ⟨_, rfl, ?_⟩⟩
          exact done _ _
    · rintro st H' ⟨⟨v6, v7, rfl⟩, sm⟩
      have s7' := s9.trans sm
      obtain ⟨hs7, e7, hhd7, pairs7⟩ := held7
      exact k H' (fun b o nb e => s7' _ _ (k7 b o nb e)) ⟨hs7, e7, s7' _ _ hhd7, fun g hg => (pairs7 g hg).keep fun b o _ e => s7' b o e⟩
end
end KP

namespace KP
open PySem PySem.Spec PyProof.Rows L2
section
variable {X : Cx}
theorem op_neT (hu : X.A.units + 64 < cLine) : OpR X (compareOp .NotEq) (fun x y H Q => ∃ (a b : Addr) (ys : List Str), x = .ref a ∧ y = .ref b ∧ H a = some (.lst (ys.map V.str)) ∧ H b = some (.lst (ys.map V.str)) ∧ (∀ y ∈ ys, SOk y) ∧ Q (.bl false) H) := opr_w (op_neS hu) fun x y H Q q => by
  obtain ⟨a, b, ys, rfl, rfl, h1, h2, ok, q⟩ := q
  exact ⟨.list (ys.map PyData.str), .lst (SqL.of h1) (dp_strs _), .lst (SqL.of h2) (dp_strs _), strs_shaped ok, q⟩
end
section
variable {P : Program} {w : World} {K : PySem.W.Frag} {mg : Str → Option Value} {base : Heap} {C f : Addr} {fd : FuncData}
/-! ### the law -/
def spLaw (K : PySem.W.Frag) : Sp := fun vs H Q _ => ∃ (a : Addr) (ns : List Int), vs = [.ref a] ∧ SqL K H a (ns.map V.int) ∧ ns.length ≤ 63 ∧ ∀ H', Q (.bl true) H'
abbrev NL0 : List Str := ["_law_script", "_law_names_here", "_law_dues", "_law_made_here", "_law_held", "_law_turn", "_law_at", "_law_k", "_law_due_here", "_law_pair"]
theorem scLaw : FnScope NL0 ["_law_script"] (defScope sLaw) := ⟨rfl, rfl, rfl, by decide +kernel, rfl, by decide +kernel, by decide +kernel⟩
theorem ok_law {fC fN fD fM fR : Addr} {fdC fdN fdD fdM fdR : FuncData} (F : Fun K "law" "law" sLaw f fd) (T : Tx K mg C)
    (GC : FnOk P w K mg base CX0 1 fC fdC ["_law_script", "_law_k"] (spCell K)) (kC : PySem.W.keepIn K (.ref fC) = true) (bC : Binds K fdC ["_law_script", "_law_k"] []) (gC : mg "_law_cell_at" = some (.ref fC))
    (GN : FnOk P w K mg base CX0 2 fN fdN ["_law_cell", "_law_many"] spNames) (kN : PySem.W.keepIn K (.ref fN) = true) (bN : Binds K fdN ["_law_cell", "_law_many"] []) (gN : mg "_law_names" = some (.ref fN))
    (GD : FnOk P w K mg base CX0 2 fD fdD ["_law_cell", "_law_names_here"] spDue) (kD : PySem.W.keepIn K (.ref fD) = true) (bD : Binds K fdD ["_law_cell", "_law_names_here"] []) (gD : mg "_law_due" = some (.ref fD))
    (GM : FnOk P w K mg base CX0 3 fM fdM ["_law_due_here"] (spMade C)) (kM : PySem.W.keepIn K (.ref fM) = true) (bM : Binds K fdM ["_law_due_here"] []) (gM : mg "_law_made" = some (.ref fM))
    (GR : FnOk P w K mg base CX0 4 fR fdR ["_law_made_here", "_law_due_here", "_law_names_here", "_law_held"] (spRight C)) (kR : PySem.W.keepIn K (.ref fR) = true) (bR : Binds K fdR ["_law_made_here", "_law_due_here", "_law_names_here", "_law_held"] []) (gR : mg "_law_right" = some (.ref fR)) :
    FnOk P w K mg base CX0 5 f fd ["_law_script"] (spLaw K) := by
  refine F.ok scLaw (fun vs H Q E h => ?_) (fun cdv A outer s H vs Q E hr h => ?_)
  · obtain ⟨a, ns, rfl, _⟩ := h
    rfl
  · obtain ⟨a, ns, rfl, hS, h63, q⟩ := h
    have nd := scLaw.nd
    have hr1 : Room 1 _ := hr.mono (by decide)
    have hr2 : Room 2 _ := hr.mono (by decide)
    have hr3 : Room 3 _ := hr.mono (by decide)
    refine ⟨_, pss_cons (ps_set (i := 1) nd rfl (Or.inr rfl) (pe_call GN hr2 (by rfl) gN kN bN .nil pass0 (pa_cons (pe_call GC hr1 (by rfl) gC kC bC .nil pass0 (pa_cons (pv 0) (pa_cons pe_int pa_nil))) (pa_cons pe_int pa_nil))))
      (pss_cons (ps_setLc (i := 2) (own := [("_law_k", 7)]) rfl nd rfl rfl (sw_true rfl rfl rfl (by decide +kernel)) (pi_range1 (by rfl) T.range (pa_cons pe_int pa_nil)) (blkOk_by (N := NL0) (sc := defScope sLaw) (by decide +kernel))
        (fun _ _ _ _ _ => pg_name (i := 7) nd rfl (Or.inl rfl)) (fun _ _ _ _ _ => pts_nil)
        (fun _ _ _ _ _ => pe_call GD hr2 (by rfl) gD kD bD .nil pass0 (pa_cons (pe_op op_add (pe_call GC hr1 (by rfl) gC kC bC .nil pass0 (pa_cons (pv 0) (pa_cons (pe_op op_add pe_int (pv 7)) pa_nil))) (pv 7)) (pa_cons (pv 1) pa_nil))))
      (pss_cons (ps_setLc (i := 3) (own := [("_law_due_here", 8)]) rfl nd rfl rfl (sw_true rfl rfl rfl (by decide +kernel)) (pi_list (pv 2)) (blkOk_by (N := NL0) (sc := defScope sLaw) (by decide +kernel))
        (fun _ _ _ _ _ => pg_name (i := 8) nd rfl (Or.inl rfl)) (fun _ _ _ _ _ => pts_nil)
        (fun _ _ _ _ _ => pe_call GM hr3 (by rfl) gM kM bM .nil pass0 (pa_cons (pv 8) pa_nil)))
      (pss_cons (ps_set (i := 4) nd rfl (Or.inl rfl) (pe_lst pa_nil))
      (pss_cons (ps_for PassesOwn.never rfl (pi_range1 (by rfl) T.range (pa_cons pe_int pa_nil)) (pg_name (i := 5) nd rfl (Or.inl rfl))
        (pss_cons (ps_set (i := 6) nd rfl (Or.inl rfl) (pe_op op_modG (pe_op op_add (pv 5) (pe_call GC hr1 (by rfl) gC kC bC .nil pass0 (pa_cons (pv 0) (pa_cons pe_int pa_nil)))) pe_int))
        (pss_one (ps_if (pt_not (pt_val (pe_call GR hr (by rfl) gR kR bR .nil pass0 (pa_cons (pe_ix ix_listT (pv 3) (pv 6) (fun _ _ => rfl)) (pa_cons (pe_ix ix_listT (pv 2) (pv 6) (fun _ _ => rfl)) (pa_cons (pv 1) (pa_cons (pv 4) pa_nil))))))) (pss_one (ps_ret pe_bl)) pss_nil))))
      (pss_one (ps_ret (pe_cmpR (op_eqS hr.units) (pe_lc (own := [("_law_pair", 9)]) rfl nd (pi_list (pv 4)) (blkOk_by (N := NL0) (sc := defScope sLaw) (by decide +kernel))
        (fun _ _ _ _ _ => pg_name (i := 9) nd rfl (Or.inl rfl)) (fun _ _ _ _ _ => pts_one (pt_cmpR (op_neT hr.units) (pe_ix ix_tupT (pv 9) pe_int (fun _ _ => rfl)) (pe_ix ix_tupT (pv 9) pe_int (fun _ _ => rfl)) (nomark _))) (fun _ _ _ _ _ => pv 9)) (pe_lst pa_nil) (nomark _)))))))), ?_⟩
    -- the names
    refine ⟨_, rfl, a, ns, 0, rfl, hS, by decide, fun c0 => ⟨c0, rfl, fun H1 p ss s1 hp l24 hok => ?_⟩⟩
    -- what is due
    refine ⟨2, rfl, by decide, by decide, fun D hD => lc_range (lo := 0) (n := 2) (fun i H' => Same H1 H' ∧ ∃ (ts : List Addr) (ds : List Dat), ds.length = i ∧ H' D = some (.lst (ts.map V.ref)) ∧ Paired (fun t d => DueAt (fun b => b ≠ D) H' t d ∧ Fit d) ts ds)
      ⟨same_upd hD, [], [], rfl, upd_same, .nil⟩ ?_ ?_⟩
    · rintro i H' hi ⟨sm, ts, ds, ed, eD, qd⟩
      refine ⟨rfl, _, rfl, _, rfl, _, _, rfl, rfl, a, ns, _, rfl, (s1.trans sm).seq hS, by omega, fun c => ⟨_, rfl, _, _, rfl, rfl, _, rfl, _, p, ss, rfl, sm _ _ hp, l24, hok, fun H2 t d s2 hDu fit => ?_⟩⟩
      have eD2 := s2 _ _ eD
      refine ⟨_, eD2, ?_, same_over (sm.trans s2) hD, ts ++ [t], ds ++ [d], by simp [ed], by rw [upd_same, List.map_append]; rfl, ?_⟩
      · rw [List.length_map, qd.length, ed]
        exact small1000 (by omega)
      · have kk : Stay (fun b => b ≠ D) H' (upd H2 D (.lst (ts.map V.ref ++ [V.ref t]))) := (same_stay s2).trans (stay_at fun z => z rfl)
        refine PySem.Paired.snoc (L2.Paired.mapP qd fun _ _ z => ⟨z.1.stay kk, z.2⟩) ⟨?_, fit⟩
        exact (hDu.mono (M := fun b => b ≠ D) fun b n => (ne_of_none eD n).symm).stay (stay_at fun z => z rfl)
    rintro H2 ⟨s2, ts, ds, ed, eD, qd⟩
    -- the parts
    refine ⟨_, rfl, D, rfl, ⟨_, SqL.of eD⟩, fun D2 hD2 => lc_list (K := K) (a := D) (xs := ts.map V.ref) (fun i H' => Same H2 H' ∧ ∃ xs : List Addr, xs.length = i ∧ H' D2 = some (.lst (xs.map V.ref)) ∧ Paired (fun x d => PartAt (fun b => b ≠ D2) C H' x d) xs (ds.take i))
      ⟨same_upd hD2, [], rfl, upd_same, .nil⟩ (fun i H' _ q => SqL.of (q.1 _ _ eD)) ?_ ?_⟩
    · rintro i y H' hi ⟨sm, xs, ex, eD2, qx⟩
      obtain ⟨t, hit, rfl⟩ := map_get hi
      obtain ⟨d, hds, hDu, fit⟩ := pr_get qd hit
      have i2 : i < 2 := by
        have := (List.getElem?_eq_some_iff.mp hds).1
        omega
      refine ⟨rfl, _, rfl, t, d, rfl, (hDu.mono (M := Any) fun _ _ => True.intro).stay (same_stay sm), fit, fun H3 x s3 hP => ?_⟩
      refine ⟨_, s3 _ _ eD2, by rw [List.length_map, ex]; exact small1000 (by omega), same_over (sm.trans s3) hD2, xs ++ [x], by simp [ex], by rw [upd_same, List.map_append]; rfl, ?_⟩
      rw [take_snoc hds]
      have kk : Stay (fun b => b ≠ D2) H' (upd H3 D2 (.lst (xs.map V.ref ++ [V.ref x]))) := (same_stay s3).trans (stay_at fun z => z rfl)
      refine PySem.Paired.snoc (L2.Paired.mapP qx fun _ _ z => z.stay kk) ?_
      exact (hP.mono (M := fun b => b ≠ D2) fun b n e => n (xs.map V.ref) (e ▸ eD2)).stay (stay_at fun z => z rfl)
    rintro H3 ⟨s3, xs, ex, eD2, qx⟩
    rw [List.length_map, qd.length, List.take_length] at qx
    -- nothing is held
    refine ⟨Nat.zero_le _, fun hd hhd => ?_⟩
    have s4 := same_upd (o := .lst []) hhd
    have s13 := s1.trans (s2.trans s3)
    have hd0 : H hd = none := s13.free hhd
    have qd4 : Paired (fun t d => DueAt (fun b => b ≠ hd) (upd H3 hd (.lst [])) t d ∧ Fit d) ts ds := L2.Paired.mapP qd fun _ _ z => ⟨((z.1.stay (same_stay s3)).off hhd).stay (same_stay s4), z.2⟩
    have qx4 : Paired (fun x d => PartAt (fun b => b ≠ hd) C (upd H3 hd (.lst [])) x d) xs ds := L2.Paired.mapP qx fun _ _ z => (z.off hhd).stay (same_stay s4)
    have pn : p ≠ hd := ne_of_none ((s2.trans s3) _ _ hp) hhd
    have Dn : D ≠ hd := ne_of_none (s3 _ _ eD) hhd
    have D2n : D2 ≠ hd := ne_of_none eD2 hhd
    have p4 := s4 _ _ ((s2.trans s3) _ _ hp)
    have D4 := s4 _ _ (s3 _ _ eD)
    have D24 := s4 _ _ eD2
    have s04 := s13.trans s4
    have held0 : HeldAt (upd H3 hd (.lst [])) hd 0 := ⟨[], rfl, upd_same, fun _ h => nomatch h⟩
    generalize hH4 : upd H3 hd (.lst []) = H4 at s04 qd4 qx4 p4 D4 D24 held0
    -- three turns
    refine ⟨3, rfl, by decide, by decide, for_range (lo := 0) (n := 3) (fun i st H' => (∃ v5 v6, st = [some (.ref a), some (.ref p), some (.ref D), some (.ref D2), some (.ref hd), v5, v6, none, none, none]) ∧ (∀ b o, b ≠ hd → H4 b = some o → H' b = some o) ∧ HeldAt H' hd i) ⟨⟨none, none, rfl⟩, fun _ _ _ e => e, held0⟩ ?_ ?_⟩
    · rintro i st H' hi ⟨⟨v5, v6, rfl⟩, kp, held⟩
      have sH : Same H H' := fun b o e => kp b o (ne_of_none e hd0) (s04 b o e)
      refine ⟨_, rfl, _, rfl, a, ns, 3, rfl, sH.seq hS, by decide, fun c => ⟨_, _, rfl, rfl, _, _, rfl, rfl, by decide, fun r r0 r1 => ?_⟩⟩
      obtain ⟨j, rfl⟩ := Int.eq_ofNat_of_zero_le r0
      have hj : j < ds.length := by omega
      obtain ⟨t, ht, hDu, fit⟩ := pr_getR qd4 (List.getElem?_eq_getElem hj)
      obtain ⟨x, hx, hP⟩ := pr_getR qx4 (List.getElem?_eq_getElem hj)
      have gx : (xs.map V.ref)[j]? = some (.ref x) := by
        rw [List.getElem?_map, hx]
        rfl
      have gt : (ts.map V.ref)[j]? = some (.ref t) := by
        rw [List.getElem?_map, ht]
        rfl
      refine ⟨_, rfl, _, rfl, D2, _, _, _, rfl, rfl, kp _ _ D2n D24, atI_nat gx, _, rfl, _, rfl, D, _, _, _, rfl, rfl, kp _ _ Dn D4, atI_nat gt, _, rfl, _, rfl, ?_⟩
      refine ⟨x, t, p, hd, _, ss, i, rfl, hP.stay (fun b o n e => kp b o n e), hDu.stay (fun b o n e => kp b o n e), fit, pn, kp _ _ pn p4, l24, held, by omega, fun H5 k5 held5 => ⟨_, rfl, ?_⟩⟩
      exact ⟨⟨_, _, rfl⟩, fun b o n e => k5 b o n (kp b o n e), held5⟩
    rintro st H5 ⟨⟨v5, v6, rfl⟩, kp, ⟨hs, ehs, hh5, pairs⟩⟩
    -- all that was held is as it was
    refine ⟨_, rfl, hd, rfl, ⟨_, SqL.of hh5⟩, fun G hG => ?_⟩
    refine lc_list (K := K) (a := hd) (xs := hs.map V.ref) (fun _ H' => Same H5 H' ∧ H' G = some (.lst [])) ⟨same_upd hG, upd_same⟩ (fun i H' _ q => SqL.of (q.1 _ _ hh5)) ?_ ?_
    · rintro i y H' hi ⟨sm, eG⟩
      obtain ⟨g, hg, rfl⟩ := map_get hi
      obtain ⟨_, u, v, ys, _, _, h1, h2, h3, ok⟩ := pairs g (List.mem_of_getElem? hg)
      refine ⟨rfl, _, rfl, g, _, 0, .ref u, rfl, rfl, sm _ _ h1, rfl, _, rfl, g, _, 1, .ref v, rfl, rfl, sm _ _ h1, rfl, u, v, ys, rfl, rfl, sm _ _ h2, sm _ _ h3, ok, _, rfl, ?_⟩
      exact ⟨sm, eG⟩
    · rintro H' ⟨sm, eG⟩
      refine ⟨Nat.zero_le _, fun e he => ⟨.list [], .lst (SqL.of (by rw [upd_ne (ne_of_none eG he)]; exact eG)) .nil, .lst (SqL.of upd_same) .nil, nil_shaped, ?_⟩⟩
      exact q _
end
end KP

namespace KP
open PySem PySem.Spec PyProof.Rows L2
/-! ### what the top has written -/
theorem kit_self (K : PySem.W.Frag) (C : Addr) : PySem.W.kitOne K (.ref C) (.ref C) = some true := by
  unfold PySem.W.kitOne
  rw [if_pos (beq_self_eq_true _)]
theorem all_mk {l : PySem.W.OpenLaw} {w : World} {K : PySem.W.Frag} {h : Heap} {mg : Str → Option Value} {fa C f1 f2 f3 f4 f5 f6 f7 f8 f9 f10 f11 f12 f13 f14 : Addr} (X : K.In h) (G : h.Ns mainGlobals mg) (hfa : mg "law" = some (.ref fa))
    {od1 an1 od2 an2 od3 an3 od4 an4 od5 an5 od6 an6 od7 an7 od8 an8 od9 an9 od10 an10 od11 an11 od12 an12 od13 an13 od14 an14 : Option Addr} {sl1 sl2 sl3 sl4 sl5 sl6 sl7 sl8 sl9 sl10 sl11 sl12 sl13 sl14 : Array (Option Value)} {oc1 kV1 dc1 pm1 cd1 ct1 oc2 kV2 dc2 pm2 cd2 ct2 oc3 kV3 dc3 pm3 cd3 ct3 oc4 kV4 dc4 pm4 cd4 ct4 oc5 kV5 dc5 pm5 cd5 ct5 oc6 kV6 dc6 pm6 cd6 ct6 oc7 kV7 dc7 pm7 cd7 ct7 oc8 kV8 dc8 pm8 cd8 ct8 oc9 kV9 dc9 pm9 cd9 ct9 oc10 kV10 dc10 pm10 cd10 ct10 oc11 kV11 dc11 pm11 cd11 ct11 oc12 kV12 dc12 pm12 cd12 ct12 oc13 kV13 dc13 pm13 cd13 ct13 oc14 kV14 dc14 pm14 cd14 ct14 : Value}
    (aC : PySem.W.nsIn K mainGlobals "Part" = some (some (.ref C)))
    (a1 : PySem.W.findIn K (.ref C) "__init__" = some (some (.ref f1))) (i1 : PySem.W.isFn K (.ref f1) = true)
    (l1 : K.lookup f1 = some ⟨oc1, od1, .func (PySem.W.fnOf "__init__" "Part.__init__" (defArgs sInit) (defBody sInit) (defScope sInit) .none kV1 dc1 pm1 an1 cd1 ct1), sl1⟩) (c1 : PySem.W.codeIn K cd1 "Part.__init__" = true) (k1 : PySem.W.keepIn K (.ref f1) = true)
    (a2 : PySem.W.findIn K (.ref C) "names" = some (some (.ref f2))) (i2 : PySem.W.isFn K (.ref f2) = true)
    (l2 : K.lookup f2 = some ⟨oc2, od2, .func (PySem.W.fnOf "names" "Part.names" (defArgs sNms) (defBody sNms) (defScope sNms) .none kV2 dc2 pm2 an2 cd2 ct2), sl2⟩) (c2 : PySem.W.codeIn K cd2 "Part.names" = true) (k2 : PySem.W.keepIn K (.ref f2) = true)
    (a3 : PySem.W.findIn K (.ref C) "place_of" = some (some (.ref f3))) (i3 : PySem.W.isFn K (.ref f3) = true)
    (l3 : K.lookup f3 = some ⟨oc3, od3, .func (PySem.W.fnOf "place_of" "Part.place_of" (defArgs sPlace) (defBody sPlace) (defScope sPlace) .none kV3 dc3 pm3 an3 cd3 ct3), sl3⟩) (c3 : PySem.W.codeIn K cd3 "Part.place_of" = true) (k3 : PySem.W.keepIn K (.ref f3) = true)
    (a4 : PySem.W.nsIn K mainGlobals "_law_cell_at" = some (some (.ref f4)))
    (l4 : K.lookup f4 = some ⟨oc4, od4, .func (PySem.W.fnOf "_law_cell_at" "_law_cell_at" (defArgs sCell) (defBody sCell) (defScope sCell) .none kV4 dc4 pm4 an4 cd4 ct4), sl4⟩) (c4 : PySem.W.codeIn K cd4 "_law_cell_at" = true) (k4 : PySem.W.keepIn K (.ref f4) = true)
    (a5 : PySem.W.nsIn K mainGlobals "_law_mixed" = some (some (.ref f5)))
    (l5 : K.lookup f5 = some ⟨oc5, od5, .func (PySem.W.fnOf "_law_mixed" "_law_mixed" (defArgs sMix) (defBody sMix) (defScope sMix) .none kV5 dc5 pm5 an5 cd5 ct5), sl5⟩) (c5 : PySem.W.codeIn K cd5 "_law_mixed" = true) (k5 : PySem.W.keepIn K (.ref f5) = true)
    (a6 : PySem.W.nsIn K mainGlobals "_law_names" = some (some (.ref f6)))
    (l6 : K.lookup f6 = some ⟨oc6, od6, .func (PySem.W.fnOf "_law_names" "_law_names" (defArgs sNames) (defBody sNames) (defScope sNames) .none kV6 dc6 pm6 an6 cd6 ct6), sl6⟩) (c6 : PySem.W.codeIn K cd6 "_law_names" = true) (k6 : PySem.W.keepIn K (.ref f6) = true)
    (a7 : PySem.W.nsIn K mainGlobals "_law_whole" = some (some (.ref f7)))
    (l7 : K.lookup f7 = some ⟨oc7, od7, .func (PySem.W.fnOf "_law_whole" "_law_whole" (defArgs sWhole) (defBody sWhole) (defScope sWhole) .none kV7 dc7 pm7 an7 cd7 ct7), sl7⟩) (c7 : PySem.W.codeIn K cd7 "_law_whole" = true) (k7 : PySem.W.keepIn K (.ref f7) = true)
    (a8 : PySem.W.nsIn K mainGlobals "_law_sections_right" = some (some (.ref f8)))
    (l8 : K.lookup f8 = some ⟨oc8, od8, .func (PySem.W.fnOf "_law_sections_right" "_law_sections_right" (defArgs sSecR) (defBody sSecR) (defScope sSecR) .none kV8 dc8 pm8 an8 cd8 ct8), sl8⟩) (c8 : PySem.W.codeIn K cd8 "_law_sections_right" = true) (k8 : PySem.W.keepIn K (.ref f8) = true)
    (a9 : PySem.W.nsIn K mainGlobals "_law_places_right" = some (some (.ref f9)))
    (l9 : K.lookup f9 = some ⟨oc9, od9, .func (PySem.W.fnOf "_law_places_right" "_law_places_right" (defArgs sPlcR) (defBody sPlcR) (defScope sPlcR) .none kV9 dc9 pm9 an9 cd9 ct9), sl9⟩) (c9 : PySem.W.codeIn K cd9 "_law_places_right" = true) (k9 : PySem.W.keepIn K (.ref f9) = true)
    (a10 : PySem.W.nsIn K mainGlobals "_law_told" = some (some (.ref f10)))
    (l10 : K.lookup f10 = some ⟨oc10, od10, .func (PySem.W.fnOf "_law_told" "_law_told" (defArgs sTold) (defBody sTold) (defScope sTold) .none kV10 dc10 pm10 an10 cd10 ct10), sl10⟩) (c10 : PySem.W.codeIn K cd10 "_law_told" = true) (k10 : PySem.W.keepIn K (.ref f10) = true)
    (a11 : PySem.W.nsIn K mainGlobals "_law_due" = some (some (.ref f11)))
    (l11 : K.lookup f11 = some ⟨oc11, od11, .func (PySem.W.fnOf "_law_due" "_law_due" (defArgs sDue) (defBody sDue) (defScope sDue) .none kV11 dc11 pm11 an11 cd11 ct11), sl11⟩) (c11 : PySem.W.codeIn K cd11 "_law_due" = true) (k11 : PySem.W.keepIn K (.ref f11) = true)
    (a12 : PySem.W.nsIn K mainGlobals "_law_made" = some (some (.ref f12)))
    (l12 : K.lookup f12 = some ⟨oc12, od12, .func (PySem.W.fnOf "_law_made" "_law_made" (defArgs sMade) (defBody sMade) (defScope sMade) .none kV12 dc12 pm12 an12 cd12 ct12), sl12⟩) (c12 : PySem.W.codeIn K cd12 "_law_made" = true) (k12 : PySem.W.keepIn K (.ref f12) = true)
    (a13 : PySem.W.nsIn K mainGlobals "_law_right" = some (some (.ref f13)))
    (l13 : K.lookup f13 = some ⟨oc13, od13, .func (PySem.W.fnOf "_law_right" "_law_right" (defArgs sRight) (defBody sRight) (defScope sRight) .none kV13 dc13 pm13 an13 cd13 ct13), sl13⟩) (c13 : PySem.W.codeIn K cd13 "_law_right" = true) (k13 : PySem.W.keepIn K (.ref f13) = true)
    (a14 : PySem.W.nsIn K mainGlobals "law" = some (some (.ref f14)))
    (l14 : K.lookup f14 = some ⟨oc14, od14, .func (PySem.W.fnOf "law" "law" (defArgs sLaw) (defBody sLaw) (defScope sLaw) .none kV14 dc14 pm14 an14 cd14 ct14), sl14⟩) (c14 : PySem.W.codeIn K cd14 "law" = true) (k14 : PySem.W.keepIn K (.ref f14) = true)
    (pg : PySem.W.plainGet K C Str.empty = true) (hd : PySem.W.hasDictIn K C = true) (po : PySem.W.plainOver K C = true) (sa : PySem.W.findIn K (.ref C) "__setattr__" = some (some (.builtin "object.__setattr__"))) (mk : PySem.W.makesIn K C = true) (kc : PySem.W.keepIn K (.ref C) = true)
    (ha : PySem.W.findIn K (.ref C) "__class__" = some (some (.builtin "object.__class__"))) (hn : PySem.W.specialIn K (.builtin "object.__class__") "__get__" = some (some (.builtin "getset_descriptor.__get__"))) (htk : PySem.W.takesIn K (.builtin "object.__class__") = some true)
    (hm : PySem.W.mroIn K C (.type "object") = some true)
    (n1 : PySem.W.findIn K (.ref C) "name" = some none)
    (n2 : PySem.W.findIn K (.ref C) "sections" = some none)
    (n3 : PySem.W.findIn K (.ref C) "wants" = some none)
    (n4 : PySem.W.findIn K (.ref C) "places" = some none)
    (z1 : PySem.W.nsIn K mainGlobals "list" = some none)
    (z2 : PySem.W.nsIn K mainGlobals "len" = some none)
    (z3 : PySem.W.nsIn K mainGlobals "isinstance" = some none)
    (z4 : PySem.W.nsIn K mainGlobals "int" = some none)
    (z5 : PySem.W.nsIn K mainGlobals "bool" = some none)
    (z6 : PySem.W.nsIn K mainGlobals "tuple" = some none)
    (z7 : PySem.W.nsIn K mainGlobals "str" = some none)
    (z8 : PySem.W.nsIn K mainGlobals "sorted" = some none)
    (z9 : PySem.W.nsIn K mainGlobals "enumerate" = some none)
    (z10 : PySem.W.nsIn K mainGlobals "range" = some none)
    : ∃ fd : FuncData, (∀ (s : Shared) (v : Value), BindsTo s fd ⟨[v], []⟩ [("_law_script", v)]) ∧ ∀ base : Heap, K.In base → base.Ns mainGlobals mg → FnOk l.prog w K mg base CX0 5 fa fd ["_law_script"] (spLaw K) := by
  have e := hfa.symm.trans (PySem.W.mg_of X G a14)
  cases e
  have T : Tx K mg C := ⟨⟨⟨pg, hd, po, sa⟩, ha, hn, htk, hm, kit_self K C⟩, n1, n2, n3, n4, PySem.W.mg_of X G aC, PySem.W.mg_none_of X G z1, PySem.W.mg_none_of X G z2, PySem.W.mg_none_of X G z3, PySem.W.mg_none_of X G z4, PySem.W.mg_none_of X G z5, PySem.W.mg_none_of X G z6, PySem.W.mg_none_of X G z7, PySem.W.mg_none_of X G z8, PySem.W.mg_none_of X G z9, PySem.W.mg_none_of X G z10⟩
  have F1 := fun_mk (st := sInit) l1 c1 k1
  have b1 := F1.binds (ps := ["self", "name", "sections", "wants", "places"]) fun _ _ _ _ _ _ us hl => match us, hl with | [_, _, _, _, _], _ => rfl
  have F2 := fun_mk (st := sNms) l2 c2 k2
  have b2 := F2.binds (ps := ["self"]) fun _ _ _ _ _ _ us hl => match us, hl with | [_], _ => rfl
  have F3 := fun_mk (st := sPlace) l3 c3 k3
  have b3 := F3.binds (ps := ["self", "name"]) fun _ _ _ _ _ _ us hl => match us, hl with | [_, _], _ => rfl
  have F4 := fun_mk (st := sCell) l4 c4 k4
  have b4 := F4.binds (ps := ["_law_script", "_law_k"]) fun _ _ _ _ _ _ us hl => match us, hl with | [_, _], _ => rfl
  have F5 := fun_mk (st := sMix) l5 c5 k5
  have b5 := F5.binds (ps := ["_law_cell", "_law_k"]) fun _ _ _ _ _ _ us hl => match us, hl with | [_, _], _ => rfl
  have F6 := fun_mk (st := sNames) l6 c6 k6
  have b6 := F6.binds (ps := ["_law_cell", "_law_many"]) fun _ _ _ _ _ _ us hl => match us, hl with | [_, _], _ => rfl
  have F7 := fun_mk (st := sWhole) l7 c7 k7
  have b7 := F7.binds (ps := ["_law_found"]) fun _ _ _ _ _ _ us hl => match us, hl with | [_], _ => rfl
  have F8 := fun_mk (st := sSecR) l8 c8 k8
  have b8 := F8.binds (ps := ["_law_sections"]) fun _ _ _ _ _ _ us hl => match us, hl with | [_], _ => rfl
  have F9 := fun_mk (st := sPlcR) l9 c9 k9
  have b9 := F9.binds (ps := ["_law_places"]) fun _ _ _ _ _ _ us hl => match us, hl with | [_], _ => rfl
  have F10 := fun_mk (st := sTold) l10 c10 k10
  have b10 := F10.binds (ps := ["_law_part"]) fun _ _ _ _ _ _ us hl => match us, hl with | [_], _ => rfl
  have F11 := fun_mk (st := sDue) l11 c11 k11
  have b11 := F11.binds (ps := ["_law_cell", "_law_names_here"]) fun _ _ _ _ _ _ us hl => match us, hl with | [_, _], _ => rfl
  have F12 := fun_mk (st := sMade) l12 c12 k12
  have b12 := F12.binds (ps := ["_law_due_here"]) fun _ _ _ _ _ _ us hl => match us, hl with | [_], _ => rfl
  have F13 := fun_mk (st := sRight) l13 c13 k13
  have b13 := F13.binds (ps := ["_law_made_here", "_law_due_here", "_law_names_here", "_law_held"]) fun _ _ _ _ _ _ us hl => match us, hl with | [_, _, _, _], _ => rfl
  have F14 := fun_mk (st := sLaw) l14 c14 k14
  have g4 := PySem.W.mg_of X G a4
  have g5 := PySem.W.mg_of X G a5
  have g6 := PySem.W.mg_of X G a6
  have g7 := PySem.W.mg_of X G a7
  have g8 := PySem.W.mg_of X G a8
  have g9 := PySem.W.mg_of X G a9
  have g10 := PySem.W.mg_of X G a10
  have g11 := PySem.W.mg_of X G a11
  have g12 := PySem.W.mg_of X G a12
  have g13 := PySem.W.mg_of X G a13
  refine ⟨PySem.W.fnOf "law" "law" (defArgs sLaw) (defBody sLaw) (defScope sLaw) .none kV14 dc14 pm14 an14 cd14 ct14, fun s v => .of_eq rfl, fun base _ _ => ?_⟩
  have G4 : FnOk l.prog w K mg base CX0 1 f4 _ ["_law_script", "_law_k"] (spCell K) := ok_cell F4 T
  have G6 : FnOk l.prog w K mg base CX0 2 f6 _ ["_law_cell", "_law_many"] spNames := ok_names F6 T F5 b5 g5
  have G10 : FnOk l.prog w K mg base CX0 3 f10 _ ["_law_part"] (spTold C) := ok_told F10 T F7 b7 g7 F8 b8 g8 F9 b9 g9
  have G11 : FnOk l.prog w K mg base CX0 2 f11 _ ["_law_cell", "_law_names_here"] spDue := ok_due F11 T F5 b5 g5
  have G12 : FnOk l.prog w K mg base CX0 3 f12 _ ["_law_due_here"] (spMade C) := ok_made F12 T ⟨mk, a1, i1, kc⟩ F1 b1
  have G13 : FnOk l.prog w K mg base CX0 4 f13 _ ["_law_made_here", "_law_due_here", "_law_names_here", "_law_held"] (spRight C) := ok_right F13 T G10 F10.kp b10 g10 F7 b7 g7 F2 b2 ⟨a2, i2, k2⟩ F3 b3 ⟨a3, i3, k3⟩
  exact ok_law F14 T G4 F4.kp b4 g4 G6 F6.kp b6 g6 G11 F11.kp b11 g11 G12 F12.kp b12 g12 G13 F13.kp b13 g13
theorem walk {l : PySem.W.OpenLaw} {q : Program} {loose : List Str} {XP : (Str → Option Value) → Heap → Prop} {YP : World → Heap → Prop} {d : DefRec} {K : Params → PySem.W.Frag} (hn : l.most = some 63) (hdf : d.params.defaults = [])
    (hY : ∀ (w : World) (h : Heap), YP w h → (K w.params).In h)
    (F : ∀ (w : World) (mg : Str → Option Value) (fa : Addr) (h : Heap), (K w.params).In h → h.Ns mainGlobals mg → mg d.name = some (.ref fa) →
      ∃ fd : FuncData, (∀ (s : Shared) (u : Value), BindsTo s fd ⟨[u], []⟩ [("_law_script", u)]) ∧ ∀ base : Heap, (K w.params).In base → base.Ns mainGlobals mg → FnOk l.prog w (K w.params) mg base CX0 5 fa fd ["_law_script"] (spLaw (K w.params))) :
    PySem.W.WalkO q loose XP YP l.row.toRowW d [] (fun f vs => PySem.call f vs) :=
  L2.walk_of (n := 63) (k := 5) (x := "_law_script") (CX := fun _ => CX0) (sp := fun w => spLaw (K w.params)) hn (by decide) hdf ⟨rfl, by decide, by decide⟩ hY F (fun _ _ a ns hl _ hS => ⟨a, ns, rfl, hS, hl, fun _ => rfl⟩) fun _ _ _ _ _ z => z
end KP

open PySem PySem.W PyProof.Rows in
set_option maxRecDepth 100000 in
set_option maxHeartbeats 0 in
theorem PySem.Challenge.cw_linkyard_k08_a_part_kept_holds : PySem.Challenge.rw_linkyard_k08_a_part_kept.Holds := by
  w_on; o_law; k_head; (case hw => w_witness2)
  k_fill
  refine KP.walk (l := PySem.Challenge.rw_linkyard_k08_a_part_kept) rfl rfl (fun w h Y => PySem.W.kIn_of Y) ?F
  case F =>
    intro w mg fa h KX G hmg
    refine' KP.all_mk KX G hmg ?aC ?a1 ?i1 ?l1 ?c1 ?k1 ?a2 ?i2 ?l2 ?c2 ?k2 ?a3 ?i3 ?l3 ?c3 ?k3 ?a4 ?l4 ?c4 ?k4 ?a5 ?l5 ?c5 ?k5 ?a6 ?l6 ?c6 ?k6 ?a7 ?l7 ?c7 ?k7 ?a8 ?l8 ?c8 ?k8 ?a9 ?l9 ?c9 ?k9 ?a10 ?l10 ?c10 ?k10 ?a11 ?l11 ?c11 ?k11 ?a12 ?l12 ?c12 ?k12 ?a13 ?l13 ?c13 ?k13 ?a14 ?l14 ?c14 ?k14 ?pg ?hd ?po ?sa ?mk ?kc ?ha ?hn ?htk ?hm ?n1 ?n2 ?n3 ?n4 ?z1 ?z2 ?z3 ?z4 ?z5 ?z6 ?z7 ?z8 ?z9 ?z10
    (case aC => k_is)
    (case a1 => k_is)
    (case i1 => k_is)
    (case l1 => k_is)
    (case c1 => k_is)
    (case k1 => k_is)
    (case a2 => k_is)
    (case i2 => k_is)
    (case l2 => k_is)
    (case c2 => k_is)
    (case k2 => k_is)
    (case a3 => k_is)
    (case i3 => k_is)
    (case l3 => k_is)
    (case c3 => k_is)
    (case k3 => k_is)
    (case a4 => k_is)
    (case l4 => k_is)
    (case c4 => k_is)
    (case k4 => k_is)
    (case a5 => k_is)
    (case l5 => k_is)
    (case c5 => k_is)
    (case k5 => k_is)
    (case a6 => k_is)
    (case l6 => k_is)
    (case c6 => k_is)
    (case k6 => k_is)
    (case a7 => k_is)
    (case l7 => k_is)
    (case c7 => k_is)
    (case k7 => k_is)
    (case a8 => k_is)
    (case l8 => k_is)
    (case c8 => k_is)
    (case k8 => k_is)
    (case a9 => k_is)
    (case l9 => k_is)
    (case c9 => k_is)
    (case k9 => k_is)
    (case a10 => k_is)
    (case l10 => k_is)
    (case c10 => k_is)
    (case k10 => k_is)
    (case a11 => k_is)
    (case l11 => k_is)
    (case c11 => k_is)
    (case k11 => k_is)
    (case a12 => k_is)
    (case l12 => k_is)
    (case c12 => k_is)
    (case k12 => k_is)
    (case a13 => k_is)
    (case l13 => k_is)
    (case c13 => k_is)
    (case k13 => k_is)
    (case a14 => k_is)
    (case l14 => k_is)
    (case c14 => k_is)
    (case k14 => k_is)
    (case pg => k_is)
    (case hd => k_is)
    (case po => k_is)
    (case sa => k_is)
    (case mk => k_is)
    (case kc => k_is)
    (case ha => k_is)
    (case hn => k_is)
    (case htk => k_is)
    (case hm => k_is)
    (case n1 => k_is)
    (case n2 => k_is)
    (case n3 => k_is)
    (case n4 => k_is)
    (case z1 => k_is)
    (case z2 => k_is)
    (case z3 => k_is)
    (case z4 => k_is)
    (case z5 => k_is)
    (case z6 => k_is)
    (case z7 => k_is)
    (case z8 => k_is)
    (case z9 => k_is)
    (case z10 => k_is)
#print axioms PySem.Challenge.cw_linkyard_k08_a_part_kept_holds

