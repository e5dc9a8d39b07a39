import PyProof.Rows.All
import Wide.All
import OpenK.AllK
import Wide.FinOn
import KE.KStateDown
import HandS.ForMost
import HandS.Exc
import HandS.WordsExc
import HandS.Defaults
import HandS.ExcInit
import HandS.ExcOwn
import HandS.TupAny
import HandS.TupMul
import HandS.Wide
import HandS.StrMore
import HandS.Style
import HandS.Flow
import HandS.Comp
import HandS.Iter
import HandS.IsInst
import KE.KExcIs
import HandS.RaiseMore
import HandS.MakeKwOnly
import HandS.Codes
import HandS.HeadEnd
import HandS.HeadHook1
import HandS.HeadHook2
import HandS.Head0
import HandS.Head1
import HandS.Head2
import PySem.Challenge.RW_keyedline_k06_refusals_by_hand
set_option Elab.async false
set_option linter.all false
set_option maxRecDepth 100000
set_option maxHeartbeats 0
set_option exponentiation.threshold 256
namespace G
open PySem PySem.Spec PyProof.Rows L2
abbrev Tx := List Nat
def sx (l : Tx) : Str := ⟨l.toArray⟩
def tx (s : Str) : Tx := s.cps.toList
theorem tx_sx (l : Tx) : tx (sx l) = l := by simp [tx, sx]
theorem sx_tx (s : Str) : sx (tx s) = s := by obtain ⟨c⟩ := s; simp [tx, sx]
theorem sx_inj {a b : Tx} (h : sx a = sx b) : a = b := by rw [← tx_sx a, h, tx_sx]
theorem sx_len (l : Tx) : (sx l).length = l.length := by show l.toArray.size = _; simp
theorem sx_app (a b : Tx) : sx a ++ sx b = sx (a ++ b) := by
  show (⟨a.toArray ++ b.toArray⟩ : Str) = ⟨(a ++ b).toArray⟩
  simp
def attrs : List Str := (["modes", "group", "columns", "kept", "reads", "showing", "heard", "wanted", "written_held",
  "lines", "in_lines", "loose", "typed", "quoting", "halted", "taken", "told", "backed", "flushed", "lost",
  "asked", "ticks_gone", "first_since", "last_came", "kept_text", "held_texts", "seen_text", "seen_good", "seen_cells", "made",
  "tab", "wide", "standing", "echo", "signals", "flow", "flush", "least", "pause", "room",
  "high", "low", "marks", "line", "log", "under_way", "ended", "raw_signs", "line_now", "quoted_next",
  "field", "name", "text", "many", "number"] : List String).map Str.ofString
def atn (n : Nat) : Str := attrs.getD n ""
theorem attrs_nodup : attrs.Nodup := by decide +kernel
theorem attrs_len : attrs.length = 55 := by rfl
theorem atn_inj {n m : Nat} (hn : n < 55) (hm : m < 55) (e : atn n = atn m) : n = m := by
  have h1 : n < attrs.length := hn
  have h2 : m < attrs.length := hm
  have e2 : attrs[n] = attrs[m] := by
    have q := e
    unfold atn at q
    rw [List.getD_eq_getElem?_getD, List.getD_eq_getElem?_getD, List.getElem?_eq_getElem h1, List.getElem?_eq_getElem h2] at q
    exact q
  exact (List.getElem_inj attrs_nodup).mp e2
inductive D where
  | non | bl (b : Bool) | int (i : Int) | str (x : Tx) | tup (xs : List D) | lst (xs : List D) | rdl (xs : List D) | obj (c : Addr) (fs : List (Nat × D)) | exv (c : Addr) (fs : List (Nat × D)) | ref (a : Addr) | ty (n : String)
abbrev Flds := List (Nat × D)
section
variable (K : PySem.W.Frag) (F : Hp)
mutual
def Den : D → V → Prop
  | .non, v => v = .non
  | .bl b, v => v = .bl b
  | .int i, v => v = .int i
  | .str x, v => v = .str (sx x)
  | .ref a, v => v = .ref a
  | .ty n, v => v = .ty n
  | .tup ds, v => ∃ a vs, v = .ref a ∧ SqT K F a vs ∧ DenL ds vs
  | .lst ds, v => ∃ a vs, v = .ref a ∧ F a = some (.lst vs) ∧ DenL ds vs
  | .rdl ds, v => ∃ a vs, v = .ref a ∧ SqL K F a vs ∧ DenL ds vs
  | .obj c fs, v => ∃ a dx vs, v = .ref a ∧ F a = some (.ins c dx vs) ∧ DenF fs vs
  | .exv c fs, v => ∃ a dx vs, v = .ref a ∧ F a = some (exo a c (some dx)) ∧ F dx = some (exd dx vs) ∧ DenF fs vs
def DenL : List D → List V → Prop
  | [], vs => vs = []
  | d :: ds, vs => ∃ v r, vs = v :: r ∧ Den d v ∧ DenL ds r
def DenF : List (Nat × D) → List (Str × V) → Prop
  | [], vs => vs = []
  | (n, d) :: ds, vs => ∃ v r, vs = (atn n, v) :: r ∧ n < 55 ∧ Den d v ∧ DenF ds r
end
end
section
variable {K : PySem.W.Frag} {F F' : Hp}
theorem Rd.ext {H H' : Hp} {a : Addr} {u : HO} (e : Same H H') (h : Rd H a u) : Rd H' a u := by
  rcases h with h | ⟨o, h⟩
  · exact .inl (e _ _ h)
  · exact .inr ⟨o, e _ _ h⟩
theorem SqL.ext {a : Addr} {xs : List V} (e : Same F F') (h : SqL K F a xs) : SqL K F' a xs := by
  rcases h with h | h
  · exact .inl (Rd.ext e h)
  · exact .inr h
theorem SqT.ext {a : Addr} {xs : List V} (e : Same F F') (h : SqT K F a xs) : SqT K F' a xs := by
  rcases h with h | h
  · exact .inl (Rd.ext e h)
  · exact .inr h
mutual
theorem Den.ext (e : Same F F') : ∀ {d : D} {v : V}, Den K F d v → Den K F' d v
  | .non, _, h => by simp only [Den] at h ⊢; exact h
  | .bl _, _, h => by simp only [Den] at h ⊢; exact h
  | .int _, _, h => by simp only [Den] at h ⊢; exact h
  | .str _, _, h => by simp only [Den] at h ⊢; exact h
  | .ref _, _, h => by simp only [Den] at h ⊢; exact h
  | .ty _, _, h => by simp only [Den] at h ⊢; exact h
  | .tup ds, _, h => by
    simp only [Den] at h ⊢
    obtain ⟨a, vs, r, q, l⟩ := h
    exact ⟨a, vs, r, SqT.ext e q, DenL.ext e l⟩
  | .lst ds, _, h => by
    simp only [Den] at h ⊢
    obtain ⟨a, vs, r, q, l⟩ := h
    exact ⟨a, vs, r, e _ _ q, DenL.ext e l⟩
  | .rdl ds, _, h => by
    simp only [Den] at h ⊢
    obtain ⟨a, vs, r, q, l⟩ := h
    exact ⟨a, vs, r, SqL.ext e q, DenL.ext e l⟩
  | .obj c fs, _, h => by
    simp only [Den] at h ⊢
    obtain ⟨a, dx, vs, r, q, l⟩ := h
    exact ⟨a, dx, vs, r, e _ _ q, DenF.ext e l⟩
  | .exv c fs, _, h => by
    simp only [Den] at h ⊢
    obtain ⟨a, dx, vs, r, q, q2, l⟩ := h
    exact ⟨a, dx, vs, r, e _ _ q, e _ _ q2, DenF.ext e l⟩
theorem DenL.ext (e : Same F F') : ∀ {ds : List D} {vs : List V}, DenL K F ds vs → DenL K F' ds vs
  | [], _, h => by simp only [DenL] at h ⊢; exact h
  | _ :: _, _, h => by
    simp only [DenL] at h ⊢
    obtain ⟨v, r, q, l, m⟩ := h
    exact ⟨v, r, q, Den.ext e l, DenL.ext e m⟩
theorem DenF.ext (e : Same F F') : ∀ {ds : List (Nat × D)} {vs : List (Str × V)}, DenF K F ds vs → DenF K F' ds vs
  | [], _, h => by simp only [DenF] at h ⊢; exact h
  | (n, d) :: _, _, h => by
    simp only [DenF] at h ⊢
    obtain ⟨v, r, q, n55, l, m⟩ := h
    exact ⟨v, r, q, n55, Den.ext e l, DenF.ext e m⟩
end
theorem DenL.len : ∀ {ds : List D} {vs : List V}, DenL K F ds vs → vs.length = ds.length
  | [], _, h => by simp only [DenL] at h; subst h; rfl
  | _ :: _, _, h => by
    simp only [DenL] at h
    obtain ⟨v, r, rfl, _, m⟩ := h
    simp [DenL.len m]
theorem DenL.nil : DenL K F [] [] := by simp only [DenL]
theorem DenL.cons {d : D} {v : V} {ds : List D} {vs : List V} (h : Den K F d v) (t : DenL K F ds vs) : DenL K F (d :: ds) (v :: vs) := by
  simp only [DenL]
  exact ⟨v, vs, rfl, h, t⟩
theorem DenL.get : ∀ {ds : List D} {vs : List V} {i : Nat} {d : D}, DenL K F ds vs → ds[i]? = some d → ∃ v, vs[i]? = some v ∧ Den K F d v
  | [], _, _, _, _, e => by simp at e
  | d :: ds, vs, 0, d', h, e => by
    simp only [DenL] at h
    obtain ⟨v, r, rfl, hd, _⟩ := h
    simp at e
    subst e
    exact ⟨v, rfl, hd⟩
  | d :: ds, vs, i + 1, d', h, e => by
    simp only [DenL] at h
    obtain ⟨v, r, rfl, _, m⟩ := h
    obtain ⟨u, q, w⟩ := DenL.get (i := i) m (by simpa using e)
    exact ⟨u, by simpa using q, w⟩
theorem DenL.app : ∀ {as bs : List D} {us vs : List V}, DenL K F as us → DenL K F bs vs → DenL K F (as ++ bs) (us ++ vs)
  | [], _, _, _, h, q => by simp only [DenL] at h; subst h; exact q
  | _ :: _, _, _, _, h, q => by
    simp only [DenL] at h
    obtain ⟨v, r, rfl, hd, m⟩ := h
    exact .cons hd (DenL.app m q)
theorem DenL.take : ∀ {as : List D} {us : List V} (n : Nat), DenL K F as us → DenL K F (as.take n) (us.take n)
  | _, _, 0, _ => .nil
  | [], _, n + 1, h => by simp only [DenL] at h; subst h; exact .nil
  | _ :: _, _, n + 1, h => by
    simp only [DenL] at h
    obtain ⟨v, r, rfl, hd, m⟩ := h
    exact .cons hd (DenL.take n m)
theorem DenL.drop : ∀ {as : List D} {us : List V} (n : Nat), DenL K F as us → DenL K F (as.drop n) (us.drop n)
  | _, _, 0, h => h
  | [], _, n + 1, h => by simp only [DenL] at h; subst h; exact .nil
  | _ :: _, _, n + 1, h => by
    simp only [DenL] at h
    obtain ⟨v, r, rfl, hd, m⟩ := h
    exact DenL.drop n m
theorem DenL.rev {as : List D} {us : List V} (h : DenL K F as us) : DenL K F as.reverse us.reverse := by
  have go : ∀ {as : List D} {us : List V} {bs : List D} {vs : List V}, DenL K F as us → DenL K F bs vs → DenL K F (as.reverse ++ bs) (us.reverse ++ vs) := by
    intro as
    induction as with
    | nil =>
      intro us bs vs h q
      simp only [DenL] at h
      subst h
      exact q
    | cons a as ih =>
      intro us bs vs h q
      simp only [DenL] at h
      obtain ⟨v, r, rfl, hd, m⟩ := h
      simp only [List.reverse_cons, List.append_assoc, List.singleton_append]
      exact ih m (.cons hd q)
  have z := go h DenL.nil
  simpa using z
theorem DenL.set : ∀ {as : List D} {us : List V} {d : D} {v : V} (i : Nat), DenL K F as us → Den K F d v → DenL K F (as.set i d) (us.set i v)
  | [], _, _, _, _, h, _ => by simp only [DenL] at h; subst h; exact .nil
  | _ :: _, _, _, _, 0, h, q => by
    simp only [DenL] at h
    obtain ⟨w, r, rfl, hd, m⟩ := h
    exact .cons q m
  | _ :: _, _, _, _, i + 1, h, q => by
    simp only [DenL] at h
    obtain ⟨w, r, rfl, hd, m⟩ := h
    exact .cons hd (DenL.set i m q)
theorem DenL.split {d : D} {ds : List D} {vs : List V} (h : DenL K F (d :: ds) vs) : ∃ v r, vs = v :: r ∧ Den K F d v ∧ DenL K F ds r := by
  simpa only [DenL] using h
theorem den_int {i : Int} {v : V} : Den K F (.int i) v ↔ v = .int i := by simp only [Den]
theorem den_str {i : Tx} {v : V} : Den K F (.str i) v ↔ v = .str (sx i) := by simp only [Den]
theorem den_bl {i : Bool} {v : V} : Den K F (.bl i) v ↔ v = .bl i := by simp only [Den]
theorem den_non {v : V} : Den K F .non v ↔ v = .non := by simp only [Den]
theorem den_ref {a : Addr} {v : V} : Den K F (.ref a) v ↔ v = .ref a := by simp only [Den]
theorem den_ty {a : String} {v : V} : Den K F (.ty a) v ↔ v = .ty a := by simp only [Den]
theorem den_tup {ds : List D} {v : V} : Den K F (.tup ds) v ↔ ∃ a vs, v = .ref a ∧ SqT K F a vs ∧ DenL K F ds vs := by simp only [Den]
theorem den_lst {ds : List D} {v : V} : Den K F (.lst ds) v ↔ ∃ a vs, v = .ref a ∧ F a = some (.lst vs) ∧ DenL K F ds vs := by simp only [Den]
theorem den_rdl {ds : List D} {v : V} : Den K F (.rdl ds) v ↔ ∃ a vs, v = .ref a ∧ SqL K F a vs ∧ DenL K F ds vs := by simp only [Den]
theorem den_exv {c : Addr} {fs : Flds} {v : V} : Den K F (.exv c fs) v ↔ ∃ a dx vs, v = .ref a ∧ F a = some (exo a c (some dx)) ∧ F dx = some (exd dx vs) ∧ DenF K F fs vs := by simp only [Den]
theorem den_obj {c : Addr} {fs : Flds} {v : V} : Den K F (.obj c fs) v ↔ ∃ a dx vs, v = .ref a ∧ F a = some (.ins c dx vs) ∧ DenF K F fs vs := by simp only [Den]
end
def kget (n : Nat) : Flds → Option D
  | [] => none
  | (m, d) :: r => if m = n then some d else kget n r
def kput (n : Nat) (d : D) : Flds → Flds
  | [] => [(n, d)]
  | (m, e) :: r => if m = n then (m, d) :: r else (m, e) :: kput n d r
theorem DenF.lookup {K : PySem.W.Frag} {F : Hp} {n : Nat} (hn : n < 55) : ∀ {fs : Flds} {vs : List (Str × V)}, DenF K F fs vs → (match kget n fs with
    | some d => ∃ v, vs.lookup (atn n) = some v ∧ Den K F d v
    | none => vs.lookup (atn n) = none)
  | [], _, h => by simp only [DenF] at h; subst h; simp [kget]
  | (m, d) :: r, _, h => by
    simp only [DenF] at h
    obtain ⟨v, t, rfl, hm, hd, q⟩ := h
    unfold kget
    by_cases e : m = n
    · subst e
      rw [if_pos rfl]
      exact ⟨v, by simp [List.lookup], hd⟩
    · rw [if_neg e]
      have ne : (atn n == atn m) = false := by
        rw [beq_eq_false_iff_ne]
        exact fun z => e (atn_inj hm hn z.symm)
      have l : List.lookup (atn n) ((atn m, v) :: t) = List.lookup (atn n) t := by simp [List.lookup, ne]
      rw [l]
      exact DenF.lookup hn q
theorem DenF.put {K : PySem.W.Frag} {F : Hp} {n : Nat} (hn : n < 55) {d : D} {v : V} (hv : Den K F d v) : ∀ {fs : Flds} {vs : List (Str × V)}, DenF K F fs vs → DenF K F (kput n d fs) (putF (atn n) v vs)
  | [], _, h => by
    simp only [DenF] at h
    subst h
    simp only [kput, putF, DenF]
    exact ⟨v, [], rfl, hn, hv, rfl⟩
  | (m, e) :: r, _, h => by
    simp only [DenF] at h
    obtain ⟨u, t, rfl, hm, hd, q⟩ := h
    unfold kput putF
    by_cases z : m = n
    · subst z
      rw [if_pos rfl, if_pos rfl]
      simp only [DenF]
      exact ⟨v, t, rfl, hm, hv, q⟩
    · have ne : ¬ atn m = atn n := fun y => z (atn_inj hm hn y)
      rw [if_neg z, if_neg ne]
      simp only [DenF]
      exact ⟨u, _, rfl, hm, hd, DenF.put hn hv q⟩
theorem DenF.len {K : PySem.W.Frag} {F : Hp} : ∀ {fs : Flds} {vs : List (Str × V)}, DenF K F fs vs → vs.length = fs.length
  | [], _, h => by simp only [DenF] at h; subst h; rfl
  | (_, _) :: _, _, h => by
    simp only [DenF] at h
    obtain ⟨u, t, rfl, _, _, q⟩ := h
    simp [DenF.len q]
/-- a name that is no attribute of the object -/
theorem DenF.nolook {K : PySem.W.Frag} {F : Hp} {m : Str} : ∀ {fs : Flds} {vs : List (Str × V)}, DenF K F fs vs → (∀ n, n < 55 → ¬ m = atn n) → vs.lookup m = none
  | [], _, h, _ => by simp only [DenF] at h; subst h; rfl
  | (n, _) :: _, _, h, k => by
    simp only [DenF] at h
    obtain ⟨u, t, rfl, hn, _, q⟩ := h
    have ne : (m == atn n) = false := by
      rw [beq_eq_false_iff_ne]
      exact k n hn
    simp only [List.lookup, ne]
    exact DenF.nolook q k
abbrev DK := Sum Int Tx
def keyOf : DK → Key
  | .inl i => .inl i
  | .inr x => .inr (sx x)
theorem keyOf_inj {a b : DK} (h : keyOf a = keyOf b) : a = b := by
  cases a with
  | inl i => cases b with
    | inl j => injection h with h; rw [h]
    | inr y => cases h
  | inr x => cases b with
    | inl j => cases h
    | inr y => injection h with h; rw [sx_inj h]
inductive Cell where
  | lst (ds : List D)
  | ins (c : Addr) (fs : Flds)
  | dic (kvs : List (DK × D))
abbrev Cells := List (Addr × Cell)
section
variable (K : PySem.W.Frag) (F : Hp)
def DenK : List (DK × D) → List (Key × V) → Prop := Paired fun (p : DK × D) (q : Key × V) => keyOf p.1 = q.1 ∧ Den K F p.2 q.2
def CellOk (H : Hp) (a : Addr) : Cell → Prop
  | .lst ds => ∃ vs, H a = some (.lst vs) ∧ DenL K F ds vs
  | .ins c fs => ∃ dx vs, H a = some (.ins c dx vs) ∧ DenF K F fs vs
  | .dic kvs => ∃ vs, H a = some (.dK vs) ∧ DenK K F kvs vs
/-- the frozen part stands in the heap, the cells stand beside it, one by one -/
structure At (C : Cells) (H : Hp) : Prop where
  sub : Same F H
  cell : ∀ p ∈ C, CellOk K F H p.1 p.2
  nd : (C.map (·.1)).Nodup
  out : ∀ p ∈ C, F p.1 = none
end
theorem DenK.ext {K : PySem.W.Frag} {F F' : Hp} (e : Same F F') {a : List (DK × D)} {b : List (Key × V)} (h : DenK K F a b) : DenK K F' a b :=
  Paired.mapP h fun _ _ q => ⟨q.1, q.2.ext e⟩
theorem CellOk.ext {K : PySem.W.Frag} {F F' H : Hp} {a : Addr} {c : Cell} (e : Same F F') (h : CellOk K F H a c) : CellOk K F' H a c := by
  cases c with
  | lst ds => obtain ⟨vs, q, r⟩ := h; exact ⟨vs, q, r.ext e⟩
  | ins c fs => obtain ⟨dx, vs, q, r⟩ := h; exact ⟨dx, vs, q, r.ext e⟩
  | dic kvs => obtain ⟨vs, q, r⟩ := h; exact ⟨vs, q, r.ext e⟩
theorem CellOk.at {K : PySem.W.Frag} {F H H' : Hp} {a : Addr} {c : Cell} (e : H' a = H a) (h : CellOk K F H a c) : CellOk K F H' a c := by
  cases c with
  | lst ds => obtain ⟨vs, q, r⟩ := h; exact ⟨vs, e.trans q, r⟩
  | ins c fs => obtain ⟨dx, vs, q, r⟩ := h; exact ⟨dx, vs, e.trans q, r⟩
  | dic kvs => obtain ⟨vs, q, r⟩ := h; exact ⟨vs, e.trans q, r⟩
theorem CellOk.some {K : PySem.W.Frag} {F H : Hp} {a : Addr} {c : Cell} (h : CellOk K F H a c) : ∃ o, H a = some o := by
  cases c with
  | lst ds => obtain ⟨vs, q, r⟩ := h; exact ⟨_, q⟩
  | ins c fs => obtain ⟨dx, vs, q, r⟩ := h; exact ⟨_, q⟩
  | dic kvs => obtain ⟨vs, q, r⟩ := h; exact ⟨_, q⟩
section
variable {K : PySem.W.Frag} {F F' H : Hp} {C C' : Cells}
theorem At.perm (h : At K F C H) (p : C.Perm C') : At K F C' H :=
  ⟨h.sub, fun q hq => h.cell q (p.mem_iff.mpr hq), (p.map _).nodup_iff.mp h.nd, fun q hq => h.out q (p.mem_iff.mpr hq)⟩
/-- cells may be forgotten -/
theorem At.drop {G : Cells} (h : At K F (C ++ G) H) : At K F C H :=
  ⟨h.sub, fun q hq => h.cell q (List.mem_append_left _ hq), by
    have q := h.nd
    rw [List.map_append] at q
    exact (List.nodup_append.mp q).1, fun q hq => h.out q (List.mem_append_left _ hq)⟩
theorem At.new {p : Addr} (h : At K F C H) (hp : H p = none) : F p = none := by
  cases e : F p with
  | none => rfl
  | some o => rw [h.sub _ _ e] at hp; cases hp
theorem At.newC {p : Addr} (h : At K F C H) (hp : H p = none) : ∀ q ∈ C, q.1 ≠ p := fun q hq e => by
  obtain ⟨o, z⟩ := (h.cell q hq).some
  rw [e, hp] at z
  cases z
/-- a new object that is frozen -/
theorem At.froz {p : Addr} {o : HO} (h : At K F C H) (hp : H p = none) : Same F (upd F p o) ∧ At K (upd F p o) C (upd H p o) := by
  have ex : Same F (upd F p o) := fun b u e => by rw [upd_ne (ne_of_none e (h.new hp))]; exact e
  refine ⟨ex, fun b u e => ?_, fun q hq => ?_, h.nd, fun q hq => ?_⟩
  · by_cases z : b = p
    · subst z; rw [upd_same] at e ⊢; exact e
    · rw [upd_ne z] at e ⊢; exact h.sub _ _ e
  · exact ((h.cell q hq).at (upd_ne (h.newC hp q hq))).ext ex
  · rw [upd_ne (h.newC hp q hq)]; exact h.out q hq
/-- a new object that is a cell -/
theorem At.fresh {p : Addr} {o : HO} {c : Cell} (h : At K F C H) (hp : H p = none) (hc : CellOk K F (upd H p o) p c) : At K F ((p, c) :: C) (upd H p o) := by
  refine ⟨fun b u e => by rw [upd_ne (ne_of_none (h.sub _ _ e) hp)]; exact h.sub _ _ e, fun q hq => ?_, ?_, fun q hq => ?_⟩
  · rcases List.mem_cons.mp hq with rfl | hq
    · exact hc
    · exact (h.cell q hq).at (upd_ne (h.newC hp q hq))
  · rw [List.map_cons, List.nodup_cons]
    refine ⟨fun z => ?_, h.nd⟩
    obtain ⟨q, hq, e⟩ := List.mem_map.mp z
    exact h.newC hp q hq e
  · rcases List.mem_cons.mp hq with rfl | hq
    · exact h.new hp
    · exact h.out q hq
/-- a cell at the head is written -/
theorem At.write {p : Addr} {o : HO} {c c' : Cell} (h : At K F ((p, c) :: C) H) (hc : CellOk K F (upd H p o) p c') : At K F ((p, c') :: C) (upd H p o) := by
  have hn := h.nd
  rw [List.map_cons, List.nodup_cons] at hn
  have ne : ∀ q ∈ C, q.1 ≠ p := fun q hq e => hn.1 (List.mem_map.mpr ⟨q, hq, e⟩)
  have po : F p = none := h.out (p, c) List.mem_cons_self
  refine ⟨fun b u e => by rw [upd_ne (ne_of_none e po)]; exact h.sub _ _ e, fun q hq => ?_, ?_, fun q hq => ?_⟩
  · rcases List.mem_cons.mp hq with rfl | hq
    · exact hc
    · exact (h.cell q (List.mem_cons_of_mem _ hq)).at (upd_ne (ne q hq))
  · rw [List.map_cons, List.nodup_cons]; exact hn
  · rcases List.mem_cons.mp hq with rfl | hq
    · exact po
    · exact h.out q (List.mem_cons_of_mem _ hq)
/-- a list that is a cell is frozen -/
theorem At.ice {p : Addr} {ds : List D} (h : At K F ((p, .lst ds) :: C) H) : ∃ F', Same F F' ∧ At K F' C H ∧ Den K F' (.lst ds) (.ref p) := by
  obtain ⟨vs, q, r⟩ := h.cell (p, .lst ds) List.mem_cons_self
  have po : F p = none := h.out (p, .lst ds) List.mem_cons_self
  have hn := h.nd
  rw [List.map_cons, List.nodup_cons] at hn
  have ne : ∀ q ∈ C, q.1 ≠ p := fun q hq e => hn.1 (List.mem_map.mpr ⟨q, hq, e⟩)
  have ex : Same F (upd F p (.lst vs)) := fun b u e => by rw [upd_ne (ne_of_none e po)]; exact e
  refine ⟨upd F p (.lst vs), ex, ⟨fun b u e => ?_, fun q hq => (h.cell q (List.mem_cons_of_mem _ hq)).ext ex, hn.2, fun q hq => ?_⟩, ?_⟩
  · by_cases z : b = p
    · subst z; rw [upd_same] at e; rw [q]; exact e
    · rw [upd_ne z] at e; exact h.sub _ _ e
  · rw [upd_ne (ne q hq)]; exact h.out q (List.mem_cons_of_mem _ hq)
  · rw [den_lst]
    exact ⟨p, vs, rfl, upd_same, r.ext ex⟩
/-- an instance that is a cell is frozen -/
theorem At.iceO {p c : Addr} {fs : Flds} (h : At K F ((p, .ins c fs) :: C) H) : ∃ F', Same F F' ∧ At K F' C H ∧ Den K F' (.obj c fs) (.ref p) := by
  obtain ⟨dx, vs, q, r⟩ := h.cell (p, .ins c fs) List.mem_cons_self
  have po : F p = none := h.out (p, .ins c fs) List.mem_cons_self
  have hn := h.nd
  rw [List.map_cons, List.nodup_cons] at hn
  have ne : ∀ q ∈ C, q.1 ≠ p := fun q hq e => hn.1 (List.mem_map.mpr ⟨q, hq, e⟩)
  have ex : Same F (upd F p (.ins c dx vs)) := fun b u e => by rw [upd_ne (ne_of_none e po)]; exact e
  refine ⟨upd F p (.ins c dx vs), ex, ⟨fun b u e => ?_, fun q hq => (h.cell q (List.mem_cons_of_mem _ hq)).ext ex, hn.2, fun q hq => ?_⟩, ?_⟩
  · by_cases z : b = p
    · subst z; rw [upd_same] at e; rw [q]; exact e
    · rw [upd_ne z] at e; exact h.sub _ _ e
  · rw [upd_ne (ne q hq)]; exact h.out q (List.mem_cons_of_mem _ hq)
  · rw [den_obj]
    exact ⟨p, dx, vs, rfl, upd_same, r.ext ex⟩
end
abbrev Ev := List (Option D)
def SlotR (K : PySem.W.Frag) (F : Hp) : Option D → Option V → Prop
  | none, _ => True
  | some d, ov => ∃ v, ov = some v ∧ Den K F d v
abbrev Slots (K : PySem.W.Frag) (F : Hp) : Ev → L2.St → Prop := Paired (SlotR K F)
theorem Slots.ext {K : PySem.W.Frag} {F F' : Hp} (e : Same F F') {δ : Ev} {σ : L2.St} (h : Slots K F δ σ) : Slots K F' δ σ :=
  Paired.mapP h fun a b q => by
    cases a with
    | none => trivial
    | some d => obtain ⟨v, r, l⟩ := q; exact ⟨v, r, l.ext e⟩
theorem Slots.get {K : PySem.W.Frag} {F : Hp} : ∀ {δ : Ev} {σ : L2.St} {i : Nat} {d : D}, Slots K F δ σ → δ[i]? = some (some d) → ∃ v, σ[i]? = some (some v) ∧ Den K F d v
  | _, _, _, _, .nil, e => by simp at e
  | _, _, 0, d, .cons r _, e => by
    simp at e
    subst e
    obtain ⟨v, z, l⟩ := r
    exact ⟨v, by rw [z]; rfl, l⟩
  | _, _, i + 1, d, .cons _ t, e => by
    obtain ⟨v, z, l⟩ := Slots.get (i := i) (d := d) t (by simpa using e)
    exact ⟨v, by simpa using z, l⟩
theorem Slots.set {K : PySem.W.Frag} {F : Hp} {d : D} {v : V} (h : Den K F d v) : ∀ {δ : Ev} {σ : L2.St} (i : Nat), Slots K F δ σ → Slots K F (δ.set i (some d)) (σ.set i (some v))
  | _, _, _, .nil => .nil
  | _, _, 0, .cons _ t => .cons ⟨v, rfl, h⟩ t
  | _, _, i + 1, .cons r t => .cons r (Slots.set h i t)
theorem Slots.unset {K : PySem.W.Frag} {F : Hp} {o : Option V} : ∀ {δ : Ev} {σ : L2.St} (i : Nat), Slots K F δ σ → Slots K F (δ.set i none) (σ.set i o)
  | _, _, _, .nil => .nil
  | _, _, 0, .cons _ t => .cons trivial t
  | _, _, i + 1, .cons r t => .cons r (Slots.unset i t)
end G
namespace G
open PySem PySem.Spec PyProof.Rows L2
/-- an exception: its class, its own fields -/
structure Exc where
  cls : Addr
  fs : Flds
abbrev PD := D → Cells → Prop
abbrev PXt := Exc → Cells → Prop
abbrev LE := Ev → Cells → PD → PXt → Prop
abbrev LT := Ev → Cells → (Bool → Cells → Prop) → PXt → Prop
abbrev LA := Ev → Cells → (List D → Cells → Prop) → PXt → Prop
def ExcAt (K : PySem.W.Frag) (F H : Hp) (d : Option Addr) (x : Exc) : Prop := ∃ dd vs, d = some dd ∧ H dd = some (.xd vs) ∧ DenF K F x.fs vs
/-- the wish about exceptions, lifted -/
def lw (K : PySem.W.Frag) (F : Hp) (R : Cells) (σ : L2.St) (PX : PXt) : WX := fun cls d σ' H' => ∃ x F' C', cls = .ref x.cls ∧ Same F F' ∧ At K F' (C' ++ R) H' ∧ ExcAt K F' H' d x ∧ σ' = σ ∧ PX x C'
abbrev Tk (X : Cx) (F : Hp) (R : Cells) (σ : L2.St) (PX : PXt) : Prop := Takes X (lw X.K F R σ PX)
theorem Tk.ext {X : Cx} {F F' : Hp} {R : Cells} {σ : L2.St} {PX : PXt} (e : Same F F') (t : Tk X F R σ PX) : Tk X F' R σ PX :=
  t.imp fun c d σ' H ⟨x, F2, C2, h1, h2, h3⟩ => ⟨x, F2, C2, h1, e.trans h2, h3⟩
section
variable (X : Cx)
def up (l : LE) : TE := fun σ H Q => ∃ (F : Hp) (R C : Cells) (δ : Ev) (P : PD) (PX : PXt), Slots X.K F δ σ ∧ At X.K F (C ++ R) H ∧ Tk X F R σ PX ∧ l δ C P PX ∧
  ∀ v d F' C' H', Same F F' → At X.K F' (C' ++ R) H' → Den X.K F' d v → P d C' → Q v H'
def upT (l : LT) : TT := fun σ H Q => ∃ (F : Hp) (R C : Cells) (δ : Ev) (P : Bool → Cells → Prop) (PX : PXt), Slots X.K F δ σ ∧ At X.K F (C ++ R) H ∧ Tk X F R σ PX ∧ l δ C P PX ∧
  ∀ b F' C' H', Same F F' → At X.K F' (C' ++ R) H' → P b C' → Q b H'
def upA (l : LA) : TA := fun σ H Q => ∃ (F : Hp) (R C : Cells) (δ : Ev) (P : List D → Cells → Prop) (PX : PXt), Slots X.K F δ σ ∧ At X.K F (C ++ R) H ∧ Tk X F R σ PX ∧ l δ C P PX ∧
  ∀ vs ds F' C' H', Same F F' → At X.K F' (C' ++ R) H' → DenL X.K F' ds vs → P ds C' → Q vs H'
abbrev GE (e : Expr) (l : LE) : Prop := PE X e (up X l)
abbrev GT (e : Expr) (l : LT) : Prop := PT X e (upT X l)
abbrev GA (es : List Expr) (l : LA) : Prop := PA X es (upA X l)
end
theorem PE.imp {X : Cx} {e : Expr} {t t' : TE} (h : PE X e t) (i : ∀ σ H Q, t' σ H Q → t σ H Q) : PE X e t' := ⟨fun pins s σ H Q I q => h.run pins s σ H Q I (i _ _ _ q)⟩
theorem PT.imp {X : Cx} {e : Expr} {t t' : TT} (h : PT X e t) (i : ∀ σ H Q, t' σ H Q → t σ H Q) : PT X e t' := ⟨fun pins s σ H Q I q => h.run pins s σ H Q I (i _ _ _ q)⟩
theorem PA.imp {X : Cx} {es : List Expr} {t t' : TA} (h : PA X es t) (i : ∀ σ H Q, t' σ H Q → t σ H Q) : PA X es t' := ⟨fun pos pins s σ H Q I q => h.run pos pins s σ H Q I (i _ _ _ q)⟩
def vget : Nat → Ev → (D → Prop) → Prop
  | 0, δ, k => match δ with
    | some d :: _ => k d
    | _ => False
  | i + 1, δ, k => match δ with
    | _ :: r => vget i r k
    | _ => False
theorem vget_ok : ∀ {i : Nat} {δ : Ev} {k : D → Prop}, vget i δ k → ∃ d, δ[i]? = some (some d) ∧ k d
  | 0, some d :: _, _, h => ⟨d, rfl, h⟩
  | 0, none :: _, _, h => h.elim
  | 0, [], _, h => h.elim
  | i + 1, x :: r, k, h => by
    obtain ⟨d, e, q⟩ := vget_ok (i := i) (δ := r) (k := k) h
    exact ⟨d, by simpa using e, q⟩
  | i + 1, [], _, h => h.elim
def lVar (i : Nat) : LE := fun δ C P _ => vget i δ fun d => P d C
def lC (d : D) : LE := fun _ C P _ => P d C
section
variable {X : Cx} {pos : Pos}
theorem gv (i : Nat) {x : Str} (hN : X.N[i]? = some x := by rfl) (hv : Vis X.env.scope x := by first | exact Or.inl rfl | exact Or.inr (Or.inl rfl) | exact Or.inr (Or.inr rfl)) (hd : (x == ("__debug__" : Str)) = false := by decide)
    (hcd : (x == ("__classdict__" : Str)) = false := by decide) : GE X (.Name x pos) (lVar i) :=
  PE.imp (pv i hN hv hd hcd) fun σ H Q ⟨F, R, C, δ, P, PX, hs, ha, tk, h, k⟩ => by
    obtain ⟨d, e, q⟩ := vget_ok h
    obtain ⟨v, z, l⟩ := hs.get e
    exact ⟨v, z, k v d F C H (Same.refl _) ha l q⟩
theorem lc_of {e : Expr} {v : V} {d : D} (hd : ∀ F, Den X.K F d v) (h : PE X e (tC v)) : GE X e (lC d) :=
  PE.imp h fun σ H Q ⟨F, R, C, δ, P, PX, hs, ha, tk, h, k⟩ => k v d F C H (Same.refl _) ha (hd F) h
theorem gint {i : Int} {j : Nat} : GE X (.Constant (.int i) j pos) (lC (.int i)) := lc_of (fun _ => den_int.mpr rfl) pe_int
theorem gbl {b : Bool} {j : Nat} : GE X (.Constant (.bool b) j pos) (lC (.bl b)) := lc_of (fun _ => den_bl.mpr rfl) pe_bl
theorem gnon {j : Nat} : GE X (.Constant .none j pos) (lC .non) := lc_of (fun _ => den_non.mpr rfl) pe_non
theorem gstr (l : Tx) {x : Str} {j : Nat} (e : x = sx l) : GE X (.Constant (.str x) j pos) (lC (.str l)) := lc_of (fun _ => den_str.mpr (congrArg V.str e)) pe_str
theorem gglob {x : Str} {v : V} {u : Value} {d : D} (hg : Gl X x) (hm : X.mg x = some u) (r : RelV v u) (hd : ∀ F, Den X.K F d v) (hdb : (x == ("__debug__" : Str)) = false := by decide) : GE X (.Name x pos) (lC d) :=
  lc_of hd (pe_glob hg hm r hdb)
/-- a module's int, text -/
theorem ggint {x : Str} {i : Int} (hg : Gl X x) (hm : ∃ t, X.mg x = some (.int i t)) (hdb : (x == ("__debug__" : Str)) = false := by decide) : GE X (.Name x pos) (lC (.int i)) := by
  obtain ⟨t, hm⟩ := hm
  exact gglob hg hm (v := .int i) ⟨t, rfl⟩ (fun _ => den_int.mpr rfl) hdb
theorem ggstr {x z : Str} (l : Tx) (hg : Gl X x) (hm : ∃ t, X.mg x = some (.str z t)) (e : z = sx l) (hdb : (x == ("__debug__" : Str)) = false := by decide) : GE X (.Name x pos) (lC (.str l)) := by
  obtain ⟨t, hm⟩ := hm
  exact gglob hg hm (v := .str z) ⟨t, rfl⟩ (fun _ => den_str.mpr (congrArg V.str e)) hdb
theorem ggref {x : Str} {a : Addr} (hg : Gl X x) (hm : X.mg x = some (.ref a)) (hdb : (x == ("__debug__" : Str)) = false := by decide) : GE X (.Name x pos) (lC (.ref a)) :=
  gglob hg hm (v := .ref a) rfl (fun _ => den_ref.mpr rfl) hdb
theorem ggtup {x : Str} {a : Addr} {ds : List D} {vs : List V} (hg : Gl X x) (hm : X.mg x = some (.ref a)) (hq : ∀ H, SqT X.K H a vs) (hd : ∀ F, DenL X.K F ds vs) (hdb : (x == ("__debug__" : Str)) = false := by decide) : GE X (.Name x pos) (lC (.tup ds)) :=
  gglob hg hm (v := .ref a) rfl (fun F => den_tup.mpr ⟨a, vs, rfl, hq F, hd F⟩) hdb
end
/-- an operation on two deep values: the cells stay -/
abbrev LB := D → D → Cells → (D → Prop) → Prop
abbrev LU := D → Cells → (D → Prop) → Prop
/-- what is wanted of a result that leaves the cells as they are -/
abbrev Kr (X : Cx) (F : Hp) (R C : Cells) (k : D → Prop) (Q : VK) : Prop := ∀ v d F' H', Same F F' → At X.K F' (C ++ R) H' → Den X.K F' d v → k d → Q v H'
def LiftB (X : Cx) (r : R2) (lb : LB) : Prop := ∀ (F : Hp) (R C : Cells) (H : Hp) (x y : V) (d e : D) (k : D → Prop) (Q : VK), At X.K F (C ++ R) H → Den X.K F d x → Den X.K F e y → lb d e C k → Kr X F R C k Q → r x y H Q
def LiftU (X : Cx) (r : V → Hp → VK → Prop) (lu : LU) : Prop := ∀ (F : Hp) (R C : Cells) (H : Hp) (x : V) (d : D) (k : D → Prop) (Q : VK), At X.K F (C ++ R) H → Den X.K F d x → lu d C k → Kr X F R C k Q → r x H Q
def lOp (lb : LB) (la lc : LE) : LE := fun δ C P PX => la δ C (fun d C1 => lc δ C1 (fun e C2 => lb d e C2 fun z => P z C2) PX) PX
def lUn (lu : LU) (la : LE) : LE := fun δ C P PX => la δ C (fun d C1 => lu d C1 fun z => P z C1) PX
section
variable {X : Cx} {a b : Expr} {la lb : LE} {pos : Pos}
theorem up_op {r : R2} {l2 : LB} (L : LiftB X r l2) (σ : L2.St) (H : Hp) (Q : VK) (h : up X (lOp l2 la lb) σ H Q) : tOp r (up X la) (up X lb) σ H Q := by
  obtain ⟨F, R, C, δ, P, PX, hs, ha, tk, h, k⟩ := h
  exact ⟨F, R, C, δ, _, PX, hs, ha, tk, h, fun v d F1 C1 H1 e1 a1 n1 p1 => ⟨F1, R, C1, δ, _, PX, hs.ext e1, a1, tk.ext e1, p1, fun u e F2 C2 H2 e2 a2 n2 p2 =>
    L F2 R C2 H2 v u d e _ Q a2 (n1.ext e2) n2 p2 fun w z F3 H3 e3 a3 n3 p3 => k w z F3 C2 H3 ((e1.trans e2).trans e3) a3 n3 p3⟩⟩
theorem up_un {r : V → Hp → VK → Prop} {l1 : LU} (L : LiftU X r l1) (σ : L2.St) (H : Hp) (Q : VK) (h : up X (lUn l1 la) σ H Q) : tUn r (up X la) σ H Q := by
  obtain ⟨F, R, C, δ, P, PX, hs, ha, tk, h, k⟩ := h
  exact ⟨F, R, C, δ, _, PX, hs, ha, tk, h, fun v d F1 C1 H1 e1 a1 n1 p1 => L F1 R C1 H1 v d _ Q a1 n1 p1 fun w z F3 H3 e3 a3 n3 p3 => k w z F3 C1 H3 (e1.trans e3) a3 n3 p3⟩
theorem gop {op : Operator} {r : R2} {l2 : LB} (ho : OpR X (binaryOp op) r) (L : LiftB X r l2) (ha : GE X a la) (hb : GE X b lb) : GE X (.BinOp a op b pos) (lOp l2 la lb) := PE.imp (pe_op ho ha hb) (up_op L)
theorem gun {op : UnaryOp} {r : V → Hp → VK → Prop} {l1 : LU} (ho : UnR X (unaryOp op) r) (L : LiftU X r l1) (ha : GE X a la) : GE X (.UnaryOp op a pos) (lUn l1 la) := PE.imp (pe_un ho ha) (up_un L)
theorem gcmp {op : CmpOp} {r : R2} {l2 : LB} (ho : OpR X (compareOp op) r) (L : LiftB X r l2) (hm : behindInMarks op b = false) (ha : GE X a la) (hb : GE X b lb) : GE X (.Compare a [op] [b] pos) (lOp l2 la lb) := PE.imp (pe_cmpR ho ha hb hm) (up_op L)
end
def LiftB.or {X : Cx} {r r' : R2} {l l' : LB} (h : LiftB X r l) (h' : LiftB X r' l') : LiftB X (fun x y H Q => r x y H Q ∨ r' x y H Q) (fun d e C k => l d e C k ∨ l' d e C k) :=
  fun F R C H x y d e k Q ha hd he q kk => q.elim (fun q => .inl (h F R C H x y d e k Q ha hd he q kk)) fun q => .inr (h' F R C H x y d e k Q ha hd he q kk)
theorem LiftB.imp {X : Cx} {r r' : R2} {l l' : LB} (h : LiftB X r l) (i : ∀ x y H Q, r x y H Q → r' x y H Q) (j : ∀ d e C k, l' d e C k → l d e C k) : LiftB X r' l' :=
  fun F R C H x y d e k Q ha hd he q kk => i _ _ _ _ (h F R C H x y d e k Q ha hd he (j _ _ _ _ q) kk)
/-- the items of a list -/
structure CellL (a : Addr) (C : Cells) (k : List D → Prop) : Prop where
  ex : ∃ ds, (a, Cell.lst ds) ∈ C ∧ k ds
def listV : D → Cells → (List D → Prop) → Prop
  | .lst ds, _, k => k ds
  | .rdl ds, _, k => k ds
  | .ref a, C, k => CellL a C k
  | _, _, _ => False
def seqV : D → Cells → (List D → Prop) → Prop
  | .lst ds, _, k => k ds
  | .rdl ds, _, k => k ds
  | .tup ds, _, k => k ds
  | .ref a, C, k => CellL a C k
  | _, _, _ => False
section
variable {K : PySem.W.Frag} {F H : Hp} {C R : Cells} {x : V} {d : D} {k : List D → Prop}
theorem cell_lst {a : Addr} {ds : List D} (ha : At K F (C ++ R) H) (h : (a, Cell.lst ds) ∈ C) : ∃ vs, H a = some (.lst vs) ∧ DenL K F ds vs := ha.cell _ (List.mem_append_left _ h)
theorem listV_ok (ha : At K F (C ++ R) H) (hd : Den K F d x) (h : listV d C k) : ∃ a vs ds, x = .ref a ∧ SqL K H a vs ∧ DenL K F ds vs ∧ k ds := by
  cases d with
  | lst ds =>
    obtain ⟨a, vs, e, q, l⟩ := den_lst.mp hd
    exact ⟨a, vs, ds, e, SqL.of (ha.sub _ _ q), l, h⟩
  | rdl ds =>
    obtain ⟨a, vs, e, q, l⟩ := den_rdl.mp hd
    exact ⟨a, vs, ds, e, SqL.ext ha.sub q, l, h⟩
  | ref a =>
    obtain ⟨ds, q, h⟩ := h.ex
    obtain ⟨vs, e, l⟩ := cell_lst ha q
    exact ⟨a, vs, ds, den_ref.mp hd, SqL.of e, l, h⟩
  | _ => exact h.elim
theorem seqV_ok (ha : At K F (C ++ R) H) (hd : Den K F d x) (h : seqV d C k) : ∃ a vs ds, x = .ref a ∧ (SqL K H a vs ∨ SqT K H a vs) ∧ DenL K F ds vs ∧ k ds := by
  cases d with
  | lst ds =>
    obtain ⟨a, vs, e, q, l⟩ := den_lst.mp hd
    exact ⟨a, vs, ds, e, .inl (SqL.of (ha.sub _ _ q)), l, h⟩
  | rdl ds =>
    obtain ⟨a, vs, e, q, l⟩ := den_rdl.mp hd
    exact ⟨a, vs, ds, e, .inl (SqL.ext ha.sub q), l, h⟩
  | tup ds =>
    obtain ⟨a, vs, e, q, l⟩ := den_tup.mp hd
    exact ⟨a, vs, ds, e, .inr (SqT.ext ha.sub q), l, h⟩
  | ref a =>
    obtain ⟨ds, q, h⟩ := h.ex
    obtain ⟨vs, e, l⟩ := cell_lst ha q
    exact ⟨a, vs, ds, den_ref.mp hd, .inl (SqL.of e), l, h⟩
  | _ => exact h.elim
/-- a new frozen list, tuple -/
theorem new_lst {p : Addr} {vs : List V} {ds : List D} (ha : At K F (C ++ R) H) (hp : H p = none) (hl : DenL K F ds vs) :
    Same F (upd F p (.lst vs)) ∧ At K (upd F p (.lst vs)) (C ++ R) (upd H p (.lst vs)) ∧ Den K (upd F p (.lst vs)) (.lst ds) (.ref p) := by
  obtain ⟨e, a⟩ := ha.froz (o := .lst vs) hp
  exact ⟨e, a, den_lst.mpr ⟨p, vs, rfl, upd_same, hl.ext e⟩⟩
theorem new_tup {p : Addr} {vs : List V} {ds : List D} (ha : At K F (C ++ R) H) (hp : H p = none) (hl : DenL K F ds vs) :
    Same F (upd F p (.tup vs)) ∧ At K (upd F p (.tup vs)) (C ++ R) (upd H p (.tup vs)) ∧ Den K (upd F p (.tup vs)) (.tup ds) (.ref p) := by
  obtain ⟨e, a⟩ := ha.froz (o := .tup vs) hp
  exact ⟨e, a, den_tup.mpr ⟨p, vs, rfl, SqT.of upd_same, hl.ext e⟩⟩
end
def lNil : LA := fun _ C P _ => P [] C
def lCons (le : LE) (la : LA) : LA := fun δ C P PX => le δ C (fun d C1 => la δ C1 (fun ds C2 => P (d :: ds) C2) PX) PX
def lim : Nat := 16777216
theorem lim_eq : lim = sizeLine := by rw [sizeLine_eq]; rfl
def lTup (la : LA) : LE := fun δ C P PX => la δ C (fun ds C1 => Nat.ble ds.length lim = true ∧ P (.tup ds) C1) PX
def lLst (la : LA) : LE := fun δ C P PX => la δ C (fun ds C1 => Nat.ble ds.length lim = true ∧ P (.lst ds) C1) PX
/-- a display that is a cell -/
def lLstC (la : LA) : LE := fun δ C P PX => la δ C (fun ds C1 => Nat.ble ds.length lim = true ∧ ∀ p, P (.ref p) ((p, .lst ds) :: C1)) PX
theorem ble_lim {n : Nat} (h : Nat.ble n lim = true) : n ≤ sizeLine := by rw [← lim_eq]; exact Nat.le_of_ble_eq_true h
section
variable {X : Cx} {e : Expr} {es : List Expr} {le : LE} {la : LA} {pos : Pos}
theorem ga_nil : GA X [] lNil := PA.imp pa_nil fun σ H Q ⟨F, R, C, δ, P, PX, hs, ha, tk, h, k⟩ => k [] [] F C H (Same.refl _) ha .nil h
theorem ga_cons (he : GE X e le) (hr : GA X es la) (hs : starEach (e :: es) X.env = (false, eval e X.env) :: starEach es X.env := by rfl) : GA X (e :: es) (lCons le la) :=
  PA.imp (pa_cons he hr hs) fun σ H Q ⟨F, R, C, δ, P, PX, hs, ha, tk, h, k⟩ =>
    ⟨F, R, C, δ, _, PX, hs, ha, tk, h, fun v d F1 C1 H1 e1 a1 n1 p1 => ⟨F1, R, C1, δ, _, PX, hs.ext e1, a1, tk.ext e1, p1, fun vs ds F2 C2 H2 e2 a2 n2 p2 => k _ _ F2 C2 H2 (e1.trans e2) a2 (.cons (n1.ext e2) n2) p2⟩⟩
theorem gtup {x1 : Nat} (h : GA X es la) : GE X (.Tuple es x1 pos) (lTup la) :=
  PE.imp (pe_tup h) fun σ H Q ⟨F, R, C, δ, P, PX, hs, ha, tk, h, k⟩ =>
    ⟨F, R, C, δ, _, PX, hs, ha, tk, h, fun vs ds F1 C1 H1 e1 a1 n1 p1 => ⟨by rw [n1.len]; exact ble_lim p1.1, fun p hp => by
      obtain ⟨e2, a2, n2⟩ := new_tup a1 hp n1
      exact k _ _ _ C1 _ (e1.trans e2) a2 n2 p1.2⟩⟩
theorem glst (h : GA X es la) : GE X (.List es pos) (lLst la) :=
  PE.imp (pe_lst h) fun σ H Q ⟨F, R, C, δ, P, PX, hs, ha, tk, h, k⟩ =>
    ⟨F, R, C, δ, _, PX, hs, ha, tk, h, fun vs ds F1 C1 H1 e1 a1 n1 p1 => ⟨by rw [n1.len]; exact ble_lim p1.1, fun p hp => by
      obtain ⟨e2, a2, n2⟩ := new_lst a1 hp n1
      exact k _ _ _ C1 _ (e1.trans e2) a2 n2 p1.2⟩⟩
theorem glstC (h : GA X es la) : GE X (.List es pos) (lLstC la) :=
  PE.imp (pe_lst h) fun σ H Q ⟨F, R, C, δ, P, PX, hs, ha, tk, h, k⟩ =>
    ⟨F, R, C, δ, _, PX, hs, ha, tk, h, fun vs ds F1 C1 H1 e1 a1 n1 p1 => ⟨by rw [n1.len]; exact ble_lim p1.1, fun p hp =>
      k _ _ F1 _ _ e1 (a1.fresh (c := .lst ds) hp ⟨vs, upd_same, n1⟩) (den_ref.mpr rfl) (p1.2 p)⟩⟩
end
end G
namespace G
open PySem PySem.Spec PyProof.Rows L2
def blV : D → (Bool → Prop) → Prop
  | .bl b, k => k b
  | _, _ => False
theorem blV_ok {K : PySem.W.Frag} {F : Hp} {d : D} {v : V} {k : Bool → Prop} (h : blV d k) (hd : Den K F d v) : ∃ b, v = .bl b ∧ k b := by
  cases d with
  | bl b => exact ⟨b, den_bl.mp hd, h⟩
  | _ => exact h.elim
def lTest (le : LE) : LT := fun δ C P PX => le δ C (fun d C1 => blV d fun b => P b C1) PX
def brB (b : Bool) (t f : Prop) : Prop := match b with
  | true => t
  | false => f
def lAnd (a b : LT) : LT := fun δ C P PX => a δ C (fun c C1 => brB c (b δ C1 P PX) (P false C1)) PX
def lOr (a b : LT) : LT := fun δ C P PX => a δ C (fun c C1 => brB c (P true C1) (b δ C1 P PX)) PX
def lNot (a : LT) : LT := fun δ C P PX => a δ C (fun c C1 => P (!c) C1) PX
def lIfE (t : LT) (a b : LE) : LE := fun δ C P PX => t δ C (fun c C1 => brB c (a δ C1 P PX) (b δ C1 P PX)) PX
def lAndV (a b : LE) : LE := fun δ C P PX => a δ C (fun d C1 => blV d fun c => brB c (b δ C1 P PX) (P (.bl false) C1)) PX
def lOrV (a b : LE) : LE := fun δ C P PX => a δ C (fun d C1 => blV d fun c => brB c (P (.bl true) C1) (b δ C1 P PX)) PX
def lNotV (a : LE) : LE := fun δ C P PX => a δ C (fun d C1 => blV d fun c => P (.bl (!c)) C1) PX
section
variable {X : Cx} {a b c : Expr} {rest : List Expr} {la lb : LE} {ta tb : LT} {pos : Pos}
theorem tB_up (σ : L2.St) (H : Hp) (Q : Bool → Hp → Prop) (h : upT X (lTest la) σ H Q) : tB (up X la) σ H Q := by
  obtain ⟨F, R, C, δ, P, PX, hs, ha, tk, h, k⟩ := h
  exact ⟨F, R, C, δ, _, PX, hs, ha, tk, h, fun v d F1 C1 H1 e1 a1 n1 p1 => by
    obtain ⟨x, rfl, q⟩ := blV_ok p1 n1
    exact ⟨x, rfl, k x F1 C1 H1 e1 a1 q⟩⟩
theorem tv (h : GE X a la) (he : ∀ whole, isTrue a X.env whole = (do let v ← whole; standAt a.pos; holding [v] (truthy v)) := by intro _; rfl) : GT X a (lTest la) := PT.imp (pt_val h he) tB_up
theorem tcmp {op : CmpOp} {r : R2} {l2 : LB} (ho : OpR X (compareOp op) r) (L : LiftB X r l2) (hm : behindInMarks op b = false) (ha : GE X a la) (hb : GE X b lb) : GT X (.Compare a [op] [b] pos) (lTest (lOp l2 la lb)) :=
  PT.imp (pt_cmpR ho ha hb hm) fun σ H Q h => by
    obtain ⟨F, R, C, δ, P, PX, hs, ha, tk, h, k⟩ := h
    exact up_op L σ H _ ⟨F, R, C, δ, _, PX, hs, ha, tk, h, fun v d F1 C1 H1 e1 a1 n1 p1 => by
      obtain ⟨x, rfl, q⟩ := blV_ok p1 n1
      exact ⟨x, rfl, k x F1 C1 H1 e1 a1 q⟩⟩
theorem PW.imp {e : Expr} {t t' : TT} (h : PW X e t) (i : ∀ σ H Q, t' σ H Q → t σ H Q) : PW X e t' := ⟨fun wh pins s σ H Q I q => h.run wh pins s σ H Q I (i _ _ _ q)⟩
abbrev GW (X : Cx) (e : Expr) (l : LT) : Prop := PW X e (upT X l)
theorem wand1 (h : GT X a ta) : GW X (.BoolOp .And [a] pos) ta := pw_and1 h
theorem wor1 (h : GT X a ta) : GW X (.BoolOp .Or [a] pos) ta := pw_or1 h
theorem wand (ha : GT X a ta) (hb : GW X (.BoolOp .And (b :: rest) pos) tb) : GW X (.BoolOp .And (a :: b :: rest) pos) (lAnd ta tb) :=
  PW.imp (pw_and ha hb) fun σ H Q ⟨F, R, C, δ, P, PX, hs, ha, tk, h, k⟩ =>
    ⟨F, R, C, δ, _, PX, hs, ha, tk, h, fun x F1 C1 H1 e1 a1 p1 => by
      cases x with
      | true => exact iteT ⟨F1, R, C1, δ, P, PX, hs.ext e1, a1, tk.ext e1, p1, fun y F2 C2 H2 e2 a2 p2 => k y F2 C2 H2 (e1.trans e2) a2 p2⟩
      | false => exact iteF (k false F1 C1 H1 e1 a1 p1)⟩
theorem wor (ha : GT X a ta) (hb : GW X (.BoolOp .Or (b :: rest) pos) tb) : GW X (.BoolOp .Or (a :: b :: rest) pos) (lOr ta tb) :=
  PW.imp (pw_or ha hb) fun σ H Q ⟨F, R, C, δ, P, PX, hs, ha, tk, h, k⟩ =>
    ⟨F, R, C, δ, _, PX, hs, ha, tk, h, fun x F1 C1 H1 e1 a1 p1 => by
      cases x with
      | true => exact iteT (k true F1 C1 H1 e1 a1 p1)
      | false => exact iteF ⟨F1, R, C1, δ, P, PX, hs.ext e1, a1, tk.ext e1, p1, fun y F2 C2 H2 e2 a2 p2 => k y F2 C2 H2 (e1.trans e2) a2 p2⟩⟩
theorem tw (h : GW X a ta) : GT X a ta := h.pt
theorem tnot (h : GT X a ta) : GT X (.UnaryOp .Not a pos) (lNot ta) :=
  PT.imp (pt_not h) fun σ H Q ⟨F, R, C, δ, P, PX, hs, ha, tk, h, k⟩ => ⟨F, R, C, δ, _, PX, hs, ha, tk, h, fun x F1 C1 H1 e1 a1 p1 => k (!x) F1 C1 H1 e1 a1 p1⟩
theorem gife (ht : GT X c ta) (ha : GE X a la) (hb : GE X b lb) : GE X (.IfExp c a b pos) (lIfE ta la lb) :=
  PE.imp (pe_ifExp ht ha hb) fun σ H Q ⟨F, R, C, δ, P, PX, hs, ha, tk, h, k⟩ =>
    ⟨F, R, C, δ, _, PX, hs, ha, tk, h, fun x F1 C1 H1 e1 a1 p1 => by
      cases x with
      | true => exact iteT ⟨F1, R, C1, δ, P, PX, hs.ext e1, a1, tk.ext e1, p1, fun v d F2 C2 H2 e2 a2 n2 p2 => k v d F2 C2 H2 (e1.trans e2) a2 n2 p2⟩
      | false => exact iteF ⟨F1, R, C1, δ, P, PX, hs.ext e1, a1, tk.ext e1, p1, fun v d F2 C2 H2 e2 a2 n2 p2 => k v d F2 C2 H2 (e1.trans e2) a2 n2 p2⟩⟩
theorem gone_ {op : BoolOp} (h : GE X a la) : GE X (.BoolOp op [a] pos) la := pe_one h
theorem gandv (ha : GE X a la) (hb : GE X (.BoolOp .And (b :: rest) pos) lb) : GE X (.BoolOp .And (a :: b :: rest) pos) (lAndV la lb) :=
  PE.imp (pe_and ha hb) fun σ H Q ⟨F, R, C, δ, P, PX, hs, ha, tk, h, k⟩ =>
    ⟨F, R, C, δ, _, PX, hs, ha, tk, h, fun v d F1 C1 H1 e1 a1 n1 p1 => by
      obtain ⟨x, rfl, q⟩ := blV_ok p1 n1
      refine ⟨x, rfl, ?_⟩
      cases x with
      | true => exact iteT ⟨F1, R, C1, δ, P, PX, hs.ext e1, a1, tk.ext e1, q, fun v d F2 C2 H2 e2 a2 n2 p2 => k v d F2 C2 H2 (e1.trans e2) a2 n2 p2⟩
      | false => exact iteF (k _ _ F1 C1 H1 e1 a1 (den_bl.mpr rfl) q)⟩
theorem gorv (ha : GE X a la) (hb : GE X (.BoolOp .Or (b :: rest) pos) lb) : GE X (.BoolOp .Or (a :: b :: rest) pos) (lOrV la lb) :=
  PE.imp (pe_or ha hb) fun σ H Q ⟨F, R, C, δ, P, PX, hs, ha, tk, h, k⟩ =>
    ⟨F, R, C, δ, _, PX, hs, ha, tk, h, fun v d F1 C1 H1 e1 a1 n1 p1 => by
      obtain ⟨x, rfl, q⟩ := blV_ok p1 n1
      refine ⟨x, rfl, ?_⟩
      cases x with
      | true => exact iteT (k _ _ F1 C1 H1 e1 a1 (den_bl.mpr rfl) q)
      | false => exact iteF ⟨F1, R, C1, δ, P, PX, hs.ext e1, a1, tk.ext e1, q, fun v d F2 C2 H2 e2 a2 n2 p2 => k v d F2 C2 H2 (e1.trans e2) a2 n2 p2⟩⟩
theorem gnotv (ha : GE X a la) : GE X (.UnaryOp .Not a pos) (lNotV la) :=
  PE.imp (pe_not ha) fun σ H Q ⟨F, R, C, δ, P, PX, hs, ha, tk, h, k⟩ =>
    ⟨F, R, C, δ, _, PX, hs, ha, tk, h, fun v d F1 C1 H1 e1 a1 n1 p1 => by
      obtain ⟨x, rfl, q⟩ := blV_ok p1 n1
      exact ⟨x, rfl, k _ _ F1 C1 H1 e1 a1 (den_bl.mpr rfl) q⟩⟩
end
structure En where
  nx : Ev → Cells → Prop
  rt : PD
  bk : Ev → Cells → Prop := fun _ _ => False
  ct : Ev → Cells → Prop := fun _ _ => False
  ex : Exc → Ev → Cells → Prop := fun _ _ _ => False
abbrev LS := En → Ev → Cells → Prop
def lwS (K : PySem.W.Frag) (F : Hp) (R : Cells) (ex : Exc → Ev → Cells → Prop) : WX := fun cls d σ' H' => ∃ x F' C' δ', cls = .ref x.cls ∧ Same F F' ∧ Slots K F' δ' σ' ∧ At K F' (C' ++ R) H' ∧ ExcAt K F' H' d x ∧ ex x δ' C'
abbrev TkS (X : Cx) (F : Hp) (R : Cells) (ex : Exc → Ev → Cells → Prop) : Prop := Takes X (lwS X.K F R ex)
theorem TkS.ext {X : Cx} {F F' : Hp} {R : Cells} {ex : Exc → Ev → Cells → Prop} (e : Same F F') (t : TkS X F R ex) : TkS X F' R ex :=
  t.imp fun c d σ' H ⟨x, F2, C2, δ2, h1, h2, h3⟩ => ⟨x, F2, C2, δ2, h1, e.trans h2, h3⟩
theorem TkS.at {X : Cx} {F : Hp} {R : Cells} {ex : Exc → Ev → Cells → Prop} {δ : Ev} {σ : L2.St} (hs : Slots X.K F δ σ) (t : TkS X F R ex) : Tk X F R σ (fun x C => ex x δ C) :=
  t.imp fun c d σ' H ⟨x, F2, C2, h1, h2, h3, h4, h5, h6⟩ => ⟨x, F2, C2, δ, h1, h2, by rw [h5]; exact hs.ext h2, h3, h4, h6⟩
structure EnR (K : PySem.W.Frag) (F : Hp) (R : Cells) (D' : Ends) (E : En) : Prop where
  nx : ∀ σ δ F' C H, Same F F' → Slots K F' δ σ → At K F' (C ++ R) H → E.nx δ C → D'.nx σ H
  rt : ∀ v d F' C H, Same F F' → At K F' (C ++ R) H → Den K F' d v → E.rt d C → D'.rt v H
  bk : ∀ σ δ F' C H, Same F F' → Slots K F' δ σ → At K F' (C ++ R) H → E.bk δ C → D'.bk σ H
  ct : ∀ σ δ F' C H, Same F F' → Slots K F' δ σ → At K F' (C ++ R) H → E.ct δ C → D'.ct σ H
theorem EnR.ext {K : PySem.W.Frag} {F F' : Hp} {R : Cells} {D' : Ends} {E : En} (e : Same F F') (h : EnR K F R D' E) : EnR K F' R D' E :=
  ⟨fun σ δ F2 C H e2 => h.nx σ δ F2 C H (e.trans e2), fun v d F2 C H e2 => h.rt v d F2 C H (e.trans e2), fun σ δ F2 C H e2 => h.bk σ δ F2 C H (e.trans e2), fun σ δ F2 C H e2 => h.ct σ δ F2 C H (e.trans e2)⟩
def upS (X : Cx) (l : LS) : TS := fun D' σ H => ∃ (F : Hp) (R C : Cells) (δ : Ev) (E : En), Slots X.K F δ σ ∧ At X.K F (C ++ R) H ∧ TkS X F R E.ex ∧ l E δ C ∧ EnR X.K F R D' E
abbrev GS (X : Cx) (s : Stmt) (l : LS) : Prop := PS X s (upS X l)
abbrev GSs (X : Cx) (s : List Stmt) (l : LS) : Prop := PSs X s (upS X l)
theorem PS.imp {X : Cx} {s : Stmt} {t t' : TS} (h : PS X s t) (i : ∀ D' σ H, t' D' σ H → t D' σ H) : PS X s t' := ⟨fun pins s σ H D' I q => h.run pins s σ H D' I (i _ _ _ q)⟩
theorem PSs.imp {X : Cx} {s : List Stmt} {t t' : TS} (h : PSs X s t) (i : ∀ D' σ H, t' D' σ H → t D' σ H) : PSs X s t' := ⟨fun pins s σ H D' I q => h.run pins s σ H D' I (i _ _ _ q)⟩
/-- a slot is stored -/
def vset : Ev → Nat → D → (Ev → Prop) → Prop
  | _ :: r, 0, d, k => k (some d :: r)
  | x :: r, i + 1, d, k => vset r i d fun r' => k (x :: r')
  | [], _, _, _ => False
theorem vset_ok : ∀ {δ : Ev} {i : Nat} {d : D} {k : Ev → Prop}, vset δ i d k → k (δ.set i (some d))
  | [], _, _, _, h => h.elim
  | _ :: _, 0, _, _, h => h
  | x :: r, i + 1, d, k, h => vset_ok (δ := r) (i := i) (d := d) h
def lNext : LS := fun E δ C => E.nx δ C
def lSeq (a b : LS) : LS := fun E δ C => a { E with nx := b E } δ C
def lAsg (le : LE) (i : Nat) : LS := fun E δ C => le δ C (fun d C1 => vset δ i d fun δ' => E.nx δ' C1) fun x C1 => E.ex x δ C1
def lDrop (le : LE) : LS := fun E δ C => le δ C (fun _ C1 => E.nx δ C1) fun x C1 => E.ex x δ C1
def lRet (le : LE) : LS := fun E δ C => le δ C E.rt fun x C1 => E.ex x δ C1
def lRetN : LS := fun E _ C => E.rt .non C
def lIf (t : LT) (a b : LS) : LS := fun E δ C => t δ C (fun c C1 => brB c (a E δ C1) (b E δ C1)) fun x C1 => E.ex x δ C1
def lBrk : LS := fun E δ C => E.bk δ C
def lCnt : LS := fun E δ C => E.ct δ C
def lNever : LS := fun _ _ _ => False
section
variable {X : Cx} {st : Stmt} {rest a b : List Stmt} {la lb : LS} {e c : Expr} {le : LE} {lt : LT} {pos pos' : Pos}
theorem snil : GSs X [] lNext := PSs.imp pss_nil fun D' σ H ⟨F, R, C, δ, E, hs, ha, tk, h, k⟩ => k.nx σ δ F C H (Same.refl _) hs ha h
theorem scons (h1 : GS X st la) (h2 : GSs X rest lb) : GSs X (st :: rest) (lSeq la lb) :=
  PSs.imp (pss_cons h1 h2) fun D' σ H ⟨F, R, C, δ, E, hs, ha, tk, h, k⟩ =>
    ⟨F, R, C, δ, { E with nx := lb E }, hs, ha, tk, h, ⟨fun σ2 δ2 F2 C2 H2 e2 s2 a2 q2 => ⟨F2, R, C2, δ2, E, s2, a2, tk.ext e2, q2, k.ext e2⟩, k.rt, k.bk, k.ct⟩⟩
theorem sone (h : GS X st la) : GSs X [st] la := pss_one h
theorem spass : GS X (.Pass pos) lNext := PS.imp ps_pass fun D' σ H ⟨F, R, C, δ, E, hs, ha, tk, h, k⟩ => k.nx σ δ F C H (Same.refl _) hs ha h
theorem sbrk : GS X (.Break pos) lBrk := PS.imp ps_break fun D' σ H ⟨F, R, C, δ, E, hs, ha, tk, h, k⟩ => k.bk σ δ F C H (Same.refl _) hs ha h
theorem scnt : GS X (.Continue pos) lCnt := PS.imp ps_continue fun D' σ H ⟨F, R, C, δ, E, hs, ha, tk, h, k⟩ => k.ct σ δ F C H (Same.refl _) hs ha h
theorem snever : GS X st lNever := PS.imp ps_never fun D' σ H ⟨F, R, C, δ, E, hs, ha, tk, h, k⟩ => h
theorem snevers : GSs X rest lNever := PSs.imp pss_never fun D' σ H ⟨F, R, C, δ, E, hs, ha, tk, h, k⟩ => h
theorem sset (i : Nat) {x : Str} (hN : X.N.Nodup) (he : GE X e le) (hi : X.N[i]? = some x := by rfl) (hx : Loc X.env.scope x := by first | exact Or.inl rfl | exact Or.inr rfl) (hs : swapsWith e (some (.Name x pos')) pos.line X.env = pure false := by rfl)
    (hf : X.fn x = true ∨ X.env.scope.names.lookup x = some .local := by first | exact .inl rfl | exact .inr rfl) : GS X (.Assign [.Name x pos'] e pos) (lAsg le i) :=
  PS.imp (ps_set hN hi hx he hs hf) fun D' σ H ⟨F, R, C, δ, E, hs, ha, tk, h, k⟩ =>
    ⟨F, R, C, δ, _, _, hs, ha, tk.at hs, h, fun v d F1 C1 H1 e1 a1 n1 p1 => k.nx _ _ F1 C1 H1 e1 ((hs.ext e1).set n1 i) a1 (vset_ok p1)⟩
theorem sexpr (he : GE X e le) (hs : swapsWith e none pos.line X.env = pure false := by rfl) : GS X (.Expr e pos) (lDrop le) :=
  PS.imp (ps_expr he hs) fun D' σ H ⟨F, R, C, δ, E, hs, ha, tk, h, k⟩ =>
    ⟨F, R, C, δ, _, _, hs, ha, tk.at hs, h, fun v d F1 C1 H1 e1 a1 n1 p1 => k.nx _ _ F1 C1 H1 e1 (hs.ext e1) a1 p1⟩
theorem sret (he : GE X e le) : GS X (.Return (some e) pos) (lRet le) :=
  PS.imp (ps_ret he) fun D' σ H ⟨F, R, C, δ, E, hs, ha, tk, h, k⟩ =>
    ⟨F, R, C, δ, _, _, hs, ha, tk.at hs, h, fun v d F1 C1 H1 e1 a1 n1 p1 => k.rt v d F1 C1 H1 e1 a1 n1 p1⟩
theorem sretn : GS X (.Return none pos) lRetN :=
  PS.imp ps_retN fun D' σ H ⟨F, R, C, δ, E, hs, ha, tk, h, k⟩ => k.rt _ _ F C H (Same.refl _) ha (den_non.mpr rfl) h
theorem sif (ht : GT X c lt) (h1 : GSs X a la) (h2 : GSs X b lb) : GS X (.If c a b pos) (lIf lt la lb) :=
  PS.imp (ps_if ht h1 h2) fun D' σ H ⟨F, R, C, δ, E, hs, ha, tk, h, k⟩ =>
    ⟨F, R, C, δ, _, _, hs, ha, tk.at hs, h, fun x F1 C1 H1 e1 a1 p1 => by
      cases x with
      | true => exact iteT ⟨F1, R, C1, δ, E, hs.ext e1, a1, tk.ext e1, p1, k.ext e1⟩
      | false => exact iteF ⟨F1, R, C1, δ, E, hs.ext e1, a1, tk.ext e1, p1, k.ext e1⟩⟩
theorem sdoc {x : Str} {j : Nat} : GS X (.Expr (.Constant (.str x) j pos) pos') lNext := PS.imp ps_doc fun D' σ H ⟨F, R, C, δ, E, hs, ha, tk, h, k⟩ => k.nx σ δ F C H (Same.refl _) hs ha h
end
abbrev Ct := List D → Cells → PD → PXt → Prop
/-- a cell is taken out of the cells -/
inductive Sel (p : Addr × Cell) : Cells → Cells → Prop
  | here {C : Cells} : Sel p (p :: C) C
  | there {q : Addr × Cell} {C R : Cells} : Sel p C R → Sel p (q :: C) (q :: R)
theorem Sel.perm {p : Addr × Cell} {C R : Cells} (h : Sel p C R) : C.Perm (p :: R) := by
  induction h with
  | here => exact .refl _
  | there _ ih => exact (ih.cons _).trans (.swap ..)
/-- cells taken out one by one -/
inductive Pick : Cells → Cells → Cells → Prop
  | nil {C : Cells} : Pick C [] C
  | cons {p : Addr × Cell} {C R C1 R1 : Cells} : Sel p C R → Pick R C1 R1 → Pick C (p :: C1) R1
theorem Pick.perm {C C1 R1 : Cells} (h : Pick C C1 R1) : C.Perm (C1 ++ R1) := by
  induction h with
  | nil => exact .refl _
  | cons s _ ih => exact s.perm.trans (ih.cons _)
structure Fin (P : PD) (d : D) (C : Cells) : Prop where
  ex : ∃ C' G, Pick C C' G ∧ P d C'
structure FinX (PX : PXt) (x : Exc) (C : Cells) : Prop where
  ex : ∃ C' G, Pick C C' G ∧ PX x C'
def spC (K : PySem.W.Frag) (ct : Ct) : Sp := fun vs H Q E => ∃ (F : Hp) (R C : Cells) (ds : List D) (P : PD) (PX : PXt), DenL K F ds vs ∧ At K F (C ++ R) H ∧ ct ds C P PX ∧
  (∀ v d F' C' H', Same F F' → At K F' (C' ++ R) H' → Den K F' d v → P d C' → Q v H') ∧ ∀ x dd F' C' H', Same F F' → At K F' (C' ++ R) H' → ExcAt K F' H' dd x → PX x C' → E (.ref x.cls) dd H'
/-- a def keeps a contract: called wherever no repr is under way -/
structure FnG (P : Program) (w : World) (K : PySem.W.Frag) (mg : Str → Option Value) (base : Heap) (k : Nat) (f : Addr) (fd : FuncData) (ps : List Str) (ct : Ct) : Prop where
  len : ∀ ds C Q QX, ct ds C Q QX → ds.length = ps.length
  run : ∀ (A : Around) (outer : List Env) (s : Shared) (H : Hp) (args : Args) (us : List Value) (vs : List V) (Q : VK) (E : XK), Room k A → A.guards = some [] → Env0 P w K mg base A outer s H → BindsTo s fd args (ps.zip us) → Vals vs us →
    spC K ct vs H Q E → codeAny (model P w) A (.call (.ref f) args) (CR (L2.CX P w) outer P w H s Q E) s
theorem FnG.mono {P : Program} {w : World} {K : PySem.W.Frag} {mg : Str → Option Value} {base : Heap} {j k : Nat} {f : Addr} {fd : FuncData} {ps : List Str} {ct : Ct} (h : FnG P w K mg base j f fd ps ct) (l : j ≤ k) : FnG P w K mg base k f fd ps ct :=
  ⟨h.len, fun A outer s H args us vs Q E hr => h.run A outer s H args us vs Q E (hr.mono l)⟩
theorem At.sub_app {K : PySem.W.Frag} {F H : Hp} {C C' R G : Cells} (h : At K F (C ++ R) H) (s : Pick C C' G) : At K F (C' ++ R) H := by
  have p := s.perm
  have q : (C ++ R).Perm ((C' ++ R) ++ G) := by
    refine (p.append_right R).trans ?_
    rw [List.append_assoc, List.append_assoc]
    exact List.Perm.append_left _ List.perm_append_comm
  exact (h.perm q).drop
/-- THE RULE of a def: its body, read over deep data -/
theorem fn_g {P : Program} {w : World} {K : PySem.W.Frag} {mg : Str → Option Value} {base : Heap} {k : Nat} {f : Addr} {fd : FuncData} {x qual : Str} {params : Arguments} {body : List Stmt} {scope : Scope} {dvs : List V} {kws : List (Str × V)} {N ps : List Str} {ct : Ct}
    (F : FunD K x qual params body scope dvs kws f fd) (S : FnScope N ps scope) (len : ∀ ds C Q QX, ct ds C Q QX → ds.length = ps.length)
    (hbody : ∀ (cdv : Value) (A : Around) (outer : List Env) (s : Shared) (H : Hp) (E : XK), Room k (A.deeper (envOfC qual scope s.heap.objs.size f cdv)) → A.guards = some [] →
      ∃ l, GSs (cxOf (L2.CX P w) P w K mg base N qual scope f cdv A outer s H E) body l ∧
        ∀ ds C Q QX, ct ds C Q QX → l { nx := fun _ C' => Fin Q .non C', rt := Fin Q, ex := fun y _ C' => FinX QX y C' } (ds.map some ++ List.replicate (N.length - ds.length) none) C) :
    FnG P w K mg base (k + 1) f fd ps ct := by
  obtain ⟨oc, od, dV, kV, doc, pm, an, cdv, cty, osl, rfl, lk, hcd, _, _⟩ := F.ex
  refine ⟨len, fun A outer s H args us vs Q E hr hg e0 hb r hsp => ?_⟩
  obtain ⟨Fz, R, C, ds, PP, PX, hd, ha, hc, kq, ke⟩ := hsp
  have hl : vs.length = ps.length := by rw [hd.len, len _ _ _ _ hc]
  have inK : K.In s.heap := e0.mod.kin.keeps fun b o e => (e0.bs b o e).1
  have noLim : s.heap.NoLimit := e0.mod.nolimit.keeps fun b o e => (e0.bs b o e).1
  have kinds : ∀ y ∈ ps.zip us, scope.names.lookup y.1 = some .local ∨ (scope.names.lookup y.1 = some .cell ∧ ((cellsFrom (s.heap.objs.size + 1) scope.names []).lookup y.1).isSome = true) := by
    rintro ⟨n, v⟩ hy
    have hn := (List.of_mem_zip hy).1
    exact (S.par n hn).imp id fun q => ⟨q, PySem.W.cellsFrom_some _ _ _ (.inl q)⟩
  refine codeAny_call_function hr.depth (inK _ _ lk) rfl S.co S.gen rfl (PySem.W.codeRec_of inK hcd) (hb _ _ _ _ (wpAny_newFunctionEnv_cells S.kind kinds fun env he s1 x1 => ?_))
  subst he
  refine ⟨noLim.keeps x1.toInCall.keep, codeAny_func ?_⟩
  obtain ⟨l, hG, hq⟩ := hbody cdv A outer s H E (hr.deeper _) hg
  have J := inv_start (CX := L2.CX P w) (E := E) (f := f) (qual := qual) S hr.hd e0 hl r x1
  have sl : Slots K Fz (ds.map some ++ List.replicate (N.length - ds.length) none) (L2.start N vs) := by
    unfold L2.start
    have e1 : vs.length = ds.length := hd.len
    rw [e1]
    have g1 : ∀ {ds : List D} {vs : List V}, DenL K Fz ds vs → Slots K Fz (ds.map some) (vs.map some) := by
      intro ds
      induction ds with
      | nil =>
        intro vs h
        simp only [DenL] at h
        subst h
        exact .nil
      | cons d ds ih =>
        intro vs h
        obtain ⟨v, r, rfl, h1, h2⟩ := h.split
        exact .cons ⟨v, rfl, h1⟩ (ih h2)
    have g2 : ∀ n, Slots K Fz (List.replicate n none) (List.replicate n none) := by
      intro n
      induction n with
      | zero => exact .nil
      | succ n ih => exact .cons trivial ih
    have app : ∀ {a c : Ev} {b d : L2.St}, Slots K Fz a b → Slots K Fz c d → Slots K Fz (a ++ c) (b ++ d) := by
      intro a c b d p q
      induction p with
      | nil => exact q
      | cons p _ ih => exact .cons p ih
    exact app (g1 hd) (g2 _)
  have fin : ∀ {σ' : L2.St} {H' : Hp} {s' : Shared} {v : V} {u : Value}, Inv (cxOf (L2.CX P w) P w K mg base N qual scope f cdv A outer s H E) [] σ' H' s' → RelV v u → Q v H' → CE outer P w H s Q u s' :=
    fun {σ' H' s' v u} J' rv q => ⟨v, H', J'.os, J'.bare, J'.base, J'.hok, rv, q⟩
  refine wpAny_mono (hG.run [] s1 (L2.start N vs) H { nx := fun _ H' => Q .non H', rt := Q } J ⟨Fz, R, C, _, _, sl, ha, ?_, hq _ _ _ _ hc, ⟨?_, ?_, ?_, ?_⟩⟩) (fun fl s' hs => ?_) fun e s' hs => hs
  · refine (takes_of (X := cxOf (L2.CX P w) P w K mg base N qual scope f cdv A outer s H E) (E := E) rfl rfl rfl rfl).imp ?_
    rintro cls d σ' H' ⟨y, F2, C2, δ2, rfl, e2, _, a2, x2, ⟨C3, _, sb, q2⟩⟩
    exact ke y d F2 C3 H' e2 (a2.sub_app sb) x2 q2
  · rintro σ' δ' F2 C2 H2 e2 _ a2 ⟨C3, _, sb, q2⟩
    exact kq _ _ F2 C3 H2 e2 (a2.sub_app sb) (den_non.mpr rfl) q2
  · rintro v d F2 C2 H2 e2 a2 n2 ⟨C3, _, sb, q2⟩
    exact kq v d F2 C3 H2 e2 (a2.sub_app sb) n2 q2
  · rintro σ' δ' F2 C2 H2 e2 _ a2 q2
    exact q2
  · rintro σ' δ' F2 C2 H2 e2 _ a2 q2
    exact q2
  · cases fl with
    | ret u =>
      obtain ⟨v, σ', H', J', rv, q⟩ := hs
      exact fin J' rv q
    | next =>
      obtain ⟨σ', H', J', q⟩ := hs
      exact fin (v := V.non) (u := Value.none) J' rfl q
    | brk =>
      obtain ⟨_, _, _, q⟩ := hs
      exact q.elim
    | cont =>
      obtain ⟨_, _, _, q⟩ := hs
      exact q.elim
structure Fr (ct : Ct) (ds : List D) (C : Cells) (P : PD) (PX : PXt) : Prop where
  ex : ∃ C1 R1, Pick C C1 R1 ∧ ct ds C1 (fun d C2 => P d (C2 ++ R1)) fun x C2 => PX x (C2 ++ R1)
theorem At.fr {K : PySem.W.Frag} {F H : Hp} {C C1 R1 R : Cells} (h : At K F (C ++ R) H) (p : C.Perm (C1 ++ R1)) : At K F (C1 ++ (R1 ++ R)) H := by
  rw [← List.append_assoc]
  exact h.perm (p.append_right R)
def lCall (ct : Ct) (dd : List D) (la : LA) : LE := fun δ C P PX => la δ C (fun ds C1 => Fr ct (ds ++ dd) C1 P PX) PX
section
variable {X : Cx} {k : Nat} {f : Addr} {fd : FuncData} {ps : List Str} {ct : Ct} {dvs : List V} {dd : List D} {ds : List Value} {x m : Str} {p pos apos : Pos} {e o : Expr} {es : List Expr} {la : LA} {le : LE}
/-- the callee runs -/
theorem run_g {pins : List (Addr × Obj)} {σ : L2.St} {H : Hp} {s : Shared} {Q : VK} {us : List Value} {vs : List V} {E : XK} {args : Args} (Gf : FnG X.prog X.w X.K X.mg X.base k f fd ps ct) (hr : Room k X.A) (hg : X.A.guards = some [])
    (hx : PassesAt (L2.CX X.prog X.w) X σ E) (I : Inv X pins σ H s) (hb : BindsTo s fd args (ps.zip us)) (r : Vals vs us) (h : spC X.K ct vs H Q E) : wpAny (model X.prog X.w) X.A (call (.ref f) args.pos args.kw) (EP X pins σ Q) X.xe s := by
  refine wpAny_call (codeAny_mono (Gf.run X.A X.stack s H args us vs Q E hr hg I.env0 hb r h) fun r s' hq => ?_)
  cases r with
  | error e => exact hx pins H s e s' I hq
  | ok fl =>
    cases fl with
    | ret u => exact I.after hq
    | next => exact hq.elim
    | brk => exact hq.elim
    | cont => exact hq.elim
/-- a lifted wish behind a call -/
theorem spC_of {F : Hp} {R C : Cells} {H : Hp} {ds : List D} {vs : List V} {P : PD} {PX : PXt} {Q : VK} {σ : L2.St} (hd : DenL X.K F ds vs) (ha : At X.K F (C ++ R) H) (h : Fr ct ds C P PX)
    (k : ∀ v d F' C' H', Same F F' → At X.K F' (C' ++ R) H' → Den X.K F' d v → P d C' → Q v H') : spC X.K ct vs H Q (fun cls d H' => lw X.K F R σ PX cls d σ H') := by
  obtain ⟨C1, R1, p, h⟩ := h.ex
  refine ⟨F, R1 ++ R, C1, ds, _, _, hd, ha.fr p.perm, h, fun v d F' C' H' e a n q => k v d F' (C' ++ R1) H' e (by rw [List.append_assoc]; exact a) n q, fun x dd F' C' H' e a n q => ?_⟩
  exact ⟨x, F', C' ++ R1, rfl, e, by rw [List.append_assoc]; exact a, n, rfl, q⟩
theorem passTk {F : Hp} {R : Cells} {σ : L2.St} {PX : PXt} (t : Tk X F R σ PX) : PassesAt (L2.CX X.prog X.w) X σ (fun cls d H' => lw X.K F R σ PX cls d σ H') :=
  fun pins H s e s' I c => t e s' (XE.of_call I (fun _ _ _ h => h) c)
/-- f(e, ..), the defaults that fill up: dd -/
theorem gcall (Gf : FnG X.prog X.w X.K X.mg X.base k f fd ps ct) (hr : Room k X.A) (hgd : X.A.guards = some []) (hm : X.mg x = some (.ref f)) (hk : PySem.W.keepIn X.K (.ref f) = true) (hb : ∃ ds, Vals dvs ds ∧ Binds X.K fd ps ds) (hdd : ∀ F, DenL X.K F dd dvs)
    (ha : GA X (e :: es) la) (hg : Gl X x := by rfl) (hdb : (x == ("__debug__" : Str)) = false := by decide) (he : starEach (e :: es) X.env = (false, eval e X.env) :: starEach es X.env := by rfl) (hpl : (backTo pos (starEach es X.env)).any (·.1) = false := by rfl) :
    GE X (.Call (.Name x p) (e :: es) [] pos) (lCall ct dd la) := by
  obtain ⟨us0, r0, hb⟩ := hb
  refine ⟨fun pins s σ H Q I h => ?_⟩
  obtain ⟨F, R, C, δ, P, PX, hs, hat, tk, h, kk⟩ := h
  refine wpAny_Call_Name_kw (ld_glob I hg hm ?_ hdb)
  refine PySem.W.callWith_K (h₀ := X.base) I.ok.mod.kin hk ?_ he hpl
  refine thn (ha.run pos pins s σ H (fun vs H1 => ∃ ds F1 C1, Same F F1 ∧ At X.K F1 (C1 ++ R) H1 ∧ DenL X.K F1 ds vs ∧ Fr ct (ds ++ dd) C1 P PX) I ⟨F, R, C, δ, _, PX, hs, hat, tk, h, fun vs ds F1 C1 H1 e1 a1 n1 p1 => ⟨ds, F1, C1, e1, a1, n1, p1⟩⟩) fun us s1 hh => ?_
  obtain ⟨vs, H1, I1, r1, ds, F1, C1, e1, a1, n1, p1⟩ := hh
  refine ⟨I1.kIn, ?_⟩
  have hl : (us ++ us0).length = ps.length := by
    obtain ⟨_, _, _, q⟩ := p1.ex
    rw [← Gf.len _ _ _ _ q, List.length_append, List.length_append, ← r1.length, ← r0.length, n1.len, (hdd F1).len]
  exact run_g (args := ⟨us, []⟩) (us := us ++ us0) (vs := vs ++ dvs) Gf hr hgd (passTk (tk.ext e1)) I1 (hb s1 us I1.kIn hl) (r1.append r0) (spC_of (n1.app (hdd F1)) a1 p1 fun v d F2 C2 H2 e2 a2 n2 p2 => kk v d F2 C2 H2 (e1.trans e2) a2 n2 p2)
/-- f() -/
theorem gcall0 (Gf : FnG X.prog X.w X.K X.mg X.base k f fd ps ct) (hr : Room k X.A) (hgd : X.A.guards = some []) (hm : X.mg x = some (.ref f)) (hk : PySem.W.keepIn X.K (.ref f) = true) (hb : ∃ ds, Vals dvs ds ∧ Binds X.K fd ps ds) (hdd : ∀ F, DenL X.K F dd dvs)
    (hg : Gl X x := by rfl) (hdb : (x == ("__debug__" : Str)) = false := by decide) : GE X (.Call (.Name x p) [] [] pos) (lCall ct dd lNil) := by
  obtain ⟨us0, r0, hb⟩ := hb
  refine ⟨fun pins s σ H Q I h => ?_⟩
  obtain ⟨F, R, C, δ, P, PX, hs, hat, tk, h, kk⟩ := h
  refine wpAny_Call_Name_kw (ld_glob I hg hm ?_ hdb)
  refine PySem.W.callWith_K0 I.kIn hk ?_
  have hl : (([] : List Value) ++ us0).length = ps.length := by
    obtain ⟨_, _, _, q⟩ := h.ex
    rw [← Gf.len _ _ _ _ q, List.nil_append, List.nil_append, ← r0.length, (hdd F).len]
  exact run_g (args := ⟨[], []⟩) (us := [] ++ us0) (vs := [] ++ dvs) Gf hr hgd (passTk tk) I (hb s [] I.kIn hl) (Vals.append (xs := []) (us := []) .nil r0) (spC_of (DenL.nil.app (hdd F)) hat h kk)
end
end G
namespace G
open PySem PySem.Spec PyProof.Rows L2
theorem kr0 {X : Cx} {F : Hp} {R C : Cells} {H : Hp} {k : D → Prop} {Q : VK} {v : V} {d : D} (kk : Kr X F R C k Q) (ha : At X.K F (C ++ R) H) (hd : Den X.K F d v) (q : k d) : Q v H := kk v d F H (Same.refl _) ha hd q
/-- a list that may be added to another: frozen or a cell -/
def listM : D → Cells → (List D → Prop) → Prop
  | .lst ds, _, k => k ds
  | .ref a, C, k => CellL a C k
  | _, _, _ => False
theorem listM_ok {K : PySem.W.Frag} {F H : Hp} {C R : Cells} {x : V} {d : D} {k : List D → Prop} (ha : At K F (C ++ R) H) (hd : Den K F d x) (h : listM d C k) : ∃ a vs ds, x = .ref a ∧ H a = some (.lst vs) ∧ DenL K F ds vs ∧ k ds := by
  cases d with
  | lst ds =>
    obtain ⟨a, vs, e, q, l⟩ := den_lst.mp hd
    exact ⟨a, vs, ds, e, ha.sub _ _ q, l, h⟩
  | ref a =>
    obtain ⟨ds, q, h⟩ := h.ex
    obtain ⟨vs, e, l⟩ := cell_lst ha q
    exact ⟨a, vs, ds, den_ref.mp hd, e, l, h⟩
  | _ => exact h.elim
def addL : D → D → Cells → (D → Prop) → Prop := fun d e C k => listM d C fun a => listM e C fun b => Nat.ble (a.length + b.length) lim = true ∧ k (.lst (a ++ b))
def addD : LB
  | .int i, .int j, _, k => k (.int (i + j))
  | .str a, .str b, _, k => Nat.ble (a.length + b.length) lim = true ∧ k (.str (a ++ b))
  | .tup a, .tup b, _, k => Nat.ble (a.length + b.length) lim = true ∧ k (.tup (a ++ b))
  | .lst a, .lst b, _, k => Nat.ble (a.length + b.length) lim = true ∧ k (.lst (a ++ b))
  | .lst a, .ref b, C, k => addL (.lst a) (.ref b) C k
  | .ref a, .lst b, C, k => addL (.ref a) (.lst b) C k
  | .ref a, .ref b, C, k => addL (.ref a) (.ref b) C k
  | _, _, _, _ => False
def rAdds (K : PySem.W.Frag) : R2 := fun x y H Q => (∃ i j, x = .int i ∧ y = .int j ∧ Q (.int (i + j)) H) ∨ (∃ i j, x = .str i ∧ y = .str j ∧ i.length + j.length ≤ sizeLine ∧ Q (.str (i ++ j)) H) ∨ rCatA K x y H Q ∨ rCat x y H Q
theorem op_adds {X : Cx} : OpR X (binaryOp .Add) (rAdds X.K) := op_add.or (op_add_str.or (op_catA.or op_cat))
theorem lift_cat {X : Cx} {F : Hp} {R C : Cells} {H : Hp} {x y : V} {d e : D} {k : D → Prop} {Q : VK} (ha : At X.K F (C ++ R) H) (hd : Den X.K F d x) (he : Den X.K F e y) (q : addL d e C k) (kk : Kr X F R C k Q) : rCat x y H Q := by
  obtain ⟨a, vs, ds, rfl, h1, l1, q⟩ := listM_ok ha hd q
  obtain ⟨b, us, es, rfl, h2, l2, q1, q2⟩ := listM_ok ha he q
  refine ⟨a, b, vs, us, rfl, rfl, h1, h2, by rw [l1.len, l2.len]; exact ble_lim q1, fun p hp => ?_⟩
  obtain ⟨e2, a2, n2⟩ := new_lst ha hp (l1.app l2)
  exact kk _ _ _ _ e2 a2 n2 q2
theorem lift_add {X : Cx} : LiftB X (rAdds X.K) addD := by
  intro F R C H x y d e k Q ha hd he q kk
  unfold addD at q
  split at q
  · exact .inl ⟨_, _, den_int.mp hd, den_int.mp he, kr0 kk ha (den_int.mpr rfl) q⟩
  · refine .inr (.inl ⟨_, _, den_str.mp hd, den_str.mp he, by rw [sx_len, sx_len]; exact ble_lim q.1, ?_⟩)
    rw [sx_app]
    exact kr0 kk ha (den_str.mpr rfl) q.2
  · rename_i as bs
    obtain ⟨a, vs, rfl, h1, l1⟩ := den_tup.mp hd
    obtain ⟨b, us, rfl, h2, l2⟩ := den_tup.mp he
    refine .inr (.inr (.inl ⟨a, b, vs, us, rfl, rfl, SqT.ext ha.sub h1, SqT.ext ha.sub h2, by rw [l1.len, l2.len]; exact ble_lim q.1, fun z => ?_, fun _ z => ?_, fun _ _ p hp => ?_⟩))
    · have e1 : as = [] := by
        have := l1.len
        rw [z] at this
        exact List.length_eq_zero_iff.mp this.symm
      subst e1
      exact kr0 kk ha he q.2
    · have e1 : bs = [] := by
        have := l2.len
        rw [z] at this
        exact List.length_eq_zero_iff.mp this.symm
      subst e1
      have q2 := q.2
      rw [List.append_nil] at q2
      exact kr0 kk ha hd q2
    · obtain ⟨e2, a2, n2⟩ := new_tup ha hp (l1.app l2)
      exact kk _ _ _ _ e2 a2 n2 q.2
  · exact .inr (.inr (.inr (lift_cat ha hd he (k := k) q kk)))
  · exact .inr (.inr (.inr (lift_cat ha hd he q kk)))
  · exact .inr (.inr (.inr (lift_cat ha hd he q kk)))
  · exact .inr (.inr (.inr (lift_cat ha hd he q kk)))
  · exact q.elim
/-- two ints -/
def intV : D → (Int → Prop) → Prop
  | .int i, k => k i
  | _, _ => False
def int2 (d e : D) (k : Int → Int → Prop) : Prop := intV d fun i => intV e fun j => k i j
theorem intV_ok {K : PySem.W.Frag} {F : Hp} {d : D} {v : V} {k : Int → Prop} (h : intV d k) (hd : Den K F d v) : ∃ b, v = .int b ∧ k b := by
  cases d with
  | int b => exact ⟨b, den_int.mp hd, h⟩
  | _ => exact h.elim
theorem int2_ok {K : PySem.W.Frag} {F : Hp} {d e : D} {v u : V} {k : Int → Int → Prop} (h : int2 d e k) (hd : Den K F d v) (he : Den K F e u) : ∃ i j, v = .int i ∧ u = .int j ∧ k i j := by
  obtain ⟨i, e1, h⟩ := intV_ok h hd
  obtain ⟨j, e2, h⟩ := intV_ok h he
  exact ⟨i, j, e1, e2, h⟩
theorem lift_I {X : Cx} {c : Int → Int → Prop} {g : Int → Int → Int} : LiftB X (rI c fun i j => .int (g i j)) (fun d e _ k => int2 d e fun i j => c i j ∧ k (.int (g i j))) := by
  intro F R C H x y d e k Q ha hd he q kk
  obtain ⟨i, j, rfl, rfl, h1, h2⟩ := int2_ok q hd he
  exact ⟨i, j, rfl, rfl, h1, kr0 kk ha (den_int.mpr rfl) h2⟩
theorem lift_I0 {X : Cx} {g : Int → Int → Int} : LiftB X (rI0 fun i j => .int (g i j)) (fun d e _ k => int2 d e fun i j => k (.int (g i j))) := by
  intro F R C H x y d e k Q ha hd he q kk
  obtain ⟨i, j, rfl, rfl, h2⟩ := int2_ok q hd he
  exact ⟨i, j, rfl, rfl, kr0 kk ha (den_int.mpr rfl) h2⟩
theorem lift_B0 {X : Cx} {g : Int → Int → Bool} : LiftB X (rI0 fun i j => .bl (g i j)) (fun d e _ k => int2 d e fun i j => k (.bl (g i j))) := by
  intro F R C H x y d e k Q ha hd he q kk
  obtain ⟨i, j, rfl, rfl, h2⟩ := int2_ok q hd he
  exact ⟨i, j, rfl, rfl, kr0 kk ha (den_bl.mpr rfl) h2⟩
def subD : LB := fun d e _ k => int2 d e fun i j => k (.int (i - j))
/-- * of two factors of together less than a hundred million bits -/
def CMulX (i j : Int) : Prop := i.natAbs.log2 + j.natAbs.log2 < 100000000
theorem CMulX.ok {i j : Int} (h : CMulX i j) : IntMulOk i j := by
  have b : ∀ x : Int, Builtin.Int.intBits x ≤ x.natAbs.log2 + 1 := fun x => by
    unfold Builtin.Int.intBits
    split <;> omega
  have b1 := b i
  have b2 := b j
  have b3 : i.natAbs.log2 + j.natAbs.log2 < 100000000 := h
  have be : bitsLine = 134217728 := by decide
  intro z
  have z1 := (Bool.and_eq_true _ _ ▸ z : _ ∧ _).2
  unfold Builtin.Int.intTooBig at z1
  have z2 := of_decide_eq_true z1
  rw [be] at z2
  omega
theorem op_mulX {X : Cx} : OpR X (binaryOp .Mult) (rI CMulX fun i j => .int (i * j)) := opI fun _ _ _ _ _ _ _ hc q => mul_int q hc.ok
def mulI : LB := fun d e _ k => int2 d e fun i j => CMulX i j ∧ k (.int (i * j))
def modD : LB := fun d e _ k => int2 d e fun i j => 0 < j ∧ k (.int (i % j))
def fdivD : LB := fun d e _ k => int2 d e fun i j => CDivW i j ∧ k (.int (i / j))
def powD : LB := fun d e _ k => int2 d e fun i j => CPow i j ∧ k (.int (i ^ j.toNat))
def ltD : LB := fun d e _ k => int2 d e fun i j => k (.bl (decide (i < j)))
def leD : LB := fun d e _ k => int2 d e fun i j => k (.bl (decide (i ≤ j)))
def gtD : LB := fun d e _ k => int2 d e fun i j => k (.bl (decide (j < i)))
def geD : LB := fun d e _ k => int2 d e fun i j => k (.bl (decide (j ≤ i)))
section
variable {X : Cx} {a b : Expr} {la lb : LE} {pos : Pos}
theorem gadd (ha : GE X a la) (hb : GE X b lb) : GE X (.BinOp a .Add b pos) (lOp addD la lb) := gop op_adds lift_add ha hb
theorem gsub (ha : GE X a la) (hb : GE X b lb) : GE X (.BinOp a .Sub b pos) (lOp subD la lb) := gop op_sub lift_I0 ha hb
theorem gmulI (ha : GE X a la) (hb : GE X b lb) : GE X (.BinOp a .Mult b pos) (lOp mulI la lb) := gop op_mulX lift_I ha hb
theorem gmod (ha : GE X a la) (hb : GE X b lb) : GE X (.BinOp a .Mod b pos) (lOp modD la lb) := gop op_mod lift_I ha hb
theorem gfdiv (ha : GE X a la) (hb : GE X b lb) : GE X (.BinOp a .FloorDiv b pos) (lOp fdivD la lb) := gop op_fdivW lift_I ha hb
theorem gpow (ha : GE X a la) (hb : GE X b lb) : GE X (.BinOp a .Pow b pos) (lOp powD la lb) := gop op_pow lift_I ha hb
theorem glt (ha : GE X a la) (hb : GE X b lb) : GE X (.Compare a [.Lt] [b] pos) (lOp ltD la lb) := gcmp op_lt lift_B0 (nomark _) ha hb
theorem gle (ha : GE X a la) (hb : GE X b lb) : GE X (.Compare a [.LtE] [b] pos) (lOp leD la lb) := gcmp op_le lift_B0 (nomark _) ha hb
theorem ggt (ha : GE X a la) (hb : GE X b lb) : GE X (.Compare a [.Gt] [b] pos) (lOp gtD la lb) := gcmp op_gt lift_B0 (nomark _) ha hb
theorem gge (ha : GE X a la) (hb : GE X b lb) : GE X (.Compare a [.GtE] [b] pos) (lOp geD la lb) := gcmp op_ge lift_B0 (nomark _) ha hb
theorem tlt (ha : GE X a la) (hb : GE X b lb) : GT X (.Compare a [.Lt] [b] pos) (lTest (lOp ltD la lb)) := tcmp op_lt lift_B0 (nomark _) ha hb
theorem tle (ha : GE X a la) (hb : GE X b lb) : GT X (.Compare a [.LtE] [b] pos) (lTest (lOp leD la lb)) := tcmp op_le lift_B0 (nomark _) ha hb
theorem tgt (ha : GE X a la) (hb : GE X b lb) : GT X (.Compare a [.Gt] [b] pos) (lTest (lOp gtD la lb)) := tcmp op_gt lift_B0 (nomark _) ha hb
theorem tge (ha : GE X a la) (hb : GE X b lb) : GT X (.Compare a [.GtE] [b] pos) (lTest (lOp geD la lb)) := tcmp op_ge lift_B0 (nomark _) ha hb
theorem gneg (ha : GE X a la) : GE X (.UnaryOp .USub a pos) (lUn (fun d _ k => intV d fun i => k (.int (-i))) la) := gun un_neg (by
  intro F R C H x d k Q ha hd q kk
  obtain ⟨i, rfl, h⟩ := intV_ok q hd
  exact ⟨i, rfl, kr0 kk ha (den_int.mpr rfl) h⟩) ha
end
theorem den_atI {K : PySem.W.Frag} {F : Hp} {ds : List D} {vs : List V} {i : Int} {d : D} (h : DenL K F ds vs) (e : atI ds i = some d) : ∃ v, atI vs i = some v ∧ Den K F d v := by
  unfold atI at e ⊢
  rw [h.len]
  cases q : ixN ds.length i with
  | none => rw [q] at e; cases e
  | some j =>
    rw [q] at e
    exact h.get e
/-- the item at a place -/
def atK {α : Type} (xs : List α) (i : Int) (k : α → Prop) : Prop := match atI xs i with
  | some d => k d
  | none => False
theorem atK_ok {α : Type} {xs : List α} {i : Int} {k : α → Prop} (h : atK xs i k) : ∃ d, atI xs i = some d ∧ k d := by
  unfold atK at h
  cases q : atI xs i with
  | none => rw [q] at h; exact h.elim
  | some d => rw [q] at h; exact ⟨d, rfl, h⟩
theorem atI_mem {α : Type} {xs : List α} {i : Int} (h0 : -(xs.length : Int) ≤ i) (h1 : i < xs.length) : ∃ d, atI xs i = some d ∧ d ∈ xs := by
  by_cases h : 0 ≤ i
  · obtain ⟨n, rfl⟩ : ∃ n : Nat, i = n := ⟨i.toNat, by omega⟩
    have hn : n < xs.length := by omega
    exact ⟨xs[n], atI_nat (List.getElem?_eq_getElem hn), List.getElem_mem hn⟩
  · have hn : (i + xs.length).toNat < xs.length := by omega
    refine ⟨xs[(i + xs.length).toNat], ?_, List.getElem_mem hn⟩
    have e1 : ixN xs.length i = some (i + xs.length).toNat := by
      show (if 0 ≤ i then _ else if -(xs.length : Int) ≤ i then _ else _) = _
      rw [if_neg h, if_pos h0]
    show (ixN xs.length i).bind (fun j => xs[j]?) = _
    rw [e1]
    exact List.getElem?_eq_getElem hn
/-- an item at any place within: one of the items -/
theorem atK_all {α : Type} {xs : List α} {i : Int} {k : α → Prop} (h0 : 0 ≤ i) (h1 : i < xs.length) (h : ∀ d ∈ xs, k d) : atK xs i k := by
  obtain ⟨d, e, m⟩ := atI_mem (xs := xs) (i := i) (by omega) h1
  unfold atK
  rw [e]
  exact h d m
theorem atK_nat {α : Type} {xs : List α} {n : Nat} {d : α} {k : α → Prop} (e : xs[n]? = some d) (h : k d) : atK xs (n : Int) k := by
  unfold atK
  rw [atI_nat e]
  exact h
theorem atK_of {α : Type} {xs : List α} {i : Int} {d : α} {k : α → Prop} (e : atI xs i = some d) (h : k d) : atK xs i k := by
  unfold atK
  rw [e]
  exact h
def ixD : LB
  | .str x, e, _, k => intV e fun i => Nat.ble x.length lim = true ∧ atK x i fun c => k (.str [c])
  | .tup ds, e, _, k => intV e fun i => atK ds i k
  | d, e, C, k => listV d C fun ds => intV e fun i => atK ds i k
theorem lift_ix {X : Cx} : LiftB X (rIx X.K) ixD := by
  intro F R C H x y d e k Q ha hd he q kk
  have lists : (listV d C fun ds => intV e fun i => atK ds i k) → rIx X.K x y H Q := fun q => by
    obtain ⟨a, vs, ds, rfl, h1, l1, q⟩ := listV_ok ha hd q
    obtain ⟨i, rfl, q⟩ := intV_ok q he
    obtain ⟨z, e1, q⟩ := atK_ok q
    obtain ⟨v, e2, n⟩ := den_atI l1 e1
    exact .inl ⟨a, vs, i, v, rfl, rfl, h1, e2, kr0 kk ha n q⟩
  cases d with
  | str w =>
    obtain ⟨i, rfl, q1, q⟩ := intV_ok q he
    obtain ⟨c, e1, q⟩ := atK_ok q
    exact .inr (.inr ⟨sx w, i, c, den_str.mp hd, rfl, by rw [sx_len]; exact ble_lim q1, by show atI (w.toArray.toList) i = some c; simpa using e1, kr0 kk ha (den_str.mpr rfl) q⟩)
  | tup ds =>
    obtain ⟨a, vs, rfl, h1, l1⟩ := den_tup.mp hd
    obtain ⟨i, rfl, q⟩ := intV_ok q he
    obtain ⟨z, e1, q⟩ := atK_ok q
    obtain ⟨v, e2, n⟩ := den_atI l1 e1
    exact .inr (.inl ⟨a, vs, i, v, rfl, rfl, SqT.ext ha.sub h1, e2, kr0 kk ha n q⟩)
  | _ => exact lists q
theorem gix {X : Cx} {a b : Expr} {la lb : LE} {pos : Pos} (ha : GE X a la) (hb : GE X b lb) (hs : PlainIx b := by intro _ _; rfl) : GE X (.Subscript a b pos) (lOp ixD la lb) := PE.imp (pe_ix ix_seq ha hb hs) (up_op lift_ix)
abbrev LO := Ev → Cells → (Option Int → Cells → Prop) → PXt → Prop
def upO (X : Cx) (l : LO) : TO := fun σ H Q => ∃ (F : Hp) (R C : Cells) (δ : Ev) (P : Option Int → Cells → Prop) (PX : PXt), Slots X.K F δ σ ∧ At X.K F (C ++ R) H ∧ Tk X F R σ PX ∧ l δ C P PX ∧
  ∀ b F' C' H', Same F F' → At X.K F' (C' ++ R) H' → P b C' → Q b H'
abbrev GO (X : Cx) (e : Option Expr) (l : LO) : Prop := PO X e (upO X l)
def lNo : LO := fun _ C P _ => P none C
def lYes (le : LE) : LO := fun δ C P PX => le δ C (fun d C1 => intV d fun i => P (some i) C1) PX
def cutL {α : Type} (xs : List α) (lo hi : Option Int) : List α := (xs.drop (HT.sIx xs.length 0 lo)).take (HT.sIx xs.length xs.length hi - HT.sIx xs.length 0 lo)
theorem cutL_len {α : Type} (xs : List α) (lo hi : Option Int) : (cutL xs lo hi).length ≤ xs.length := by
  unfold cutL
  rw [List.length_take, List.length_drop]
  omega
theorem cutL_mem {α : Type} {xs : List α} {lo hi : Option Int} {d : α} (h : d ∈ cutL xs lo hi) : d ∈ xs := by
  unfold cutL at h
  exact List.mem_of_mem_drop (List.mem_of_mem_take h)
theorem den_cut {K : PySem.W.Frag} {F : Hp} {ds : List D} {vs : List V} (h : DenL K F ds vs) (lo hi : Option Int) : DenL K F (cutL ds lo hi) (cutV vs lo hi) := by
  unfold cutL cutV
  rw [h.len]
  exact (h.drop _).take _
def slD : D → Option Int → Option Int → Cells → (D → Prop) → Prop
  | .str x, lo, hi, _, k => Nat.ble x.length lim = true ∧ k (.str (cutL x lo hi))
  | .tup ds, lo, hi, _, k => k (.tup (cutL ds lo hi))
  | d, lo, hi, C, k => listV d C fun ds => k (.lst (cutL ds lo hi))
def rSls (K : PySem.W.Frag) : V → Option Int → Option Int → Hp → VK → Prop := fun x lo hi H Q => rSlS x lo hi H Q ∨ rSlA K x lo hi H Q ∨ rSlL K x lo hi H Q
theorem SlR.or {X : Cx} {r r' : V → Option Int → Option Int → Hp → VK → Prop} (h : SlR X r) (h' : SlR X r') : SlR X (fun x lo hi H Q => r x lo hi H Q ∨ r' x lo hi H Q) :=
  fun pins s σ H x v vl vu lo hi sl Q I rx hs pl pu q => q.elim (fun q => h pins s σ H x v vl vu lo hi sl Q I rx hs pl pu q) fun q => h' pins s σ H x v vl vu lo hi sl Q I rx hs pl pu q
theorem lift_sl {X : Cx} {F : Hp} {R C : Cells} {H : Hp} {x : V} {d : D} {lo hi : Option Int} {k : D → Prop} {Q : VK} (ha : At X.K F (C ++ R) H) (hd : Den X.K F d x) (q : slD d lo hi C k) (kk : Kr X F R C k Q) : rSls X.K x lo hi H Q := by
  have lists : (listV d C fun ds => k (.lst (cutL ds lo hi))) → rSls X.K x lo hi H Q := fun q => by
    obtain ⟨a, vs, ds, rfl, h1, l1, q⟩ := listV_ok ha hd q
    refine .inr (.inr ⟨a, vs, rfl, h1, fun p hp => ?_⟩)
    obtain ⟨e2, a2, n2⟩ := new_lst ha hp (den_cut l1 lo hi)
    exact kk _ _ _ _ e2 a2 n2 q
  cases d with
  | str w =>
    refine .inl ⟨sx w, den_str.mp hd, by rw [sx_len]; exact ble_lim q.1, kr0 kk ha (den_str.mpr ?_) q.2⟩
    show V.str (cutS (sx w) lo hi) = _
    unfold cutS cutL
    rw [sx_len]
    have e : (sx w).cps.toList = w := by simp [sx]
    rw [e]
    rfl
  | tup ds =>
    obtain ⟨a, vs, rfl, h1, l1⟩ := den_tup.mp hd
    refine .inr (.inl ⟨a, vs, rfl, SqT.ext ha.sub h1, fun w => kr0 kk ha hd ?_, fun _ p hp => ?_⟩)
    · have e : cutL ds lo hi = ds := by
        unfold cutL
        rw [l1.len] at w
        rw [w.1, w.2]
        simp
      have q' : k (.tup (cutL ds lo hi)) := q
      rw [e] at q'
      exact q'
    · obtain ⟨e2, a2, n2⟩ := new_tup ha hp (den_cut l1 lo hi)
      exact kk _ _ _ _ e2 a2 n2 q
  | _ => exact lists q
def lSl (le : LE) (l1 l2 : LO) : LE := fun δ C P PX => le δ C (fun d C1 => l1 δ C1 (fun lo C2 => l2 δ C2 (fun hi C3 => slD d lo hi C3 fun z => P z C3) PX) PX) PX
theorem PO.imp {X : Cx} {e : Option Expr} {t t' : TO} (h : PO X e t) (i : ∀ σ H Q, t' σ H Q → t σ H Q) : PO X e t' := ⟨fun pins s σ H Q I q => h.run pins s σ H Q I (i _ _ _ q)⟩
section
variable {X : Cx} {e a : Expr} {lo hi : Option Expr} {le : LE} {l1 l2 : LO} {pos p2 : Pos}
theorem ono : GO X none lNo := PO.imp po_none fun σ H Q ⟨F, R, C, δ, P, PX, hs, ha, tk, h, k⟩ => k none F C H (Same.refl _) ha h
theorem oyes (h : GE X e le) : GO X (some e) (lYes le) := PO.imp (po_some h) fun σ H Q ⟨F, R, C, δ, P, PX, hs, ha, tk, h, k⟩ =>
  ⟨F, R, C, δ, _, PX, hs, ha, tk, h, fun v d F1 C1 H1 e1 a1 n1 p1 => by
    obtain ⟨i, rfl, q⟩ := intV_ok p1 n1
    exact ⟨i, rfl, k _ F1 C1 H1 e1 a1 q⟩⟩
theorem gsl (he : GE X e le) (h1 : GO X lo l1) (h2 : GO X hi l2) : GE X (.Subscript e (.Slice lo hi none p2) pos) (lSl le l1 l2) :=
  PE.imp (pe_slice (SlR.or sl_str (SlR.or sl_tupA sl_list)) he h1 h2) fun σ H Q ⟨F, R, C, δ, P, PX, hs, ha, tk, h, k⟩ =>
    ⟨F, R, C, δ, _, PX, hs, ha, tk, h, fun v d F1 C1 H1 e1 a1 n1 p1 => ⟨F1, R, C1, δ, _, PX, hs.ext e1, a1, tk.ext e1, p1, fun lo F2 C2 H2 e2 a2 p2 => ⟨F2, R, C2, δ, _, PX, (hs.ext e1).ext e2, a2, (tk.ext e1).ext e2, p2, fun hi F3 C3 H3 e3 a3 p3 =>
      lift_sl a3 ((n1.ext e2).ext e3) p3 fun w z F4 H4 e4 a4 n4 p4 => k w z F4 C3 H4 (((e1.trans e2).trans e3).trans e4) a4 n4 p4⟩⟩⟩
end
abbrev LCl := List D → Cells → (D → Prop) → Prop
def LiftC (X : Cx) (r : List V → Hp → VK → Prop) (lc : LCl) : Prop := ∀ (F : Hp) (R C : Cells) (H : Hp) (vs : List V) (ds : List D) (k : D → Prop) (Q : VK), At X.K F (C ++ R) H → DenL X.K F ds vs → lc ds C k → Kr X F R C k Q → r vs H Q
def lBi (lc : LCl) (la : LA) : LE := fun δ C P PX => la δ C (fun ds C1 => lc ds C1 fun z => P z C1) PX
section
variable {X : Cx} {x : Str} {p pos : Pos} {e : Expr} {es : List Expr} {la : LA} {id T : String} {r : List V → Hp → VK → Prop} {lc : LCl}
theorem up_bi (L : LiftC X r lc) (σ : L2.St) (H : Hp) (Q : VK) (h : up X (lBi lc la) σ H Q) : tCB r (upA X la) σ H Q := by
  obtain ⟨F, R, C, δ, P, PX, hs, ha, tk, h, k⟩ := h
  exact ⟨F, R, C, δ, _, PX, hs, ha, tk, h, fun vs ds F1 C1 H1 e1 a1 n1 p1 => L F1 R C1 H1 vs ds _ Q a1 n1 p1 fun w z F3 H3 e3 a3 n3 p3 => k w z F3 C1 H3 (e1.trans e3) a3 n3 p3⟩
theorem gbi (hc : CallR X (.builtin id) r) (L : LiftC X r lc) (hm : X.mg x = none) (hv : bootBuiltins x = some (.builtin id)) (ha : GA X (e :: es) la) (hg : Gl X x := by rfl) (hn : x ≠ "__name__" := by decide) (hdb : (x == ("__debug__" : Str)) = false := by decide) (he : starEach (e :: es) X.env = (false, eval e X.env) :: starEach es X.env := by rfl) (hpl : (backTo pos (starEach es X.env)).any (·.1) = false := by rfl) :
    GE X (.Call (.Name x p) (e :: es) [] pos) (lBi lc la) :=
  PE.imp (pe_callB hc hg hm hv ha hn hdb he hpl) (up_bi L)
theorem gbt (hc : CallR X (.type T) r) (L : LiftC X r lc) (hm : X.mg x = none) (hv : bootBuiltins x = some (.type T)) (ha : GA X (e :: es) la) (hg : Gl X x := by rfl) (hn : x ≠ "__name__" := by decide) (hdb : (x == ("__debug__" : Str)) = false := by decide) (he : starEach (e :: es) X.env = (false, eval e X.env) :: starEach es X.env := by rfl) (hpl : (backTo pos (starEach es X.env)).any (·.1) = false := by rfl) :
    GE X (.Call (.Name x p) (e :: es) [] pos) (lBi lc la) :=
  PE.imp (pe_callTy hc hg hm hv ha hn hdb he hpl) (up_bi L)
end
theorem den1 {K : PySem.W.Frag} {F : Hp} {d : D} {vs : List V} (h : DenL K F [d] vs) : ∃ v, vs = [v] ∧ Den K F d v := by
  obtain ⟨v, r, rfl, h1, h2⟩ := h.split
  simp only [DenL] at h2
  subst h2
  exact ⟨v, rfl, h1⟩
theorem den2 {K : PySem.W.Frag} {F : Hp} {d e : D} {vs : List V} (h : DenL K F [d, e] vs) : ∃ v u, vs = [v, u] ∧ Den K F d v ∧ Den K F e u := by
  obtain ⟨v, r, rfl, h1, h2⟩ := h.split
  obtain ⟨u, rfl, h3⟩ := den1 h2
  exact ⟨v, u, rfl, h1, h3⟩
def lenD : LCl
  | [.str x], _, k => Nat.ble x.length lim = true ∧ k (.int x.length)
  | [.tup ds], _, k => k (.int ds.length)
  | [.lst ds], _, k => k (.int ds.length)
  | [.rdl ds], _, k => k (.int ds.length)
  | [.ref a], C, k => listV (.ref a) C fun ds => k (.int ds.length)
  | _, _, _ => False
theorem lift_len {X : Cx} : LiftC X (fun xs H Q => ∃ x n, xs = [x] ∧ LenV X.K x H n ∧ Q (.int n) H) lenD := by
  intro F R C H vs ds k Q ha hd q kk
  unfold lenD at q
  split at q
  · obtain ⟨v, rfl, n⟩ := den1 hd
    refine ⟨v, _, rfl, ?_, kr0 kk ha (den_int.mpr rfl) q.2⟩
    rw [den_str.mp n]
    exact ⟨by rw [sx_len]; exact ble_lim q.1, by rw [sx_len]⟩
  · obtain ⟨v, rfl, n⟩ := den1 hd
    obtain ⟨a, us, rfl, h1, l1⟩ := den_tup.mp n
    exact ⟨_, _, rfl, .inr ⟨us, SqT.ext ha.sub h1, l1.len.symm⟩, kr0 kk ha (den_int.mpr rfl) q⟩
  · obtain ⟨v, rfl, n⟩ := den1 hd
    obtain ⟨a, us, rfl, h1, l1⟩ := den_lst.mp n
    exact ⟨_, _, rfl, .inl ⟨us, SqL.of (ha.sub _ _ h1), l1.len.symm⟩, kr0 kk ha (den_int.mpr rfl) q⟩
  · obtain ⟨v, rfl, n⟩ := den1 hd
    obtain ⟨a, us, rfl, h1, l1⟩ := den_rdl.mp n
    exact ⟨_, _, rfl, .inl ⟨us, SqL.ext ha.sub h1, l1.len.symm⟩, kr0 kk ha (den_int.mpr rfl) q⟩
  · obtain ⟨v, rfl, n⟩ := den1 hd
    obtain ⟨a, us, ds, rfl, h1, l1, q⟩ := listV_ok ha n q
    exact ⟨_, _, rfl, .inl ⟨us, h1, l1.len.symm⟩, kr0 kk ha (den_int.mpr rfl) q⟩
  · exact q.elim
def absD : LCl
  | [d], _, k => intV d fun i => k (.int (if i < 0 then -i else i))
  | _, _, _ => False
theorem lift_abs {X : Cx} : LiftC X (fun xs H Q => ∃ i, xs = [.int i] ∧ Q (.int (if i < 0 then -i else i)) H) absD := by
  intro F R C H vs ds k Q ha hd q kk
  unfold absD at q
  split at q
  · obtain ⟨v, rfl, n⟩ := den1 hd
    obtain ⟨i, rfl, q⟩ := intV_ok q n
    exact ⟨i, rfl, kr0 kk ha (den_int.mpr rfl) q⟩
  · exact q.elim
def maxD : LCl
  | [d, e], _, k => int2 d e fun i j => k (.int (if j > i then j else i))
  | _, _, _ => False
def minD : LCl
  | [d, e], _, k => int2 d e fun i j => k (.int (if j < i then j else i))
  | _, _, _ => False
theorem lift_max {X : Cx} : LiftC X (fun xs H Q => ∃ i j, xs = [.int i, .int j] ∧ Q (.int (if j > i then j else i)) H) maxD := by
  intro F R C H vs ds k Q ha hd q kk
  unfold maxD at q
  split at q
  · obtain ⟨v, u, rfl, n, n2⟩ := den2 hd
    obtain ⟨i, j, rfl, rfl, q⟩ := int2_ok q n n2
    exact ⟨i, j, rfl, kr0 kk ha (den_int.mpr rfl) q⟩
  · exact q.elim
theorem lift_min {X : Cx} : LiftC X (fun xs H Q => ∃ i j, xs = [.int i, .int j] ∧ Q (.int (if j < i then j else i)) H) minD := by
  intro F R C H vs ds k Q ha hd q kk
  unfold minD at q
  split at q
  · obtain ⟨v, u, rfl, n, n2⟩ := den2 hd
    obtain ⟨i, j, rfl, rfl, q⟩ := int2_ok q n n2
    exact ⟨i, j, rfl, kr0 kk ha (den_int.mpr rfl) q⟩
  · exact q.elim
def b2i : Bool → Int
  | true => 1
  | false => 0
/-- int(i), int(truth) -/
def intC : LCl
  | [.int i], _, k => k (.int i)
  | [.bl b], _, k => k (.int (b2i b))
  | _, _, _ => False
theorem lift_intC {X : Cx} : LiftC X (fun xs H Q => (∃ i, xs = [.int i] ∧ Q (.int i) H) ∨ ∃ k, xs = [.bl k] ∧ Q (.int (if k then 1 else 0)) H) intC := by
  intro F R C H vs ds k Q ha hd q kk
  unfold intC at q
  split at q
  · obtain ⟨v, rfl, n⟩ := den1 hd
    rw [den_int.mp n]
    exact .inl ⟨_, rfl, kr0 kk ha (den_int.mpr rfl) q⟩
  · rename_i b
    obtain ⟨v, rfl, n⟩ := den1 hd
    rw [den_bl.mp n]
    refine .inr ⟨b, rfl, kr0 kk ha (den_int.mpr ?_) q⟩
    cases b <;> rfl
  · exact q.elim
end G
namespace G
open PySem PySem.Spec PyProof.Rows L2
inductive Pat where
  | nm (i : Nat) | tp (ps : List Pat)
mutual
def gPat (K : PySem.W.Frag) : Pat → TG
  | .nm i => gName i
  | .tp ps => gTup K ps.length (gPats K ps)
def gPats (K : PySem.W.Frag) : List Pat → TGs
  | [] => gNil
  | p :: ps => gCons (gPat K p) (gPats K ps)
end
mutual
def asgP : Pat → D → Ev → (Ev → Prop) → Prop
  | .nm i, d, δ, k => vset δ i d k
  | .tp ps, .tup ds, δ, k => asgPs ps ds δ k
  | .tp _, _, _, _ => False
def asgPs : List Pat → List D → Ev → (Ev → Prop) → Prop
  | [], [], δ, k => k δ
  | p :: ps, d :: ds, δ, k => asgP p d δ fun δ' => asgPs ps ds δ' k
  | _, _, _, _ => False
end
mutual
def patS : Pat → List Nat
  | .nm i => [i]
  | .tp ps => patsS ps
def patsS : List Pat → List Nat
  | [] => []
  | p :: ps => patS p ++ patsS ps
end
abbrev GP (X : Cx) (tg : Expr) (p : Pat) : Prop := PG X tg (gPat X.K p)
abbrev GPs (X : Cx) (tgs : List Expr) (ps : List Pat) : Prop := PGs X tgs (gPats X.K ps)
section
variable {X : Cx} {pos : Pos}
theorem pnm (i : Nat) {x : Str} (hN : X.N.Nodup) (hi : X.N[i]? = some x := by rfl) (hx : Loc X.env.scope x := by first | exact Or.inl rfl | exact Or.inr rfl) (hf : X.fn x = true ∨ X.env.scope.names.lookup x = some .local := by first | exact .inl rfl | exact .inr rfl) : GP X (.Name x pos) (.nm i) := by
  show PG X _ (gPat X.K (.nm i))
  unfold gPat
  exact pg_name hN hi hx hf
theorem pnil : GPs X [] [] := by
  show PGs X _ (gPats X.K [])
  unfold gPats
  exact pgs_nil
theorem pcons {e : Expr} {es : List Expr} {p : Pat} {ps : List Pat} (h1 : GP X e p) (h2 : GPs X es ps) (hs : (assignEach (e :: es) X.env).map (·.2) = assign e X.env :: (assignEach es X.env).map (·.2) := by rfl) : GPs X (e :: es) (p :: ps) := by
  show PGs X _ (gPats X.K (p :: ps))
  unfold gPats
  exact pgs_cons h1 h2 hs
theorem ptp {es : List Expr} {k : Nat} {ps : List Pat} (hc : X.calm = true) (h : GPs X es ps) (hn : (assignEach es X.env).length = ps.length := by rfl) (hst : (assignEach es X.env).findIdx? (·.1) = none := by rfl) : GP X (.Tuple es k pos) (.tp ps) := by
  show PG X _ (gPat X.K (.tp ps))
  unfold gPat
  exact pg_tup hc h hn hst
end
mutual
theorem asgPs_len : ∀ {ps : List Pat} {ds : List D} {δ : Ev} {k : Ev → Prop}, asgPs ps ds δ k → ds.length = ps.length
  | [], [], _, _, _ => rfl
  | p :: ps, d :: ds, δ, k, h => by
    unfold asgPs at h
    have : ∃ δ', asgPs ps ds δ' k := asgP_some h
    obtain ⟨δ', q⟩ := this
    simp [asgPs_len q]
  | [], _ :: _, _, _, h => by unfold asgPs at h; exact h.elim
  | _ :: _, [], _, _, h => by unfold asgPs at h; exact h.elim
theorem asgP_some : ∀ {p : Pat} {d : D} {δ : Ev} {k : Ev → Prop}, asgP p d δ k → ∃ δ', k δ'
  | .nm i, d, δ, k, h => by unfold asgP at h; exact ⟨_, vset_ok h⟩
  | .tp ps, .tup ds, δ, k, h => by unfold asgP at h; exact asgPs_some h
  | .tp _, .non, _, _, h => by unfold asgP at h; exact h.elim
  | .tp _, .bl _, _, _, h => by unfold asgP at h; exact h.elim
  | .tp _, .int _, _, _, h => by unfold asgP at h; exact h.elim
  | .tp _, .str _, _, _, h => by unfold asgP at h; exact h.elim
  | .tp _, .lst _, _, _, h => by unfold asgP at h; exact h.elim
  | .tp _, .rdl _, _, _, h => by unfold asgP at h; exact h.elim
  | .tp _, .obj _ _, _, _, h => by unfold asgP at h; exact h.elim
  | .tp _, .ref _, _, _, h => by unfold asgP at h; exact h.elim
  | .tp _, .ty _, _, _, h => by unfold asgP at h; exact h.elim
theorem asgPs_some : ∀ {ps : List Pat} {ds : List D} {δ : Ev} {k : Ev → Prop}, asgPs ps ds δ k → ∃ δ', k δ'
  | [], [], δ, k, h => by unfold asgPs at h; exact ⟨δ, h⟩
  | p :: ps, d :: ds, δ, k, h => by
    unfold asgPs at h
    obtain ⟨δ', q⟩ := asgP_some h
    exact asgPs_some q
  | [], _ :: _, _, _, h => by unfold asgPs at h; exact h.elim
  | _ :: _, [], _, _, h => by unfold asgPs at h; exact h.elim
end
section
variable {K : PySem.W.Frag} {F H : Hp} {C : Cells}
mutual
/-- a target takes a deep value -/
theorem asgP_ok (ha : At K F C H) : ∀ {p : Pat} {d : D} {v : V} {δ : Ev} {σ : L2.St} {k : Ev → Prop} {Q : L2.St → Hp → Prop}, Slots K F δ σ → Den K F d v → asgP p d δ k →
    (∀ δ' σ', Slots K F δ' σ' → (∀ vs : List Nat, (∀ i ∈ patS p, i ∈ vs) → wipe σ' vs = wipe σ vs) → k δ' → Q σ' H) → gPat K p v σ H Q
  | .nm i, d, v, δ, σ, k, Q, hs, hd, h, kk => by
    unfold gPat
    unfold asgP at h
    refine kk _ _ (hs.set hd i) (fun vs hv => ?_) (vset_ok h)
    have hi : i ∈ vs := hv i (by unfold patS; exact List.mem_singleton.mpr rfl)
    apply List.ext_getElem?
    intro j
    by_cases hj : j ∈ vs
    · have g : ∀ (τ : L2.St), j < τ.length → (wipe τ vs)[j]? = some none := by
        intro τ hl
        have z : ∀ us : List Nat, j ∈ us → (wipe τ us)[j]? = some none := by
          intro us
          induction us with
          | nil => intro q; cases q
          | cons u us ih =>
            intro q
            unfold wipe
            by_cases e : u = j
            · subst e
              rw [List.getElem?_set_self (by rw [wipe_length]; exact hl)]
            · rw [List.getElem?_set_ne e]
              rcases List.mem_cons.mp q with q | q
              · exact absurd q.symm e
              · exact ih q
        exact z vs hj
      by_cases hl : j < σ.length
      · rw [g _ (by simpa using hl), g _ hl]
      · rw [List.getElem?_eq_none (by rw [wipe_length, List.length_set]; omega), List.getElem?_eq_none (by rw [wipe_length]; omega)]
    · have ne : i ≠ j := fun e => hj (e ▸ hi)
      rw [wipe_out hj, wipe_out hj, List.getElem?_set_ne ne]
  | .tp ps, .tup ds, v, δ, σ, k, Q, hs, hd, h, kk => by
    unfold gPat
    unfold asgP at h
    obtain ⟨a, vs, rfl, q, l⟩ := den_tup.mp hd
    have hl : ds.length = ps.length := asgPs_len h
    refine ⟨a, vs, rfl, SqT.ext ha.sub q, by rw [l.len, hl], ?_⟩
    refine asgPs_ok ha hs l h fun δ' σ' s' w' k' => kk δ' σ' s' (fun us hu => w' us ?_) k'
    intro i hi
    exact hu i (by unfold patS; exact hi)
  | .tp _, .non, _, _, _, _, _, _, _, h, _ => by unfold asgP at h; exact h.elim
  | .tp _, .bl _, _, _, _, _, _, _, _, h, _ => by unfold asgP at h; exact h.elim
  | .tp _, .int _, _, _, _, _, _, _, _, h, _ => by unfold asgP at h; exact h.elim
  | .tp _, .str _, _, _, _, _, _, _, _, h, _ => by unfold asgP at h; exact h.elim
  | .tp _, .lst _, _, _, _, _, _, _, _, h, _ => by unfold asgP at h; exact h.elim
  | .tp _, .rdl _, _, _, _, _, _, _, _, h, _ => by unfold asgP at h; exact h.elim
  | .tp _, .obj _ _, _, _, _, _, _, _, _, h, _ => by unfold asgP at h; exact h.elim
  | .tp _, .ref _, _, _, _, _, _, _, _, h, _ => by unfold asgP at h; exact h.elim
  | .tp _, .ty _, _, _, _, _, _, _, _, h, _ => by unfold asgP at h; exact h.elim
theorem asgPs_ok (ha : At K F C H) : ∀ {ps : List Pat} {ds : List D} {vs : List V} {δ : Ev} {σ : L2.St} {k : Ev → Prop} {Q : L2.St → Hp → Prop}, Slots K F δ σ → DenL K F ds vs → asgPs ps ds δ k →
    (∀ δ' σ', Slots K F δ' σ' → (∀ us : List Nat, (∀ i ∈ patsS ps, i ∈ us) → wipe σ' us = wipe σ us) → k δ' → Q σ' H) → gPats K ps vs σ H Q
  | [], [], vs, δ, σ, k, Q, hs, hd, h, kk => by
    unfold gPats
    unfold asgPs at h
    simp only [DenL] at hd
    exact ⟨hd, kk δ σ hs (fun _ _ => rfl) h⟩
  | p :: ps, d :: ds, vs, δ, σ, k, Q, hs, hd, h, kk => by
    unfold gPats
    unfold asgPs at h
    obtain ⟨v, r, rfl, h1, h2⟩ := hd.split
    refine ⟨v, r, rfl, asgP_ok ha hs h1 h fun δ1 σ1 s1 w1 k1 => ?_⟩
    refine asgPs_ok ha s1 h2 k1 fun δ2 σ2 s2 w2 k2 => kk δ2 σ2 s2 (fun us hu => ?_) k2
    rw [w2 us fun i hi => hu i (by unfold patsS; exact List.mem_append_right _ hi), w1 us fun i hi => hu i (by unfold patsS; exact List.mem_append_left _ hi)]
  | [], _ :: _, _, _, _, _, _, _, _, h, _ => by unfold asgPs at h; exact h.elim
  | _ :: _, [], _, _, _, _, _, _, _, h, _ => by unfold asgPs at h; exact h.elim
end
end
def lAsgP (le : LE) (p : Pat) : LS := fun E δ C => le δ C (fun d C1 => asgP p d δ fun δ' => E.nx δ' C1) fun x C1 => E.ex x δ C1
theorem sasgp {X : Cx} {tg e : Expr} {le : LE} {p : Pat} {pos : Pos} (he : GE X e le) (hg : GP X tg p) (hs : swapsWithSole [tg] e pos.line X.env = pure false := by rfl) (hw : swappedStores [tg] e X.env = pure none := by rfl)
    (h1 : (assignEach [tg] X.env).map (·.2) = [assign tg X.env] := by rfl) : GS X (.Assign [tg] e pos) (lAsgP le p) :=
  PS.imp (ps_asg he hg hs hw h1) fun D' σ H ⟨F, R, C, δ, E, hs, ha, tk, h, k⟩ =>
    ⟨F, R, C, δ, _, _, hs, ha, tk.at hs, h, fun v d F1 C1 H1 e1 a1 n1 p1 => asgP_ok a1 (hs.ext e1) n1 p1 fun δ' σ' s' _ q => k.nx _ _ F1 C1 H1 e1 s' a1 q⟩
/-- a, b = x, y -/
def lPar (la : LA) (i j : Nat) : LS := fun E δ C => la δ C (fun ds C1 => asgPs [.nm i, .nm j] ds δ fun δ' => E.nx δ' C1) fun x C1 => E.ex x δ C1
theorem spar (i j : Nat) {X : Cx} {x y : Str} {a b : Expr} {la : LA} {px py pt pos : Pos} {kt k2 : Nat} {pt2 : Pos} (hc : X.calm = true) (hN : X.N.Nodup) (ha : GA X [a, b] la) (hi : X.N[i]? = some x := by rfl) (hj : X.N[j]? = some y := by rfl) (hij : i ≠ j := by decide)
    (hx : X.env.scope.names.lookup x = some .local := by rfl) (hy : X.env.scope.names.lookup y = some .local := by rfl)
    (hw : swappedStores [.Tuple [.Name x px, .Name y py] kt pt] (.Tuple [a, b] k2 pt2) X.env = pure (some [x, y]) := by rfl)
    (hs : swapsWithSole [.Tuple [.Name x px, .Name y py] kt pt] (.Tuple [a, b] k2 pt2) pos.line X.env = pure false := by rfl) :
    GS X (.Assign [.Tuple [.Name x px, .Name y py] kt pt] (.Tuple [a, b] k2 pt2) pos) (lPar la i j) :=
  PS.imp (ps_par hc hN hi hj hij hx hy ha hw hs) fun D' σ H ⟨F, R, C, δ, E, hs, ha, tk, h, k⟩ =>
    ⟨F, R, C, δ, _, _, hs, ha, tk.at hs, h, fun vs ds F1 C1 H1 e1 a1 n1 p1 => by
      have hl := asgPs_len p1
      match ds, hl, n1, p1 with
      | [d, e], _, n1, p1 =>
        obtain ⟨v, u, rfl, nv, nu⟩ := den2 n1
        refine ⟨v, u, rfl, ?_⟩
        have q : vset δ i d fun δ1 => vset δ1 j e fun δ2 => E.nx δ2 C1 := by
          simpa only [asgPs, asgP] using p1
        exact k.nx _ _ F1 C1 H1 e1 (((hs.ext e1).set nv i).set nu j) a1 (vset_ok (vset_ok q))⟩
/-- the cell at a is c; written anew by c', the cells are C' -/
inductive Wr : Cells → Addr → Cell → Cell → Cells → Prop
  | here {a c c' C} : Wr ((a, c) :: C) a c c' ((a, c') :: C)
  | there {a c c' p C C'} : Wr C a c c' C' → Wr (p :: C) a c c' (p :: C')
theorem Wr.mem {C C' : Cells} {a : Addr} {c c' : Cell} (h : Wr C a c c' C') : (a, c) ∈ C := by
  induction h with
  | here => exact List.mem_cons_self
  | there _ ih => exact List.mem_cons_of_mem _ ih
theorem Wr.perm {C C' : Cells} {a : Addr} {c c' : Cell} (h : Wr C a c c' C') : ∃ R, C.Perm ((a, c) :: R) ∧ C'.Perm ((a, c') :: R) := by
  induction h with
  | here => exact ⟨_, .refl _, .refl _⟩
  | @there a c c' p C C' _ ih =>
    obtain ⟨R, h1, h2⟩ := ih
    exact ⟨p :: R, (h1.cons p).trans (.swap ..), (h2.cons p).trans (.swap ..)⟩
theorem At.wr {K : PySem.W.Frag} {F H : Hp} {C C' R : Cells} {a : Addr} {c c' : Cell} {o : HO} (h : At K F (C ++ R) H) (w : Wr C a c c' C') (hc : CellOk K F (upd H a o) a c') : At K F (C' ++ R) (upd H a o) := by
  obtain ⟨R1, h1, h2⟩ := w.perm
  have q := h.perm (h1.append_right R)
  exact (At.write (by simpa using q) hc).perm (by simpa using (h2.append_right R).symm)
/-- o[i] = v on a list that is a cell -/
def lSetI (lo li lv : LE) : LS := fun E δ C => lv δ C (fun v C1 => lo δ C1 (fun o C2 => li δ C2 (fun i C3 => intV i fun i => ∃ a ds j C4, o = .ref a ∧ ixN ds.length i = some j ∧ Wr C3 a (.lst ds) (.lst (ds.set j v)) C4 ∧ E.nx δ C4) fun x C1 => E.ex x δ C1) fun x C1 => E.ex x δ C1) fun x C1 => E.ex x δ C1
theorem sseti {X : Cx} {o i v : Expr} {lo li lv : LE} {pos pos' : Pos} (hv : GE X v lv) (ho : GE X o lo) (hi : GE X i li)
    (ha : ∀ u, assign (.Subscript o i pos') X.env u = (do
      let ov ← holding [u] (eval o X.env)
      let iv ← holding [u, ov] (eval i X.env)
      standAt pos'
      holding [u, ov, iv] (setItem ov iv u)
      release [u, ov, iv] []) := by intro _; rfl)
    (hs : swapsWithSole [.Subscript o i pos'] v pos.line X.env = pure false := by rfl) (hw : swappedStores [.Subscript o i pos'] v X.env = pure none := by rfl) (h1 : (assignEach [.Subscript o i pos'] X.env).map (·.2) = [assign (.Subscript o i pos') X.env] := by rfl) :
    GS X (.Assign [.Subscript o i pos'] v pos) (lSetI lo li lv) :=
  PS.imp (ps_asg hv (pg_sub ho hi set_list ha) hs hw h1) fun D' σ H ⟨F, R, C, δ, E, hs, hat, tk, h, k⟩ =>
    ⟨F, R, C, δ, _, _, hs, hat, tk.at hs, h, fun v d F1 C1 H1 e1 a1 n1 p1 => ⟨F1, R, C1, δ, _, _, hs.ext e1, a1, (tk.ext e1).at (hs.ext e1), p1, fun u od F2 C2 H2 e2 a2 n2 p2 => ⟨F2, R, C2, δ, _, _, (hs.ext e1).ext e2, a2, ((tk.ext e1).ext e2).at ((hs.ext e1).ext e2), p2, fun w id F3 C3 H3 e3 a3 n3 p3 => by
      obtain ⟨z, rfl, a, ds, j, C4, rfl, hj, hw, q⟩ := intV_ok p3 n3
      obtain ⟨us, g, l⟩ := cell_lst a3 hw.mem
      have nv : Den X.K F3 d v := (n1.ext e2).ext e3
      refine ⟨a, us, z, j, den_ref.mp n2, rfl, g, by rw [l.len]; exact hj, ?_⟩
      exact k.nx _ _ F3 C4 _ ((e1.trans e2).trans e3) (((hs.ext e1).ext e2).ext e3) (a3.wr hw ⟨_, upd_same, l.set j nv⟩) q⟩⟩⟩
/-- the iterator yields just these items, whatever else goes on -/
def ItOk (K : PySem.W.Frag) (F : Hp) (J : It) (ds : List D) : Prop := ∀ F' Cc H, Same F F' → At K F' Cc H → ∀ i : Nat,
  (i < ds.length → J.go i H ∧ ∀ x H', J.yld i H x H' → ∃ F2 d, Same F' F2 ∧ At K F2 Cc H' ∧ ds[i]? = some d ∧ Den K F2 d x) ∧ (ds.length ≤ i → J.stop i H)
abbrev LI := Ev → Cells → (List D → Cells → Prop) → PXt → Prop
def upI (X : Cx) (l : LI) : TI := fun σ H Q => ∃ (F : Hp) (R C : Cells) (δ : Ev) (P : List D → Cells → Prop) (PX : PXt), Slots X.K F δ σ ∧ At X.K F (C ++ R) H ∧ Tk X F R σ PX ∧ l δ C P PX ∧
  ∀ J ds F' C' H', Same F F' → At X.K F' (C' ++ R) H' → ItOk X.K F' J ds → P ds C' → Q J H'
abbrev GI (X : Cx) (tg e : Expr) (l : LI) : Prop := PI X tg e (upI X l)
theorem PI.imp {X : Cx} {tg e : Expr} {t t' : TI} (h : PI X tg e t) (i : ∀ σ H Q, t' σ H Q → t σ H Q) : PI X tg e t' := ⟨fun pins s σ H Q I q => h.run pins s σ H Q I (i _ _ _ q)⟩
/-- a list or a tuple, as it comes -/
def iSeq (K : PySem.W.Frag) (tl : TE) : TI := fun σ H R => tl σ H fun x H1 => ∃ a, x = .ref a ∧ (((∃ xs, SqL K H1 a xs) ∧ R (Itl K a) H1) ∨ ((∃ xs, SqT K H1 a xs) ∧ R (Itt K a) H1))
theorem pi_seq {X : Cx} {tg l : Expr} {tl : TE} (hl : PE X l tl) : PI X tg l (iSeq X.K tl) := by
  refine ⟨fun pins s σ H R I h => ?_⟩
  refine thn (hl.run pins s σ H _ I h) fun v s1 ⟨x, H1, I1, r1, a, e, q1⟩ => ?_
  subst e
  cases r1
  have one : ∀ {b : Addr}, b ∈ [s1.heap.objs.size] → FpOk X pins H1 b := fun {b} hb => by
    have e : b = s1.heap.objs.size := by simpa using hb
    subst e
    exact I1.fpOk (Nat.le_refl _) (I1.hok.fresh (Nat.le_refl _))
  rcases q1 with ⟨⟨xs, hq⟩, q⟩ | ⟨⟨xs, hq⟩, q⟩
  · obtain ⟨its, rv, p, hz⟩ := I1.list hq
    exact wpAny_pyIter_list p.isList ⟨_, [s1.heap.objs.size], _, _, H1, rfl, I1.kept (t' := s1.toks) fun b o e => Heap.get?_push_of_some _ e, turn_list a _, ⟨_, Heap.get?_push_size _ rfl, rfl, rfl⟩, fun b hb => one hb, q⟩
  · obtain ⟨its, rv, p, hz⟩ := I1.tuple hq
    exact wpAny_pyIter_tuple (show s1.heap.IsTuple a its.toArray from p) ⟨_, [s1.heap.objs.size], _, _, H1, rfl, I1.kept (t' := s1.toks) fun b o e => Heap.get?_push_of_some _ e, turn_tuple a _, ⟨_, Heap.get?_push_size _ rfl, rfl, rfl⟩, fun b hb => one hb, q⟩
/-- frozen items -/
def iceV : D → (List D → Prop) → Prop
  | .lst ds, k => k ds
  | .rdl ds, k => k ds
  | .tup ds, k => k ds
  | _, _ => False
theorem DenL.at {K : PySem.W.Frag} {F : Hp} {ds : List D} {vs : List V} {i : Nat} {v : V} (h : DenL K F ds vs) (e : vs[i]? = some v) : ∃ d, ds[i]? = some d ∧ Den K F d v := by
  have hi : i < ds.length := by
    rw [← h.len]
    exact (List.getElem?_eq_some_iff.mp e).1
  obtain ⟨u, q, n⟩ := h.get (List.getElem?_eq_getElem hi)
  rw [e] at q
  cases q
  exact ⟨_, List.getElem?_eq_getElem hi, n⟩
theorem itok_list {K : PySem.W.Frag} {F : Hp} {a : Addr} {vs : List V} {ds : List D} (h : SqL K F a vs) (l : DenL K F ds vs) : ItOk K F (Itl K a) ds := by
  intro F' Cc H e ha i
  have q : SqL K H a vs := SqL.ext (e.trans ha.sub) h
  refine ⟨fun hi => ?_, fun hi => ⟨vs, q, by rw [l.len]; exact hi⟩⟩
  have hv : i < vs.length := by rw [l.len]; exact hi
  refine ⟨⟨vs, _, q, List.getElem?_eq_getElem hv⟩, ?_⟩
  rintro x H' ⟨rfl, y⟩
  obtain ⟨d, e1, n⟩ := l.at (y vs q)
  exact ⟨F', d, Same.refl _, ha, e1, n.ext e⟩
theorem itok_tup {K : PySem.W.Frag} {F : Hp} {a : Addr} {vs : List V} {ds : List D} (h : SqT K F a vs) (l : DenL K F ds vs) : ItOk K F (Itt K a) ds := by
  intro F' Cc H e ha i
  have q : SqT K H a vs := SqT.ext (e.trans ha.sub) h
  refine ⟨fun hi => ?_, fun hi => ⟨vs, q, by rw [l.len]; exact hi⟩⟩
  have hv : i < vs.length := by rw [l.len]; exact hi
  refine ⟨⟨vs, _, q, List.getElem?_eq_getElem hv⟩, ?_⟩
  rintro x H' ⟨rfl, y⟩
  obtain ⟨d, e1, n⟩ := l.at (y vs q)
  exact ⟨F', d, Same.refl _, ha, e1, n.ext e⟩
def lISeq (le : LE) : LI := fun δ C P PX => le δ C (fun d C1 => iceV d fun ds => P ds C1) PX
theorem iseq {X : Cx} {tg e : Expr} {le : LE} (he : GE X e le) : GI X tg e (lISeq le) :=
  PI.imp (pi_seq he) fun σ H Q ⟨F, R, C, δ, P, PX, hs, ha, tk, h, k⟩ =>
    ⟨F, R, C, δ, _, PX, hs, ha, tk, h, fun v d F1 C1 H1 e1 a1 n1 p1 => by
      cases d with
      | lst ds =>
        obtain ⟨a, vs, rfl, q, l⟩ := den_lst.mp n1
        exact ⟨a, rfl, .inl ⟨⟨vs, SqL.of (a1.sub _ _ q)⟩, k _ _ F1 C1 H1 e1 a1 (itok_list (SqL.of q) l) p1⟩⟩
      | rdl ds =>
        obtain ⟨a, vs, rfl, q, l⟩ := den_rdl.mp n1
        exact ⟨a, rfl, .inl ⟨⟨vs, SqL.ext a1.sub q⟩, k _ _ F1 C1 H1 e1 a1 (itok_list q l) p1⟩⟩
      | tup ds =>
        obtain ⟨a, vs, rfl, q, l⟩ := den_tup.mp n1
        exact ⟨a, rfl, .inr ⟨⟨vs, SqT.ext a1.sub q⟩, k _ _ F1 C1 H1 e1 a1 (itok_tup q l) p1⟩⟩
      | _ => exact p1.elim⟩
/-- range(n), range(a, b) -/
def rngL (lo : Int) (n : Nat) : List D := (List.range n).map fun (i : Nat) => D.int (lo + (i : Int))
theorem rngL_len (lo : Int) (n : Nat) : (rngL lo n).length = n := by simp [rngL]
theorem rngL_get {lo : Int} {n i : Nat} (h : i < n) : (rngL lo n)[i]? = some (.int (lo + (i : Int))) := by
  unfold rngL
  rw [List.getElem?_map, List.getElem?_range h]
  rfl
theorem itok_range {K : PySem.W.Frag} {F : Hp} {lo : Int} {n : Nat} : ItOk K F (Itr lo n) (rngL lo n) := by
  intro F' Cc H e ha i
  rw [rngL_len]
  refine ⟨fun hi => ⟨hi, ?_⟩, fun hi => hi⟩
  rintro x H' ⟨rfl, rfl⟩
  exact ⟨F', _, Same.refl _, ha, rngL_get hi, den_int.mpr rfl⟩
def rngOk (i : Int) : Prop := -(2 ^ 62) ≤ i ∧ i < 2 ^ 62
def lIRng1 (la : LA) : LI := fun δ C P PX => la δ C (fun ds C1 => match ds with
  | [.int j] => rngOk j ∧ P (rngL 0 j.toNat) C1
  | _ => False) PX
def lIRng2 (la : LA) : LI := fun δ C P PX => la δ C (fun ds C1 => match ds with
  | [.int i, .int j] => (rngOk i ∧ rngOk j) ∧ P (rngL i (j - i).toNat) C1
  | _ => False) PX
theorem irng1 {X : Cx} {tg a : Expr} {la : LA} {p pos : Pos} (hm : X.mg "range" = none) (ha : GA X [a] la) (hg : Gl X "range" := by rfl) (hs : starEach [a] X.env = [(false, eval a X.env)] := by rfl) : GI X tg (.Call (.Name "range" p) [a] [] pos) (lIRng1 la) :=
  PI.imp (pi_range1 hg hm ha hs) fun σ H Q ⟨F, R, C, δ, P, PX, hs, ha, tk, h, k⟩ =>
    ⟨F, R, C, δ, _, PX, hs, ha, tk, h, fun vs ds F1 C1 H1 e1 a1 n1 p1 => by
      split at p1
      · obtain ⟨v, rfl, n⟩ := den1 n1
        exact ⟨_, by rw [den_int.mp n], p1.1.1, p1.1.2, k _ _ F1 C1 H1 e1 a1 itok_range p1.2⟩
      · exact p1.elim⟩
theorem irng2 {X : Cx} {tg a b : Expr} {la : LA} {p pos : Pos} (hm : X.mg "range" = none) (ha : GA X [a, b] la) (hg : Gl X "range" := by rfl) (hs : starEach [a, b] X.env = [(false, eval a X.env), (false, eval b X.env)] := by rfl) (hs2 : starEach [b] X.env = [(false, eval b X.env)] := by rfl) :
    GI X tg (.Call (.Name "range" p) [a, b] [] pos) (lIRng2 la) :=
  PI.imp (pi_range2 hg hm ha hs hs2) fun σ H Q ⟨F, R, C, δ, P, PX, hs, ha, tk, h, k⟩ =>
    ⟨F, R, C, δ, _, PX, hs, ha, tk, h, fun vs ds F1 C1 H1 e1 a1 n1 p1 => by
      split at p1
      · obtain ⟨v, u, rfl, n, n'⟩ := den2 n1
        exact ⟨_, _, by rw [den_int.mp n, den_int.mp n'], ⟨p1.1.1.1, p1.1.1.2, p1.1.2.1, p1.1.2.2⟩, k _ _ F1 C1 H1 e1 a1 itok_range p1.2⟩
      · exact p1.elim⟩
/-- a text, sign by sign -/
def sgs (x : Tx) : List D := x.map fun c => D.str [c]
def lIStr (le : LE) : LI := fun δ C P PX => le δ C (fun d C1 => match d with
  | .str x => P (sgs x) C1
  | _ => False) PX
theorem itok_str {K : PySem.W.Frag} {F : Hp} {x : Tx} : ItOk K F (Its (sx x)) (sgs x) := by
  intro F' Cc H e ha i
  have hl : (sx x).cps.size = x.length := by simp [sx]
  have hl2 : (sgs x).length = x.length := by simp [sgs]
  rw [hl2]
  refine ⟨fun hi => ⟨by show i < (sx x).cps.size; rw [hl]; exact hi, ?_⟩, fun hi => by show (sx x).cps.size ≤ i; rw [hl]; exact hi⟩
  rintro v H' ⟨rfl, c, hc, rfl⟩
  refine ⟨F', .str [c], Same.refl _, ha, ?_, den_str.mpr rfl⟩
  have e1 : x[i]? = some c := by simpa [sx] using hc
  simp [sgs, e1]
theorem istr {X : Cx} {tg e : Expr} {le : LE} (he : GE X e le) : GI X tg e (lIStr le) :=
  PI.imp (pi_str he) fun σ H Q ⟨F, R, C, δ, P, PX, hs, ha, tk, h, k⟩ =>
    ⟨F, R, C, δ, _, PX, hs, ha, tk, h, fun v d F1 C1 H1 e1 a1 n1 p1 => by
      split at p1
      · exact ⟨_, den_str.mp n1, k _ _ F1 C1 H1 e1 a1 itok_str p1⟩
      · exact p1.elim⟩
def lFor (li : LI) (p : Pat) (body : LS) : LS := fun E δ C => li δ C (fun ds C1 => ∃ W : Nat → Ev → Cells → Prop, W 0 δ C1 ∧
  (∀ i d δ' C', ds[i]? = some d → W i δ' C' → asgP p d δ' fun δ2 => body { E with nx := W (i + 1), ct := W (i + 1), bk := E.nx } δ2 C') ∧ ∀ δ' C', W ds.length δ' C' → E.nx δ' C') fun x C1 => E.ex x δ C1
theorem sfor {X : Cx} {tg iter : Expr} {body : List Stmt} {li : LI} {p : Pat} {lb : LS} {pos : Pos} (hp : PassesOwn (model X.prog X.w) X.A X.env X.xe) (hc : X.calm = true) (hi : GI X tg iter li) (hg : GP X tg p) (hb : GSs X body lb)
    (hs : ∀ x, foldedSetIterable iter X.env x = pure x := by intro _; rfl) : GS X (.For tg iter body [] pos) (lFor li p lb) :=
  PS.imp (ps_for hp hc hi hg hb hs) fun D' σ H ⟨F, R, C, δ, E, hs, ha, tk, h, k⟩ =>
    ⟨F, R, C, δ, _, _, hs, ha, tk.at hs, h, fun J ds F1 C1 H1 e1 a1 ok p1 => by
      obtain ⟨W, w0, hstep, hend⟩ := p1
      refine ⟨fun i m σ' H' => m = ds.length - i ∧ i ≤ ds.length ∧ ∃ F' δ' C', Same F1 F' ∧ Slots X.K F' δ' σ' ∧ At X.K F' (C' ++ R) H' ∧ W i δ' C', ⟨_, rfl, Nat.zero_le _, F1, δ, C1, Same.refl _, hs.ext e1, a1, w0⟩, ?_⟩
      rintro i m σ' H' ⟨rfl, hi, F', δ', C', e', s', a', w'⟩
      obtain ⟨hgo, hstop⟩ := ok F' _ H' e' a' i
      by_cases hlt : i < ds.length
      · obtain ⟨go, yl⟩ := hgo hlt
        refine .inr ⟨go, _, fun σ2 H2 n2 => ⟨ds.length - (i + 1), by omega, rfl, hlt, n2⟩, fun x H2 y => ?_⟩
        obtain ⟨F2, d, e2, a2, hd, n2⟩ := yl x H2 y
        refine asgP_ok a2 (s'.ext e2) n2 (hstep i d δ' C' hd w') fun δ3 σ3 s3 _ q3 => ?_
        have e12 := e'.trans e2
        refine ⟨F2, R, C', δ3, { E with nx := W (i + 1), ct := W (i + 1), bk := E.nx }, s3, a2, tk.ext (e1.trans e12), q3, ⟨fun σ4 δ4 F4 C4 H4 e4 s4 a4 w4 => ⟨F4, δ4, C4, e12.trans e4, s4, a4, w4⟩, ?_, ?_, fun σ4 δ4 F4 C4 H4 e4 s4 a4 w4 => ⟨F4, δ4, C4, e12.trans e4, s4, a4, w4⟩⟩⟩
        · exact fun v d F4 C4 H4 e4 a4 n4 q4 => k.rt v d F4 C4 H4 ((e1.trans e12).trans e4) a4 n4 q4
        · exact fun σ4 δ4 F4 C4 H4 e4 s4 a4 q4 => k.nx σ4 δ4 F4 C4 H4 ((e1.trans e12).trans e4) s4 a4 q4
      · have e : i = ds.length := by omega
        subst e
        exact .inl ⟨hstop (Nat.le_refl _), k.nx _ _ F' C' H' (e1.trans e') s' a' (hend δ' C' w')⟩⟩
def lWhile (t : LT) (body : LS) : LS := fun E δ C => ∃ W : Nat → Ev → Cells → Prop, (∃ m, W m δ C) ∧ ∀ m δ' C', W m δ' C' →
  t δ' C' (fun b C1 => brB b (body { E with nx := fun δ2 C2 => ∃ m', m' < m ∧ W m' δ2 C2, ct := fun δ2 C2 => ∃ m', m' < m ∧ W m' δ2 C2, bk := E.nx } δ' C1) (E.nx δ' C1)) fun x C1 => E.ex x δ' C1
theorem swhile {X : Cx} {c : Expr} {body : List Stmt} {lt : LT} {lb : LS} {pos : Pos} (hp : PassesOwn (model X.prog X.w) X.A X.env X.xe) (hc : GT X c lt) (hb : GSs X body lb) : GS X (.While c body [] pos) (lWhile lt lb) :=
  PS.imp (ps_while hp hc hb) fun D' σ H ⟨F, R, C, δ, E, hs, ha, tk, h, k⟩ => by
    obtain ⟨W, ⟨m0, w0⟩, step⟩ := h
    refine ⟨fun m σ' H' => ∃ F' δ' C', Same F F' ∧ Slots X.K F' δ' σ' ∧ At X.K F' (C' ++ R) H' ∧ W m δ' C', ⟨m0, F, δ, C, Same.refl _, hs, ha, w0⟩, ?_⟩
    rintro m σ' H' ⟨F', δ', C', e', s', a', w'⟩
    refine ⟨F', R, C', δ', _, _, s', a', (tk.ext e').at s', step m δ' C' w', fun b F1 C1 H1 e1 a1 p1 => ?_⟩
    have e2 := e'.trans e1
    cases b with
    | true =>
      refine iteT ⟨fun σ2 H2 => ∃ m', m' < m ∧ ∃ F2 δ2 C2, Same F F2 ∧ Slots X.K F2 δ2 σ2 ∧ At X.K F2 (C2 ++ R) H2 ∧ W m' δ2 C2, fun σ2 H2 q => q, ?_⟩
      refine ⟨F1, R, C1, δ', { E with nx := fun δ2 C2 => ∃ m', m' < m ∧ W m' δ2 C2, ct := fun δ2 C2 => ∃ m', m' < m ∧ W m' δ2 C2, bk := E.nx }, s'.ext e1, a1, tk.ext e2, p1, ⟨?_, ?_, ?_, ?_⟩⟩
      · rintro σ4 δ4 F4 C4 H4 e4 s4 a4 ⟨m', l, w4⟩
        exact ⟨m', l, F4, δ4, C4, e2.trans e4, s4, a4, w4⟩
      · exact fun v d F4 C4 H4 e4 a4 n4 q4 => k.rt v d F4 C4 H4 (e2.trans e4) a4 n4 q4
      · exact fun σ4 δ4 F4 C4 H4 e4 s4 a4 q4 => k.nx σ4 δ4 F4 C4 H4 (e2.trans e4) s4 a4 q4
      · rintro σ4 δ4 F4 C4 H4 e4 s4 a4 ⟨m', l, w4⟩
        exact ⟨m', l, F4, δ4, C4, e2.trans e4, s4, a4, w4⟩
    | false => exact iteF (k.nx _ _ F1 C1 H1 e2 (s'.ext e1) a1 p1)
end G
namespace G
open PySem PySem.Spec PyProof.Rows L2
theorem brB_i {b : Bool} {t f : Prop} (h1 : b = true → t) (h2 : b = false → f) : brB b t f := by
  cases b with
  | true => exact h1 rfl
  | false => exact h2 rfl
theorem brB_d {p : Prop} {inst : Decidable p} {t f : Prop} (h1 : p → t) (h2 : ¬ p → f) : brB (decide p) t f :=
  brB_i (fun h => h1 (of_decide_eq_true h)) fun h => h2 (of_decide_eq_false h)
theorem brB_t {p : Prop} {inst : Decidable p} {t f : Prop} (h : p) (h1 : t) : brB (decide p) t f := by
  rw [decide_eq_true h]
  exact h1
theorem brB_f {p : Prop} {inst : Decidable p} {t f : Prop} (h : ¬ p) (h1 : f) : brB (decide p) t f := by
  rw [decide_eq_false h]
  exact h1
theorem brB_nt {p : Prop} {inst : Decidable p} {t f : Prop} (h : ¬ p) (h1 : t) : brB (!decide p) t f := by
  rw [decide_eq_false h]
  exact h1
theorem brB_nf {p : Prop} {inst : Decidable p} {t f : Prop} (h : p) (h1 : f) : brB (!decide p) t f := by
  rw [decide_eq_true h]
  exact h1
theorem brB_nd {p : Prop} {inst : Decidable p} {t f : Prop} (h1 : ¬ p → t) (h2 : p → f) : brB (!decide p) t f :=
  brB_i (fun h => h1 (by simpa using h)) fun h => h2 (by simpa using h)
theorem cellL_i {a : Addr} {C : Cells} {k : List D → Prop} (ds : List D) (h : (a, Cell.lst ds) ∈ C) (q : k ds) : CellL a C k := ⟨ds, h, q⟩
theorem fr_i {ct : Ct} {ds : List D} {C C1 R1 : Cells} {P : PD} {PX : PXt} (p : Pick C C1 R1) (h : ct ds C1 (fun d C2 => P d (C2 ++ R1)) fun x C2 => PX x (C2 ++ R1)) : Fr ct ds C P PX := ⟨C1, R1, p, h⟩
theorem fin_i {P : PD} {d : D} {C C' G : Cells} (p : Pick C C' G) (h : P d C') : Fin P d C := ⟨C', G, p, h⟩
theorem finx_i {P : PXt} {d : Exc} {C C' G : Cells} (p : Pick C C' G) (h : P d C') : FinX P d C := ⟨C', G, p, h⟩
theorem ble_i {a b : Nat} (h : Nat.ble a b = true) : Nat.ble a b = true := h
theorem rng_i {i : Int} (h : -4611686018427387904 ≤ i ∧ i < 4611686018427387904) : rngOk i := by
  unfold rngOk
  omega
theorem ble_le {a b : Nat} (h : a ≤ b) : Nat.ble a b = true := Nat.ble_eq_true_of_le h
theorem nb_add {i j : Int} {a b : Nat} (ha : i.natAbs < 2 ^ a) (hb : j.natAbs < 2 ^ b) : (i + j).natAbs < 2 ^ (a + b + 1) := by
  have h1 : 2 ^ a ≤ 2 ^ (a + b) := Nat.pow_le_pow_right (by decide) (by omega)
  have h2 : 2 ^ b ≤ 2 ^ (a + b) := Nat.pow_le_pow_right (by decide) (by omega)
  have h3 : 2 ^ (a + b + 1) = 2 ^ (a + b) * 2 := Nat.pow_succ ..
  omega
theorem nb_sub {i j : Int} {a b : Nat} (ha : i.natAbs < 2 ^ a) (hb : j.natAbs < 2 ^ b) : (i - j).natAbs < 2 ^ (a + b + 1) := by
  have h1 : 2 ^ a ≤ 2 ^ (a + b) := Nat.pow_le_pow_right (by decide) (by omega)
  have h2 : 2 ^ b ≤ 2 ^ (a + b) := Nat.pow_le_pow_right (by decide) (by omega)
  have h3 : 2 ^ (a + b + 1) = 2 ^ (a + b) * 2 := Nat.pow_succ ..
  omega
theorem nb_mul {i j : Int} {a b : Nat} (ha : i.natAbs < 2 ^ a) (hb : j.natAbs < 2 ^ b) : (i * j).natAbs < 2 ^ (a + b) := wide_lt ha hb
theorem nb_mod {i j : Int} {b : Nat} (h : j ≠ 0) (hb : j.natAbs < 2 ^ b) : (i % j).natAbs < 2 ^ b := by
  have h1 := Int.emod_nonneg i h
  have h2 := Int.emod_lt i h
  omega
theorem nb_div {i j : Int} {b : Nat} (hb : i.natAbs < 2 ^ b) : (i / j).natAbs < 2 ^ b := by
  have h := Int.natAbs_ediv_le_natAbs i j
  omega
theorem nb_abs {i : Int} {b : Nat} (hb : i.natAbs < 2 ^ b) : (if i < 0 then -i else i).natAbs < 2 ^ b := by
  split <;> omega
theorem abs_nn {i : Int} : 0 ≤ (if i < 0 then -i else i) := by
  split <;> omega
theorem nb_up {i : Int} {a b : Nat} (h : i.natAbs < 2 ^ a) (l : a ≤ b) : i.natAbs < 2 ^ b := Nat.lt_of_lt_of_le h (Nat.pow_le_pow_right (by decide) l)
theorem mulW_i {i j : Int} {a b : Nat} (ha : i.natAbs < 2 ^ a) (hb : j.natAbs < 2 ^ b) (h : a + b ≤ 90000000) : CMulX i j := by
  have x := PySem.Flt.log2_lt_of (Nat.succ_pos a) (nb_up ha (Nat.le_succ a))
  have y := PySem.Flt.log2_lt_of (Nat.succ_pos b) (nb_up hb (Nat.le_succ b))
  unfold CMulX
  omega
theorem pow_i {i j : Int} (h : (decide (0 ≤ j) && decide (j ≤ 1000000) && decide (i.natAbs < 2 ^ 64)) = true) : CPow i j := by
  simp only [Bool.and_eq_true, decide_eq_true_eq] at h
  exact ⟨h.1.1, h.1.2, h.2⟩
theorem divW_i {i j : Int} {b : Nat} (h : 0 < j) (hb : j.natAbs < 2 ^ b) (h9 : b ≤ 8000) : CDivW i j := wide_div h (nb_up hb (Nat.le_succ b)) (Nat.succ_pos _) (by omega)
end G
namespace G
open PySem PySem.Spec PyProof.Rows L2
def wipeE (δ : Ev) : List Nat → Ev
  | [] => δ
  | v :: vs => (wipeE δ vs).set v none
theorem Slots.wipe {K : PySem.W.Frag} {F : Hp} {δ : Ev} {σ : L2.St} (h : Slots K F δ σ) : ∀ vs : List Nat, Slots K F (wipeE δ vs) (wipe σ vs)
  | [] => h
  | v :: vs => (Slots.wipe h vs).unset v
theorem tk_no {X : Cx} {F : Hp} {R : Cells} {σ : L2.St} : Tk X F R σ (fun _ _ => False) := by
  rintro u s' ⟨a, B, sI, pins, σ', H, cls, d, e, I, nb, up, sky, na, os, ag, x, F', C', h1, h2, h3, h4, h5, h6⟩
  exact h6.elim
def upN (K : PySem.W.Frag) (l : LE) : TE := fun σ H Q => ∃ (F : Hp) (R C : Cells) (δ : Ev) (P : PD), Slots K F δ σ ∧ At K F (C ++ R) H ∧ l δ C P (fun _ _ => False) ∧
  ∀ v d F' C' H', Same F F' → At K F' (C' ++ R) H' → Den K F' d v → P d C' → Q v H'
def upNT (K : PySem.W.Frag) (l : LT) : TT := fun σ H Q => ∃ (F : Hp) (R C : Cells) (δ : Ev) (P : Bool → Cells → Prop), Slots K F δ σ ∧ At K F (C ++ R) H ∧ l δ C P (fun _ _ => False) ∧
  ∀ b F' C' H', Same F F' → At K F' (C' ++ R) H' → P b C' → Q b H'
theorem upN_up {X : Cx} {l : LE} (σ : L2.St) (H : Hp) (Q : VK) (h : upN X.K l σ H Q) : up X l σ H Q := by
  obtain ⟨F, R, C, δ, P, hs, ha, h, k⟩ := h
  exact ⟨F, R, C, δ, P, _, hs, ha, tk_no, h, k⟩
theorem upNT_up {X : Cx} {l : LT} (σ : L2.St) (H : Hp) (Q : Bool → Hp → Prop) (h : upNT X.K l σ H Q) : upT X l σ H Q := by
  obtain ⟨F, R, C, δ, P, hs, ha, h, k⟩ := h
  exact ⟨F, R, C, δ, P, _, hs, ha, tk_no, h, k⟩
/-- a clause's tests -/
structure GTs (X : Cx) (ifs : List Expr) (l : LT) : Prop where
  run : PTs X ifs (upNT X.K l)
def lYesT : LT := fun _ C P _ => P true C
theorem ts_nil {X : Cx} : GTs X [] lYesT := ⟨⟨fun pins s σ H Q I ⟨F, R, C, δ, P, hs, ha, h, k⟩ => pts_nil.run pins s σ H Q I (k true F C H (Same.refl _) ha h)⟩⟩
theorem ts_one {X : Cx} {c : Expr} {l : LT} (h : GT X c l) : GTs X [c] l := ⟨⟨fun pins s σ H Q I q => (pts_one h).run pins s σ H Q I (upNT_up _ _ _ q)⟩⟩
def compB (p : Pat) (lt : LT) (le : LE) (vs : List Nat) (δ : Ev) (ds : List D) (C1 : Cells) (fin : List D → Cells → Prop) : Prop := ∃ W : Nat → List D → Cells → Prop, W 0 [] C1 ∧
  (∀ i d acc C', ds[i]? = some d → W i acc C' → asgP p d (wipeE δ vs) fun δ2 => lt δ2 C' (fun b C2 => brB b (le δ2 C2 (fun y C3 => Nat.ble (acc.length + 1) lim = true ∧ W (i + 1) (acc ++ [y]) C3) (fun _ _ => False)) (W (i + 1) acc C2)) (fun _ _ => False)) ∧
  ∀ acc C', W ds.length acc C' → fin acc C'
/-- the comprehension's list, frozen; a cell -/
structure CompW (p : Pat) (lt : LT) (le : LE) (vs : List Nat) (δ : Ev) (ds : List D) (C1 : Cells) (fin : List D → Cells → Prop) : Prop where
  ex : compB p lt le vs δ ds C1 fin
def lLc (li : LI) (p : Pat) (lt : LT) (le : LE) (vs : List Nat) : LE := fun δ C P PX => li δ C (fun ds C1 => CompW p lt le vs δ ds C1 fun acc C' => P (.lst acc) C') PX
def lLcC (li : LI) (p : Pat) (lt : LT) (le : LE) (vs : List Nat) : LE := fun δ C P PX => li δ C (fun ds C1 => CompW p lt le vs δ ds C1 fun acc C' => ∀ q, P (.ref q) ((q, .lst acc) :: C')) PX
section
variable {X : Cx} {elt tg iter : Expr} {ifs : List Expr} {scope : Scope} {own : List (Str × Nat)} {pos : Pos} {li : LI} {p : Pat} {lt : LT} {le : LE}
theorem lc_up (hp : ∀ i ∈ patS p, i ∈ own.map (·.2)) (C? : Bool) (σ : L2.St) (H : Hp) (Q : VK) (h : up X (if C? = true then lLcC li p lt le (own.map (·.2)) else lLc li p lt le (own.map (·.2))) σ H Q) :
    tLc (upI X li) (gPat X.K p) (upNT X.K lt) (upN X.K le) (own.map (·.2)) σ H Q := by
  have h' : ∃ (F : Hp) (R C : Cells) (δ : Ev) (PX : PXt) (fin : List D → Cells → Prop), Slots X.K F δ σ ∧ At X.K F (C ++ R) H ∧ Tk X F R σ PX ∧ li δ C (fun ds C1 => CompW p lt le (own.map (·.2)) δ ds C1 fin) PX ∧
      ∀ acc F' C' H' D, Same F F' → At X.K F' ((D, .lst acc) :: (C' ++ R)) H' → fin acc C' → Q (.ref D) H' := by
    obtain ⟨F, R, C, δ, P, PX, hs, ha, tk, h, k⟩ := h
    cases C? with
    | true =>
      refine ⟨F, R, C, δ, PX, _, hs, ha, tk, h, fun acc F' C' H' D e a q => ?_⟩
      exact k (.ref D) (.ref D) F' ((D, .lst acc) :: C') H' e a (den_ref.mpr rfl) (q D)
    | false =>
      refine ⟨F, R, C, δ, PX, _, hs, ha, tk, h, fun acc F' C' H' D e a q => ?_⟩
      obtain ⟨F2, e2, a2, n2⟩ := a.ice
      exact k (.ref D) (.lst acc) F2 C' H' (e.trans e2) a2 n2 q
  obtain ⟨F, R, C, δ, PX, fin, hs, ha, tk, h, k⟩ := h'
  refine ⟨F, R, C, δ, _, PX, hs, ha, tk, h, fun J ds F1 C1 H1 e1 a1 ok p1 => fun L hL => ?_⟩
  obtain ⟨W, w0, hstep, hend⟩ := p1.ex
  refine ⟨fun i m H' => m = ds.length - i ∧ i ≤ ds.length ∧ ∃ F' acc C', Same F1 F' ∧ At X.K F' ((L, .lst acc) :: (C' ++ R)) H' ∧ W i acc C', ⟨_, rfl, Nat.zero_le _, F1, [], C1, Same.refl _, a1.fresh (c := .lst []) hL ⟨[], upd_same, .nil⟩, w0⟩, ?_⟩
  rintro i m H' ⟨rfl, hi, F', acc, C', e', a', w'⟩
  obtain ⟨hgo, hstop⟩ := ok F' _ H' e' a' i
  by_cases hlt : i < ds.length
  · obtain ⟨go, yl⟩ := hgo hlt
    refine .inr ⟨go, fun H' => ∃ F' acc C', Same F1 F' ∧ At X.K F' ((L, .lst acc) :: (C' ++ R)) H' ∧ W (i + 1) acc C', fun H2 n2 => ⟨ds.length - (i + 1), by omega, rfl, hlt, n2⟩, fun x H2 y => ?_⟩
    obtain ⟨F2, d, e2, a2, hd, n2⟩ := yl x H2 y
    have e12 := (e1.trans e').trans e2
    refine asgP_ok a2 ((hs.ext e12).wipe (own.map (·.2))) n2 (hstep i d acc C' hd w') fun δ3 σ3 s3 w3 q3 => ?_
    have wi : ∀ τ : L2.St, wipe (wipe τ (own.map (·.2))) (own.map (·.2)) = wipe τ (own.map (·.2)) := fun τ => by
      apply List.ext_getElem?
      intro j
      by_cases hj : j ∈ own.map (·.2)
      · have g : ∀ (τ : L2.St) (us : List Nat), j ∈ us → (wipe τ us)[j]? = if j < τ.length then some none else none := by
          intro τ us
          induction us with
          | nil => intro q; cases q
          | cons u us ih =>
            intro q
            unfold wipe
            by_cases e : u = j
            · subst e
              by_cases hl : u < τ.length
              · rw [List.getElem?_set_self (by rw [wipe_length]; exact hl), if_pos hl]
              · rw [List.getElem?_eq_none (by rw [List.length_set, wipe_length]; omega), if_neg hl]
            · rw [List.getElem?_set_ne e]
              rcases List.mem_cons.mp q with q | q
              · exact absurd q.symm e
              · exact ih q
        rw [g _ _ hj, g _ _ hj, wipe_length]
      · rw [wipe_out hj]
    refine ⟨(w3 _ hp).trans (wi σ), ?_⟩
    have mv : ∀ {F H : Hp} {acc : List D} {C : Cells}, At X.K F ((L, .lst acc) :: (C ++ R)) H → At X.K F (C ++ ((L, .lst acc) :: R)) H := fun h => h.perm List.perm_middle.symm
    have vm : ∀ {F H : Hp} {acc : List D} {C : Cells}, At X.K F (C ++ ((L, .lst acc) :: R)) H → At X.K F ((L, .lst acc) :: (C ++ R)) H := fun h => h.perm List.perm_middle
    refine ⟨F2, (L, .lst acc) :: R, C', δ3, _, s3, mv a2, q3, fun b F4 C4 H4 e4 a4 p4 => ?_⟩
    cases b with
    | true =>
      refine iteT ⟨F4, (L, .lst acc) :: R, C4, δ3, _, s3.ext e4, a4, p4, fun v d' F5 C5 H5 e5 a5 n5 p5 => ?_⟩
      obtain ⟨vs, g, l⟩ := (vm a5).cell (L, .lst acc) List.mem_cons_self
      have hz : acc.length + 1 ≤ sizeLine := ble_lim p5.1
      refine ⟨vs, g, by rw [l.len]; omega, F5, acc ++ [d'], C5, ((e'.trans e2).trans e4).trans e5, (vm a5).write ⟨_, upd_same, l.app (.cons n5 .nil)⟩, p5.2⟩
    | false => exact iteF ⟨F4, acc, C4, (e'.trans e2).trans e4, vm a4, p4⟩
  · have e : i = ds.length := by omega
    subst e
    exact .inl ⟨hstop (Nat.le_refl _), k acc F' C' H' L (e1.trans e') a' (hend acc C' w')⟩
theorem pg_blk {s : Shared} {H : Hp} {cenv : Env} {fp : List Addr} (h : GP (X.blk s H scope cenv fp) tg p) : PG (X.blk s H scope cenv fp) tg (gPat X.K p) := h
/-- [elt for tg in iter if ..] as a value -/
theorem glc (own : List (Str × Nat)) (hc : X.calm = true) (hN : X.N.Nodup) (hi : GI X tg iter li) (hp : ∀ i ∈ patS p, i ∈ own.map (·.2)) (ok : blkC X.N X.env.scope scope own = true)
    (hg : ∀ (s : Shared) (H : Hp) (C : Addr) (cl : List (Str × Addr)) (fp : List Addr), GP (X.blk s H scope (compEnvC scope cl C X.env) fp) tg p) (ht : ∀ (s : Shared) (H : Hp) (C : Addr) (cl : List (Str × Addr)) (fp : List Addr), GTs (X.blk s H scope (compEnvC scope cl C X.env) fp) ifs lt)
    (he : ∀ (s : Shared) (H : Hp) (C : Addr) (cl : List (Str × Addr)) (fp : List Addr), GE (X.blk s H scope (compEnvC scope cl C X.env) fp) elt le) (hs : ∀ x, foldedSetIterable iter X.env x = pure x := by intro _; rfl) :
    GE X (.ListComp elt [⟨tg, iter, ifs, 0⟩] scope pos) (lLc li p lt le (own.map (·.2))) :=
  PE.imp (pe_lc (tt := upNT X.K lt) (te := upN X.K le) hc hN hi (blkOk_by ok) hg (fun s H C cl fp => (ht s H C cl fp).run) (fun s H C cl fp => PE.imp (he s H C cl fp) (upN_up (X := X.blk s H scope (compEnvC scope cl C X.env) fp))) hs) (lc_up hp false)
theorem glcC (own : List (Str × Nat)) (hc : X.calm = true) (hN : X.N.Nodup) (hi : GI X tg iter li) (hp : ∀ i ∈ patS p, i ∈ own.map (·.2)) (ok : blkC X.N X.env.scope scope own = true)
    (hg : ∀ (s : Shared) (H : Hp) (C : Addr) (cl : List (Str × Addr)) (fp : List Addr), GP (X.blk s H scope (compEnvC scope cl C X.env) fp) tg p) (ht : ∀ (s : Shared) (H : Hp) (C : Addr) (cl : List (Str × Addr)) (fp : List Addr), GTs (X.blk s H scope (compEnvC scope cl C X.env) fp) ifs lt)
    (he : ∀ (s : Shared) (H : Hp) (C : Addr) (cl : List (Str × Addr)) (fp : List Addr), GE (X.blk s H scope (compEnvC scope cl C X.env) fp) elt le) (hs : ∀ x, foldedSetIterable iter X.env x = pure x := by intro _; rfl) :
    GE X (.ListComp elt [⟨tg, iter, ifs, 0⟩] scope pos) (lLcC li p lt le (own.map (·.2))) :=
  PE.imp (pe_lc (tt := upNT X.K lt) (te := upN X.K le) hc hN hi (blkOk_by ok) hg (fun s H C cl fp => (ht s H C cl fp).run) (fun s H C cl fp => PE.imp (he s H C cl fp) (upN_up (X := X.blk s H scope (compEnvC scope cl C X.env) fp))) hs) (lc_up hp true)
theorem asg_up {le : LE} {i : Nat} {tE : TE} (hu : ∀ σ H Q, up X le σ H Q → tE σ H Q) (D' : Ends) (σ : L2.St) (H : Hp) (h : upS X (lAsg le i) D' σ H) : tAsg tE (gName i) D' σ H := by
  obtain ⟨F, R, C, δ, E, hs, ha, tk, h, k⟩ := h
  exact hu _ _ _ ⟨F, R, C, δ, _, _, hs, ha, tk.at hs, h, fun v d F1 C1 H1 e1 a1 n1 p1 => k.nx _ _ F1 C1 H1 e1 ((hs.ext e1).set n1 i) a1 (vset_ok p1)⟩
/-- name = [..], the name a local -/
theorem ssetLc (i : Nat) {y : Str} {py spos : Pos} (own : List (Str × Nat)) (hc : X.calm = true) (hN : X.N.Nodup) (hi : GI X tg iter li) (hp : ∀ i ∈ patS p, i ∈ own.map (·.2)) (ok : blkC X.N X.env.scope scope own = true)
    (hg : ∀ (s : Shared) (H : Hp) (C : Addr) (cl : List (Str × Addr)) (fp : List Addr), GP (X.blk s H scope (compEnvC scope cl C X.env) fp) tg p) (ht : ∀ (s : Shared) (H : Hp) (C : Addr) (cl : List (Str × Addr)) (fp : List Addr), GTs (X.blk s H scope (compEnvC scope cl C X.env) fp) ifs lt)
    (he : ∀ (s : Shared) (H : Hp) (C : Addr) (cl : List (Str × Addr)) (fp : List Addr), GE (X.blk s H scope (compEnvC scope cl C X.env) fp) elt le) (hs : ∀ x, foldedSetIterable iter X.env x = pure x := by intro _; rfl)
    (hy : X.N[i]? = some y := by rfl) (hyl : X.env.scope.names.lookup y = some .local := by rfl) (hsw : swapsWith (.ListComp elt [⟨tg, iter, ifs, 0⟩] scope pos) (some (.Name y py)) spos.line X.env = pure true := by rfl) :
    GS X (.Assign [.Name y py] (.ListComp elt [⟨tg, iter, ifs, 0⟩] scope pos) spos) (lAsg (lLc li p lt le (own.map (·.2))) i) :=
  PS.imp (ps_setLc (tt := upNT X.K lt) (te := upN X.K le) hc hN hy hyl hsw hi (blkOk_by ok) hg (fun s H C cl fp => (ht s H C cl fp).run) (fun s H C cl fp => PE.imp (he s H C cl fp) (upN_up (X := X.blk s H scope (compEnvC scope cl C X.env) fp))) hs) (asg_up (lc_up hp false))
theorem ssetLcC (i : Nat) {y : Str} {py spos : Pos} (own : List (Str × Nat)) (hc : X.calm = true) (hN : X.N.Nodup) (hi : GI X tg iter li) (hp : ∀ i ∈ patS p, i ∈ own.map (·.2)) (ok : blkC X.N X.env.scope scope own = true)
    (hg : ∀ (s : Shared) (H : Hp) (C : Addr) (cl : List (Str × Addr)) (fp : List Addr), GP (X.blk s H scope (compEnvC scope cl C X.env) fp) tg p) (ht : ∀ (s : Shared) (H : Hp) (C : Addr) (cl : List (Str × Addr)) (fp : List Addr), GTs (X.blk s H scope (compEnvC scope cl C X.env) fp) ifs lt)
    (he : ∀ (s : Shared) (H : Hp) (C : Addr) (cl : List (Str × Addr)) (fp : List Addr), GE (X.blk s H scope (compEnvC scope cl C X.env) fp) elt le) (hs : ∀ x, foldedSetIterable iter X.env x = pure x := by intro _; rfl)
    (hy : X.N[i]? = some y := by rfl) (hyl : X.env.scope.names.lookup y = some .local := by rfl) (hsw : swapsWith (.ListComp elt [⟨tg, iter, ifs, 0⟩] scope pos) (some (.Name y py)) spos.line X.env = pure true := by rfl) :
    GS X (.Assign [.Name y py] (.ListComp elt [⟨tg, iter, ifs, 0⟩] scope pos) spos) (lAsg (lLcC li p lt le (own.map (·.2))) i) :=
  PS.imp (ps_setLc (tt := upNT X.K lt) (te := upN X.K le) hc hN hy hyl hsw hi (blkOk_by ok) hg (fun s H C cl fp => (ht s H C cl fp).run) (fun s H C cl fp => PE.imp (he s H C cl fp) (upN_up (X := X.blk s H scope (compEnvC scope cl C X.env) fp))) hs) (asg_up (lc_up hp true))
end
def enumL : Nat → List D → List D
  | _, [] => []
  | n, d :: ds => .tup [.int (n : Int), d] :: enumL (n + 1) ds
theorem enumL_len : ∀ (ds : List D) (n : Nat), (enumL n ds).length = ds.length
  | [], _ => rfl
  | d :: ds, n => by simp [enumL, enumL_len ds]
theorem enumL_get : ∀ (ds : List D) (n i : Nat) (d : D), ds[i]? = some d → (enumL n ds)[i]? = some (.tup [.int ((n + i : Nat) : Int), d])
  | [], _, _, _, e => by simp at e
  | x :: ds, n, 0, d, e => by
    simp at e
    subst e
    rfl
  | x :: ds, n, i + 1, d, e => by
    have q := enumL_get ds (n + 1) i d (by simpa using e)
    unfold enumL
    rw [List.getElem?_cons_succ, q]
    congr 4
    omega
def lIEnum (la : LA) : LI := fun δ C P PX => la δ C (fun as C1 => match as with
  | [.lst ds] => P (enumL 0 ds) C1
  | [.rdl ds] => P (enumL 0 ds) C1
  | _ => False) PX
theorem itok_enum {K : PySem.W.Frag} {F : Hp} {a : Addr} {vs : List V} {ds : List D} (h : SqL K F a vs) (l : DenL K F ds vs) : ItOk K F (Ite K a) (enumL 0 ds) := by
  intro F' Cc H e ha i
  have q : SqL K H a vs := SqL.ext (e.trans ha.sub) h
  rw [enumL_len]
  refine ⟨fun hi => ?_, fun hi => ⟨vs, q, by rw [l.len]; exact hi⟩⟩
  have hv : i < vs.length := by rw [l.len]; exact hi
  refine ⟨⟨vs, _, q, List.getElem?_eq_getElem hv⟩, ?_⟩
  rintro x H' ⟨T, y, rfl, hT, rfl, z⟩
  obtain ⟨d, e1, n⟩ := l.at (z vs q)
  have n' : DenL K F' [.int ((i : Nat) : Int), d] [.int ((i : Nat) : Int), y] := .cons (den_int.mpr rfl) (.cons (n.ext e) .nil)
  obtain ⟨e2, a2⟩ := ha.froz (o := .tup [.int ((i : Nat) : Int), y]) hT
  refine ⟨_, _, e2, a2, by rw [enumL_get ds 0 i d e1, Nat.zero_add], ?_⟩
  exact den_tup.mpr ⟨T, _, rfl, SqT.of upd_same, n'.ext e2⟩
end G
namespace G
open PySem PySem.Spec PyProof.Rows L2
mutual
def py : D → PyData
  | .non => .none
  | .bl b => .bool b
  | .int i => .int i
  | .str x => .str (sx x)
  | .tup ds => .tuple (pys ds)
  | .lst ds => .list (pys ds)
  | .rdl ds => .list (pys ds)
  | .obj _ _ => .none
  | .exv _ _ => .none
  | .ref _ => .none
  | .ty _ => .none
def pys : List D → List PyData
  | [] => []
  | d :: ds => py d :: pys ds
end
mutual
def isPy : D → Bool
  | .non => true
  | .bl _ => true
  | .int _ => true
  | .str _ => true
  | .tup ds => arePy ds
  | .lst ds => arePy ds
  | .rdl ds => arePy ds
  | .obj _ _ => false
  | .exv _ _ => false
  | .ref _ => false
  | .ty _ => false
def arePy : List D → Bool
  | [] => true
  | d :: ds => isPy d && arePy ds
end
mutual
theorem dp_of {K : PySem.W.Frag} {F H : Hp} (e : Same F H) : ∀ {d : D} {v : V}, isPy d = true → Den K F d v → Dp K H v (py d)
  | .non, v, _, h => by rw [den_non.mp h]; exact .non
  | .bl b, v, _, h => by rw [den_bl.mp h]; exact .bl b
  | .int b, v, _, h => by rw [den_int.mp h]; exact .int b
  | .str b, v, _, h => by rw [den_str.mp h]; exact .str _
  | .tup ds, v, q, h => by
    obtain ⟨a, vs, rfl, s, l⟩ := den_tup.mp h
    exact .tup (SqT.ext e s) (dps_of e (by simpa only [isPy] using q) l)
  | .lst ds, v, q, h => by
    obtain ⟨a, vs, rfl, s, l⟩ := den_lst.mp h
    exact .lst (SqL.of (e _ _ s)) (dps_of e (by simpa only [isPy] using q) l)
  | .rdl ds, v, q, h => by
    obtain ⟨a, vs, rfl, s, l⟩ := den_rdl.mp h
    exact .lst (SqL.ext e s) (dps_of e (by simpa only [isPy] using q) l)
  | .obj _ _, v, q, h => by simp only [isPy] at q; cases q
  | .exv _ _, v, q, h => by simp only [isPy] at q; cases q
  | .ref _, v, q, h => by simp only [isPy] at q; cases q
  | .ty _, v, q, h => by simp only [isPy] at q; cases q
theorem dps_of {K : PySem.W.Frag} {F H : Hp} (e : Same F H) : ∀ {ds : List D} {vs : List V}, arePy ds = true → DenL K F ds vs → DpAll K H vs (pys ds)
  | [], vs, _, h => by
    simp only [DenL] at h
    subst h
    exact .nil
  | d :: ds, vs, q, h => by
    obtain ⟨v, r, rfl, h1, h2⟩ := h.split
    simp only [arePy, Bool.and_eq_true] at q
    exact .cons (dp_of e q.1 h1) (dps_of e q.2 h2)
end
/-- the plain data of a value -/
structure CellP (a : Addr) (C : Cells) (k : PyData → Prop) : Prop where
  ex : ∃ ds, (a, Cell.lst ds) ∈ C ∧ arePy ds = true ∧ k (.list (pys ds))
def pyV : D → Cells → (PyData → Prop) → Prop
  | .ref a, C, k => CellP a C k
  | d, _, k => isPy d = true ∧ k (py d)
theorem pyV_ok {K : PySem.W.Frag} {F H : Hp} {C R : Cells} {d : D} {v : V} {k : PyData → Prop} (ha : At K F (C ++ R) H) (hd : Den K F d v) (h : pyV d C k) : ∃ p, Dp K H v p ∧ k p := by
  cases d with
  | ref a =>
    obtain ⟨ds, m, q, r⟩ := CellP.ex h
    obtain ⟨vs, g, l⟩ := cell_lst ha m
    rw [den_ref.mp hd]
    exact ⟨_, .lst (SqL.of g) (dps_of ha.sub q l), r⟩
  | _ => exact ⟨_, dp_of ha.sub h.1 hd, h.2⟩
def eqG (d e : D) (C : Cells) (k : Bool → Prop) : Prop := pyV d C fun p => pyV e C fun q => SeqAt.shaped p = true ∧ SeqAt.shaped q = true ∧ k (PyData.eqv p q)
def eqK : D → D → Cells → (Bool → Prop) → Prop
  | .int i, .int j, _, k => k (decide (i = j))
  | .str i, .str j, _, k => k (decide (i = j))
  | .bl i, .bl j, _, k => k (decide (i = j))
  | .non, .non, _, k => k true
  | .non, .str _, _, k => k false
  | .str _, .non, _, k => k false
  | .non, .int _, _, k => k false
  | .int _, .non, _, k => k false
  | d, e, C, k => eqG d e C k
def eqD : LB := fun d e C k => eqK d e C fun b => k (.bl b)
def neD : LB := fun d e C k => eqK d e C fun b => k (.bl (!b))
def rEqA (K : PySem.W.Frag) : R2 := fun x y H Q => rEq x y H Q ∨ rEqD K x y H Q
def rNeA (K : PySem.W.Frag) : R2 := fun x y H Q => rNe x y H Q ∨ rNeD K x y H Q
theorem eqK_ok {K : PySem.W.Frag} {F H : Hp} {C R : Cells} {d e : D} {x y : V} {k : Bool → Prop} (ha : At K F (C ++ R) H) (hd : Den K F d x) (he : Den K F e y) (h : eqK d e C k) :
    (∃ b, scal x y = true ∧ b = decide (x = y) ∧ k b) ∨ ∃ p q, Dp K H x p ∧ Dp K H y q ∧ SeqAt.shaped p = true ∧ SeqAt.shaped q = true ∧ k (PyData.eqv p q) := by
  unfold eqK at h
  split at h
  · rw [den_int.mp hd, den_int.mp he]
    exact .inl ⟨_, rfl, by simp, h⟩
  · rw [den_str.mp hd, den_str.mp he]
    refine .inl ⟨_, rfl, ?_, h⟩
    rename_i i j
    by_cases z : i = j
    · subst z
      simp
    · have z2 : ¬ sx i = sx j := fun w => z (sx_inj w)
      simp [z, z2]
  · rw [den_bl.mp hd, den_bl.mp he]
    exact .inl ⟨_, rfl, by simp, h⟩
  · rw [den_non.mp hd, den_non.mp he]
    exact .inl ⟨_, rfl, by simp, h⟩
  · rw [den_non.mp hd, den_str.mp he]
    exact .inl ⟨_, rfl, by simp, h⟩
  · rw [den_str.mp hd, den_non.mp he]
    exact .inl ⟨_, rfl, by simp, h⟩
  · rw [den_non.mp hd, den_int.mp he]
    exact .inl ⟨_, rfl, by simp, h⟩
  · rw [den_int.mp hd, den_non.mp he]
    exact .inl ⟨_, rfl, by simp, h⟩
  · unfold eqG at h
    obtain ⟨p, h1, h⟩ := pyV_ok ha hd h
    obtain ⟨q, h2, h⟩ := pyV_ok ha he h
    exact .inr ⟨p, q, h1, h2, h.1, h.2.1, h.2.2⟩
theorem lift_eq {X : Cx} : LiftB X (rEqA X.K) eqD := by
  intro F R C H x y d e k Q ha hd he q kk
  rcases eqK_ok ha hd he q with ⟨b, h1, rfl, h3⟩ | ⟨p, q, h1, h2, h3, h4, h5⟩
  · exact .inl ⟨h1, kr0 kk ha (den_bl.mpr rfl) h3⟩
  · exact .inr ⟨p, q, h1, h2, h3, h4, kr0 kk ha (den_bl.mpr rfl) h5⟩
theorem lift_ne {X : Cx} : LiftB X (rNeA X.K) neD := by
  intro F R C H x y d e k Q ha hd he q kk
  rcases eqK_ok ha hd he q with ⟨b, h1, rfl, h3⟩ | ⟨p, q, h1, h2, h3, h4, h5⟩
  · exact .inl ⟨h1, kr0 kk ha (den_bl.mpr rfl) h3⟩
  · exact .inr ⟨p, q, h1, h2, h3, h4, kr0 kk ha (den_bl.mpr rfl) h5⟩
section
variable {X : Cx} {a b : Expr} {la lb : LE} {pos : Pos} {k : Nat}
theorem op_eqA (hr : Room k X.A) : OpR X (compareOp .Eq) (rEqA X.K) := op_eq.or (op_eqD hr.units)
theorem op_neA (hr : Room k X.A) : OpR X (compareOp .NotEq) (rNeA X.K) := op_ne.or (op_neD hr.units)
theorem geq (hr : Room k X.A) (ha : GE X a la) (hb : GE X b lb) : GE X (.Compare a [.Eq] [b] pos) (lOp eqD la lb) := gcmp (op_eqA hr) lift_eq (nomark _) ha hb
theorem gne (hr : Room k X.A) (ha : GE X a la) (hb : GE X b lb) : GE X (.Compare a [.NotEq] [b] pos) (lOp neD la lb) := gcmp (op_neA hr) lift_ne (nomark _) ha hb
theorem teq (hr : Room k X.A) (ha : GE X a la) (hb : GE X b lb) : GT X (.Compare a [.Eq] [b] pos) (lTest (lOp eqD la lb)) := tcmp (op_eqA hr) lift_eq (nomark _) ha hb
theorem tne (hr : Room k X.A) (ha : GE X a la) (hb : GE X b lb) : GT X (.Compare a [.NotEq] [b] pos) (lTest (lOp neD la lb)) := tcmp (op_neA hr) lift_ne (nomark _) ha hb
end
def shownD (p : PyData) : Tx := tx (PyData.shown p)
def rRepr (K : PySem.W.Frag) : List V → Hp → VK → Prop := fun xs H Q => ∃ x p, xs = [x] ∧ Dp K H x p ∧ p.showable = true ∧ SeqAt.shaped p = true ∧ p.shown.length ≤ sizeLine ∧ Q (.str p.shown) H
mutual
theorem nodict : ∀ p : PyData, PyData.canLay0 p = true → p.hasDict = false
  | .none, _ => by simp only [PyData.hasDict]
  | .bool _, _ => by simp only [PyData.hasDict]
  | .int _, _ => by simp only [PyData.hasDict]
  | .str _, _ => by simp only [PyData.hasDict]
  | .list xs, h => by
    simp only [PyData.canLay0] at h
    simp only [PyData.hasDict]
    exact nodicts xs h
  | .tuple xs, h => by
    simp only [PyData.canLay0] at h
    simp only [PyData.hasDict]
    exact nodicts xs h
  | .dict _, h => by
    simp only [PyData.canLay0] at h
    cases h
theorem nodicts : ∀ ps : List PyData, PyData.canLayAll0 ps = true → PyData.hasDictAll ps = false
  | [], _ => by simp only [PyData.hasDictAll]
  | x :: xs, h => by
    simp only [PyData.canLayAll0, Bool.and_eq_true] at h
    simp only [PyData.hasDictAll, nodict x h.1, nodicts xs h.2, Bool.or_self]
end
theorem call_repr {X : Cx} {k : Nat} (hr : Room k X.A) (hg : X.A.guards = some []) : CallR X (.builtin "repr") (rRepr X.K) := by
  intro pins s σ H xs us Q I r h
  obtain ⟨x, p, rfl, hd, hs, hc, hz, q⟩ := h
  obtain ⟨u, rfl, ru⟩ := vals1 r
  have hl : PyData.canLay0 p = true ∧ PyData.depth p ≤ 64 := by
    unfold SeqAt.shaped at hc
    simpa using hc
  cases hd with
  | non =>
    cases ru
    exact PySem.P.repr_of_none ⟨.str "None", H, I.tok _, ⟨_, rfl⟩, by simpa only [PyData.shown] using q⟩
  | bl b =>
    cases ru
    exact PySem.P.repr_of_bool ⟨.str _, H, I.tok _, ⟨_, rfl⟩, by simpa only [PyData.shown] using q⟩
  | int i =>
    obtain ⟨t, rfl⟩ := ru
    exact PySem.P.repr_of_int (by simpa only [PyData.showable, decide_eq_true_eq] using hs) ⟨.str _, H, I.tok _, ⟨_, rfl⟩, by simpa only [PyData.shown] using q⟩
  | str y =>
    obtain ⟨t, rfl⟩ := ru
    exact PySem.P.repr_of_str ⟨.str _, H, I.tok _, ⟨_, rfl⟩, by simpa only [PyData.shown] using q⟩ (hsz := by simpa only [PyData.shown] using hz)
  | @lst a ys ds h1 h2 =>
    cases ru
    obtain ⟨as, rd⟩ := Dp.reads I _ _ _ (.lst h1 h2) (show RelV (.ref a) (.ref a) from rfl)
    exact repr_of_reads' rd hs (fun z => absurd z (by rw [nodict _ hl.1]; decide)) hg (by have := hr.un; omega) (fun _ _ e => e) (fun h' t tk hk => ⟨.str _, H, I.kept (t' := tk) hk, ⟨_, rfl⟩, q⟩) hz
  | @tup a ys ds h1 h2 =>
    cases ru
    obtain ⟨as, rd⟩ := Dp.reads I _ _ _ (.tup h1 h2) (show RelV (.ref a) (.ref a) from rfl)
    exact repr_of_reads' rd hs (fun z => absurd z (by rw [nodict _ hl.1]; decide)) hg (by have := hr.un; omega) (fun _ _ e => e) (fun h' t tk hk => ⟨.str _, H, I.kept (t' := tk) hk, ⟨_, rfl⟩, q⟩) hz
def reprD : LCl
  | [d], C, k => pyV d C fun p => p.showable = true ∧ SeqAt.shaped p = true ∧ p.shown.length ≤ sizeLine ∧ k (.str (shownD p))
  | _, _, _ => False
theorem lift_repr {X : Cx} : LiftC X (rRepr X.K) reprD := by
  intro F R C H vs ds k Q ha hd q kk
  unfold reprD at q
  split at q
  · obtain ⟨v, rfl, n⟩ := den1 hd
    obtain ⟨p, h1, h2, h3, h4, h5⟩ := pyV_ok ha n q
    exact ⟨v, p, rfl, h1, h2, h3, h4, kr0 kk ha (den_str.mpr (congrArg V.str (sx_tx _).symm)) h5⟩
  · exact q.elim
/-- what an own exception class must say -/
structure ExG (K : PySem.W.Frag) (C : Addr) : Prop where
  cl : (PySem.W.clsIn K C).isSome = true
  ga : PySem.W.findIn K (.ref C) "__getattribute__" = some (some (.builtin "BaseException.__getattribute__"))
  gt : PySem.W.findIn K (.ref C) "__getattr__" = some none
  ex : PySem.W.subIn K (.ref C) (.type "BaseException") = some true
  ac : PySem.W.findIn K (.ref C) "__class__" = some (some (.builtin "object.__class__"))
  sp : PySem.W.specialIn K (.builtin "object.__class__") "__get__" = some (some (.builtin "getset_descriptor.__get__"))
  tk : PySem.W.takesIn K (.builtin "object.__class__") = some true
  mr : PySem.W.mroIn K C (.type "object") = some true
  hd : PySem.W.hasDictIn K C = true
/-- what an own plain class must say -/
structure ClG (K : PySem.W.Frag) (C : Addr) : Prop where
  cl : Cls K C
  ac : PySem.W.findIn K (.ref C) "__class__" = some (some (.builtin "object.__class__"))
  sp : PySem.W.specialIn K (.builtin "object.__class__") "__get__" = some (some (.builtin "getset_descriptor.__get__"))
  tk : PySem.W.takesIn K (.builtin "object.__class__") = some true
  mr : PySem.W.mroIn K C (.type "object") = some true
def rIsX (K : PySem.W.Frag) : List V → Hp → VK → Prop := fun xs H Q => ∃ (a C dx : Addr) (fs : List (Str × V)) (c : V) (u : Value) (b : Bool), xs = [.ref a, c] ∧ ExG K C ∧ H a = some (exo a C (some dx)) ∧ H dx = some (exd dx fs) ∧ ClsV c u ∧ PySem.W.kitOne K (.ref C) u = some b ∧ Q (.bl b) H
theorem exv_at {X : Cx} {pins : List (Addr × Obj)} {σ : L2.St} {H : Hp} {s : Shared} {a C dx : Addr} {fs : List (Str × V)} (I : Inv X pins σ H s) (h1 : H a = some (exo a C (some dx))) (h2 : H dx = some (exd dx fs)) :
    ∃ oa od, PySem.W.InstAt s.heap a oa C (some od) ∧ ∀ f, ∃ u, PySem.W.lookIn f od = some u ∧ RelO (fs.lookup f) u := by
  obtain ⟨t1, ho⟩ := exo_at I.hok h1
  obtain ⟨mA, hns, hr⟩ := exd_at I.hok h2
  obtain ⟨od, hod, hl⟩ := lookIn_ns hns
  exact ⟨_, od, ⟨ho, rfl, rfl, hod⟩, fun f => ⟨mA f, hl f, hr f⟩⟩
theorem call_isX {X : Cx} : CallR X (.builtin "isinstance") (rIsX X.K) := by
  intro pins s σ H xs us Q I r h
  obtain ⟨a, C, dx, fs, c, u, b, rfl, T, h1, h2, k, e, q⟩ := h
  obtain ⟨u1, u2, rfl, r1, r2⟩ := vals2 r
  have e2 := k.eq r2
  subst e2
  obtain rfl : u1 = Value.ref a := r1
  obtain ⟨oa, od, J, _⟩ := exv_at I h1 h2
  exact PySem.W.kia_one (PySem.W.kitx_exc T.cl T.ga T.gt T.ex T.ac T.sp T.tk T.mr) I.kIn J e (fun z => nomatch z) fun tk => ⟨.bl b, H, I.tok tk, rfl, q⟩
/-- the type of a value, as isinstance asks it -/
inductive TyD (K : PySem.W.Frag) : D → Cells → Value → Prop
  | non {C : Cells} : TyD K .non C (.type "NoneType")
  | bl {C : Cells} (b : Bool) : TyD K (.bl b) C (.type "bool")
  | int {C : Cells} (i : Int) : TyD K (.int i) C (.type "int")
  | str {C : Cells} (x : Tx) : TyD K (.str x) C (.type "str")
  | tup {C : Cells} (ds : List D) : TyD K (.tup ds) C (.type "tuple")
  | lst {C : Cells} (ds : List D) : TyD K (.lst ds) C (.type "list")
  | obj {C : Cells} {c : Addr} (fs : Flds) (h : ClG K c) : TyD K (.obj c fs) C (.ref c)
  | exv {C : Cells} {c : Addr} (fs : Flds) (h : ExG K c) : TyD K (.exv c fs) C (.ref c)
  | cell {C : Cells} {a : Addr} {ds : List D} (h : (a, Cell.lst ds) ∈ C) : TyD K (.ref a) C (.type "list")
  | ins {C : Cells} {a c : Addr} {fs : Flds} (h : (a, Cell.ins c fs) ∈ C) (hc : ClG K c) : TyD K (.ref a) C (.ref c)
  | dic {C : Cells} {a : Addr} {kvs : List (DK × D)} (h : (a, Cell.dic kvs) ∈ C) : TyD K (.ref a) C (.type "dict")
def clsD : D → Option Value
  | .ty n => some (.type n)
  | .ref c => some (.ref c)
  | _ => none
structure IsiS (K : PySem.W.Frag) (d e : D) (C : Cells) (k : Bool → Prop) : Prop where
  ex : ∃ t u b, TyD K d C t ∧ clsD e = some u ∧ PySem.W.kitOne K t u = some b ∧ k b
def isiD (K : PySem.W.Frag) : LCl
  | [d, e], C, k => IsiS K d e C fun b => k (.bl b)
  | _, _, _ => False
def rIsA (K : PySem.W.Frag) : List V → Hp → VK → Prop := fun xs H Q => rIsi K xs H Q ∨ rIsX K xs H Q
theorem call_isA {X : Cx} : CallR X (.builtin "isinstance") (rIsA X.K) := call_isi.or call_isX
theorem sqt_ty {K : PySem.W.Frag} {H : Hp} {a : Addr} {xs : List V} (h : SqT K H a xs) : TyX K H (.ref a) (.type "tuple") := by
  rcases h with (h | ⟨o, h⟩) | h
  · exact .base (.tup h)
  · exact .fTuple h
  · obtain ⟨o, its, n, e, c, _⟩ := h
    exact .kTuple e c
theorem lift_isi {X : Cx} : LiftC X (rIsA X.K) (isiD X.K) := by
  intro F R C H vs ds k Q ha hd q kk
  unfold isiD at q
  split at q
  · obtain ⟨x, y, rfl, n, n2⟩ := den2 hd
    obtain ⟨t, u, b, ty, hc, hk, q⟩ := q.ex
    have cv : ClsV y u := by
      unfold clsD at hc
      split at hc
      · cases hc
        rw [den_ty.mp n2]
        exact .ty _
      · cases hc
        rw [den_ref.mp n2]
        exact .own _
      · cases hc
    have fin := kr0 kk ha (den_bl.mpr rfl) q
    cases ty with
    | non => rw [den_non.mp n]; exact .inl ⟨_, y, _, u, b, rfl, cv, .base .non, hk, fin⟩
    | bl c => rw [den_bl.mp n]; exact .inl ⟨_, y, _, u, b, rfl, cv, .base (.bl c), hk, fin⟩
    | int c => rw [den_int.mp n]; exact .inl ⟨_, y, _, u, b, rfl, cv, .base (.int c), hk, fin⟩
    | str c => rw [den_str.mp n]; exact .inl ⟨_, y, _, u, b, rfl, cv, .base (.str _), hk, fin⟩
    | tup ds =>
      obtain ⟨a, vs, rfl, h1, l⟩ := den_tup.mp n
      exact .inl ⟨_, y, _, u, b, rfl, cv, sqt_ty (SqT.ext ha.sub h1), hk, fin⟩
    | lst ds =>
      obtain ⟨a, vs, rfl, h1, l⟩ := den_lst.mp n
      exact .inl ⟨_, y, _, u, b, rfl, cv, .base (.lst (ha.sub _ _ h1)), hk, fin⟩
    | obj fs T =>
      obtain ⟨a, dx, vs, rfl, h1, l⟩ := den_obj.mp n
      exact .inl ⟨_, y, _, u, b, rfl, cv, .base (.ins (ha.sub _ _ h1) T.cl T.ac T.sp T.tk T.mr), hk, fin⟩
    | exv fs T =>
      obtain ⟨a, dx, vs, rfl, h1, h2, l⟩ := den_exv.mp n
      exact .inr ⟨a, _, dx, vs, y, u, b, rfl, T, ha.sub _ _ h1, ha.sub _ _ h2, cv, hk, fin⟩
    | cell m =>
      obtain ⟨vs, g, l⟩ := cell_lst ha m
      rw [den_ref.mp n]
      exact .inl ⟨_, y, _, u, b, rfl, cv, .base (.lst g), hk, fin⟩
    | ins m T =>
      obtain ⟨dx, vs, g, l⟩ := ha.cell _ (List.mem_append_left _ m)
      rw [den_ref.mp n]
      exact .inl ⟨_, y, _, u, b, rfl, cv, .base (.ins g T.cl T.ac T.sp T.tk T.mr), hk, fin⟩
    | dic m =>
      obtain ⟨vs, g, l⟩ := ha.cell _ (List.mem_append_left _ m)
      rw [den_ref.mp n]
      exact .inl ⟨_, y, _, u, b, rfl, cv, .base (.dK g), hk, fin⟩
  · exact q.elim
/-- a built-in class as a value -/
theorem gblty {X : Cx} {x : Str} {n : String} {pos : Pos} (hm : X.mg x = none) (hv : bootBuiltins x = some (.type n)) (hg : Gl X x := by rfl) (hn : x ≠ "__name__" := by decide) (hd : (x == ("__debug__" : Str)) = false := by decide) : GE X (.Name x pos) (lC (.ty n)) :=
  lc_of (fun _ => den_ty.mpr rfl) (pe_bltn (v := .ty n) hg hm hv rfl hn hd)
/-- no class of it has the name; the class answers as a plain one -/
structure AtO (K : PySem.W.Frag) (c : Addr) (n : Nat) : Prop where
  ok : (Cls K c ∧ NoAttr K c (atn n))
structure AtX (K : PySem.W.Frag) (c : Addr) (n : Nat) : Prop where
  ok : (ExG K c ∧ PySem.W.findIn K (.ref c) (atn n) = some none)
def getK (n : Nat) (fs : Flds) (k : D → Prop) : Prop := match kget n fs with
  | some d => k d
  | none => False
structure CellF (K : PySem.W.Frag) (a : Addr) (n : Nat) (C : Cells) (k : D → Prop) : Prop where
  ex : ∃ c fs, (a, Cell.ins c fs) ∈ C ∧ AtO K c n ∧ getK n fs k
def fldD (K : PySem.W.Frag) (n : Nat) : LU
  | .obj c fs, _, k => AtO K c n ∧ getK n fs k
  | .exv c fs, _, k => AtX K c n ∧ getK n fs k
  | .ref a, C, k => CellF K a n C k
  | _, _, _ => False
def rFld (K : PySem.W.Frag) (f : Str) : V → Hp → VK → Prop := fun x H Q => (∃ a C dx fs v, x = .ref a ∧ H a = some (.ins C dx fs) ∧ Cls K C ∧ NoAttr K C f ∧ fs.lookup f = some v ∧ Q v H) ∨
  ∃ a C dx fs v, x = .ref a ∧ H a = some (exo a C (some dx)) ∧ H dx = some (exd dx fs) ∧ ExG K C ∧ PySem.W.findIn K (.ref C) f = some none ∧ fs.lookup f = some v ∧ Q v H
theorem pe_at {X : Cx} {e : Expr} {te : TE} {f : Str} {pos : Pos} (he : PE X e te) (hb : attributeBase e f X.env (eval e X.env) = eval e X.env) : PE X (.Attribute e f pos) (tUn (rFld X.K f) te) := by
  refine ⟨fun pins s σ H Q I h => ?_⟩
  refine attr_of hb (thn (he.run pins s σ H _ I h) fun u s1 ⟨x, H1, I1, rx, q⟩ => ?_)
  rcases q with ⟨a, C, dx, fs, v, rfl, ea, c, n, l, q⟩ | ⟨a, C, dx, fs, v, rfl, ea, ed, T, n, l, q⟩
  · obtain rfl : u = Value.ref a := rx
    exact getattr_ok I1 ea c n l fun u' s2 I2 ru => ⟨v, H1, I2, ru, q⟩
  · obtain rfl : u = Value.ref a := rx
    obtain ⟨oa, od, J, hl⟩ := exv_at I1 ea ed
    obtain ⟨w, hw, rw'⟩ := hl f
    obtain ⟨u, hu, ru⟩ := RelO.some_of (v := v) (o := w) (by rw [← l]; exact rw')
    exact HandSPX.exc_get I1.kIn J T.ga T.gt T.ex (PySem.W.findObj_own T.hd n rfl (by rw [hw, hu])) (handed_of ru) ⟨v, H1, I1.tok _, ru, q⟩
theorem getK_ok {n : Nat} {fs : Flds} {k : D → Prop} (h : getK n fs k) : ∃ d, kget n fs = some d ∧ k d := by
  unfold getK at h
  split at h
  · rename_i d e
    exact ⟨d, e, h⟩
  · exact h.elim
theorem lookF {K : PySem.W.Frag} {F : Hp} {n : Nat} (hn : n < 55) {fs : Flds} {vs : List (Str × V)} {d : D} (h : DenF K F fs vs) (e : kget n fs = some d) : ∃ v, vs.lookup (atn n) = some v ∧ Den K F d v := by
  have q := DenF.lookup hn h
  rw [e] at q
  exact q
theorem lift_fld {X : Cx} {n : Nat} (hn : n < 55) : LiftU X (rFld X.K (atn n)) (fldD X.K n) := by
  intro F R C H x d k Q ha hd q kk
  unfold fldD at q
  split at q
  · obtain ⟨a, dx, vs, rfl, h1, l⟩ := den_obj.mp hd
    obtain ⟨d, e, q2⟩ := getK_ok q.2
    obtain ⟨v, e1, n1⟩ := lookF hn l e
    exact .inl ⟨a, _, dx, vs, v, rfl, ha.sub _ _ h1, q.1.ok.1, q.1.ok.2, e1, kr0 kk ha n1 q2⟩
  · obtain ⟨a, dx, vs, rfl, h1, h2, l⟩ := den_exv.mp hd
    obtain ⟨d, e, q2⟩ := getK_ok q.2
    obtain ⟨v, e1, n1⟩ := lookF hn l e
    exact .inr ⟨a, _, dx, vs, v, rfl, ha.sub _ _ h1, ha.sub _ _ h2, q.1.ok.1, q.1.ok.2, e1, kr0 kk ha n1 q2⟩
  · rename_i a
    obtain ⟨c, fs, m, T, q⟩ := q.ex
    obtain ⟨dx, vs, g, l⟩ := ha.cell _ (List.mem_append_left _ m)
    obtain ⟨d, e, q2⟩ := getK_ok q
    obtain ⟨v, e1, n1⟩ := lookF hn l e
    rw [den_ref.mp hd]
    exact .inl ⟨a, c, dx, vs, v, rfl, g, T.ok.1, T.ok.2, e1, kr0 kk ha n1 q2⟩
  · exact q.elim
theorem gfld (n : Nat) {X : Cx} {e : Expr} {le : LE} {f : Str} {pos : Pos} (he : GE X e le) (hn : atn n = f := by rfl) (h55 : n < 55 := by decide) (hb : attributeBase e f X.env (eval e X.env) = eval e X.env := by rfl) : GE X (.Attribute e f pos) (lUn (fldD X.K n) le) := by
  subst hn
  exact PE.imp (pe_at he hb) (up_un (lift_fld h55))
end G
namespace G
open PySem PySem.Spec PyProof.Rows L2
section
variable {M : Model} {A : Around} {E : Value → Shared → Prop} {hh : Heap} {gg : Array GenState} {dr : Drawn} {tk : Nat} {oo : OsState}
variable {nm q : Str} {C N : Addr} {bs bm bmB : List Value} {hdct : Bool} {sn : List Str} {sub : List Value} {ab : Bool} {col : Option Bool} {dd : Option Addr} {k0 k1 k2 k3 k5 : Option Value} {B newId initId : String}
theorem newK_check (Fx : ExcBaseFacts B newId initId bmB) (hT : ∀ Y : String, bm.contains (.type Y) = bmB.contains (.type Y)) {us : List Value} {kw : List (Str × Value)} {Q : Unit → Shared → Prop}
    (cC : hh.get? C = some (excClassObj nm q C N bs bm hdct sn sub ab col dd k0 k1 k2 k3 k5 newId)) (kq : Q () ⟨hh, gg, dr, tk, oo⟩) : wpAny M A (checkBuiltinCall newId ⟨.ref C :: us, kw⟩) Q E ⟨hh, gg, dr, tk, oo⟩ := by
  have cB : (Value.ref C :: bm).contains (.type B) = true := by
    rw [List.contains_cons, hT, Fx.hasB, Bool.or_true]
  have st := Fx.noStar
  simp only [checkBuiltinCall, Fx.newKind, Fx.newSplit, Fx.newRow]
  repeat (first
    | refine wpAny_loadPart_at cC ?_
    | (refine wpAny_isSubtype_exc cC ?_; rw [cB])
    | refine wpAny_staticBase_exc cC ?_
    | refine wpAny_madeBy_exc cC ?_
    | simp only [bne_self_eq_false, Bool.false_eq_true, if_false]
    | wp_step)
  all_goals first | exact kq | skip
end
section
variable {prog : Program} {w : World} {A : Around} {E : Value → Shared → Prop} {R : Result → Shared → Prop} {hh : Heap} {gg : Array GenState} {dr : Drawn} {tk : Nat} {oo : OsState}
variable {nm q : Str} {C N : Addr} {bs bm bmB : List Value} {hdct : Bool} {sn : List Str} {sub : List Value} {ab : Bool} {col : Option Bool} {dd : Option Addr} {k0 k1 k2 k3 k5 : Option Value} {B newId initId : String}
theorem newK_run (Fx : ExcBaseFacts B newId initId bmB) (hT : ∀ Y : String, bm.contains (.type Y) = bmB.contains (.type Y)) {us : List Value} {kw : List (Str × Value)}
    (cC : hh.get? C = some (excClassObj nm q C N bs bm hdct sn sub ab col dd k0 k1 k2 k3 k5 newId))
    (kq : R (.ok (.ret (.ref (hh.objs.size + 1)))) ⟨(hh.push (PySem.W.kdv_tup us)).push (PySem.HandSPX.excO C hh.objs.size), gg, dr, tk, oo⟩) (lu : us.length ≤ sizeLine) :
    codeAny (model prog w) A (.builtin newId ⟨.ref C :: us, kw⟩) R ⟨hh, gg, dr, tk, oo⟩ := by
  have en := Fx.ends
  have cB : (Value.ref C :: bm).contains (.type B) = true := by
    rw [List.contains_cons, hT, Fx.hasB, Bool.or_true]
  have cA : (Value.ref C :: bm).contains (.type "AttributeError") = false := by
    rw [List.contains_cons, hT, Fx.noAttr]
    rfl
  have cN : (Value.ref C :: bm).contains (.type "NameError") = false := by
    rw [List.contains_cons, hT, Fx.noName]
    rfl
  refine codeAny_builtinAt Fx.entry ?_
  unfold Builtin.«BaseException.__new__»
  refine PySem.wpAt_bind ?_
  show PySem.wpAt _ _ _ (stack >>= _) _ _ _
  refine PySem.wpAt_bind (PySem.wpAt_stack fun p below => PySem.wpAt_of_wpAny ?_)
  wp_walk
  refine PySem.wpAt_of_wpAny ?_
  rw [Fx.owner]
  repeat (first
    | with_reducible refine wpAny_madeHere_exc Fx.canon cC ?_
    | with_reducible refine wpAny_loadPart_at cC ?_
    | (with_reducible refine wpAny_isSubtype_exc cC ?_; first | rw [cB] | rw [cA] | rw [cN])
    | wp_step)
  show R _ _
  rw [Heap.size_push]
  exact kq
theorem typeK_call (Fx : ExcBaseFacts B newId initId bmB) (hT : ∀ Y : String, bm.contains (.type Y) = bmB.contains (.type Y)) {us : List Value} {kw : List (Str × Value)} {fI : Addr} {Q : PySem.Fin → Shared → Prop}
    (cC : hh.get? C = some (excClassObj nm q C N bs bm hdct sn sub ab col dd k0 k1 k2 k3 k5 newId))
    (li : PySem.W.Looks (model prog w) hh (typeLookup (.ref C) "__init__") (some (.ref fI))) (lb : ∀ self, PySem.W.Looks (model prog w) hh (bindSpecial (.ref fI) self) (.ref fI, [self])) (lu : us.length ≤ sizeLine)
    (kq : codeAny (model prog w) A (.call (.ref fI) ⟨.ref (hh.objs.size + 1) :: us, kw⟩) (fun r s' => match r with
        | .ok (.ret v) => v = .none ∧ Q (.done (.ret (.ref (hh.objs.size + 1)))) s'
        | .ok _ => False
        | .error e => E e s') ⟨(hh.push (PySem.W.kdv_tup us)).push (PySem.HandSPX.excO C hh.objs.size), gg, dr, tk, oo⟩) :
    wpAny (model prog w) A (Builtin.«type.__call__» ⟨.ref C :: us, kw⟩) Q E ⟨hh, gg, dr, tk, oo⟩ := by
  repeat (first | with_reducible refine wpAny_loadPart_at cC ?_ | with_reducible refine wpAny_madeBy_exc cC ?_ | wp_step)
  refine codeAny_call_builtin_code (Code.quiet_builtin _ Fx.quiet) (newK_check Fx hT cC ?_)
  refine newK_run Fx hT cC ?_ lu
  show wpAny _ _ _ _ _ _
  have kp : ∀ b o, hh.get? b = some o → ((hh.push (PySem.W.kdv_tup us)).push (PySem.HandSPX.excO C hh.objs.size)).get? b = some o := fun b o e =>
    Heap.get?_push_of_some _ (Heap.get?_push_of_some _ e)
  have cC2 := kp _ _ cC
  have gE : ((hh.push (PySem.W.kdv_tup us)).push (PySem.HandSPX.excO C hh.objs.size)).get? (hh.objs.size + 1) = some (PySem.HandSPX.excO C hh.objs.size) := by
    heap_get
  have self : (Value.ref C :: bm).contains (.ref C) = true := by
    simp
  have i2 := li.keeps kp
  have b2 := (lb (.ref (hh.objs.size + 1))).keeps kp
  unfold isInstance
  repeat (first
    | with_reducible refine wpAny_loadPart_at gE ?_
    | (with_reducible refine wpAny_isSubtype_exc cC2 ?_; rw [self])
    | wp_step)
  show wpAny _ _ (typeLookup (.ref C) _) _ _ _
  refine i2.at ?_
  refine wpAny_holding (wpAny_bind (b2.at ?_))
  refine wpAny_bind (wpAny_call (codeAny_mono kq fun r s' z => ?_))
  rcases r with e | (v | _ | _ | _) <;> first | exact z | exact z.elim | skip
  obtain ⟨rfl, z⟩ := z
  first
    | exact wpAny_pure (wpAny_pure z)
    | (wp_walk; exact z)
theorem clsK_call (Fx : ExcBaseFacts B newId initId bmB) (hT : ∀ Y : String, bm.contains (.type Y) = bmB.contains (.type Y)) {us : List Value} {kw : List (Str × Value)} {fI : Addr}
    (cC : hh.get? C = some (excClassObj nm q C N bs bm hdct sn sub ab col dd k0 k1 k2 k3 k5 newId))
    (li : PySem.W.Looks (model prog w) hh (typeLookup (.ref C) "__init__") (some (.ref fI))) (lb : ∀ self, PySem.W.Looks (model prog w) hh (bindSpecial (.ref fI) self) (.ref fI, [self])) (lu : us.length ≤ sizeLine)
    (kq : codeAny (model prog w) (A.under (.builtin "type.__call__" ⟨.ref C :: us, kw⟩)) (.call (.ref fI) ⟨.ref (hh.objs.size + 1) :: us, kw⟩) (PySem.W.InitBack (hh.objs.size + 1) R)
      ⟨(hh.push (PySem.W.kdv_tup us)).push (PySem.HandSPX.excO C hh.objs.size), gg, dr, tk, oo⟩) :
    codeAny (model prog w) A (.call (.ref C) ⟨us, kw⟩) R ⟨hh, gg, dr, tk, oo⟩ := by
  have l1 := tc_lookup
  have l2 := tc_bind (.ref C)
  have ty : (⟨hh, gg, dr, tk, oo⟩ : Shared).TypeIs (.ref C) "type" := ⟨_, cC, rfl⟩
  refine codeAny_of_tree ?_
  show wpAny _ _ (callAny (.ref C) _) _ _ _
  repeat (any_goals (first | assumption | with_reducible refine wpAny_loadPart_at cC ?_ | wp_step))
  refine ⟨rfl, ?_⟩
  refine codeAny_call_builtin_at (Code.quiet_builtin _ (by decide +kernel)) entry_typeCall (wpAny_check_type_call_sub cC (typeK_call Fx hT cC li lb lu ?_))
  refine codeAny_mono kq fun r s' z => ?_
  rcases r with e | (v | _ | _ | _) <;> exact z
end
end G
namespace G
open PySem PySem.Spec PyProof.Rows L2
structure BaseX (K : PySem.W.Frag) (L : Addr) : Prop where
  rd : PySem.W.readsIn K L (.type "type") = true
  sp : PySem.W.specialIn K (.ref L) "__getattribute__" = some (some (.builtin "type.__getattribute__"))
  at_ : PySem.W.findCls K (.ref L) (.type "type") "__init__" = some (.val (.builtin "ValueError.__init__"))
section
variable {X : Cx} {e : Expr} {es : List Expr} {ta : TA} {x : Str} {L : Addr} {p1 p2 pos : Pos}
theorem pe_leinit {pl : Sem Bool} (B : BaseX X.K L) (hm : X.mg x = some (.ref L)) (ha : PA X (e :: es) ta) (hg : Gl X x := by rfl) (hdb : (x == ("__debug__" : Str)) = false := by decide)
    (hc : eval (.Call (.Attribute (.Name x p1) "__init__" p2) (e :: es) [] pos) X.env = (do
      let ov ← eval (.Name x p1) X.env
      standAt p2.atName
      let (f, first) ← holding [ov] (getMethod ov "__init__" pl)
      callWith pos f first (backTo pos (starEach (e :: es) X.env)) (backToKw pos (keywordEach [] X.env))) := by rfl)
    (he : starEach (e :: es) X.env = (false, eval e X.env) :: starEach es X.env := by rfl) (hpl : (backTo pos (starEach es X.env)).any (·.1) = false := by rfl) :
    PE X (.Call (.Attribute (.Name x p1) "__init__" p2) (e :: es) [] pos) (tVeI X.K ta) := by
  refine ⟨fun pins s σ H Q I h => PySem.W.methodCall_KW (ld_glob I hg hm ?_ hdb) hc⟩
  refine PySem.W.method_cls I.kIn B.sp (PySem.W.cls_value I.kIn B.rd B.at_ (by decide +kernel) ?_)
  show wpAny _ _ (callWith pos (Value.builtin "ValueError.__init__") [] (backTo pos (starEach (e :: es) X.env)) []) _ _ _
  refine PyProof.Rows.callWith_method1 (thn (ha.run pos pins _ σ H _ (I.tok _) h) ?_) he hpl
  rintro us s1 ⟨vs, H1, I1, r1, a, C, ws, rfl, hl, T, ea, q⟩
  obtain ⟨u0, ur, rfl, ra, rr⟩ : ∃ u0 ur, us = u0 :: ur ∧ RelV (.ref a) u0 ∧ Vals ws ur := by
    cases r1 with
    | cons ra rr => exact ⟨_, _, rfl, ra, rr⟩
  obtain rfl : u0 = Value.ref a := ra
  have hz : ur.length ≤ sizeLine := by
    rw [← Paired.length rr, sizeLine_eq]
    omega
  exact oinit_ok T I1 ea hz fun s2 J => ⟨.non, H1, J, rfl, q⟩
end
/-- what such an __init__ is worth: one field -/
def spInit (K : PySem.W.Frag) (f : Str) : Sp := fun vs H Q _ => ∃ (a C : Addr) (y : V), vs = [.ref a, y] ∧ OexC K C ∧ PySem.W.findIn K (.ref C) f = some none ∧ H a = some (exo a C none) ∧
  ∀ dx, H dx = none → dx ≠ a → Q .non (upd (upd H dx (exd dx [(f, y)])) a (exo a C (some dx)))
/-- its body -/
theorem init_body {K : PySem.W.Frag} {f m : Str} {vs : List V} {Q : VK} {E : XK} {H : Hp} {N : List Str} (hN : N.length = 2) (h : spInit K f vs H Q E) :
    (tSeq (tDrop (tVeI K (tCons (tVar 0) (tCons (tC (.str m)) tNil)))) (tOst K f (tVar 0) (tVar 1))) { nx := fun _ H' => Q .non H', rt := Q } (start N vs) H := by
  obtain ⟨a, C, y, rfl, T, hf, ha, k⟩ := h
  have es : start N [V.ref a, y] = [some (V.ref a), some y] := by
    show (List.map some [V.ref a, y]) ++ List.replicate (N.length - 2) none = _
    rw [hN]
    rfl
  rw [es]
  refine ⟨V.ref a, rfl, a, C, [V.str m], rfl, Nat.le_of_ble_eq_true rfl, T, ha, ?_⟩
  exact ⟨y, rfl, V.ref a, rfl, a, C, rfl, T, hf, .inl ⟨ha, fun dx h1 h2 => k dx h1 h2⟩⟩
/-- names without defaults: places, then names in the parameters' order -/
theorem kb_plain {K : PySem.W.Frag} {x qual : Str} {params : Arguments} {body : List Stmt} {scope : Scope} {kws : List (Str × V)} {f : Addr} {fd : FuncData} {ps : List Str} (F : FunD K x qual params body scope [] kws f fd) (n : Nat) (ks : List Str)
    (h : ∀ (kV doc pm : Value) (an : Option Addr) (cdv ct : Value) (us ws : List Value), us.length = n → ws.length = ks.length → bindArgs (PySem.W.fnOf x qual params body scope .none kV doc pm an cdv ct) ⟨us, ks.zip ws⟩ = pure (ps.zip (us ++ ws))) :
    KBn K fd ps n ks (fun us ws => us ++ ws) (fun vs zs => vs ++ zs) := by
  obtain ⟨oc, od, dV, kV, doc, pm, an, cdv, ct, osl, rfl, lk, hcd, hD, hK⟩ := F.ex
  rcases hD with ⟨_, rfl⟩ | ⟨e, _⟩
  · exact ⟨fun s us ws _ l1 l2 => .of_eq (h kV doc pm an cdv ct us ws l1 l2), fun r1 r2 => r1.append r2⟩
  · exact absurd rfl e
abbrev GK (X : Cx) (kws : List Keyword) (l : LA) : Prop := PK X kws (upA X l)
theorem gk_nil {X : Cx} : GK X [] lNil := ⟨fun pos pins s σ H Q I ⟨F, R, C, δ, P, PX, hs, ha, tk, h, k⟩ => pk_nil.run pos pins s σ H Q I (k [] [] F C H (Same.refl _) ha .nil h)⟩
theorem gk_cons {X : Cx} {e : Expr} {kws : List Keyword} {nm : Option Str} {kpos : Pos} {le : LE} {la : LA} (he : GE X e le) (hr : GK X kws la) : GK X (⟨nm, e, kpos⟩ :: kws) (lCons le la) :=
  ⟨fun pos pins s σ H Q I ⟨F, R, C, δ, P, PX, hs, ha, tk, h, k⟩ => (pk_cons he hr).run pos pins s σ H Q I
    ⟨F, R, C, δ, _, PX, hs, ha, tk, h, fun v d F1 C1 H1 e1 a1 n1 p1 => ⟨F1, R, C1, δ, _, PX, hs.ext e1, a1, tk.ext e1, p1, fun vs ds F2 C2 H2 e2 a2 n2 p2 => k _ _ F2 C2 H2 (e1.trans e2) a2 (.cons (n1.ext e2) n2) p2⟩⟩⟩
def tMkX (C : Addr) (f : Str) (ta : TA) : TE := fun σ H Q => ta σ H fun vs H1 => ∃ y, vs = [y] ∧ ∀ a dx, H1 a = none → H1 dx = none → dx ≠ a → Q (.ref a) (upd (upd (upd H1 a (exo a C none)) dx (exd dx [(f, y)])) a (exo a C (some dx)))
section
variable {X : Cx} {C fI : Addr} {f : Str} {k : Nat} {fd : FuncData}
theorem run_mkX {pins : List (Addr × Obj)} {σ : L2.St} {H1 : Hp} {s1 : Shared} {Q : VK} {ps ks : List Str} {us ws : List Value} {y : V} (T : OexC X.K C) (hf : PySem.W.findIn X.K (.ref C) f = some none) (iC : PySem.W.findIn X.K (.ref C) "__init__" = some (some (.ref fI)))
    (tI : PySem.W.typeIn X.K (.ref fI) = some (.type "function")) (F1 : FnOk X.prog X.w X.K X.mg X.base CX0 k fI fd ps (spInit X.K f)) (hr : Room (k + 1) X.A) (I1 : Inv X pins σ H1 s1) (hl : us.length ≤ sizeLine)
    (hb : ∀ e, BindsTo { s1 with heap := (s1.heap.push (PySem.W.kdv_tup us)).push (PySem.HandSPX.excO C s1.heap.objs.size) } fd ⟨Value.ref e :: us, ks.zip ws⟩ (ps.zip (Value.ref e :: (us ++ ws)))) (r1 : Vals [y] (us ++ ws))
    (q : ∀ a dx, H1 a = none → H1 dx = none → dx ≠ a → Q (.ref a) (upd (upd (upd H1 a (exo a C none)) dx (exd dx [(f, y)])) a (exo a C (some dx)))) :
    wpAny (model X.prog X.w) X.A (call (.ref C) us (ks.zip ws)) (EP X pins σ Q) X.xe s1 := by
  obtain ⟨nm, qn, N, bs, bm, sn, sub, ab, col, dd, k0, k1, k2, k3, k5, hC, hbm⟩ := T.cls
  obtain ⟨hp, g, dr, tk, os⟩ := s1
  have hsz : hp.objs.size ≤ hp.objs.size + 1 := Nat.le_succ _
  have hn : H1 (hp.objs.size + 1) = none := I1.hok.fresh hsz
  have kk : ∀ b o, hp.get? b = some o → ((hp.push (PySem.W.kdv_tup us)).push (PySem.HandSPX.excO C hp.objs.size)).get? b = some o := fun b o e =>
    Heap.get?_push_of_some _ (Heap.get?_push_of_some _ e)
  have hg : ((hp.push (PySem.W.kdv_tup us)).push (PySem.HandSPX.excO C hp.objs.size)).get? (hp.objs.size + 1) = some (PySem.HandSPX.excO C hp.objs.size) := by
    heap_get
  have I2 : Inv X pins σ (upd H1 (hp.objs.size + 1) (exo (hp.objs.size + 1) C none)) ⟨(hp.push (PySem.W.kdv_tup us)).push (PySem.HandSPX.excO C hp.objs.size), g, dr, tk, os⟩ :=
    I1.laid (t' := tk) (a := hp.objs.size + 1) (o := exo (hp.objs.size + 1) C none) kk hsz (exo_ok hg)
  have sp0 : spInit X.K f [.ref (hp.objs.size + 1), y] (upd H1 (hp.objs.size + 1) (exo (hp.objs.size + 1) C none)) (fun v H2 => v = .non ∧ Q (.ref (hp.objs.size + 1)) H2) (fun _ _ _ => False) :=
    ⟨_, C, y, rfl, T, hf, upd_same, fun dx h1 h2 => ⟨rfl, q _ dx hn (by rw [upd_ne h2] at h1; exact h1) h2⟩⟩
  refine wpAny_call (clsK_call F.excBase_ValueError (fun Y => PySem.HandSPX.refsVE_contains Y bm hbm) (I1.kIn _ _ hC) (PySem.W.looks_findIn I1.kIn iC) (fun self => PySem.W.bind_fn I1.kIn self tI) hl ?_)
  refine codeAny_mono (F1.run _ X.stack _ _ ⟨Value.ref (hp.objs.size + 1) :: us, ks.zip ws⟩ (Value.ref (hp.objs.size + 1) :: (us ++ ws)) [V.ref (hp.objs.size + 1), y] _ _ (hr.make C us (ks.zip ws)) (I2.env0.make C us (ks.zip ws)) (hb _) (.cons rfl r1) sp0) fun r s2 hq => ?_
  cases r with
  | error er => exact False.elim hq
  | ok fl =>
    cases fl with
    | ret u =>
      obtain ⟨v, H2, I3, rv, ev, q3⟩ := I2.after hq
      subst ev
      exact ⟨rv, .ref (hp.objs.size + 1), H2, I3, rfl, q3⟩
    | next => exact False.elim hq
    | brk => exact False.elim hq
    | cont => exact False.elim hq
theorem mkX_up {n : Nat} {la : LA} (hn : n < 55) (σ : L2.St) (H : Hp) (Q : VK) (h : up X (fun δ C1 P PX => la δ C1 (fun ds C2 => match ds with
    | [d] => P (.exv C [(n, d)]) C2
    | _ => False) PX) σ H Q) : tMkX C (atn n) (upA X la) σ H Q := by
  obtain ⟨F, R, C1, δ, P, PX, hs, ha, tk, h, kk⟩ := h
  refine ⟨F, R, C1, δ, _, PX, hs, ha, tk, h, fun vs ds F1 C2 H1 e1 a1 n1 p1 => ?_⟩
  split at p1
  · obtain ⟨y, rfl, ny⟩ := den1 n1
    refine ⟨y, rfl, fun a dx h1 h2 ne => ?_⟩
    have eH : upd (upd (upd H1 a (exo a C none)) dx (exd dx [(atn n, y)])) a (exo a C (some dx)) = upd (upd H1 dx (exd dx [(atn n, y)])) a (exo a C (some dx)) := by
      funext b
      by_cases hb : b = a
      · rw [hb, upd_same, upd_same]
      · rw [upd_ne hb, upd_ne hb]
        by_cases hd : b = dx
        · rw [hd, upd_same, upd_same]
        · rw [upd_ne hd, upd_ne hd, upd_ne hb]
    rw [eH]
    obtain ⟨e2, a2⟩ := a1.froz (o := exd dx [(atn n, y)]) h2
    obtain ⟨e3, a3⟩ := a2.froz (p := a) (o := exo a C (some dx)) (by rw [upd_ne (Ne.symm ne)]; exact h1)
    refine kk (.ref a) _ _ C2 _ ((e1.trans e2).trans e3) a3 (den_exv.mpr ⟨a, dx, [(atn n, y)], rfl, upd_same, ?_, ?_⟩) p1
    · rw [upd_ne ne, upd_same]
    · simp only [DenF]
      exact ⟨y, [], rfl, hn, (ny.ext e2).ext e3, rfl⟩
  · exact p1.elim
end
/-- what the exception's own facts are -/
structure MkE (K : PySem.W.Frag) (C fI : Addr) (f : Str) : Prop where
  ox : OexC K C
  nof : PySem.W.findIn K (.ref C) f = some none
  ini : PySem.W.findIn K (.ref C) "__init__" = some (some (.ref fI))
  fn : PySem.W.typeIn K (.ref fI) = some (.type "function")
def lMkX (C : Addr) (n : Nat) (la : LA) : LE := fun δ C1 P PX => la δ C1 (fun ds C2 => match ds with
  | [d] => P (.exv C [(n, d)]) C2
  | _ => False) PX
section
variable {X : Cx} {C fI : Addr} {x : Str} {k : Nat} {fd : FuncData} {ps : List Str} {e : Expr} {la : LA} {p pos kpos : Pos}
/-- C(e) -/
theorem gmkX (n : Nat) (M : MkE X.K C fI (atn n)) (F1 : FnOk X.prog X.w X.K X.mg X.base CX0 k fI fd ps (spInit X.K (atn n))) (hr : Room (k + 1) X.A) (hb : Binds X.K fd ps []) (hm : X.mg x = some (.ref C)) (ha : GA X [e] la) (hg : Gl X x := by rfl) (hn : n < 55 := by decide)
    (hdb : (x == ("__debug__" : Str)) = false := by decide) (he : starEach [e] X.env = [(false, eval e X.env)] := by rfl) (hpl : (backTo pos (starEach [] X.env)).any (·.1) = false := by rfl) : GE X (.Call (.Name x p) [e] [] pos) (lMkX C n la) := by
  refine PE.imp (t := tMkX C (atn n) (upA X la)) ⟨fun pins s σ H Q I h => ?_⟩ (mkX_up hn)
  refine wpAny_Call_Name_kw (ld_glob I hg hm ?_ hdb)
  refine PySem.W.callWith_K (h₀ := X.base) I.ok.mod.kin M.ox.kC (thn (ha.run pos pins s σ H _ I h) fun us s1 ⟨vs, H1, I1, r1, y, ev, q1⟩ => ⟨I1.kIn, ?_⟩) he hpl
  subst ev
  have hl1 : us.length = 1 := (Paired.length r1).symm
  have hlen : ([Value.ref 0] ++ us).length = ps.length := by
    have z := F1.len [.ref 0, y] (upd (fun _ => none) 0 (exo 0 C none)) (fun _ _ => True) (fun _ _ _ => False) ⟨0, C, y, rfl, M.ox, M.nof, upd_same, fun _ _ _ => trivial⟩
    rw [List.length_append, hl1, ← z]
    rfl
  have go := run_mkX (ks := []) (ws := []) (us := us) M.ox M.nof M.ini M.fn F1 hr I1 (by rw [hl1, sizeLine_eq]; omega) (fun e => by
    have kI : X.K.In ((s1.heap.push (PySem.W.kdv_tup us)).push (PySem.HandSPX.excO C s1.heap.objs.size)) := I1.kIn.keeps fun b o z => Heap.get?_push_of_some _ (Heap.get?_push_of_some _ z)
    have z := hb { s1 with heap := (s1.heap.push (PySem.W.kdv_tup us)).push (PySem.HandSPX.excO C s1.heap.objs.size) } (Value.ref e :: us) kI (by simpa using hlen)
    simpa using z) (by simpa using r1) q1
  exact go
/-- C(f = e) -/
theorem gmkXK (n : Nat) {nk : Str} (M : MkE X.K C fI (atn n)) (F1 : FnOk X.prog X.w X.K X.mg X.base CX0 k fI fd ps (spInit X.K (atn n))) (hr : Room (k + 1) X.A) (hb : KBn X.K fd ps 1 [nk] (fun us ws => us ++ ws) (fun vs zs => vs ++ zs)) (hm : X.mg x = some (.ref C)) (ha : GK X [⟨some nk, e, kpos⟩] la) (hg : Gl X x := by rfl) (hn : n < 55 := by decide)
    (hdb : (x == ("__debug__" : Str)) = false := by decide) (hall : (backToKw pos (keywordEach [⟨some nk, e, kpos⟩] X.env)).all (·.1.isSome) = true := by rfl) (hks : (backToKw pos (keywordEach [⟨some nk, e, kpos⟩] X.env)).filterMap (·.1) = [nk] := by rfl)
    (hpl : ((backTo pos (starEach [] X.env)).any (·.1) || (backToKw pos (keywordEach [⟨some nk, e, kpos⟩] X.env)).any (·.1.isNone)) = false := by rfl) (he : starEach [e] X.env = [(false, eval e X.env)] := by rfl) : GE X (.Call (.Name x p) [] [⟨some nk, e, kpos⟩] pos) (lMkX C n la) := by
  refine PE.imp (t := tMkX C (atn n) (upA X la)) ⟨fun pins s σ H Q I h => ?_⟩ (mkX_up hn)
  refine wpAny_Call_Name_kw (ld_glob I hg hm ?_ hdb)
  refine PySem.W.callWith_KW0 (h₀ := X.base) I.ok.mod.kin M.ox.kC hall ?_ hpl
  refine thn (ha.run pos pins s σ H _ I h) fun ws s1 ⟨vs, H1, I1, r1, y, ev, q1⟩ => ⟨I1.kIn, ?_⟩
  subst ev
  rw [hks]
  have hl1 : ws.length = 1 := (Paired.length r1).symm
  refine run_mkX (ks := [nk]) (ws := ws) (us := []) M.ox M.nof M.ini M.fn F1 hr I1 (Nat.zero_le _) (fun e => ?_) (by simpa using r1) q1
  have kI : X.K.In ((s1.heap.push (PySem.W.kdv_tup [])).push (PySem.HandSPX.excO C s1.heap.objs.size)) := I1.kIn.keeps fun b o z => Heap.get?_push_of_some _ (Heap.get?_push_of_some _ z)
  have z := hb.to { s1 with heap := (s1.heap.push (PySem.W.kdv_tup [])).push (PySem.HandSPX.excO C s1.heap.objs.size) } [Value.ref e] ws kI rfl hl1
  simpa using z
end
end G
namespace G
open PySem PySem.Spec PyProof.Rows L2
abbrev LM := D → List D → Cells → PD → Prop
def LiftM (X : Cx) (r : V → List V → Hp → VK → Prop) (lm : LM) : Prop := ∀ (F : Hp) (R C : Cells) (H : Hp) (x : V) (vs : List V) (d : D) (ds : List D) (P : PD) (Q : VK), At X.K F (C ++ R) H → Den X.K F d x → DenL X.K F ds vs → lm d ds C P →
  (∀ v d F' C' H', Same F F' → At X.K F' (C' ++ R) H' → Den X.K F' d v → P d C' → Q v H') → r x vs H Q
def tyM : String → D → Cells → Prop → Prop
  | T, .str _, _, k => T = "str" ∧ k
  | T, .lst _, _, k => T = "list" ∧ k
  | T, .rdl _, _, k => T = "list" ∧ k
  | T, .ref a, C, k => CellL a C fun _ => T = "list" ∧ k
  | _, _, _, _ => False
def lBm (T : String) (lm : LM) (lo : LE) (la : LA) : LE := fun δ C P PX => lo δ C (fun d C1 => tyM T d C1 (la δ C1 (fun ds C2 => lm d ds C2 P) PX)) PX
theorem tyM_ok {K : PySem.W.Frag} {F H : Hp} {C R : Cells} {T : String} {d : D} {x : V} {k : Prop} (ha : At K F (C ++ R) H) (hd : Den K F d x) (h : tyM T d C k) : tyV K T x H ∧ k := by
  cases d with
  | str y =>
    rw [den_str.mp hd]
    exact h
  | lst ds =>
    obtain ⟨a, vs, rfl, q, l⟩ := den_lst.mp hd
    exact ⟨.inl ⟨h.1, vs, SqL.of (ha.sub _ _ q)⟩, h.2⟩
  | rdl ds =>
    obtain ⟨a, vs, rfl, q, l⟩ := den_rdl.mp hd
    exact ⟨.inl ⟨h.1, vs, SqL.ext ha.sub q⟩, h.2⟩
  | ref a =>
    obtain ⟨ds, q, h⟩ := CellL.ex h
    obtain ⟨vs, e, l⟩ := cell_lst ha q
    rw [den_ref.mp hd]
    exact ⟨.inl ⟨h.1, vs, SqL.of e⟩, h.2⟩
  | _ => exact h.elim
section
variable {X : Cx} {o e : Expr} {es : List Expr} {lo : LE} {la : LA} {name : Str} {apos cpos : Pos} {T id : String} {r : V → List V → Hp → VK → Prop} {lm : LM}
theorem bm_up (L : LiftM X r lm) (σ : L2.St) (H : Hp) (Q : VK) (h : up X (lBm T lm lo la) σ H Q) : tBM X.K T r (up X lo) (upA X la) σ H Q := by
  obtain ⟨F, R, C, δ, P, PX, hs, ha, tk, h, k⟩ := h
  refine ⟨F, R, C, δ, _, PX, hs, ha, tk, h, fun v d F1 C1 H1 e1 a1 n1 p1 => ?_⟩
  obtain ⟨t, q⟩ := tyM_ok a1 n1 p1
  exact ⟨t, F1, R, C1, δ, _, PX, hs.ext e1, a1, tk.ext e1, q, fun vs ds F2 C2 H2 e2 a2 n2 p2 => L F2 R C2 H2 v vs d ds _ Q a2 (n1.ext e2) n2 p2 fun w z F3 C3 H3 e3 a3 n3 p3 => k w z F3 C3 H3 ((e1.trans e2).trans e3) a3 n3 p3⟩
theorem bm_up0 (L : LiftM X r lm) (σ : L2.St) (H : Hp) (Q : VK) (h : up X (lBm T lm lo lNil) σ H Q) : tBM0 X.K T r (up X lo) σ H Q := by
  obtain ⟨F, R, C, δ, P, PX, hs, ha, tk, h, k⟩ := h
  refine ⟨F, R, C, δ, _, PX, hs, ha, tk, h, fun v d F1 C1 H1 e1 a1 n1 p1 => ?_⟩
  obtain ⟨t, q⟩ := tyM_ok a1 n1 p1
  exact ⟨t, L F1 R C1 H1 v [] d [] _ Q a1 n1 .nil q fun w z F3 C3 H3 e3 a3 n3 p3 => k w z F3 C3 H3 (e1.trans e3) a3 n3 p3⟩
theorem gbm (pa : PlainAttrs T) (slot : Slot T name id) (hty : typeOf (.builtin id) = pure (.type "method_descriptor")) (hm : MtR X id r) (L : LiftM X r lm) (ho : GE X o lo) (ha : GA X (e :: es) la)
    (hbase : attributeBase o name X.env (eval o X.env) = eval o X.env := by rfl)
    (hfew : ((backTo cpos (starEach (e :: es) X.env)).all (fun x => !x.1) && (backToKw cpos (keywordEach [] X.env)).all (fun x => x.1.isSome) && decide ((e :: es).length + ([] : List Keyword).length + (if ([] : List Keyword).isEmpty then 0 else 1) < 30)) = true := by rfl)
    (hline : (apos.endLine == cpos.line) = true := by rfl) (hs : starEach (e :: es) X.env = (false, eval e X.env) :: starEach es X.env := by rfl) (hplain : (backTo cpos (starEach es X.env)).any (·.1) = false := by rfl) :
    GE X (.Call (.Attribute o name apos) (e :: es) [] cpos) (lBm T lm lo la) := PE.imp (pe_bm pa slot hty hm ho ha hbase hfew hline hs hplain) (bm_up L)
theorem gbm0 (pa : PlainAttrs T) (slot : Slot T name id) (hty : typeOf (.builtin id) = pure (.type "method_descriptor")) (hm : MtR X id r) (L : LiftM X r lm) (ho : GE X o lo)
    (hbase : attributeBase o name X.env (eval o X.env) = eval o X.env := by rfl) (hline : (apos.endLine == cpos.line) = true := by rfl) : GE X (.Call (.Attribute o name apos) [] [] cpos) (lBm T lm lo lNil) := PE.imp (pe_bm0 pa slot hty hm ho hbase hline) (bm_up0 L)
end
/-- xs.append(y) -/
structure AppW (a : Addr) (y : D) (C : Cells) (k : Cells → Prop) : Prop where
  ex : ∃ ds C', Wr C a (.lst ds) (.lst (ds ++ [y])) C' ∧ Nat.ble (ds.length + 1) lim = true ∧ k C'
def appM : LM
  | .ref a, [y], C, P => AppW a y C fun C' => P .non C'
  | _, _, _, _ => False
theorem lift_app {X : Cx} : LiftM X rAppend appM := by
  intro F R C H x vs d ds P Q ha hd hl q kk
  unfold appM at q
  split at q
  · obtain ⟨y, rfl, ny⟩ := den1 hl
    obtain ⟨ds, C', w, z, q⟩ := AppW.ex q
    obtain ⟨us, g, l⟩ := cell_lst ha w.mem
    have hz := ble_lim z
    refine ⟨_, us, y, den_ref.mp hd, rfl, g, by rw [l.len]; omega, ?_⟩
    exact kk _ _ F C' _ (Same.refl _) (ha.wr w ⟨_, upd_same, l.app (.cons ny .nil)⟩) (den_non.mpr rfl) q
  · exact q.elim
theorem ienum {X : Cx} {elts : List Expr} {kk : Nat} {tpos : Pos} {e : Expr} {la : LA} {p pos : Pos} (hm : X.mg "enumerate" = none) (ha : GA X [e] la) (hg : Gl X "enumerate" := by rfl) (hs : starEach [e] X.env = [(false, eval e X.env)] := by rfl) :
    GI X (.Tuple elts kk tpos) (.Call (.Name "enumerate" p) [e] [] pos) (lIEnum la) :=
  PI.imp (pi_enum hg hm ha hs) fun σ H Q ⟨F, R, C, δ, P, PX, hs, ha, tk, h, k⟩ =>
    ⟨F, R, C, δ, _, PX, hs, ha, tk, h, fun vs ds F1 C1 H1 e1 a1 n1 p1 => by
      split at p1
      · obtain ⟨v, rfl, n⟩ := den1 n1
        obtain ⟨a, us, rfl, q, l⟩ := den_lst.mp n
        exact ⟨a, us, rfl, SqL.of (a1.sub _ _ q), k _ _ F1 C1 H1 e1 a1 (itok_enum (SqL.of q) l) p1⟩
      · obtain ⟨v, rfl, n⟩ := den1 n1
        obtain ⟨a, us, rfl, q, l⟩ := den_rdl.mp n
        exact ⟨a, us, rfl, SqL.ext a1.sub q, k _ _ F1 C1 H1 e1 a1 (itok_enum q l) p1⟩
      · exact p1.elim⟩
structure CellS (a : Addr) (C : Cells) (k : List D → Cells → Prop) : Prop where
  ex : ∃ ds C', Sel (a, .lst ds) C C' ∧ k ds C'
def fzV : D → Cells → (D → Cells → Prop) → Prop
  | .ref a, C, k => CellS a C fun ds C' => k (.lst ds) C'
  | d, C, k => k d C
def lFz (i : Nat) (l : LS) : LS := fun E δ C => vget i δ fun d => fzV d C fun d' C' => vset δ i d' fun δ' => l E δ' C'
theorem Slots.has {K : PySem.W.Frag} {F : Hp} {d' : D} {v : V} (hd : Den K F d' v) : ∀ {δ : Ev} {σ : L2.St} {i : Nat}, Slots K F δ σ → σ[i]? = some (some v) → Slots K F (δ.set i (some d')) σ
  | _, _, _, .nil, e => by simp at e
  | _, _, 0, .cons r t, e => by
    simp at e
    subst e
    exact .cons ⟨v, rfl, hd⟩ t
  | _, _, i + 1, .cons r t, e => .cons r (Slots.has hd (i := i) t (by simpa using e))
theorem fz_up {X : Cx} {i : Nat} {l : LS} (D' : Ends) (σ : L2.St) (H : Hp) (h : upS X (lFz i l) D' σ H) : upS X l D' σ H := by
  obtain ⟨F, R, C, δ, E, hs, ha, tk, h, k⟩ := h
  obtain ⟨d, e, h⟩ := vget_ok h
  obtain ⟨v, ev, n⟩ := hs.get e
  have other : vset δ i d (fun δ' => l E δ' C) → upS X l D' σ H := fun h => ⟨F, R, C, _, E, Slots.has n hs ev, ha, tk, vset_ok h, k⟩
  cases d with
  | ref a =>
    obtain ⟨ds, C', s, h⟩ := CellS.ex h
    have a1 : At X.K F ((a, .lst ds) :: (C' ++ R)) H := ha.perm (s.perm.append_right R)
    obtain ⟨F2, e2, a2, n2⟩ := a1.ice
    rw [den_ref.mp n] at ev
    exact ⟨F2, R, C', _, E, Slots.has n2 (hs.ext e2) ev, a2, tk.ext e2, vset_ok h, k.ext e2⟩
  | _ => exact other h
theorem sfz (i : Nat) {X : Cx} {s : Stmt} {l : LS} (h : GS X s l) : GS X s (lFz i l) := PS.imp h fz_up
structure Df (P : Program) (w : World) (K : PySem.W.Frag) (mg : Str → Option Value) (base : Heap) (k : Nat) (x : Str) (ps : List Str) (ct : Ct) (dd : List D) : Prop where
  ex : ∃ (f : Addr) (fd : FuncData) (dvs : List V), FnG P w K mg base k f fd ps ct ∧ mg x = some (.ref f) ∧ PySem.W.keepIn K (.ref f) = true ∧ (∃ us, Vals dvs us ∧ Binds K fd ps us) ∧ ∀ F, DenL K F dd dvs
section
variable {X : Cx} {k j : Nat} {x : Str} {ps : List Str} {ct : Ct} {dd : List D} {p pos : Pos} {e : Expr} {es : List Expr} {la : LA}
theorem gc (d : Df X.prog X.w X.K X.mg X.base k x ps ct dd) (hr : Room j X.A) (l : k ≤ j) (hgd : X.A.guards = some []) (ha : GA X (e :: es) la) (hg : Gl X x := by rfl) (hdb : (x == ("__debug__" : Str)) = false := by decide)
    (he : starEach (e :: es) X.env = (false, eval e X.env) :: starEach es X.env := by rfl) (hpl : (backTo pos (starEach es X.env)).any (·.1) = false := by rfl) : GE X (.Call (.Name x p) (e :: es) [] pos) (lCall ct dd la) := by
  obtain ⟨f, fd, dvs, Gf, hm, hk, hb, hd⟩ := d.ex
  exact gcall (Gf.mono l) hr hgd hm hk hb hd ha hg hdb he hpl
theorem gc0 (d : Df X.prog X.w X.K X.mg X.base k x ps ct dd) (hr : Room j X.A) (l : k ≤ j) (hgd : X.A.guards = some []) (hg : Gl X x := by rfl) (hdb : (x == ("__debug__" : Str)) = false := by decide) : GE X (.Call (.Name x p) [] [] pos) (lCall ct dd lNil) := by
  obtain ⟨f, fd, dvs, Gf, hm, hk, hb, hd⟩ := d.ex
  exact gcall0 (Gf.mono l) hr hgd hm hk hb hd hg hdb
end
theorem df_plain {P : Program} {w : World} {K : PySem.W.Frag} {mg : Str → Option Value} {base : Heap} {k : Nat} {x qual : Str} {params : Arguments} {body : List Stmt} {scope : Scope} {kws : List (Str × V)} {f : Addr} {fd : FuncData} {ps : List Str} {ct : Ct}
    (F : FunD K x qual params body scope [] kws f fd) (hm : mg x = some (.ref f)) (G : FnG P w K mg base k f fd ps ct)
    (h : ∀ (kV doc pm : Value) (an : Option Addr) (cdv ct : Value) (us : List Value), us.length = ps.length → bindArgs (PySem.W.fnOf x qual params body scope .none kV doc pm an cdv ct) ⟨us, []⟩ = pure (ps.zip us)) : Df P w K mg base k x ps ct [] :=
  ⟨f, fd, [], G, hm, F.kp, ⟨[], .nil, F.bindsN h⟩, fun _ => .nil⟩
end G
namespace G
open PySem PySem.Spec PyProof.Rows L2
/-- the built-in names are no names of the module -/
structure Bn (mg : Str → Option Value) : Prop where
  len : mg "len" = none
  range : mg "range" = none
  abs : mg "abs" = none
  int : mg "int" = none
  bool : mg "bool" = none
  str : mg "str" = none
  list : mg "list" = none
  tuple : mg "tuple" = none
  min : mg "min" = none
  max : mg "max" = none
  isinstance : mg "isinstance" = none
  repr : mg "repr" = none
  enumerate : mg "enumerate" = none
  zip : mg "zip" = none
  sum : mg "sum" = none
  any : mg "any" = none
  all : mg "all" = none
  set : mg "set" = none
  sorted : mg "sorted" = none
  ord : mg "ord" = none
  valueError : mg "ValueError" = none
theorem bt_len : bootBuiltins "len" = some (.builtin "len") := by
  decide +kernel
theorem bt_abs : bootBuiltins "abs" = some (.builtin "abs") := by
  decide +kernel
theorem bt_min : bootBuiltins "min" = some (.builtin "min") := by
  decide +kernel
theorem bt_max : bootBuiltins "max" = some (.builtin "max") := by
  decide +kernel
theorem bt_isi : bootBuiltins "isinstance" = some (.builtin "isinstance") := by
  decide +kernel
theorem bt_repr : bootBuiltins "repr" = some (.builtin "repr") := by
  decide +kernel
theorem bt_int : bootBuiltins "int" = some (.type "int") := by
  decide +kernel
theorem bt_str : bootBuiltins "str" = some (.type "str") := by
  decide +kernel
theorem bt_bool : bootBuiltins "bool" = some (.type "bool") := by
  decide +kernel
theorem bt_ve : bootBuiltins "ValueError" = some (.type "ValueError") := by
  decide +kernel
section
variable {X : Cx} {a b : Expr} {la : LA} {p pos : Pos} {k : Nat}
theorem blen (B : Bn X.mg) (ha : GA X [a] la) (hg : Gl X "len" := by rfl) (he : starEach [a] X.env = (false, eval a X.env) :: starEach [] X.env := by rfl) (hpl : (backTo pos (starEach [] X.env)).any (·.1) = false := by rfl) : GE X (.Call (.Name "len" p) [a] [] pos) (lBi lenD la) :=
  gbi call_len lift_len B.len bt_len ha hg (by decide) (by decide) he hpl
theorem babs (B : Bn X.mg) (ha : GA X [a] la) (hg : Gl X "abs" := by rfl) (he : starEach [a] X.env = (false, eval a X.env) :: starEach [] X.env := by rfl) (hpl : (backTo pos (starEach [] X.env)).any (·.1) = false := by rfl) : GE X (.Call (.Name "abs" p) [a] [] pos) (lBi absD la) :=
  gbi call_abs lift_abs B.abs bt_abs ha hg (by decide) (by decide) he hpl
theorem bint (B : Bn X.mg) (ha : GA X [a] la) (hg : Gl X "int" := by rfl) (he : starEach [a] X.env = (false, eval a X.env) :: starEach [] X.env := by rfl) (hpl : (backTo pos (starEach [] X.env)).any (·.1) = false := by rfl) : GE X (.Call (.Name "int" p) [a] [] pos) (lBi intC la) :=
  gbt call_int1 lift_intC B.int bt_int ha hg (by decide) (by decide) he hpl
theorem bmin (B : Bn X.mg) (hc : X.calm = true) (ha : GA X [a, b] la) (hg : Gl X "min" := by rfl) (he : starEach [a, b] X.env = (false, eval a X.env) :: starEach [b] X.env := by rfl) (hpl : (backTo pos (starEach [b] X.env)).any (·.1) = false := by rfl) : GE X (.Call (.Name "min" p) [a, b] [] pos) (lBi minD la) :=
  gbi (call_min2 hc) lift_min B.min bt_min ha hg (by decide) (by decide) he hpl
theorem bmax (B : Bn X.mg) (hc : X.calm = true) (ha : GA X [a, b] la) (hg : Gl X "max" := by rfl) (he : starEach [a, b] X.env = (false, eval a X.env) :: starEach [b] X.env := by rfl) (hpl : (backTo pos (starEach [b] X.env)).any (·.1) = false := by rfl) : GE X (.Call (.Name "max" p) [a, b] [] pos) (lBi maxD la) :=
  gbi (call_max2 hc) lift_max B.max bt_max ha hg (by decide) (by decide) he hpl
theorem bisi (B : Bn X.mg) (ha : GA X [a, b] la) (hg : Gl X "isinstance" := by rfl) (he : starEach [a, b] X.env = (false, eval a X.env) :: starEach [b] X.env := by rfl) (hpl : (backTo pos (starEach [b] X.env)).any (·.1) = false := by rfl) : GE X (.Call (.Name "isinstance" p) [a, b] [] pos) (lBi (isiD X.K) la) :=
  gbi call_isA lift_isi B.isinstance bt_isi ha hg (by decide) (by decide) he hpl
theorem brepr (B : Bn X.mg) (hr : Room k X.A) (hgd : X.A.guards = some []) (ha : GA X [a] la) (hg : Gl X "repr" := by rfl) (he : starEach [a] X.env = (false, eval a X.env) :: starEach [] X.env := by rfl) (hpl : (backTo pos (starEach [] X.env)).any (·.1) = false := by rfl) : GE X (.Call (.Name "repr" p) [a] [] pos) (lBi reprD la) :=
  gbi (call_repr hr hgd) lift_repr B.repr bt_repr ha hg (by decide) (by decide) he hpl
theorem tyint (B : Bn X.mg) (hg : Gl X "int" := by rfl) : GE X (.Name "int" p) (lC (.ty "int")) := gblty B.int bt_int hg (by decide) (by decide)
theorem tystr (B : Bn X.mg) (hg : Gl X "str" := by rfl) : GE X (.Name "str" p) (lC (.ty "str")) := gblty B.str bt_str hg (by decide) (by decide)
theorem tybool (B : Bn X.mg) (hg : Gl X "bool" := by rfl) : GE X (.Name "bool" p) (lC (.ty "bool")) := gblty B.bool bt_bool hg (by decide) (by decide)
theorem tyve (B : Bn X.mg) (hg : Gl X "ValueError" := by rfl) : GE X (.Name "ValueError" p) (lC (.ty "ValueError")) := gblty B.valueError bt_ve hg (by decide) (by decide)
theorem bappend {o e : Expr} {lo : LE} {apos cpos : Pos} (ho : GE X o lo) (ha : GA X [e] la) (hbase : attributeBase o "append" X.env (eval o X.env) = eval o X.env := by rfl)
    (hfew : ((backTo cpos (starEach [e] X.env)).all (fun x => !x.1) && (backToKw cpos (keywordEach [] X.env)).all (fun x => x.1.isSome) && decide ([e].length + ([] : List Keyword).length + (if ([] : List Keyword).isEmpty then 0 else 1) < 30)) = true := by rfl)
    (hline : (apos.endLine == cpos.line) = true := by rfl) (hs : starEach [e] X.env = (false, eval e X.env) :: starEach [] X.env := by rfl) (hplain : (backTo cpos (starEach [] X.env)).any (·.1) = false := by rfl) :
    GE X (.Call (.Attribute o "append" apos) [e] [] cpos) (lBm "list" appM lo la) := gbm F.plainAttrs_list F.slot_list_append F.type_list_append mt_append lift_app ho ha hbase hfew hline hs hplain
end
def lIfEJ (t : LT) (a b : LE) : LE := fun δ C P PX => ∃ J : D → Cells → Prop, t δ C (fun c C1 => brB c (a δ C1 J PX) (b δ C1 J PX)) PX ∧ ∀ d C', J d C' → P d C'
theorem gifej {X : Cx} {c a b : Expr} {ta : LT} {la lb : LE} {pos : Pos} (ht : GT X c ta) (ha : GE X a la) (hb : GE X b lb) : GE X (.IfExp c a b pos) (lIfEJ ta la lb) :=
  PE.imp (gife ht ha hb) fun σ H Q ⟨F, R, C, δ, P, PX, hs, ha, tk, ⟨J, h, j⟩, k⟩ => ⟨F, R, C, δ, J, PX, hs, ha, tk, h, fun v d F' C' H' e a n q => k v d F' C' H' e a n (j d C' q)⟩
def lIfJ (t : LT) (a b : LS) : LS := fun E δ C => ∃ J : Ev → Cells → Prop, t δ C (fun c C1 => brB c (a { E with nx := J } δ C1) (b { E with nx := J } δ C1)) (fun x C1 => E.ex x δ C1) ∧ ∀ δ' C', J δ' C' → E.nx δ' C'
theorem sifj {X : Cx} {c : Expr} {a b : List Stmt} {lt : LT} {la lb : LS} {pos : Pos} (ht : GT X c lt) (h1 : GSs X a la) (h2 : GSs X b lb) : GS X (.If c a b pos) (lIfJ lt la lb) :=
  PS.imp (sif ht h1 h2) fun D' σ H ⟨F, R, C, δ, E, hs, ha, tk, ⟨J, h, j⟩, k⟩ => ⟨F, R, C, δ, { E with nx := J }, hs, ha, tk, h, ⟨fun σ δ F' C H e s a q => k.nx σ δ F' C H e s a (j δ C q), k.rt, k.bk, k.ct⟩⟩
theorem appW_i {a : Addr} {y : D} {C C' : Cells} {k : Cells → Prop} {ds : List D} (w : Wr C a (.lst ds) (.lst (ds ++ [y])) C') (z : Nat.ble (ds.length + 1) lim = true) (q : k C') : AppW a y C k := ⟨ds, C', w, z, q⟩
theorem cellS_i {a : Addr} {C C' : Cells} {k : List D → Cells → Prop} {ds : List D} (w : Sel (a, .lst ds) C C') (q : k ds C') : CellS a C k := ⟨ds, C', w, q⟩
theorem isi_i {K : PySem.W.Frag} {d e : D} {C : Cells} {k : Bool → Prop} {t u : Value} {b : Bool} (h1 : TyD K d C t) (h2 : clsD e = some u) (h3 : PySem.W.kitOne K t u = some b) (q : k b) : IsiS K d e C k := ⟨t, u, b, h1, h2, h3, q⟩
theorem atx_i {K : PySem.W.Frag} {c : Addr} {n : Nat} (h : AtX K c n) : AtX K c n := h
theorem ato_i {K : PySem.W.Frag} {c : Addr} {n : Nat} (h : AtO K c n) : AtO K c n := h
theorem isPy_i {d : D} (h : isPy d = true) : isPy d = true := h
theorem shaped_i {d : PyData} (h : SeqAt.shaped d = true) : SeqAt.shaped d = true := h
theorem pyV_of {d : D} {C : Cells} {k : PyData → Prop} (h : isPy d = true) (q : k (py d)) : pyV d C k := by
  cases d with
  | ref a => simp [isPy] at h
  | _ => exact ⟨h, q⟩
end G
namespace G
open PySem PySem.Spec PyProof.Rows L2
theorem weight_mem : ∀ {ns : List Int} {m : Nat}, PySem.W.WData.weightAll (ns.map PySem.W.WData.int) ≤ m → ∀ i ∈ ns, (PySem.W.WData.int i).weight ≤ m
  | [], _, _, i, h => by cases h
  | n :: ns, m, hw, i, h => by
    simp only [List.map_cons, PySem.W.WData.weightAll] at hw
    rcases List.mem_cons.mp h with rfl | h
    · omega
    · exact weight_mem (m := m) (by omega) i h
theorem bits_of {ns : List Int} (h : PySem.W.WData.layableAll [PySem.W.WData.list (ns.map PySem.W.WData.int)] = true) : ∀ i ∈ ns, i.natAbs < 2 ^ 2000000 := by
  intro i hi
  simp only [PySem.W.WData.layableAll, List.all_cons, List.all_nil, Bool.and_true, PySem.W.WData.layable, Bool.and_eq_true, decide_eq_true_eq, PySem.W.WData.weight] at h
  have q := weight_mem (of_decide_eq_true h.2) i hi
  simp only [PySem.W.WData.weight] at q
  by_cases z : i = 0
  · subst z
    exact Nat.two_pow_pos _
  · have z' : (i == 0) = false := by simpa using z
    rw [z'] at q
    simp only [Bool.false_eq_true, if_false] at q
    have l : i.natAbs < 2 ^ (i.natAbs.log2 + 1) := Nat.lt_log2_self
    exact Nat.lt_of_lt_of_le l (Nat.pow_le_pow_right (by decide) (by omega))
theorem callG {P : Program} {w : World} {K : PySem.W.Frag} {mg mb : Str → Option Value} {k : Nat} {fa p : Addr} {fd : FuncData} {x : Str} {ct : Ct} {st : Shared} {us : List Value} {ns : List Int}
    (kIn : K.In st.heap) (nsG : st.heap.Ns mainGlobals mg) (nsB : st.heap.Ns builtinsNs mb) (bb : ∀ y : Str, y ≠ "__name__" → mb y = bootBuiltins y) (nl : st.heap.NoLimit) (hg : st.gens = #[])
    (hp : st.heap.get? p = some { cls := .type "list", data := .seq us.toArray }) (hi : IntsAre us ns) (hz : ns.length ≤ sizeLine) (hr : Room k callerA) (hgd : callerA.guards = some [])
    (Gf : ∀ base : Heap, K.In base → base.Ns mainGlobals mg → FnG P w K mg base k fa fd [x] ct) (hb : ∀ (s : Shared) (u : Value), BindsTo s fd ⟨[u], []⟩ [(x, u)])
    (hc : ct [.rdl (ns.map D.int)] [] (fun d _ => d = .bl true) fun _ _ => False) :
    codeAny (model P w) callerA (.call (.ref fa) ⟨[.ref p], []⟩) (fun r s' => r = .ok (.ret (.bool true)) ∧ OldK st.heap s'.heap ∧ s'.os = st.os ∧ AllBare s'.gens) st := by
  have rv := vals_ints hi
  have hl := hi.length
  have main : ∀ T : Hp, Only T → SqL K T p (ns.map V.int) → HOk P w T st.heap → (∀ b, T b ≠ none → b = p) → (T p ≠ none → K.lookup p = none) →
      codeAny (model P w) callerA (.call (.ref fa) ⟨[.ref p], []⟩) (fun r s' => r = .ok (.ret (.bool true)) ∧ OldK st.heap s'.heap ∧ s'.os = st.os ∧ AllBare s'.gens) st := by
    intro T hO hS hok only notK
    have up : ∀ {b : Addr} {o : Obj}, st.heap.get? b = some o → T b = none → (hidT st.heap T).get? b = some o := fun e z =>
      hidT_get e z
    have dictFree : ∀ {b : Addr} {o : Obj} {es : Array DictEntry} {ep : Nat}, st.heap.get? b = some o → o.data = .dict es ep → T b = none := by
      intro b o es ep e de
      cases q : T b with
      | none => rfl
      | some u =>
        obtain rfl : b = p := only b (by rw [q]; exact Option.some_ne_none _)
        rw [hp] at e
        cases e
        cases de
    have nsUp : ∀ {b : Addr} {m : Str → Option Value}, st.heap.Ns b m → (hidT st.heap T).Ns b m := by
      rintro b m ⟨o, es, ep, e, de, r⟩
      exact ⟨o, es, ep, up e (dictFree e de), de, r⟩
    have kUp : K.In (hidT st.heap T) := by
      intro b o e
      refine up (kIn b o e) ?_
      cases q : T b with
      | none => rfl
      | some u =>
        obtain rfl : b = p := only b (by rw [q]; exact Option.some_ne_none _)
        rw [notK (by rw [q]; exact Option.some_ne_none _)] at e
        cases e
    have md : Mod K mg (hidT st.heap T) := by
      obtain ⟨mc, n1, n2⟩ := nl
      exact ⟨kUp, nsUp nsG, ⟨mb, nsUp nsB, bb⟩, mc, nsUp n1, n2⟩
    have env : Env0 P w K mg (hidT st.heap T) callerA [] st T :=
      ⟨rfl, md, fun b o e => of_hidT e, Nat.le_of_eq (hidT_size _ _), trivial, fun b hb => absurd hb List.not_mem_nil, hok, .of_eq hg⟩
    have sp : spC K ct [.ref p] T (fun v _ => v = .bl true) (fun _ _ _ => False) := by
      refine ⟨T, [], [], [.rdl (ns.map D.int)], _, _, .cons (den_rdl.mpr ⟨p, ns.map V.int, rfl, hS, ?_⟩) .nil, ⟨Same.refl _, fun q hq => absurd hq List.not_mem_nil, List.nodup_nil, fun q hq => absurd hq List.not_mem_nil⟩, hc, fun v d F' C' H' _ _ n q => ?_, fun _ _ _ _ _ _ _ _ q => q⟩
      · clear hS hc rv hl hz hi
        induction ns with
        | nil => exact .nil
        | cons n ns ih => exact .cons (den_int.mpr rfl) ih
      · subst q
        exact den_bl.mp n
    refine codeAny_mono ((Gf _ kUp (nsUp nsG)).run callerA [] st T ⟨[.ref p], []⟩ [.ref p] [.ref p] _ _ hr hgd env (hb st (.ref p)) (.cons rfl .nil) sp) fun r s' h => ?_
    cases r with
    | error e =>
      obtain ⟨a, B, T', cls, d, h1, h2, h3, h4, h5, h6, h7, h8⟩ := h
      exact h8.elim
    | ok fl =>
      cases fl with
      | next => exact False.elim h
      | brk => exact False.elim h
      | cont => exact False.elim h
      | ret u =>
        obtain ⟨v, T', os, bare, un, hok', rr, rfl⟩ := h
        obtain rfl : u = Value.bool true := rr
        refine ⟨rfl, OldK.of_keep fun b o e => ?_, os, bare⟩
        cases q : T b with
        | none => exact un.keep b o e q (fun z => absurd z List.not_mem_nil) List.not_mem_nil
        | some u =>
          rcases hO b with z | ⟨ob, xs, z⟩
          · rw [q] at z
            cases z
          · have z2 := un.frzs b ob _ z
            obtain ⟨y1, _⟩ := hok b _ z
            obtain ⟨y2, _⟩ := hok' b _ z2
            rw [e] at y1
            cases y1
            exact y2
  cases hk : K.lookup p with
  | some o =>
    have e := kIn p o hk
    rw [hp] at e
    cases e
    refine main (fun _ => none) (fun _ => .inl rfl) (.inr ⟨_, us.toArray, _, hk, rfl, rfl, rfl, by rw [List.size_toArray, hl]; exact hz, by simpa using rv⟩) (fun b u z => ?_) (fun b z => absurd rfl z) fun z => absurd rfl z
    have y : (none : Option HO) = some u := z
    cases y
  | none =>
    refine main (fun b => if b = p then some (.frz { cls := .type "list", data := .seq us.toArray } (.lst (ns.map V.int))) else none) (fun b => ?_) (.inl (.inr ⟨{ cls := .type "list", data := .seq us.toArray }, if_pos rfl⟩)) (fun b u z => ?_) (fun b z => ?_) fun _ => hk
    · by_cases y : b = p
      · exact .inr ⟨_, _, if_pos y⟩
      · exact .inl (if_neg y)
    · by_cases y : b = p
      · have z2 := (if_pos y).symm.trans z
        cases z2
        subst y
        exact ⟨hp, by rw [List.length_map]; exact hz, us, _, rv, hp⟩
      · have z2 := (if_neg y).symm.trans z
        cases z2
    · by_cases y : b = p
      · exact y
      · exact absurd (if_neg y) z
open PySem.W PySem.Calls in
/-- a law's walk from its contract -/
theorem walkG {l : PySem.W.OpenLaw} {n k : Nat} {q : Program} {loose : List Str} {XP : (Str → Option Value) → Heap → Prop} {YP : World → Heap → Prop} {d : DefRec} {x : Str} (hn : l.most = some n) (hn2 : n ≤ sizeLine) (hdf : d.params.defaults = []) (hr : Room k callerA) (hgd : callerA.guards = some [])
    (Fc : ∀ (w : World) (mg : Str → Option Value) (fa : Addr) (h : Heap), YP w h → h.Ns mainGlobals mg → mg d.name = some (.ref fa) → ∃ (K : PySem.W.Frag) (fd : FuncData) (ct : Ct), K.In h ∧ (∀ (s : Shared) (u : Value), BindsTo s fd ⟨[u], []⟩ [(x, u)]) ∧
      (∀ ns : List Int, ns.length ≤ n → (∀ i ∈ ns, i.natAbs < 2 ^ 2000000) → ct [.rdl (ns.map D.int)] [] (fun d _ => d = .bl true) fun _ _ => False) ∧ ∀ base : Heap, K.In base → base.Ns mainGlobals mg → FnG l.prog w K mg base k fa fd [x] ct) :
    PySem.W.WalkO q loose XP YP l.row.toRowW d [] (fun f vs => PySem.call f vs) := by
  intro w s₀ s₁ mg mb Gr Y fa o pm cd doc dV kV ho hd hcd hD hmg hg args vals as hpre hlay hrd hwl hlo
  obtain rfl : dV = .none := Dflts.none hD hdf
  obtain rfl : kV = .none := Dflts.noKw hD
  obtain ⟨a, vs, ns, rfl, rfl, hobj, hints, hlen⟩ := Att.script_of hn hpre hwl
  obtain ⟨K, fd, ct, KX, hb, hct, hF⟩ := Fc w mg fa _ Y Gr.T.g hmg
  have run := callG KX Gr.T.g Gr.T.b Gr.T.builtins Gr.T.nolimit hg hobj hints (Nat.le_trans hlen hn2) hr hgd hF hb (hct ns hlen (bits_of hlay))
  refine enter_call (codeAny_mono run fun r s' z => ?_)
  obtain ⟨rfl, z2, z3, z4⟩ := z
  refine ⟨.inl ⟨.bool true, .bool true, [], rfl, fun _ => rfl, .bool true, Att.post_true l _, fun _ => ⟨List.Pairwise.nil, fun _ y => (nomatch y)⟩⟩, z2, z3, z4⟩
def frcG {β : Type} (g : Addr → Option Obj) : List Addr → (PySem.W.Frag → β) → β
  | [], k => k []
  | a :: r, k => match g a with
    | some o => frcG g r fun K => k ((a, o) :: K)
    | none => frcG g r k
theorem frcG_eq {β : Type} (g : Addr → Option Obj) : ∀ (as : List Addr) (k : PySem.W.Frag → β), frcG g as k = k (He.frG g as)
  | [], k => rfl
  | a :: r, k => by
    unfold frcG
    cases e : g a with
    | some o =>
      show frcG g r (fun K => k ((a, o) :: K)) = _
      rw [frcG_eq g r]
      unfold He.frG
      rw [List.filterMap_cons, e]
      rfl
    | none =>
      show frcG g r k = _
      rw [frcG_eq g r]
      unfold He.frG
      rw [List.filterMap_cons, e]
      rfl
abbrev AlG : Type := He.AlD × Bool
def obsG (fa : List He.Fa) (fn : List He.DefD) (chk : PySem.W.Frag → Bool) (K : PySem.W.Frag) : AlG := (He.obsD fa fn K, chk K)
def hookG (as : List Addr) (fa : List He.Fa) (fn : List He.DefD) (chk : PySem.W.Frag → Bool) : PySem.W.Hook where
  α := AlG
  obs := fun s => obsG fa fn chk (He.frG s.heap.get? as)
  val := fun _ => (He.valD fn, true)
  says := fun _ h => ∃ K : PySem.W.Frag, K.In h ∧ He.SaysD fa fn K ∧ chk K = true
  of := fun _ _ e => ⟨_, He.frG_in, congrArg Prod.fst e, congrArg Prod.snd e⟩
  keeps := fun _ _ _ ⟨K, hK, c⟩ k => ⟨K, PySem.W.Frag.In.keeps hK k, c⟩
def obG (as : List Addr) (fa : List He.Fa) (fn : List He.DefD) (chk : PySem.W.Frag → Bool) (s : PySem.W.SharedT) : AlG := frcG (HandSHeadRun.getT s) as fun K => obsG fa fn chk K
theorem obG_eq {as : List Addr} {fa : List He.Fa} {fn : List He.DefD} {chk : PySem.W.Frag → Bool} (s : PySem.W.SharedT) : obG as fa fn chk s = (hookG as fa fn chk).obs s.abs := by
  unfold obG
  rw [frcG_eq]
  have e : HandSHeadRun.getT s = s.abs.heap.get? := funext fun a => HandSHeadRun.getT_eq s a
  rw [e]
  rfl
def baseXB (K : PySem.W.Frag) (L : Addr) : Bool := PySem.W.readsIn K L (.type "type") && decide (PySem.W.specialIn K (.ref L) "__getattribute__" = some (some (.builtin "type.__getattribute__"))) &&
  (match PySem.W.findCls K (.ref L) (.type "type") "__init__" with
    | some (.val v) => decide (v = .builtin "ValueError.__init__")
    | _ => false)
theorem baseX_ok {K : PySem.W.Frag} {L : Addr} (h : baseXB K L = true) : BaseX K L := by
  unfold baseXB at h
  simp only [Bool.and_eq_true, decide_eq_true_eq] at h
  obtain ⟨⟨h1, h2⟩, h3⟩ := h
  refine ⟨h1, h2, ?_⟩
  split at h3
  · rename_i v e
    rw [e, of_decide_eq_true h3]
  · cases h3
def exGB (K : PySem.W.Frag) (C : Addr) : Bool := (PySem.W.clsIn K C).isSome && decide (PySem.W.findIn K (.ref C) "__getattribute__" = some (some (.builtin "BaseException.__getattribute__"))) && decide (PySem.W.findIn K (.ref C) "__getattr__" = some none) &&
  decide (PySem.W.subIn K (.ref C) (.type "BaseException") = some true) && decide (PySem.W.findIn K (.ref C) "__class__" = some (some (.builtin "object.__class__"))) && decide (PySem.W.specialIn K (.builtin "object.__class__") "__get__" = some (some (.builtin "getset_descriptor.__get__"))) &&
  decide (PySem.W.takesIn K (.builtin "object.__class__") = some true) && decide (PySem.W.mroIn K C (.type "object") = some true) && PySem.W.hasDictIn K C
theorem exG_ok {K : PySem.W.Frag} {C : Addr} (h : exGB K C = true) : ExG K C := by
  unfold exGB at h
  simp only [Bool.and_eq_true, decide_eq_true_eq] at h
  obtain ⟨⟨⟨⟨⟨⟨⟨⟨h1, h2⟩, h3⟩, h4⟩, h5⟩, h6⟩, h7⟩, h8⟩, h9⟩ := h
  exact ⟨h1, h2, h3, h4, h5, h6, h7, h8, h9⟩
def excObB (C : Addr) (o : Obj) : Bool := match o with
  | ⟨c, _, .cls cd, sl⟩ => decide (c = .type "type") && decide (cd.mro.head? = some (.ref C)) && PySem.HandSPX.refsVE cd.mro.tail && cd.hasDict && !cd.hasDel && (match sl.toList with
    | [_, _, _, _, some v, _] => decide (v = .builtin "ValueError.__new__")
    | _ => false)
  | _ => false
theorem excOb_ok {C : Addr} {o : Obj} (h : excObB C o = true) : ∃ nm q N bs bm sn sub ab col dd k0 k1 k2 k3 k5, o = excClassObj nm q C N bs bm true sn sub ab col dd k0 k1 k2 k3 k5 "ValueError.__new__" ∧ PySem.HandSPX.refsVE bm = true := by
  obtain ⟨c, dd, dt, sl⟩ := o
  cases dt with
  | cls cd =>
    obtain ⟨nm, bs, mro, ns, qn, hd, sn, sb, ab, col, del⟩ := cd
    simp only [excObB, Bool.and_eq_true, decide_eq_true_eq, Bool.not_eq_true'] at h
    obtain ⟨⟨⟨⟨⟨h1, h2⟩, h3⟩, h4⟩, h5⟩, h6⟩ := h
    subst h1 h4 h5
    cases mro with
    | nil => cases h2
    | cons m bm =>
      simp only [List.head?_cons, Option.some.injEq] at h2
      subst h2
      obtain ⟨sl⟩ := sl
      split at h6
      · rename_i k0 k1 k2 k3 v k5 e
        have e2 : sl = [k0, k1, k2, k3, some v, k5] := e
        subst e2
        have e3 := of_decide_eq_true h6
        subst e3
        exact ⟨_, _, _, _, _, _, _, _, _, _, _, _, _, _, _, rfl, h3⟩
      · cases h6
  | _ => cases h
def oexB (K : PySem.W.Frag) (C : Addr) : Bool := (match K.lookup C with
    | some o => excObB C o
    | none => false) && decide (PySem.W.findIn K (.ref C) "__setattr__" = some (some (.builtin "object.__setattr__"))) && decide (PySem.W.subIn K (.ref C) (.type "BaseException") = some true) && decide (PySem.W.typeIn K (.ref C) = some (.type "type")) && PySem.W.keepIn K (.ref C)
theorem oex_ok {K : PySem.W.Frag} {C : Addr} (h : oexB K C = true) : OexC K C := by
  unfold oexB at h
  simp only [Bool.and_eq_true, decide_eq_true_eq] at h
  obtain ⟨⟨⟨⟨h1, h2⟩, h3⟩, h4⟩, h5⟩ := h
  refine ⟨?_, h2, h3, h4, h5⟩
  split at h1
  · rename_i o e
    obtain ⟨nm, q, N, bs, bm, sn, sub, ab, col, dd, k0, k1, k2, k3, k5, rfl, hr⟩ := excOb_ok h1
    exact ⟨nm, q, N, bs, bm, sn, sub, ab, col, dd, k0, k1, k2, k3, k5, e, hr⟩
  · cases h1
def mkEB (K : PySem.W.Frag) (C fI : Addr) (f : Str) : Bool := oexB K C && decide (PySem.W.findIn K (.ref C) f = some none) && decide (PySem.W.findIn K (.ref C) "__init__" = some (some (.ref fI))) && decide (PySem.W.typeIn K (.ref fI) = some (.type "function"))
theorem mkE_ok {K : PySem.W.Frag} {C fI : Addr} {f : Str} (h : mkEB K C fI f = true) : MkE K C fI f := by
  unfold mkEB at h
  simp only [Bool.and_eq_true, decide_eq_true_eq] at h
  exact ⟨oex_ok h.1.1.1, h.1.1.2, h.1.2, h.2⟩
def kitB1 (K : PySem.W.Frag) (C : Addr) (v : Value) (b : Bool) : Bool := decide (PySem.W.kitOne K (.ref C) v = some b)
def bnFree : List He.Fa := [.free "len", .free "range", .free "abs", .free "int", .free "bool", .free "str", .free "list", .free "tuple", .free "min", .free "max", .free "isinstance", .free "repr", .free "enumerate", .free "zip", .free "sum", .free "any", .free "all", .free "set", .free "sorted", .free "ord", .free "ValueError"]
theorem bn_ok {K : PySem.W.Frag} {h : Heap} {mg : Str → Option Value} {fa : List He.Fa} {fn : List He.DefD} (X : K.In h) (G : h.Ns mainGlobals mg) (c : He.SaysD (bnFree ++ fa) fn K) : Bn mg where
  len := He.free_ok X G (c.fact 0 (f := .free "len") rfl)
  range := He.free_ok X G (c.fact 1 (f := .free "range") rfl)
  abs := He.free_ok X G (c.fact 2 (f := .free "abs") rfl)
  int := He.free_ok X G (c.fact 3 (f := .free "int") rfl)
  bool := He.free_ok X G (c.fact 4 (f := .free "bool") rfl)
  str := He.free_ok X G (c.fact 5 (f := .free "str") rfl)
  list := He.free_ok X G (c.fact 6 (f := .free "list") rfl)
  tuple := He.free_ok X G (c.fact 7 (f := .free "tuple") rfl)
  min := He.free_ok X G (c.fact 8 (f := .free "min") rfl)
  max := He.free_ok X G (c.fact 9 (f := .free "max") rfl)
  isinstance := He.free_ok X G (c.fact 10 (f := .free "isinstance") rfl)
  repr := He.free_ok X G (c.fact 11 (f := .free "repr") rfl)
  enumerate := He.free_ok X G (c.fact 12 (f := .free "enumerate") rfl)
  zip := He.free_ok X G (c.fact 13 (f := .free "zip") rfl)
  sum := He.free_ok X G (c.fact 14 (f := .free "sum") rfl)
  any := He.free_ok X G (c.fact 15 (f := .free "any") rfl)
  all := He.free_ok X G (c.fact 16 (f := .free "all") rfl)
  set := He.free_ok X G (c.fact 17 (f := .free "set") rfl)
  sorted := He.free_ok X G (c.fact 18 (f := .free "sorted") rfl)
  ord := He.free_ok X G (c.fact 19 (f := .free "ord") rfl)
  valueError := He.free_ok X G (c.fact 20 (f := .free "ValueError") rfl)
end G
namespace Lw
open PySem PySem.Spec PyProof.Rows L2 G
local macro_rules
  | `(tactic| walk_at "mem") => `(tactic| first | exact List.Mem.head _ | exact List.Mem.tail _ (List.Mem.head _) | exact List.Mem.tail _ (List.Mem.tail _ (List.Mem.head _)) | exact List.Mem.tail _ (List.Mem.tail _ (List.Mem.tail _ (List.Mem.head _))))
  | `(tactic| walk_at "wr") => `(tactic| first | exact Wr.here | exact Wr.there Wr.here | exact Wr.there (Wr.there Wr.here) | exact Wr.there (Wr.there (Wr.there Wr.here)))
  | `(tactic| walk_at "sel") => `(tactic| first | exact Sel.here | exact Sel.there Sel.here | exact Sel.there (Sel.there Sel.here) | exact Sel.there (Sel.there (Sel.there Sel.here)))
  | `(tactic| walk_at "pick") => `(tactic| first | exact Pick.nil | (apply Pick.cons; (focus walk_at "sel"); walk_at "pick"))
  | `(tactic| walk_at "nb") => `(tactic| first | with_reducible assumption | ((with_reducible apply nb_abs); (focus walk_at "nb")) | ((with_reducible apply nb_add); (focus walk_at "nb"); (focus walk_at "nb")) | ((with_reducible apply nb_sub); (focus walk_at "nb"); (focus walk_at "nb")) | ((with_reducible apply nb_mul); (focus walk_at "nb"); (focus walk_at "nb")) | ((with_reducible apply nb_mod); (focus omega); (focus walk_at "nb")) | ((with_reducible apply nb_div); (focus walk_at "nb")) | exact (show _ < 2 ^ 80 by omega))
  | `(tactic| walk_at "side") => `(tactic| first | with_reducible rfl | omega | ((with_reducible apply mulW_i); (focus walk_at "nb"); (focus walk_at "nb"); decide) | ((with_reducible apply divW_i); (focus omega); (focus walk_at "nb"); decide) | ((with_reducible refine Int.emod_nonneg _ ?_); omega) | ((with_reducible refine Int.emod_lt_of_pos _ ?_); omega) | (with_reducible refine Int.ediv_nonneg ?_ ?_) <;> omega | with_reducible assumption | ((with_reducible refine ble_i ?_); rfl) | ((with_reducible apply ble_le); simp only [List.length_cons, List.length_nil, List.length_append, lim]; omega) | ((with_reducible apply pow_i); decide) | ((with_reducible apply rng_i); omega) | ((with_reducible refine isPy_i ?_); rfl) | ((with_reducible refine shaped_i ?_); rfl) | ((with_reducible refine atx_i ?_); assumption) | ((with_reducible refine ato_i ?_); assumption))
  | `(tactic| walk_at "go1") => `(tactic| (conv => whnf
                                           first | (refine And.intro ?_ ?_; (focus walk_at "side")) | refine cellL_i _ (by walk_at "mem") ?_ | refine ⟨_, _, _, _, rfl, rfl, by walk_at "wr", ?_⟩ | refine appW_i (by walk_at "wr") (by walk_at "side") ?_ | refine cellS_i (by walk_at "sel") ?_ | (refine brB_t ?_ ?_; (focus walk_at "side")) | (refine brB_f ?_ ?_; (focus walk_at "side")) | (refine brB_nf ?_ ?_; (focus walk_at "side")) | (refine brB_nt ?_ ?_; (focus walk_at "side")) | refine brB_d (fun _ => ?_) fun _ => ?_ | refine brB_nd (fun _ => ?_) fun _ => ?_))
  | `(tactic| walk_at "go") => `(tactic| repeat' walk_at "go1")
  | `(tactic| walk_at "all") => `(tactic| and_intros <;> walk_at "side")
  | `(tactic| walk_at "st") => `(tactic| conv => whnf)
def top (i : Nat) : Stmt := PySem.Challenge.pw_keyedline_k06_refusals_by_hand.main.body.getD i (.Pass ⟨0, 0, 0, 0⟩)
structure Fx (P : Program) (w : World) (K : PySem.W.Frag) (mg : Str → Option Value) (base : Heap) where
  bn : Bn mg
  C_BadModes : Addr
  C_NoKey : Addr
  C_NoText : Addr
  C_TooFar : Addr
  C_BadNumber : Addr
  C_LineError : Addr
  c_LineError : mg "LineError" = some (.ref C_LineError)
  bx : BaseX K C_LineError
  f_BadModes___init__ : Addr
  fd_BadModes___init__ : FuncData
  F_BadModes___init__ : FunD K "__init__" "BadModes.__init__" (defArgs (inClass (top 2) 0)) (defBody (inClass (top 2) 0)) (defScope (inClass (top 2) 0)) [] [] f_BadModes___init__ fd_BadModes___init__
  f_NoKey___init__ : Addr
  fd_NoKey___init__ : FuncData
  F_NoKey___init__ : FunD K "__init__" "NoKey.__init__" (defArgs (inClass (top 3) 0)) (defBody (inClass (top 3) 0)) (defScope (inClass (top 3) 0)) [] [] f_NoKey___init__ fd_NoKey___init__
  f_NoText___init__ : Addr
  fd_NoText___init__ : FuncData
  F_NoText___init__ : FunD K "__init__" "NoText.__init__" (defArgs (inClass (top 4) 0)) (defBody (inClass (top 4) 0)) (defScope (inClass (top 4) 0)) [] [] f_NoText___init__ fd_NoText___init__
  f_TooFar___init__ : Addr
  fd_TooFar___init__ : FuncData
  F_TooFar___init__ : FunD K "__init__" "TooFar.__init__" (defArgs (inClass (top 5) 0)) (defBody (inClass (top 5) 0)) (defScope (inClass (top 5) 0)) [] [] f_TooFar___init__ fd_TooFar___init__
  f_BadNumber___init__ : Addr
  fd_BadNumber___init__ : FuncData
  F_BadNumber___init__ : FunD K "__init__" "BadNumber.__init__" (defArgs (inClass (top 6) 0)) (defBody (inClass (top 6) 0)) (defScope (inClass (top 6) 0)) [] [] f_BadNumber___init__ fd_BadNumber___init__
  f__law_begin : Addr
  fd__law_begin : FuncData
  F__law_begin : FunD K "_law_begin" "_law_begin" (defArgs (top 8)) (defBody (top 8)) (defScope (top 8)) [] [] f__law_begin fd__law_begin
  h__law_begin : mg "_law_begin" = some (.ref f__law_begin)
  f__law_draw : Addr
  fd__law_draw : FuncData
  F__law_draw : FunD K "_law_draw" "_law_draw" (defArgs (top 9)) (defBody (top 9)) (defScope (top 9)) [] [] f__law_draw fd__law_draw
  h__law_draw : mg "_law_draw" = some (.ref f__law_draw)
  f__law_thing : Addr
  fd__law_thing : FuncData
  F__law_thing : FunD K "_law_thing" "_law_thing" (defArgs (top 10)) (defBody (top 10)) (defScope (top 10)) [] [] f__law_thing fd__law_thing
  h__law_thing : mg "_law_thing" = some (.ref f__law_thing)
  f__law_made : Addr
  fd__law_made : FuncData
  F__law_made : FunD K "_law_made" "_law_made" (defArgs (top 11)) (defBody (top 11)) (defScope (top 11)) [] [] f__law_made fd__law_made
  h__law_made : mg "_law_made" = some (.ref f__law_made)
  f__law_kinds : Addr
  fd__law_kinds : FuncData
  F__law_kinds : FunD K "_law_kinds" "_law_kinds" (defArgs (top 12)) (defBody (top 12)) (defScope (top 12)) [] [] f__law_kinds fd__law_kinds
  h__law_kinds : mg "_law_kinds" = some (.ref f__law_kinds)
  f__law_value : Addr
  fd__law_value : FuncData
  F__law_value : FunD K "_law_value" "_law_value" (defArgs (top 13)) (defBody (top 13)) (defScope (top 13)) [] [] f__law_value fd__law_value
  h__law_value : mg "_law_value" = some (.ref f__law_value)
  f_law : Addr
  fd_law : FuncData
  F_law : FunD K "law" "law" (defArgs (top 14)) (defBody (top 14)) (defScope (top 14)) [] [] f_law fd_law
  h_law : mg "law" = some (.ref f_law)
  c_BadModes : mg "BadModes" = some (.ref C_BadModes)
  e_BadModes : ExG K C_BadModes
  m_BadModes : MkE K C_BadModes f_BadModes___init__ (atn 50)
  t_BadModes_BadModes : PySem.W.kitOne K (.ref C_BadModes) (.ref C_BadModes) = some true
  t_BadModes_NoKey : PySem.W.kitOne K (.ref C_BadModes) (.ref C_NoKey) = some false
  t_BadModes_NoText : PySem.W.kitOne K (.ref C_BadModes) (.ref C_NoText) = some false
  t_BadModes_TooFar : PySem.W.kitOne K (.ref C_BadModes) (.ref C_TooFar) = some false
  t_BadModes_BadNumber : PySem.W.kitOne K (.ref C_BadModes) (.ref C_BadNumber) = some false
  t_BadModes_LineError : PySem.W.kitOne K (.ref C_BadModes) (.ref C_LineError) = some true
  t_BadModes_ValueError : PySem.W.kitOne K (.ref C_BadModes) (.type "ValueError") = some true
  c_NoKey : mg "NoKey" = some (.ref C_NoKey)
  e_NoKey : ExG K C_NoKey
  m_NoKey : MkE K C_NoKey f_NoKey___init__ (atn 51)
  t_NoKey_BadModes : PySem.W.kitOne K (.ref C_NoKey) (.ref C_BadModes) = some false
  t_NoKey_NoKey : PySem.W.kitOne K (.ref C_NoKey) (.ref C_NoKey) = some true
  t_NoKey_NoText : PySem.W.kitOne K (.ref C_NoKey) (.ref C_NoText) = some false
  t_NoKey_TooFar : PySem.W.kitOne K (.ref C_NoKey) (.ref C_TooFar) = some false
  t_NoKey_BadNumber : PySem.W.kitOne K (.ref C_NoKey) (.ref C_BadNumber) = some false
  t_NoKey_LineError : PySem.W.kitOne K (.ref C_NoKey) (.ref C_LineError) = some true
  t_NoKey_ValueError : PySem.W.kitOne K (.ref C_NoKey) (.type "ValueError") = some true
  c_NoText : mg "NoText" = some (.ref C_NoText)
  e_NoText : ExG K C_NoText
  m_NoText : MkE K C_NoText f_NoText___init__ (atn 52)
  t_NoText_BadModes : PySem.W.kitOne K (.ref C_NoText) (.ref C_BadModes) = some false
  t_NoText_NoKey : PySem.W.kitOne K (.ref C_NoText) (.ref C_NoKey) = some false
  t_NoText_NoText : PySem.W.kitOne K (.ref C_NoText) (.ref C_NoText) = some true
  t_NoText_TooFar : PySem.W.kitOne K (.ref C_NoText) (.ref C_TooFar) = some false
  t_NoText_BadNumber : PySem.W.kitOne K (.ref C_NoText) (.ref C_BadNumber) = some false
  t_NoText_LineError : PySem.W.kitOne K (.ref C_NoText) (.ref C_LineError) = some true
  t_NoText_ValueError : PySem.W.kitOne K (.ref C_NoText) (.type "ValueError") = some true
  c_TooFar : mg "TooFar" = some (.ref C_TooFar)
  e_TooFar : ExG K C_TooFar
  m_TooFar : MkE K C_TooFar f_TooFar___init__ (atn 53)
  t_TooFar_BadModes : PySem.W.kitOne K (.ref C_TooFar) (.ref C_BadModes) = some false
  t_TooFar_NoKey : PySem.W.kitOne K (.ref C_TooFar) (.ref C_NoKey) = some false
  t_TooFar_NoText : PySem.W.kitOne K (.ref C_TooFar) (.ref C_NoText) = some false
  t_TooFar_TooFar : PySem.W.kitOne K (.ref C_TooFar) (.ref C_TooFar) = some true
  t_TooFar_BadNumber : PySem.W.kitOne K (.ref C_TooFar) (.ref C_BadNumber) = some false
  t_TooFar_LineError : PySem.W.kitOne K (.ref C_TooFar) (.ref C_LineError) = some true
  t_TooFar_ValueError : PySem.W.kitOne K (.ref C_TooFar) (.type "ValueError") = some true
  c_BadNumber : mg "BadNumber" = some (.ref C_BadNumber)
  e_BadNumber : ExG K C_BadNumber
  m_BadNumber : MkE K C_BadNumber f_BadNumber___init__ (atn 54)
  t_BadNumber_BadModes : PySem.W.kitOne K (.ref C_BadNumber) (.ref C_BadModes) = some false
  t_BadNumber_NoKey : PySem.W.kitOne K (.ref C_BadNumber) (.ref C_NoKey) = some false
  t_BadNumber_NoText : PySem.W.kitOne K (.ref C_BadNumber) (.ref C_NoText) = some false
  t_BadNumber_TooFar : PySem.W.kitOne K (.ref C_BadNumber) (.ref C_TooFar) = some false
  t_BadNumber_BadNumber : PySem.W.kitOne K (.ref C_BadNumber) (.ref C_BadNumber) = some true
  t_BadNumber_LineError : PySem.W.kitOne K (.ref C_BadNumber) (.ref C_LineError) = some true
  t_BadNumber_ValueError : PySem.W.kitOne K (.ref C_BadNumber) (.type "ValueError") = some true
section
variable {P : Program} {w : World} {K : PySem.W.Frag} {mg : Str → Option Value} {base : Heap} (fx : Fx P w K mg base)
include fx
theorem i_BadModes : FnOk P w K mg base CX0 1 fx.f_BadModes___init__ fx.fd_BadModes___init__ ["self", "field"] (spInit K (atn 50)) := by
  have sc : FnScope ["self", "field"] ["self", "field"] (defScope (inClass (top 2) 0)) := ⟨rfl, rfl, rfl, by decide +kernel, rfl, by decide +kernel, by decide +kernel⟩
  refine FunD.ok fx.F_BadModes___init__ sc (fun vs H Q E h => ?_) fun cdv A outer s H vs Q E hr h => ⟨_, pss_cons (ps_expr (pe_leinit fx.bx fx.c_LineError (pa_cons (pv 0) (pa_cons pe_str pa_nil)))) (pss_one (ps_ost (pv 0) (pv 1))), init_body rfl h⟩
  obtain ⟨a, C, y, rfl, _⟩ := h
  rfl
theorem b_BadModes : Binds K fx.fd_BadModes___init__ ["self", "field"] [] := fx.F_BadModes___init__.bindsN fun kV doc pm an cdv ct us hl => by
  match us, hl with
  | [_, _], _ => rfl
theorem k_BadModes : KBn K fx.fd_BadModes___init__ ["self", "field"] 1 ["field"] (fun us ws => us ++ ws) (fun vs zs => vs ++ zs) := kb_plain fx.F_BadModes___init__ 1 ["field"] fun kV doc pm an cdv ct us ws h1 h2 => by
  match us, ws, h1, h2 with
  | [_], [_], _, _ => rfl
theorem i_NoKey : FnOk P w K mg base CX0 1 fx.f_NoKey___init__ fx.fd_NoKey___init__ ["self", "name"] (spInit K (atn 51)) := by
  have sc : FnScope ["self", "name"] ["self", "name"] (defScope (inClass (top 3) 0)) := ⟨rfl, rfl, rfl, by decide +kernel, rfl, by decide +kernel, by decide +kernel⟩
  refine FunD.ok fx.F_NoKey___init__ sc (fun vs H Q E h => ?_) fun cdv A outer s H vs Q E hr h => ⟨_, pss_cons (ps_expr (pe_leinit fx.bx fx.c_LineError (pa_cons (pv 0) (pa_cons pe_str pa_nil)))) (pss_one (ps_ost (pv 0) (pv 1))), init_body rfl h⟩
  obtain ⟨a, C, y, rfl, _⟩ := h
  rfl
theorem b_NoKey : Binds K fx.fd_NoKey___init__ ["self", "name"] [] := fx.F_NoKey___init__.bindsN fun kV doc pm an cdv ct us hl => by
  match us, hl with
  | [_, _], _ => rfl
theorem k_NoKey : KBn K fx.fd_NoKey___init__ ["self", "name"] 1 ["name"] (fun us ws => us ++ ws) (fun vs zs => vs ++ zs) := kb_plain fx.F_NoKey___init__ 1 ["name"] fun kV doc pm an cdv ct us ws h1 h2 => by
  match us, ws, h1, h2 with
  | [_], [_], _, _ => rfl
theorem i_NoText : FnOk P w K mg base CX0 1 fx.f_NoText___init__ fx.fd_NoText___init__ ["self", "text"] (spInit K (atn 52)) := by
  have sc : FnScope ["self", "text"] ["self", "text"] (defScope (inClass (top 4) 0)) := ⟨rfl, rfl, rfl, by decide +kernel, rfl, by decide +kernel, by decide +kernel⟩
  refine FunD.ok fx.F_NoText___init__ sc (fun vs H Q E h => ?_) fun cdv A outer s H vs Q E hr h => ⟨_, pss_cons (ps_expr (pe_leinit fx.bx fx.c_LineError (pa_cons (pv 0) (pa_cons pe_str pa_nil)))) (pss_one (ps_ost (pv 0) (pv 1))), init_body rfl h⟩
  obtain ⟨a, C, y, rfl, _⟩ := h
  rfl
theorem b_NoText : Binds K fx.fd_NoText___init__ ["self", "text"] [] := fx.F_NoText___init__.bindsN fun kV doc pm an cdv ct us hl => by
  match us, hl with
  | [_, _], _ => rfl
theorem k_NoText : KBn K fx.fd_NoText___init__ ["self", "text"] 1 ["text"] (fun us ws => us ++ ws) (fun vs zs => vs ++ zs) := kb_plain fx.F_NoText___init__ 1 ["text"] fun kV doc pm an cdv ct us ws h1 h2 => by
  match us, ws, h1, h2 with
  | [_], [_], _, _ => rfl
theorem i_TooFar : FnOk P w K mg base CX0 1 fx.f_TooFar___init__ fx.fd_TooFar___init__ ["self", "many"] (spInit K (atn 53)) := by
  have sc : FnScope ["self", "many"] ["self", "many"] (defScope (inClass (top 5) 0)) := ⟨rfl, rfl, rfl, by decide +kernel, rfl, by decide +kernel, by decide +kernel⟩
  refine FunD.ok fx.F_TooFar___init__ sc (fun vs H Q E h => ?_) fun cdv A outer s H vs Q E hr h => ⟨_, pss_cons (ps_expr (pe_leinit fx.bx fx.c_LineError (pa_cons (pv 0) (pa_cons pe_str pa_nil)))) (pss_one (ps_ost (pv 0) (pv 1))), init_body rfl h⟩
  obtain ⟨a, C, y, rfl, _⟩ := h
  rfl
theorem b_TooFar : Binds K fx.fd_TooFar___init__ ["self", "many"] [] := fx.F_TooFar___init__.bindsN fun kV doc pm an cdv ct us hl => by
  match us, hl with
  | [_, _], _ => rfl
theorem k_TooFar : KBn K fx.fd_TooFar___init__ ["self", "many"] 1 ["many"] (fun us ws => us ++ ws) (fun vs zs => vs ++ zs) := kb_plain fx.F_TooFar___init__ 1 ["many"] fun kV doc pm an cdv ct us ws h1 h2 => by
  match us, ws, h1, h2 with
  | [_], [_], _, _ => rfl
theorem i_BadNumber : FnOk P w K mg base CX0 1 fx.f_BadNumber___init__ fx.fd_BadNumber___init__ ["self", "number"] (spInit K (atn 54)) := by
  have sc : FnScope ["self", "number"] ["self", "number"] (defScope (inClass (top 6) 0)) := ⟨rfl, rfl, rfl, by decide +kernel, rfl, by decide +kernel, by decide +kernel⟩
  refine FunD.ok fx.F_BadNumber___init__ sc (fun vs H Q E h => ?_) fun cdv A outer s H vs Q E hr h => ⟨_, pss_cons (ps_expr (pe_leinit fx.bx fx.c_LineError (pa_cons (pv 0) (pa_cons pe_str pa_nil)))) (pss_one (ps_ost (pv 0) (pv 1))), init_body rfl h⟩
  obtain ⟨a, C, y, rfl, _⟩ := h
  rfl
theorem b_BadNumber : Binds K fx.fd_BadNumber___init__ ["self", "number"] [] := fx.F_BadNumber___init__.bindsN fun kV doc pm an cdv ct us hl => by
  match us, hl with
  | [_, _], _ => rfl
theorem k_BadNumber : KBn K fx.fd_BadNumber___init__ ["self", "number"] 1 ["number"] (fun us ws => us ++ ws) (fun vs zs => vs ++ zs) := kb_plain fx.F_BadNumber___init__ 1 ["number"] fun kV doc pm an cdv ct us ws h1 h2 => by
  match us, ws, h1, h2 with
  | [_], [_], _, _ => rfl
def ct__law_draw : Ct := fun ds C P PX => ∃ (p : Addr) (a b c n : Int), ds = [.ref p, .int n] ∧ C = [(p, .lst [.int a, .int b, .int c])] ∧ (0 ≤ a ∧ 0 ≤ b ∧ b < 2305843009213693951 ∧ 0 ≤ c ∧ c < 1099511627776 ∧ 0 < n ∧ n < 1073741824) ∧
  ∀ k a' c', 0 ≤ k → k < n → 0 ≤ a' → 0 ≤ c' → c' ≤ c + 1 → P (.int k) [(p, .lst [.int a', .int b, .int c'])]
omit fx in
theorem sc__law_draw : FnScope ["_law_pot", "_law_top", "_law_digit", "_law_go", "_law_mixed"] ["_law_pot", "_law_top"] (defScope (top 9)) := ⟨rfl, rfl, rfl, by decide +kernel, rfl, by decide +kernel, by decide +kernel⟩
theorem g__law_draw : FnG P w K mg base 1 fx.f__law_draw fx.fd__law_draw ["_law_pot", "_law_top"] (ct__law_draw) := by
  have sc := sc__law_draw
  refine fn_g (k := 0) fx.F__law_draw sc ?_ fun cdv A outer s H E hr hg => ⟨_, (scons (sif (tgt (gix (gv 0) gint) gint) (scons (sset 2 sc.nd (gmod (gix (gv 0) gint) (gv 1))) (scons (sseti (gfdiv (gix (gv 0) gint) (gv 1)) (gv 0) gint) (sone (sret (gv 2))))) snil) (scons (sseti (gadd (gix (gv 0) gint) gint) (gv 0) gint) (scons (sset 3 sc.nd (gix (gv 0) gint)) (scons (sset 4 sc.nd (gmod (gmulI (gadd (gix (gv 0) gint) (gmulI gint (gv 3))) (gadd (gmulI (gmulI (gv 3) (gv 3)) gint) gint)) gint)) (scons (sset 4 sc.nd (gmod (gmulI (gv 4) (gadd (gmod (gv 4) gint) (gv 3))) gint)) (sone (sret (gmod (gfdiv (gv 4) gint) (gv 1))))))))), ?_⟩
  · rintro ds C Q QX ⟨p, a, b, c, n, rfl, _⟩
    rfl
  · rintro ds C Q QX ⟨p, a, b, c, n, rfl, rfl, ⟨h1, h2, h3, h4, h5, h6, h7⟩, k⟩
    walk_at "go"
    all_goals walk_at "st"
    · exact fin_i (by walk_at "pick") (k _ _ _ (by walk_at "side") (by walk_at "side") (by walk_at "side") (by walk_at "side") (by walk_at "side"))
    · exact fin_i (by walk_at "pick") (k _ _ _ (by walk_at "side") (by walk_at "side") (by walk_at "side") (by walk_at "side") (by walk_at "side"))
theorem d__law_draw : Df P w K mg base 1 "_law_draw" ["_law_pot", "_law_top"] (ct__law_draw) [] := df_plain fx.F__law_draw fx.h__law_draw (g__law_draw fx) fun kV doc pm an cdv ct us hl => by
  match us, hl with
  | [_, _], _ => rfl
omit fx in
theorem use_draw {p : Addr} {a b c n : Int} {C R1 : Cells} {Q : PD} {QX : PXt} (pk : Pick C [(p, .lst [.int a, .int b, .int c])] R1) (h : 0 ≤ a ∧ 0 ≤ b ∧ b < 2305843009213693951 ∧ 0 ≤ c ∧ c < 1099511627776 ∧ 0 < n ∧ n < 1073741824)
    (k : ∀ k a' c', 0 ≤ k → k < n → 0 ≤ a' → 0 ≤ c' → c' ≤ c + 1 → Q (.int k) ((p, .lst [.int a', .int b, .int c']) :: R1)) : Fr ct__law_draw ([.ref p, .int n] ++ []) C Q QX :=
  fr_i pk ⟨p, a, b, c, n, rfl, rfl, h, k⟩
def things : List D := [.non, .bl true, .int 0, .int (-7), .str [], .str [97], .tup [.int 1, .int 2], .lst [.str [120]], .int ((10 : Int) ^ (39 : Int).toNat), .str [108, 105, 110, 101, 115], .tup [.str [97], .str [98]]]
def ct__law_thing : Ct := fun ds C P PX => ∃ (p : Addr) (a b c : Int), ds = [.ref p] ∧ C = [(p, .lst [.int a, .int b, .int c])] ∧ (0 ≤ a ∧ 0 ≤ b ∧ b < 2305843009213693951 ∧ 0 ≤ c ∧ c < 1000000000) ∧
  ∀ d a' c', d ∈ things → 0 ≤ a' → 0 ≤ c' → c' ≤ c + 1 → P d [(p, .lst [.int a', .int b, .int c'])]
omit fx in
theorem sc__law_thing : FnScope ["_law_pot"] ["_law_pot"] (defScope (top 10)) := ⟨rfl, rfl, rfl, by decide +kernel, rfl, by decide +kernel, by decide +kernel⟩
theorem g__law_thing : FnG P w K mg base 2 fx.f__law_thing fx.fd__law_thing ["_law_pot"] (ct__law_thing) := by
  have sc := sc__law_thing
  refine fn_g (k := 1) fx.F__law_thing sc ?_ fun cdv A outer s H E hr hg => ⟨_, (sone (sret (gix (glst (ga_cons gnon (ga_cons gbl (ga_cons gint (ga_cons (gneg gint) (ga_cons (gstr [] rfl) (ga_cons (gstr [97] rfl) (ga_cons (gtup (ga_cons gint (ga_cons gint ga_nil))) (ga_cons (glst (ga_cons (gstr [120] rfl) ga_nil)) (ga_cons (gpow gint gint) (ga_cons (gstr [108, 105, 110, 101, 115] rfl) (ga_cons (gtup (ga_cons (gstr [97] rfl) (ga_cons (gstr [98] rfl) ga_nil))) ga_nil)))))))))))) (gc (d__law_draw fx) hr (by decide) hg (ga_cons (gv 0) (ga_cons gint ga_nil)))))), ?_⟩
  · rintro ds C Q QX ⟨p, a, b, c, rfl, _⟩
    rfl
  · rintro ds C Q QX ⟨p, a, b, c, rfl, rfl, ⟨h1, h2, h3, h4, h5⟩, k⟩
    walk_at "go"
    walk_at "st"
    refine use_draw (by walk_at "pick") (by walk_at "all") fun j a' c' g1 g2 g3 g4 g5 => ?_
    show ixD (.lst things) (.int j) _ _
    refine atK_all g1 (by show j < 11; exact g2) fun d hd => ?_
    walk_at "st"
    exact fin_i (by walk_at "pick") (k d _ _ hd (by walk_at "side") (by walk_at "side") (by walk_at "side"))
theorem d__law_thing : Df P w K mg base 2 "_law_thing" ["_law_pot"] (ct__law_thing) [] := df_plain fx.F__law_thing fx.h__law_thing (g__law_thing fx) fun kV doc pm an cdv ct us hl => by
  match us, hl with
  | [_], _ => rfl
omit fx in
theorem use_thing {p : Addr} {a b c : Int} {C R1 : Cells} {Q : PD} {QX : PXt} (pk : Pick C [(p, .lst [.int a, .int b, .int c])] R1) (h : 0 ≤ a ∧ 0 ≤ b ∧ b < 2305843009213693951 ∧ 0 ≤ c ∧ c < 1000000000)
    (k : ∀ d a' c', d ∈ things → 0 ≤ a' → 0 ≤ c' → c' ≤ c + 1 → Q d ((p, .lst [.int a', .int b, .int c']) :: R1)) : Fr ct__law_thing ([.ref p] ++ []) C Q QX :=
  fr_i pk ⟨p, a, b, c, rfl, rfl, h, k⟩
def ScOk (xs : List D) : Prop := ∀ d ∈ xs, ∃ i : Int, d = .int i ∧ i.natAbs < 2 ^ 2000000
def ct__law_begin : Ct := fun ds C P PX => ∃ (xs : List D) (i : Int), ds = [.rdl xs, .int i] ∧ C = [] ∧ (0 ≤ i ∧ i < 1000000) ∧ xs.length ≤ 1000000 ∧ ScOk xs ∧
  ∀ p a b, 0 ≤ a → 0 ≤ b → b < 2305843009213693951 → P (.ref p) [(p, .lst [.int a, .int b, .int 0])]
omit fx in
theorem sc__law_begin : FnScope ["_law_script", "_law_k", "_law_cell", "_law_seed", "_law_one"] ["_law_script", "_law_k"] (defScope (top 8)) := ⟨rfl, rfl, rfl, by decide +kernel, rfl, by decide +kernel, by decide +kernel⟩
theorem g__law_begin : FnG P w K mg base 1 fx.f__law_begin fx.fd__law_begin ["_law_script", "_law_k"] (ct__law_begin) := by
  have sc := sc__law_begin
  refine fn_g (k := 0) fx.F__law_begin sc ?_ fun cdv A outer s H E hr hg => ⟨_, (scons (spar 2 3 rfl sc.nd (ga_cons (gifej (tlt (gv 1) (blen fx.bn (ga_cons (gv 0) ga_nil))) (gix (gv 0) (gv 1)) gint) (ga_cons (gadd (gmulI gint (gv 1)) gint) ga_nil))) (scons (sfor (passes_of rfl) rfl (iseq (gadd (glst (ga_cons (gv 2) ga_nil)) (gsl (gv 0) ono (oyes gint)))) (pnm 4 sc.nd) (sone (sset 3 sc.nd (gmod (gadd (gadd (gmulI (gv 3) gint) (gmulI gint (babs fx.bn (ga_cons (gv 4) ga_nil)))) (bint fx.bn (ga_cons (glt (gv 4) gint) ga_nil))) gint)))) (sone (sret (glstC (ga_cons (gife (tge (babs fx.bn (ga_cons (gv 2) ga_nil)) (gpow gint gint)) (babs fx.bn (ga_cons (gv 2) ga_nil)) gint) (ga_cons (gv 3) (ga_cons gint ga_nil)))))))), ?_⟩
  · rintro ds C Q QX ⟨p, i, rfl, _⟩
    rfl
  · rintro ds C Q QX ⟨xs, i, rfl, rfl, ⟨h1, h2⟩, h3, h4, k⟩
    walk_at "go"
    walk_at "st"
    refine ⟨fun d C => ∃ c : Int, d = .int c ∧ c.natAbs < 2 ^ 2000000 ∧ C = [], ?_, ?_⟩
    · walk_at "go"
      · refine atK_all h1 (by omega) fun d hd => ?_
        obtain ⟨c, rfl, hc⟩ := h4 d hd
        exact ⟨c, rfl, hc, rfl⟩
      · exact ⟨0, rfl, Nat.two_pow_pos _, rfl⟩
    · rintro d C ⟨c, rfl, hc, rfl⟩
      have hz := cutL_len xs none (some 60)
      walk_at "go"
      walk_at "st"
      refine ⟨fun _ δ C => ∃ (s : Int) (z : Option D), δ = [some (.rdl xs), some (.int i), some (.int c), some (.int s), z] ∧ (0 ≤ s ∧ s < 2305843009213693951 ∨ s = 104729 * i + 17) ∧ C = [], ⟨_, _, rfl, .inr rfl, rfl⟩, ?_, ?_⟩
      · rintro j d δ C hd ⟨s, z, rfl, hs, rfl⟩
        have hj : ∃ v : Int, d = .int v ∧ v.natAbs < 2 ^ 2000000 := by
          have hm := List.mem_of_getElem? hd
          rcases List.mem_append.mp hm with hm | hm
          · rw [List.mem_singleton] at hm
            exact ⟨c, hm, hc⟩
          · exact h4 d (cutL_mem hm)
        obtain ⟨v, rfl, hv⟩ := hj
        have hs2 : 0 ≤ s ∧ s < 4611686018427387904 := by omega
        obtain ⟨s1, s2⟩ := hs2
        walk_at "go"
        walk_at "st"
        exact ⟨_, _, rfl, .inl (by walk_at "all"), rfl⟩
      · rintro δ C ⟨s, z, rfl, hs, rfl⟩
        walk_at "go"
        · have hs2 : 0 ≤ s ∧ s < 2305843009213693951 := by omega
          intro p
          exact fin_i (by walk_at "pick") (k p _ s abs_nn hs2.1 hs2.2)
        · have hs2 : 0 ≤ s ∧ s < 2305843009213693951 := by omega
          intro p
          exact fin_i (by walk_at "pick") (k p _ s (Int.le_refl _) hs2.1 hs2.2)
theorem d__law_begin : Df P w K mg base 1 "_law_begin" ["_law_script", "_law_k"] (ct__law_begin) [] := df_plain fx.F__law_begin fx.h__law_begin (g__law_begin fx) fun kV doc pm an cdv ct us hl => by
  match us, hl with
  | [_, _], _ => rfl
omit fx in
theorem use_begin {xs : List D} {i : Int} {C : Cells} {Q : PD} {QX : PXt} (h1 : 0 ≤ i ∧ i < 1000000) (h2 : xs.length ≤ 1000000) (h3 : ScOk xs)
    (k : ∀ p a b, 0 ≤ a → 0 ≤ b → b < 2305843009213693951 → Q (.ref p) ((p, .lst [.int a, .int b, .int 0]) :: C)) : Fr ct__law_begin ([.rdl xs, .int i] ++ []) C Q QX :=
  fr_i .nil ⟨xs, i, rfl, rfl, h1, h2, h3, k⟩
def ct__law_made (fx : Fx P w K mg base) : Ct := fun ds C P PX => ∃ (p : Addr) (a b c : Int), ds = [.ref p] ∧ C = [(p, .lst [.int a, .int b, .int c])] ∧ (0 ≤ a ∧ 0 ≤ b ∧ b < 2305843009213693951 ∧ 0 ≤ c ∧ c < 1000000) ∧
  ∀ t0 t1 t2 t3 t4 C', (t0 ∈ things ∧ t1 ∈ things ∧ t2 ∈ things ∧ t3 ∈ things ∧ t4 ∈ things) →
    P (.tup [.lst [.exv fx.C_BadModes [(50, t0)], .exv fx.C_NoKey [(51, t1)], .exv fx.C_NoText [(52, t2)], .exv fx.C_TooFar [(53, t3)], .exv fx.C_BadNumber [(54, t4)]], .lst [t0, t1, t2, t3, t4]]) C'
omit fx in
theorem sc__law_made : FnScope ["_law_pot", "_law_some", "_law_found", "_law_turn"] ["_law_pot"] (defScope (top 11)) := ⟨rfl, rfl, rfl, by decide +kernel, rfl, by decide +kernel, by decide +kernel⟩
theorem g__law_made : FnG P w K mg base 3 fx.f__law_made fx.fd__law_made ["_law_pot"] (ct__law_made fx) := by
  have sc := sc__law_made
  refine fn_g (k := 2) fx.F__law_made sc ?_ fun cdv A outer s H E hr hg => ⟨_, (scons (ssetLc 1 [("_law_turn", 3)] rfl sc.nd (irng1 fx.bn.range (ga_cons gint ga_nil)) (by decide) (by kernel_rfl) (fun _ _ _ _ _ => (pnm 3 sc.nd)) (fun _ _ _ _ _ => ts_nil) (fun _ _ _ _ _ => (gc (d__law_thing fx) hr (by decide) hg (ga_cons (gv 0) ga_nil)))) (scons (sif (teq hr (gc (d__law_draw fx) hr (by decide) hg (ga_cons (gv 0) (ga_cons gint ga_nil))) gint) (sone (sset 2 sc.nd (glst (ga_cons (gmkX 50 fx.m_BadModes (i_BadModes fx) (hr.mono (by decide)) (b_BadModes fx) fx.c_BadModes (ga_cons (gix (gv 1) gint) ga_nil)) (ga_cons (gmkX 51 fx.m_NoKey (i_NoKey fx) (hr.mono (by decide)) (b_NoKey fx) fx.c_NoKey (ga_cons (gix (gv 1) gint) ga_nil)) (ga_cons (gmkX 52 fx.m_NoText (i_NoText fx) (hr.mono (by decide)) (b_NoText fx) fx.c_NoText (ga_cons (gix (gv 1) gint) ga_nil)) (ga_cons (gmkX 53 fx.m_TooFar (i_TooFar fx) (hr.mono (by decide)) (b_TooFar fx) fx.c_TooFar (ga_cons (gix (gv 1) gint) ga_nil)) (ga_cons (gmkX 54 fx.m_BadNumber (i_BadNumber fx) (hr.mono (by decide)) (b_BadNumber fx) fx.c_BadNumber (ga_cons (gix (gv 1) gint) ga_nil)) ga_nil)))))))) (scons (sset 2 sc.nd (glstC (ga_cons (gmkXK 50 fx.m_BadModes (i_BadModes fx) (hr.mono (by decide)) (k_BadModes fx) fx.c_BadModes (gk_cons (gix (gv 1) gint) gk_nil)) (ga_cons (gmkXK 51 fx.m_NoKey (i_NoKey fx) (hr.mono (by decide)) (k_NoKey fx) fx.c_NoKey (gk_cons (gix (gv 1) gint) gk_nil)) (ga_cons (gmkXK 52 fx.m_NoText (i_NoText fx) (hr.mono (by decide)) (k_NoText fx) fx.c_NoText (gk_cons (gix (gv 1) gint) gk_nil)) (ga_cons (gmkXK 53 fx.m_TooFar (i_TooFar fx) (hr.mono (by decide)) (k_TooFar fx) fx.c_TooFar (gk_cons (gix (gv 1) gint) gk_nil)) ga_nil)))))) (sone (sexpr (bappend (gv 2) (ga_cons (gmkXK 54 fx.m_BadNumber (i_BadNumber fx) (hr.mono (by decide)) (k_BadNumber fx) fx.c_BadNumber (gk_cons (gix (gv 1) gint) gk_nil)) ga_nil)))))) (sone (sfz 2 (sret (gtup (ga_cons (gv 2) (ga_cons (gv 1) ga_nil)))))))), ?_⟩
  · rintro ds C Q QX ⟨p, a, b, c, rfl, _⟩
    rfl
  · rintro ds C Q QX ⟨p, a, b, c, rfl, rfl, ⟨h1, h2, h3, h4, h5⟩, k⟩
    walk_at "go"
    walk_at "st"
    refine ⟨⟨fun i acc C => ∃ a' c' : Int, acc.length = i ∧ (∀ d ∈ acc, d ∈ things) ∧ C = [(p, .lst [.int a', .int b, .int c'])] ∧ 0 ≤ a' ∧ 0 ≤ c' ∧ c' ≤ c + i, ⟨a, c, rfl, by simp, rfl, h1, h4, by omega⟩, ?_, ?_⟩⟩
    · rintro i d acc C hd ⟨a', c', hl, ht, rfl, g1, g2, g3⟩
      have hi : i < 5 := by
        have := (List.getElem?_eq_some_iff.mp hd).1
        rwa [rngL_len] at this
      walk_at "go"
      walk_at "st"
      refine use_thing (by walk_at "pick") (by walk_at "all") fun d a2 c2 e1 e2 e3 e4 => ⟨ble_le (by rw [hl, lim]; omega), a2, c2, by simp [hl], fun x hx => ?_, rfl, e2, e3, by omega⟩
      rcases List.mem_append.mp hx with hx | hx
      · exact ht x hx
      · rw [List.mem_singleton.mp hx]
        exact e1
    · rintro acc C ⟨a', c', hl, ht, rfl, g1, g2, g3⟩
      have hl5 : acc.length = 5 := by
        rw [hl, rngL_len]
        rfl
      match acc, hl5, ht with
      | [t0, t1, t2, t3, t4], _, ht =>
        have m : t0 ∈ things ∧ t1 ∈ things ∧ t2 ∈ things ∧ t3 ∈ things ∧ t4 ∈ things := ⟨ht t0 (by simp), ht t1 (by simp), ht t2 (by simp), ht t3 (by simp), ht t4 (by simp)⟩
        have g4 : c' ≤ c + 5 := by
          rw [rngL_len] at g3
          exact g3
        walk_at "go"
        walk_at "st"
        refine use_draw (by walk_at "pick") (by walk_at "all") fun j a2 c2 e1 e2 e3 e4 e5 => ?_
        walk_at "go"
        all_goals walk_at "st"
        · exact fin_i .nil (k t0 t1 t2 t3 t4 _ m)
        · intro q
          walk_at "go"
          walk_at "st"
          exact fin_i .nil (k t0 t1 t2 t3 t4 _ m)
theorem d__law_made : Df P w K mg base 3 "_law_made" ["_law_pot"] (ct__law_made fx) [] := df_plain fx.F__law_made fx.h__law_made (g__law_made fx) fun kV doc pm an cdv ct us hl => by
  match us, hl with
  | [_], _ => rfl
theorem use_made {p : Addr} {a b c : Int} {C R1 : Cells} {Q : PD} {QX : PXt} (pk : Pick C [(p, .lst [.int a, .int b, .int c])] R1) (h : 0 ≤ a ∧ 0 ≤ b ∧ b < 2305843009213693951 ∧ 0 ≤ c ∧ c < 1000000)
    (k : ∀ t0 t1 t2 t3 t4 C', (t0 ∈ things ∧ t1 ∈ things ∧ t2 ∈ things ∧ t3 ∈ things ∧ t4 ∈ things) →
    Q (.tup [.lst [.exv fx.C_BadModes [(50, t0)], .exv fx.C_NoKey [(51, t1)], .exv fx.C_NoText [(52, t2)], .exv fx.C_TooFar [(53, t3)], .exv fx.C_BadNumber [(54, t4)]], .lst [t0, t1, t2, t3, t4]]) C') : Fr (ct__law_made fx) ([.ref p] ++ []) C Q QX :=
  fr_i pk ⟨p, a, b, c, rfl, rfl, h, fun t0 t1 t2 t3 t4 C' m => k t0 t1 t2 t3 t4 _ m⟩
def ct__law_kinds (fx : Fx P w K mg base) : Ct := fun ds C P PX => ∃ (c : Addr) (fs : Flds) (b0 b1 b2 b3 b4 : Bool), ds = [.exv c fs] ∧ C = [] ∧ ExG K c ∧ PySem.W.kitOne K (.ref c) (.ref fx.C_BadModes) = some b0 ∧ PySem.W.kitOne K (.ref c) (.ref fx.C_NoKey) = some b1 ∧ PySem.W.kitOne K (.ref c) (.ref fx.C_NoText) = some b2 ∧
  PySem.W.kitOne K (.ref c) (.ref fx.C_TooFar) = some b3 ∧ PySem.W.kitOne K (.ref c) (.ref fx.C_BadNumber) = some b4 ∧ P (.lst [.bl b0, .bl b1, .bl b2, .bl b3, .bl b4]) []
omit fx in
theorem sc__law_kinds : FnScope ["_law_error", "_law_found"] ["_law_error"] (defScope (top 12)) := ⟨rfl, rfl, rfl, by decide +kernel, rfl, by decide +kernel, by decide +kernel⟩
theorem g__law_kinds : FnG P w K mg base 1 fx.f__law_kinds fx.fd__law_kinds ["_law_error"] (ct__law_kinds fx) := by
  have sc := sc__law_kinds
  refine fn_g (k := 0) fx.F__law_kinds sc ?_ fun cdv A outer s H E hr hg => ⟨_, (scons (sset 1 sc.nd (glst (ga_cons (bisi fx.bn (ga_cons (gv 0) (ga_cons (ggref rfl fx.c_BadModes) ga_nil))) (ga_cons (bisi fx.bn (ga_cons (gv 0) (ga_cons (ggref rfl fx.c_NoKey) ga_nil))) (ga_cons (bisi fx.bn (ga_cons (gv 0) (ga_cons (ggref rfl fx.c_NoText) ga_nil))) ga_nil))))) (sone (sret (gadd (gv 1) (glst (ga_cons (bisi fx.bn (ga_cons (gv 0) (ga_cons (ggref rfl fx.c_TooFar) ga_nil))) (ga_cons (bisi fx.bn (ga_cons (gv 0) (ga_cons (ggref rfl fx.c_BadNumber) ga_nil))) ga_nil))))))), ?_⟩
  · rintro ds C Q QX ⟨c, fs, b0, b1, b2, b3, b4, rfl, _⟩
    rfl
  · rintro ds C Q QX ⟨c, fs, b0, b1, b2, b3, b4, rfl, rfl, hx, g0, g1, g2, g3, g4, k⟩
    walk_at "st"
    refine isi_i (.exv fs hx) rfl g0 ?_
    walk_at "st"
    refine isi_i (.exv fs hx) rfl g1 ?_
    walk_at "st"
    refine isi_i (.exv fs hx) rfl g2 ?_
    walk_at "go"
    walk_at "st"
    refine isi_i (.exv fs hx) rfl g3 ?_
    walk_at "st"
    refine isi_i (.exv fs hx) rfl g4 ?_
    walk_at "go"
    walk_at "st"
    exact fin_i .nil k
theorem d__law_kinds : Df P w K mg base 1 "_law_kinds" ["_law_error"] (ct__law_kinds fx) [] := df_plain fx.F__law_kinds fx.h__law_kinds (g__law_kinds fx) fun kV doc pm an cdv ct us hl => by
  match us, hl with
  | [_], _ => rfl
def ct__law_value (K : PySem.W.Frag) : Ct := fun ds C P PX => ∃ (c : Addr) (n : Nat) (d : D) (i : Int), ds = [.exv c [(n, d)], .int i] ∧ C = [] ∧ AtX K c n ∧ (i = 0 ∧ n = 50 ∨ i = 1 ∧ n = 51 ∨ i = 2 ∧ n = 52 ∨ i = 3 ∧ n = 53 ∨ i = 4 ∧ n = 54) ∧ P d []
omit fx in
theorem sc__law_value : FnScope ["_law_error", "_law_at"] ["_law_error", "_law_at"] (defScope (top 13)) := ⟨rfl, rfl, rfl, by decide +kernel, rfl, by decide +kernel, by decide +kernel⟩
theorem g__law_value : FnG P w K mg base 1 fx.f__law_value fx.fd__law_value ["_law_error", "_law_at"] (ct__law_value K) := by
  have sc := sc__law_value
  refine fn_g (k := 0) fx.F__law_value sc ?_ fun cdv A outer s H E hr hg => ⟨_, (scons (sif (teq hr (gv 1) gint) (sone (sret (gfld 50 (gv 0)))) snil) (scons (sif (teq hr (gv 1) gint) (sone (sret (gfld 51 (gv 0)))) snil) (scons (sif (teq hr (gv 1) gint) (sone (sret (gfld 52 (gv 0)))) snil) (sone (sret (gife (teq hr (gv 1) gint) (gfld 53 (gv 0)) (gfld 54 (gv 0)))))))), ?_⟩
  · rintro ds C Q QX ⟨c, n, d, i, rfl, _⟩
    rfl
  · rintro ds C Q QX ⟨c, n, d, i, rfl, rfl, hx, hi, k⟩
    rcases hi with ⟨rfl, rfl⟩ | ⟨rfl, rfl⟩ | ⟨rfl, rfl⟩ | ⟨rfl, rfl⟩ | ⟨rfl, rfl⟩
    all_goals walk_at "go"
    all_goals walk_at "st"
    all_goals exact fin_i .nil k
theorem d__law_value : Df P w K mg base 1 "_law_value" ["_law_error", "_law_at"] (ct__law_value K) [] := df_plain fx.F__law_value fx.h__law_value (g__law_value fx) fun kV doc pm an cdv ct us hl => by
  match us, hl with
  | [_, _], _ => rfl
omit fx in
theorem cutL_4 {xs : List D} : (cutL xs none (some 4)).length ≤ 4 := by
  unfold cutL
  rw [List.length_take]
  have h : HT.sIx xs.length xs.length (some 4) ≤ 4 := by
    unfold HT.sIx
    show (if (4 : Int) < 0 then _ else min (Int.toNat 4) xs.length) ≤ 4
    rw [if_neg (by decide)]
    exact Nat.min_le_left _ _
  omega
omit fx in
theorem comp_spots {x0 x1 x2 x3 x4 x6 x7 : Option D} {at_ : Int} {C : Cells} {fin : List D → Cells → Prop} (h : fin ((List.range 5).map fun s => D.bl (decide ((0 : Int) + ((s : Nat) : Int) = at_))) C) :
    CompW (Pat.nm 7) lYesT (lOp eqD (lVar 7) (lVar 5)) [7] [x0, x1, x2, x3, x4, some (.int at_), x6, x7] (rngL 0 (Int.toNat 5)) C fin := by
  refine ⟨⟨fun i acc C3 => acc = (List.range i).map (fun s => D.bl (decide ((0 : Int) + ((s : Nat) : Int) = at_))) ∧ C3 = C, ⟨rfl, rfl⟩, ?_, ?_⟩⟩
  · rintro i d acc C3 hd ⟨rfl, rfl⟩
    have hi : i < 5 := by
      have := (List.getElem?_eq_some_iff.mp hd).1
      rwa [rngL_len] at this
    rw [rngL_get (by exact hi)] at hd
    cases hd
    walk_at "st"
    refine ⟨ble_le (by rw [List.length_map, List.length_range, lim]; omega), ?_, rfl⟩
    rw [List.range_succ, List.map_append]
    rfl
  · rintro acc C3 ⟨rfl, rfl⟩
    exact h
omit fx in
theorem things_ok : (things.all fun t => isPy t && (py t).showable && SeqAt.shaped (py t) && decide ((py t).shown.length ≤ 1000)) = true := by
  decide +kernel
omit fx in
theorem thing_ok {t : D} (h : t ∈ things) : isPy t = true ∧ (py t).showable = true ∧ SeqAt.shaped (py t) = true ∧ (py t).shown.length ≤ sizeLine := by
  have q := List.all_eq_true.mp things_ok t h
  simp only [Bool.and_eq_true, decide_eq_true_eq] at q
  exact ⟨q.1.1.1, q.1.1.2, q.1.2, by rw [sizeLine_eq]; omega⟩
def ct_law : Ct := fun ds C P PX => ∃ (xs : List D), ds = [.rdl xs] ∧ C = [] ∧ xs.length ≤ 1000000 ∧ ScOk xs ∧ ∀ C', P (.bl true) C'
omit fx in
theorem sc_law : FnScope ["_law_script", "_law_k", "_law_pot", "_law_errors", "_law_things", "_law_at", "_law_error", "_law_spot"] ["_law_script"] (defScope (top 14)) := ⟨rfl, rfl, rfl, by decide +kernel, rfl, by decide +kernel, by decide +kernel⟩
theorem g_law : FnG P w K mg base 4 fx.f_law fx.fd_law ["_law_script"] (ct_law) := by
  have sc := sc_law
  refine fn_g (k := 3) fx.F_law sc ?_ fun cdv A outer s H E hr hg => ⟨_, (scons (sfor (passes_of rfl) rfl (irng1 fx.bn.range (ga_cons (gadd gint (blen fx.bn (ga_cons (gsl (gv 0) ono (oyes gint)) ga_nil))) ga_nil)) (pnm 1 sc.nd) (scons (sset 2 sc.nd (gc (d__law_begin fx) hr (by decide) hg (ga_cons (gv 0) (ga_cons (gv 1) ga_nil)))) (scons (sasgp (gc (d__law_made fx) hr (by decide) hg (ga_cons (gv 2) ga_nil)) (ptp rfl (pcons (pnm 3 sc.nd) (pcons (pnm 4 sc.nd) pnil)))) (sone (sfor (passes_of rfl) rfl (ienum fx.bn.enumerate (ga_cons (gv 3) ga_nil)) (ptp rfl (pcons (pnm 5 sc.nd) (pcons (pnm 6 sc.nd) pnil))) (scons (sif (tw (wor (tnot (tv (bisi fx.bn (ga_cons (gv 6) (ga_cons (ggref rfl fx.c_LineError) ga_nil))))) (wor1 (tnot (tv (bisi fx.bn (ga_cons (gv 6) (ga_cons (tyve fx.bn) ga_nil)))))))) (sone (sret gbl)) snil) (scons (sif (tne hr (gc (d__law_kinds fx) hr (by decide) hg (ga_cons (gv 6) ga_nil)) (glc [("_law_spot", 7)] rfl sc.nd (irng1 fx.bn.range (ga_cons gint ga_nil)) (by decide) (by kernel_rfl) (fun _ _ _ _ _ => (pnm 7 sc.nd)) (fun _ _ _ _ _ => ts_nil) (fun _ _ _ _ _ => (geq hr (gv 7) (gv 5))))) (sone (sret gbl)) snil) (sone (sif (tne hr (brepr fx.bn hr hg (ga_cons (gc (d__law_value fx) hr (by decide) hg (ga_cons (gv 6) (ga_cons (gv 5) ga_nil))) ga_nil)) (brepr fx.bn hr hg (ga_cons (gix (gv 4) (gv 5)) ga_nil))) (sone (sret gbl)) snil))))))))) (sone (sret gbl))), ?_⟩
  · rintro ds C Q QX ⟨xs, rfl, _⟩
    rfl
  · rintro ds C Q QX ⟨xs, rfl, rfl, hl, hx, k⟩
    have hz := cutL_len xs none (some 4)
    walk_at "go"
    walk_at "st"
    refine ⟨fun i δ C => ∃ (o1 o2 o3 o4 o5 o6 : Option D), δ = [some (.rdl xs), o1, o2, o3, o4, o5, o6, none], ⟨_, _, _, _, _, _, rfl⟩, ?_, ?_⟩
    · rintro i d δ C hd ⟨o1, o2, o3, o4, o5, o6, rfl⟩
      have hi := (List.getElem?_eq_some_iff.mp hd).1
      rw [rngL_len] at hi
      rw [rngL_get hi] at hd
      cases hd
      walk_at "go"
      walk_at "st"
      have hi2 : (0 : Int) + (i : Int) < 1000000 := by
        have z4 : (cutL xs none (some 4)).length ≤ 4 := cutL_4
        omega
      refine use_begin ⟨by omega, hi2⟩ hl hx fun p a b g1 g2 g3 => ?_
      walk_at "go"
      walk_at "st"
      refine use_made fx (by walk_at "pick") (by walk_at "all") fun t0 t1 t2 t3 t4 C' m => ?_
      walk_at "go"
      walk_at "st"
      have ok0 := thing_ok m.1
      have ok1 := thing_ok m.2.1
      have ok2 := thing_ok m.2.2.1
      have ok3 := thing_ok m.2.2.2.1
      have ok4 := thing_ok m.2.2.2.2
      have e_BadModes := fx.e_BadModes
      have x_BadModes : AtX K fx.C_BadModes 50 := ⟨fx.e_BadModes, fx.m_BadModes.nof⟩
      have t_BadModes_BadModes := fx.t_BadModes_BadModes
      have t_BadModes_NoKey := fx.t_BadModes_NoKey
      have t_BadModes_NoText := fx.t_BadModes_NoText
      have t_BadModes_TooFar := fx.t_BadModes_TooFar
      have t_BadModes_BadNumber := fx.t_BadModes_BadNumber
      have t_BadModes_LineError := fx.t_BadModes_LineError
      have t_BadModes_ValueError := fx.t_BadModes_ValueError
      have e_NoKey := fx.e_NoKey
      have x_NoKey : AtX K fx.C_NoKey 51 := ⟨fx.e_NoKey, fx.m_NoKey.nof⟩
      have t_NoKey_BadModes := fx.t_NoKey_BadModes
      have t_NoKey_NoKey := fx.t_NoKey_NoKey
      have t_NoKey_NoText := fx.t_NoKey_NoText
      have t_NoKey_TooFar := fx.t_NoKey_TooFar
      have t_NoKey_BadNumber := fx.t_NoKey_BadNumber
      have t_NoKey_LineError := fx.t_NoKey_LineError
      have t_NoKey_ValueError := fx.t_NoKey_ValueError
      have e_NoText := fx.e_NoText
      have x_NoText : AtX K fx.C_NoText 52 := ⟨fx.e_NoText, fx.m_NoText.nof⟩
      have t_NoText_BadModes := fx.t_NoText_BadModes
      have t_NoText_NoKey := fx.t_NoText_NoKey
      have t_NoText_NoText := fx.t_NoText_NoText
      have t_NoText_TooFar := fx.t_NoText_TooFar
      have t_NoText_BadNumber := fx.t_NoText_BadNumber
      have t_NoText_LineError := fx.t_NoText_LineError
      have t_NoText_ValueError := fx.t_NoText_ValueError
      have e_TooFar := fx.e_TooFar
      have x_TooFar : AtX K fx.C_TooFar 53 := ⟨fx.e_TooFar, fx.m_TooFar.nof⟩
      have t_TooFar_BadModes := fx.t_TooFar_BadModes
      have t_TooFar_NoKey := fx.t_TooFar_NoKey
      have t_TooFar_NoText := fx.t_TooFar_NoText
      have t_TooFar_TooFar := fx.t_TooFar_TooFar
      have t_TooFar_BadNumber := fx.t_TooFar_BadNumber
      have t_TooFar_LineError := fx.t_TooFar_LineError
      have t_TooFar_ValueError := fx.t_TooFar_ValueError
      have e_BadNumber := fx.e_BadNumber
      have x_BadNumber : AtX K fx.C_BadNumber 54 := ⟨fx.e_BadNumber, fx.m_BadNumber.nof⟩
      have t_BadNumber_BadModes := fx.t_BadNumber_BadModes
      have t_BadNumber_NoKey := fx.t_BadNumber_NoKey
      have t_BadNumber_NoText := fx.t_BadNumber_NoText
      have t_BadNumber_TooFar := fx.t_BadNumber_TooFar
      have t_BadNumber_BadNumber := fx.t_BadNumber_BadNumber
      have t_BadNumber_LineError := fx.t_BadNumber_LineError
      have t_BadNumber_ValueError := fx.t_BadNumber_ValueError
      refine ⟨fun i2 δ C => ∃ (o5 o6 : Option D), δ = [some (.rdl xs), some (.int (0 + (i : Int))), some (.ref p), some (.lst [.exv fx.C_BadModes [(50, t0)], .exv fx.C_NoKey [(51, t1)], .exv fx.C_NoText [(52, t2)], .exv fx.C_TooFar [(53, t3)], .exv fx.C_BadNumber [(54, t4)]]), some (.lst [t0, t1, t2, t3, t4]), o5, o6, none], ⟨_, _, rfl⟩, ?_, ?_⟩
      · rintro j d δ C hd ⟨o5, o6, rfl⟩
        rcases j with _ | _ | _ | _ | _ | j
        all_goals first | cases hd | skip
        all_goals walk_at "st"
        all_goals refine isi_i (.exv _ (by assumption)) rfl (by assumption) ?_
        all_goals walk_at "st"
        all_goals refine isi_i (.exv _ (by assumption)) rfl (by assumption) ?_
        all_goals walk_at "st"
        all_goals refine fr_i .nil ⟨_, _, _, _, _, _, _, rfl, rfl, by assumption, by assumption, by assumption, by assumption, by assumption, by assumption, ?_⟩
        all_goals walk_at "go"
        all_goals refine comp_spots ?_
        all_goals walk_at "go"
        all_goals walk_at "st"
        all_goals refine fr_i .nil ⟨_, _, _, _, rfl, rfl, by assumption, by simp, ?_⟩
        all_goals walk_at "st"
        · refine pyV_of ok0.1 ⟨ok0.2.1, ok0.2.2.1, ok0.2.2.2, ?_⟩
          walk_at "st"
          refine pyV_of ok0.1 ⟨ok0.2.1, ok0.2.2.1, ok0.2.2.2, ?_⟩
          walk_at "go"
          walk_at "st"
          exact ⟨_, _, rfl⟩
        · refine pyV_of ok1.1 ⟨ok1.2.1, ok1.2.2.1, ok1.2.2.2, ?_⟩
          walk_at "st"
          refine pyV_of ok1.1 ⟨ok1.2.1, ok1.2.2.1, ok1.2.2.2, ?_⟩
          walk_at "go"
          walk_at "st"
          exact ⟨_, _, rfl⟩
        · refine pyV_of ok2.1 ⟨ok2.2.1, ok2.2.2.1, ok2.2.2.2, ?_⟩
          walk_at "st"
          refine pyV_of ok2.1 ⟨ok2.2.1, ok2.2.2.1, ok2.2.2.2, ?_⟩
          walk_at "go"
          walk_at "st"
          exact ⟨_, _, rfl⟩
        · refine pyV_of ok3.1 ⟨ok3.2.1, ok3.2.2.1, ok3.2.2.2, ?_⟩
          walk_at "st"
          refine pyV_of ok3.1 ⟨ok3.2.1, ok3.2.2.1, ok3.2.2.2, ?_⟩
          walk_at "go"
          walk_at "st"
          exact ⟨_, _, rfl⟩
        · refine pyV_of ok4.1 ⟨ok4.2.1, ok4.2.2.1, ok4.2.2.2, ?_⟩
          walk_at "st"
          refine pyV_of ok4.1 ⟨ok4.2.1, ok4.2.2.1, ok4.2.2.2, ?_⟩
          walk_at "go"
          walk_at "st"
          exact ⟨_, _, rfl⟩
      · rintro δ C ⟨o5, o6, rfl⟩
        walk_at "st"
        exact ⟨_, _, _, _, _, _, rfl⟩
    · rintro δ C ⟨o1, o2, o3, o4, o5, o6, rfl⟩
      walk_at "st"
      exact fin_i .nil (k _)
theorem d_law : Df P w K mg base 4 "law" ["_law_script"] (ct_law) [] := df_plain fx.F_law fx.h_law (g_law fx) fun kV doc pm an cdv ct us hl => by
  match us, hl with
  | [_], _ => rfl
end
theorem law_says (ns : List Int) (hl : ns.length ≤ 63) (hb : ∀ i ∈ ns, i.natAbs < 2 ^ 2000000) : ct_law [.rdl (ns.map D.int)] [] (fun d _ => d = .bl true) fun _ _ => False := by
  refine ⟨_, rfl, rfl, by rw [List.length_map]; omega, fun d hd => ?_, fun _ => rfl⟩
  obtain ⟨i, hi, rfl⟩ := List.mem_map.mp hd
  exact ⟨i, rfl, hb i hi⟩
abbrev dd (a : Str) (m : Option Str) (x q : Str) (st : Stmt) (dfl : List He.Dv := []) (kwd : List (Str × He.Dv) := []) : He.DefD := ⟨(a, m), x, q, defArgs st, defBody st, defScope st, dfl, kwd⟩
def fn : List He.DefD := [
  dd "BadModes" (some "__init__") "__init__" "BadModes.__init__" (inClass (top 2) 0) [] [],
  dd "NoKey" (some "__init__") "__init__" "NoKey.__init__" (inClass (top 3) 0) [] [],
  dd "NoText" (some "__init__") "__init__" "NoText.__init__" (inClass (top 4) 0) [] [],
  dd "TooFar" (some "__init__") "__init__" "TooFar.__init__" (inClass (top 5) 0) [] [],
  dd "BadNumber" (some "__init__") "__init__" "BadNumber.__init__" (inClass (top 6) 0) [] [],
  dd "_law_begin" none "_law_begin" "_law_begin" (top 8) [] [],
  dd "_law_draw" none "_law_draw" "_law_draw" (top 9) [] [],
  dd "_law_thing" none "_law_thing" "_law_thing" (top 10) [] [],
  dd "_law_made" none "_law_made" "_law_made" (top 11) [] [],
  dd "_law_kinds" none "_law_kinds" "_law_kinds" (top 12) [] [],
  dd "_law_value" none "_law_value" "_law_value" (top 13) [] [],
  dd "law" none "law" "law" (top 14) [] []]
def fa : List He.Fa := bnFree ++ [.glo "LineError", .glo "BadModes", .glo "NoKey", .glo "NoText", .glo "TooFar", .glo "BadNumber", .glo "_law_begin", .glo "_law_draw", .glo "_law_thing", .glo "_law_made", .glo "_law_kinds", .glo "_law_value", .glo "law"]
def names : List Str := (["LineError", "BadModes", "NoKey", "NoText", "TooFar", "BadNumber", "_law_begin", "_law_draw", "_law_thing", "_law_made", "_law_kinds", "_law_value"] : List Str)
def chkL (K : PySem.W.Frag) : List Bool := [
  baseXB K (He.ga K "LineError"),
  exGB K (He.ga K "BadModes"),
  mkEB K (He.ga K "BadModes") (He.fAd K ("BadModes", some "__init__")) (atn 50),
  kitB1 K (He.ga K "BadModes") (.ref (He.ga K "BadModes")) true,
  kitB1 K (He.ga K "BadModes") (.ref (He.ga K "NoKey")) false,
  kitB1 K (He.ga K "BadModes") (.ref (He.ga K "NoText")) false,
  kitB1 K (He.ga K "BadModes") (.ref (He.ga K "TooFar")) false,
  kitB1 K (He.ga K "BadModes") (.ref (He.ga K "BadNumber")) false,
  kitB1 K (He.ga K "BadModes") (.ref (He.ga K "LineError")) true,
  kitB1 K (He.ga K "BadModes") (.type "ValueError") true,
  exGB K (He.ga K "NoKey"),
  mkEB K (He.ga K "NoKey") (He.fAd K ("NoKey", some "__init__")) (atn 51),
  kitB1 K (He.ga K "NoKey") (.ref (He.ga K "BadModes")) false,
  kitB1 K (He.ga K "NoKey") (.ref (He.ga K "NoKey")) true,
  kitB1 K (He.ga K "NoKey") (.ref (He.ga K "NoText")) false,
  kitB1 K (He.ga K "NoKey") (.ref (He.ga K "TooFar")) false,
  kitB1 K (He.ga K "NoKey") (.ref (He.ga K "BadNumber")) false,
  kitB1 K (He.ga K "NoKey") (.ref (He.ga K "LineError")) true,
  kitB1 K (He.ga K "NoKey") (.type "ValueError") true,
  exGB K (He.ga K "NoText"),
  mkEB K (He.ga K "NoText") (He.fAd K ("NoText", some "__init__")) (atn 52),
  kitB1 K (He.ga K "NoText") (.ref (He.ga K "BadModes")) false,
  kitB1 K (He.ga K "NoText") (.ref (He.ga K "NoKey")) false,
  kitB1 K (He.ga K "NoText") (.ref (He.ga K "NoText")) true,
  kitB1 K (He.ga K "NoText") (.ref (He.ga K "TooFar")) false,
  kitB1 K (He.ga K "NoText") (.ref (He.ga K "BadNumber")) false,
  kitB1 K (He.ga K "NoText") (.ref (He.ga K "LineError")) true,
  kitB1 K (He.ga K "NoText") (.type "ValueError") true,
  exGB K (He.ga K "TooFar"),
  mkEB K (He.ga K "TooFar") (He.fAd K ("TooFar", some "__init__")) (atn 53),
  kitB1 K (He.ga K "TooFar") (.ref (He.ga K "BadModes")) false,
  kitB1 K (He.ga K "TooFar") (.ref (He.ga K "NoKey")) false,
  kitB1 K (He.ga K "TooFar") (.ref (He.ga K "NoText")) false,
  kitB1 K (He.ga K "TooFar") (.ref (He.ga K "TooFar")) true,
  kitB1 K (He.ga K "TooFar") (.ref (He.ga K "BadNumber")) false,
  kitB1 K (He.ga K "TooFar") (.ref (He.ga K "LineError")) true,
  kitB1 K (He.ga K "TooFar") (.type "ValueError") true,
  exGB K (He.ga K "BadNumber"),
  mkEB K (He.ga K "BadNumber") (He.fAd K ("BadNumber", some "__init__")) (atn 54),
  kitB1 K (He.ga K "BadNumber") (.ref (He.ga K "BadModes")) false,
  kitB1 K (He.ga K "BadNumber") (.ref (He.ga K "NoKey")) false,
  kitB1 K (He.ga K "BadNumber") (.ref (He.ga K "NoText")) false,
  kitB1 K (He.ga K "BadNumber") (.ref (He.ga K "TooFar")) false,
  kitB1 K (He.ga K "BadNumber") (.ref (He.ga K "BadNumber")) true,
  kitB1 K (He.ga K "BadNumber") (.ref (He.ga K "LineError")) true,
  kitB1 K (He.ga K "BadNumber") (.type "ValueError") true]
def chk (K : PySem.W.Frag) : Bool := (chkL K).all id
theorem chk_get {K : PySem.W.Frag} (h : chk K = true) (i : Nat) {b : Bool} (e : (chkL K)[i]? = some b := by rfl) : b = true := List.all_eq_true.mp h b (List.mem_of_getElem? e)
abbrev R : PySem.W.OpenRow := PySem.W.OpenLaw.row PySem.Challenge.rw_keyedline_k06_refusals_by_hand
def as : List Addr := List.range 1500
abbrev hk : PySem.W.Hook := hookG as fa fn chk
theorem run (w : World) : HandSHeadRun.RunEq R (PySem.W.view R.prog [14]) hk (obG as fa fn chk) 6000 names w := by
  intro os
  kernel_rfl
theorem facts {P : Program} {w : World} {K : PySem.W.Frag} {h : Heap} {mg : Str → Option Value} (X : K.In h) (G : h.Ns mainGlobals mg) (c : He.SaysD fa fn K) (ck : chk K = true) : ∃ fd : FuncData, (∀ (s : Shared) (u : Value), BindsTo s fd ⟨[u], []⟩ [("_law_script", u)]) ∧ ∀ base : Heap, FnG P w K mg base 4 (He.ga K "law") fd ["_law_script"] ct_law := by
  obtain ⟨fd0, F0⟩ := c.def_ 0 rfl
  obtain ⟨fd1, F1⟩ := c.def_ 1 rfl
  obtain ⟨fd2, F2⟩ := c.def_ 2 rfl
  obtain ⟨fd3, F3⟩ := c.def_ 3 rfl
  obtain ⟨fd4, F4⟩ := c.def_ 4 rfl
  obtain ⟨fd5, F5⟩ := c.def_ 5 rfl
  obtain ⟨fd6, F6⟩ := c.def_ 6 rfl
  obtain ⟨fd7, F7⟩ := c.def_ 7 rfl
  obtain ⟨fd8, F8⟩ := c.def_ 8 rfl
  obtain ⟨fd9, F9⟩ := c.def_ 9 rfl
  obtain ⟨fd10, F10⟩ := c.def_ 10 rfl
  obtain ⟨fd11, F11⟩ := c.def_ 11 rfl
  let fx : ∀ base : Heap, Fx P w K mg base := fun base => {
    bn := bn_ok X G c
    C_BadModes := He.ga K "BadModes"
    c_BadModes := He.glo_ok X G (c.fact 22 (f := .glo "BadModes") rfl)
    C_NoKey := He.ga K "NoKey"
    c_NoKey := He.glo_ok X G (c.fact 23 (f := .glo "NoKey") rfl)
    C_NoText := He.ga K "NoText"
    c_NoText := He.glo_ok X G (c.fact 24 (f := .glo "NoText") rfl)
    C_TooFar := He.ga K "TooFar"
    c_TooFar := He.glo_ok X G (c.fact 25 (f := .glo "TooFar") rfl)
    C_BadNumber := He.ga K "BadNumber"
    c_BadNumber := He.glo_ok X G (c.fact 26 (f := .glo "BadNumber") rfl)
    C_LineError := He.ga K "LineError"
    c_LineError := He.glo_ok X G (c.fact 21 (f := .glo "LineError") rfl)
    f_BadModes___init__ := He.fAd K ("BadModes", some "__init__")
    fd_BadModes___init__ := fd0
    F_BadModes___init__ := F0
    f_NoKey___init__ := He.fAd K ("NoKey", some "__init__")
    fd_NoKey___init__ := fd1
    F_NoKey___init__ := F1
    f_NoText___init__ := He.fAd K ("NoText", some "__init__")
    fd_NoText___init__ := fd2
    F_NoText___init__ := F2
    f_TooFar___init__ := He.fAd K ("TooFar", some "__init__")
    fd_TooFar___init__ := fd3
    F_TooFar___init__ := F3
    f_BadNumber___init__ := He.fAd K ("BadNumber", some "__init__")
    fd_BadNumber___init__ := fd4
    F_BadNumber___init__ := F4
    f__law_begin := He.fAd K ("_law_begin", none)
    fd__law_begin := fd5
    F__law_begin := F5
    h__law_begin := He.glo_ok X G (c.fact 27 (f := .glo "_law_begin") rfl)
    f__law_draw := He.fAd K ("_law_draw", none)
    fd__law_draw := fd6
    F__law_draw := F6
    h__law_draw := He.glo_ok X G (c.fact 28 (f := .glo "_law_draw") rfl)
    f__law_thing := He.fAd K ("_law_thing", none)
    fd__law_thing := fd7
    F__law_thing := F7
    h__law_thing := He.glo_ok X G (c.fact 29 (f := .glo "_law_thing") rfl)
    f__law_made := He.fAd K ("_law_made", none)
    fd__law_made := fd8
    F__law_made := F8
    h__law_made := He.glo_ok X G (c.fact 30 (f := .glo "_law_made") rfl)
    f__law_kinds := He.fAd K ("_law_kinds", none)
    fd__law_kinds := fd9
    F__law_kinds := F9
    h__law_kinds := He.glo_ok X G (c.fact 31 (f := .glo "_law_kinds") rfl)
    f__law_value := He.fAd K ("_law_value", none)
    fd__law_value := fd10
    F__law_value := F10
    h__law_value := He.glo_ok X G (c.fact 32 (f := .glo "_law_value") rfl)
    f_law := He.fAd K ("law", none)
    fd_law := fd11
    F_law := F11
    h_law := He.glo_ok X G (c.fact 33 (f := .glo "law") rfl)
    bx := baseX_ok (chk_get ck 0)
    e_BadModes := exG_ok (chk_get ck 1)
    m_BadModes := mkE_ok (chk_get ck 2)
    t_BadModes_BadModes := of_decide_eq_true (chk_get ck 3)
    t_BadModes_NoKey := of_decide_eq_true (chk_get ck 4)
    t_BadModes_NoText := of_decide_eq_true (chk_get ck 5)
    t_BadModes_TooFar := of_decide_eq_true (chk_get ck 6)
    t_BadModes_BadNumber := of_decide_eq_true (chk_get ck 7)
    t_BadModes_LineError := of_decide_eq_true (chk_get ck 8)
    t_BadModes_ValueError := of_decide_eq_true (chk_get ck 9)
    e_NoKey := exG_ok (chk_get ck 10)
    m_NoKey := mkE_ok (chk_get ck 11)
    t_NoKey_BadModes := of_decide_eq_true (chk_get ck 12)
    t_NoKey_NoKey := of_decide_eq_true (chk_get ck 13)
    t_NoKey_NoText := of_decide_eq_true (chk_get ck 14)
    t_NoKey_TooFar := of_decide_eq_true (chk_get ck 15)
    t_NoKey_BadNumber := of_decide_eq_true (chk_get ck 16)
    t_NoKey_LineError := of_decide_eq_true (chk_get ck 17)
    t_NoKey_ValueError := of_decide_eq_true (chk_get ck 18)
    e_NoText := exG_ok (chk_get ck 19)
    m_NoText := mkE_ok (chk_get ck 20)
    t_NoText_BadModes := of_decide_eq_true (chk_get ck 21)
    t_NoText_NoKey := of_decide_eq_true (chk_get ck 22)
    t_NoText_NoText := of_decide_eq_true (chk_get ck 23)
    t_NoText_TooFar := of_decide_eq_true (chk_get ck 24)
    t_NoText_BadNumber := of_decide_eq_true (chk_get ck 25)
    t_NoText_LineError := of_decide_eq_true (chk_get ck 26)
    t_NoText_ValueError := of_decide_eq_true (chk_get ck 27)
    e_TooFar := exG_ok (chk_get ck 28)
    m_TooFar := mkE_ok (chk_get ck 29)
    t_TooFar_BadModes := of_decide_eq_true (chk_get ck 30)
    t_TooFar_NoKey := of_decide_eq_true (chk_get ck 31)
    t_TooFar_NoText := of_decide_eq_true (chk_get ck 32)
    t_TooFar_TooFar := of_decide_eq_true (chk_get ck 33)
    t_TooFar_BadNumber := of_decide_eq_true (chk_get ck 34)
    t_TooFar_LineError := of_decide_eq_true (chk_get ck 35)
    t_TooFar_ValueError := of_decide_eq_true (chk_get ck 36)
    e_BadNumber := exG_ok (chk_get ck 37)
    m_BadNumber := mkE_ok (chk_get ck 38)
    t_BadNumber_BadModes := of_decide_eq_true (chk_get ck 39)
    t_BadNumber_NoKey := of_decide_eq_true (chk_get ck 40)
    t_BadNumber_NoText := of_decide_eq_true (chk_get ck 41)
    t_BadNumber_TooFar := of_decide_eq_true (chk_get ck 42)
    t_BadNumber_BadNumber := of_decide_eq_true (chk_get ck 43)
    t_BadNumber_LineError := of_decide_eq_true (chk_get ck 44)
    t_BadNumber_ValueError := of_decide_eq_true (chk_get ck 45)
  }
  have b := FunD.bindsA (ps := ["_law_script"]) F11 fun _ _ _ _ _ _ us hl => match us, hl with | [_], _ => rfl
  exact ⟨fd11, fun s u => b s [u] rfl, fun base => g_law (fx base)⟩
end Lw
open PySem PySem.W PySem.Calls PyProof.Rows
theorem PySem.Challenge.cw_keyedline_k06_refusals_by_hand_holds : PySem.Challenge.rw_keyedline_k06_refusals_by_hand.Holds := by
  w_on; o_law
  refine HandSHeadRun.head_any (r := OpenLaw.row PySem.Challenge.rw_keyedline_k06_refusals_by_hand) (q := view (OpenLaw.row PySem.Challenge.rw_keyedline_k06_refusals_by_hand).prog [14]) (H := Lw.hk) (ob := G.obG Lw.as Lw.fa Lw.fn Lw.chk) (M := 6000) (loose := Lw.names) (d := HandSHeadRun.topDef (OpenLaw.row PySem.Challenge.rw_keyedline_k06_refusals_by_hand).prog 14) (kwd := []) G.obG_eq
    (by kernel_rfl) (fun s => by kernel_rfl) Lw.run (by kernel_rfl) (by kernel_rfl) (by kernel_rfl) (by rfl) (by first | assumption | decide +kernel) (by decide +kernel) ⟨rfl, rfl, rfl, rfl, rfl, by decide +kernel⟩ ?hw ?hc
  case hw => w_witness2
  case hc =>
    refine G.walkG (l := PySem.Challenge.rw_keyedline_k06_refusals_by_hand) (n := 63) (k := 4) (x := "_law_script") rfl (by decide) (by kernel_rfl) ⟨rfl, by decide, by decide⟩ rfl ?F
    intro w mg fa h Y Gs hmg0
    obtain ⟨K, KX, c, ck⟩ := Y
    have hmg : mg ("law" : PySem.Str) = some (.ref fa) := by
      have e : (HandSHeadRun.topDef (OpenLaw.row PySem.Challenge.rw_keyedline_k06_refusals_by_hand).prog 14).name = ("law" : PySem.Str) := by kernel_rfl
      rw [← e]
      exact hmg0
    have eg := hmg.symm.trans (He.glo_ok KX Gs (c.fact 33 (f := .glo "law") rfl))
    cases eg
    obtain ⟨fd, hb, hF⟩ := Lw.facts (P := (PySem.Challenge.rw_keyedline_k06_refusals_by_hand).prog) (w := w) KX Gs c ck
    exact ⟨K, fd, Lw.ct_law, KX, hb, Lw.law_says, fun base _ _ => hF base⟩
