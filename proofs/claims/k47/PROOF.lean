import PyProof.Rows.All
import Wide.All
import OpenK.AllK
import Wide.FinOn
import HandS.ForMost
import HandS.ForExc
import HandS.Wide
import HandS.IsInst
import HandS.Zip
import HandS.Defaults
import HandS.CallSlots
import HandS.Flow
import HandS.TupAny
import HandS.Walk
import HandS.Style
import HandS.RaiseMore
import HandS.NoneIn
import HandS.Head0
import HandS.Head1
import HandS.Head2
import HandS.HeadEnd
import HandS.HeadHook1
import HandS.HeadHook2
import PySem.Challenge.RW_pegwishes_k47_cells_of_hoops_and_pegs
set_option Elab.async false
set_option linter.all false
set_option maxRecDepth 100000
set_option maxHeartbeats 4000000
/-! The data layer: Python's values as trees (tuples, and lists that nobody changes), lists that are changed as boxes of a small memory. -/
namespace DL
open PySem PySem.Spec L2

/-- the kinds of values whose classes the programs ask for -/
inductive Ky where
  | non | bool | int | str | tuple | list
  deriving DecidableEq
def Ky.name : Ky → String
  | .non => "NoneType" | .bool => "bool" | .int => "int" | .str => "str" | .tuple => "tuple" | .list => "list"

inductive D where
  | non | bl (b : Bool) | int (i : Int) | str (x : Str) | tup (xs : List D) | lst (xs : List D) | fz (xs : List D) | box (k : Nat) | ty (n : Ky)

abbrev Mem := List (List D)
abbrev DSt := List (Option D)

/-- which addresses are boxes (in the memory's order), which hold values that stay as they are -/
structure Wd where
  bs : List Addr
  S : Addr → Prop

def TupAt (u : Wd) (K : PySem.W.Frag) (H : Hp) (p : Addr) (vs : List V) : Prop := (Rd H p (.tup vs) ∧ u.S p) ∨ SqT K (fun _ => none) p vs
def FzAt (u : Wd) (K : PySem.W.Frag) (H : Hp) (p : Addr) (vs : List V) : Prop := (Rd H p (.lst vs) ∧ u.S p) ∨ SqL K (fun _ => none) p vs

mutual
inductive Dv (u : Wd) (K : PySem.W.Frag) (H : Hp) : V → D → Prop
  | non : Dv u K H .non .non
  | bl (b : Bool) : Dv u K H (.bl b) (.bl b)
  | int (i : Int) : Dv u K H (.int i) (.int i)
  | str (x : Str) : Dv u K H (.str x) (.str x)
  | ty (n : Ky) : Dv u K H (.ty n.name) (.ty n)
  | tup {p : Addr} {vs : List V} {ds : List D} : TupAt u K H p vs → DvAll u K H vs ds → Dv u K H (.ref p) (.tup ds)
  | lst {p : Addr} {vs : List V} {ds : List D} : H p = some (.lst vs) → u.S p → DvAll u K H vs ds → Dv u K H (.ref p) (.lst ds)
  | fz {p : Addr} {vs : List V} {ds : List D} : FzAt u K H p vs → DvAll u K H vs ds → Dv u K H (.ref p) (.fz ds)
  | box {p : Addr} {k : Nat} : u.bs[k]? = some p → Dv u K H (.ref p) (.box k)
inductive DvAll (u : Wd) (K : PySem.W.Frag) (H : Hp) : List V → List D → Prop
  | nil : DvAll u K H [] []
  | cons {v : V} {vs : List V} {d : D} {ds : List D} : Dv u K H v d → DvAll u K H vs ds → DvAll u K H (v :: vs) (d :: ds)
end

/-- from one state to a later one -/
structure Ext (u : Wd) (H : Hp) (u' : Wd) (H' : Hp) : Prop where
  pre : ∃ l, u'.bs = u.bs ++ l ∧ ∀ p ∈ l, H p = none
  sub : ∀ p, u.S p → u'.S p
  fresh : ∀ p, u'.S p → u.S p ∨ H p = none
  old : ∀ p, u.S p → H' p = H p
  keep : ∀ p o, H p = some o → p ∉ u.bs → H' p = some o
  live : ∀ p, H' p = none → H p = none

theorem Ext.refl (u : Wd) (H : Hp) : Ext u H u H := ⟨⟨[], (List.append_nil _).symm, fun _ h => (nomatch h)⟩, fun _ h => h, fun _ h => .inl h, fun _ _ => rfl, fun _ _ h _ => h, fun _ h => h⟩
theorem Ext.out {u u' : Wd} {H H' : Hp} (e : Ext u H u' H') {p : Addr} {o : HO} (h : H p = some o) (n : p ∉ u.bs) : p ∉ u'.bs := by
  obtain ⟨l, e1, hl⟩ := e.pre
  rw [e1]
  intro z
  rcases List.mem_append.mp z with z | z
  · exact n z
  · rw [hl p z] at h
    cases h
theorem Ext.trans {u u1 u2 : Wd} {H H1 H2 : Hp} (a : Ext u H u1 H1) (b : Ext u1 H1 u2 H2) : Ext u H u2 H2 := by
  refine ⟨?_, fun p h => b.sub p (a.sub p h), fun p h => ?_, fun p h => (b.old p (a.sub p h)).trans (a.old p h), fun p o h n => b.keep p o (a.keep p o h n) (a.out h n), fun p h => a.live p (b.live p h)⟩
  · obtain ⟨l1, e1, h1⟩ := a.pre
    obtain ⟨l2, e2, h2⟩ := b.pre
    refine ⟨l1 ++ l2, by rw [e2, e1, List.append_assoc], fun p hp => ?_⟩
    rcases List.mem_append.mp hp with z | z
    · exact h1 p z
    · exact a.live p (h2 p z)
  · rcases b.fresh p h with z | z
    · exact a.fresh p z
    · exact .inr (a.live p z)
theorem Ext.at {u u' : Wd} {H H' : Hp} (e : Ext u H u' H') {k : Nat} {p : Addr} (h : u.bs[k]? = some p) : u'.bs[k]? = some p := by
  obtain ⟨l, e1, _⟩ := e.pre
  rw [e1, List.getElem?_append_left (List.getElem?_eq_some_iff.mp h).1]
  exact h
theorem Ext.rd {u u' : Wd} {H H' : Hp} (e : Ext u H u' H') {p : Addr} {o : HO} (h : Rd H p o) (n : u.S p) : Rd H' p o ∧ u'.S p := by
  refine ⟨?_, e.sub p n⟩
  unfold Rd
  rw [e.old p n]
  exact h

/-- a later state, as far as values go -/
structure Lat (u : Wd) (H : Hp) (u' : Wd) (H' : Hp) : Prop where
  pre : ∃ l, u'.bs = u.bs ++ l
  sub : ∀ p, u.S p → u'.S p
  old : ∀ p, u.S p → H' p = H p
theorem Ext.lat {u u' : Wd} {H H' : Hp} (e : Ext u H u' H') : Lat u H u' H' := ⟨let ⟨l, h, _⟩ := e.pre; ⟨l, h⟩, e.sub, e.old⟩
theorem Lat.refl (u : Wd) (H : Hp) : Lat u H u H := (Ext.refl u H).lat
theorem Lat.trans {u u1 u2 : Wd} {H H1 H2 : Hp} (a : Lat u H u1 H1) (b : Lat u1 H1 u2 H2) : Lat u H u2 H2 := by
  refine ⟨?_, fun p h => b.sub p (a.sub p h), fun p h => (b.old p (a.sub p h)).trans (a.old p h)⟩
  obtain ⟨l1, e1⟩ := a.pre
  obtain ⟨l2, e2⟩ := b.pre
  exact ⟨l1 ++ l2, by rw [e2, e1, List.append_assoc]⟩
theorem Lat.away {u u' : Wd} {H H' : Hp} {q : Addr} {o : HO} (e : Lat u H u' H') (n : ¬ u.S q) : Lat u H u' (upd H' q o) := ⟨e.pre, e.sub, fun p h => by
  rw [upd_ne (fun z : p = q => n (z ▸ h))]
  exact e.old p h⟩
theorem Lat.at {u u' : Wd} {H H' : Hp} (e : Lat u H u' H') {k : Nat} {p : Addr} (h : u.bs[k]? = some p) : u'.bs[k]? = some p := by
  obtain ⟨l, e1⟩ := e.pre
  rw [e1, List.getElem?_append_left (List.getElem?_eq_some_iff.mp h).1]
  exact h
theorem Lat.rd {u u' : Wd} {H H' : Hp} (e : Lat u H u' H') {p : Addr} {o : HO} (h : Rd H p o) (n : u.S p) : Rd H' p o ∧ u'.S p := by
  refine ⟨?_, e.sub p n⟩
  unfold Rd
  rw [e.old p n]
  exact h

section
variable {u u' : Wd} {K : PySem.W.Frag} {H H' : Hp}
theorem Lat.tup (e : Lat u H u' H') {p : Addr} {vs : List V} (h : TupAt u K H p vs) : TupAt u' K H' p vs := h.elim (fun z => .inl (e.rd z.1 z.2)) .inr
theorem Lat.fz (e : Lat u H u' H') {p : Addr} {vs : List V} (h : FzAt u K H p vs) : FzAt u' K H' p vs := h.elim (fun z => .inl (e.rd z.1 z.2)) .inr
mutual
theorem Dv.lat (e : Lat u H u' H') : ∀ {v : V} {d : D}, Dv u K H v d → Dv u' K H' v d
  | _, _, .non => .non
  | _, _, .bl b => .bl b
  | _, _, .int i => .int i
  | _, _, .str x => .str x
  | _, _, .ty n => .ty n
  | _, _, .tup h a => .tup (e.tup h) (DvAll.lat e a)
  | _, _, .lst h s a => .lst ((e.old _ s).trans h) (e.sub _ s) (DvAll.lat e a)
  | _, _, .fz h a => .fz (e.fz h) (DvAll.lat e a)
  | _, _, .box h => .box (e.at h)
theorem DvAll.lat (e : Lat u H u' H') : ∀ {vs : List V} {ds : List D}, DvAll u K H vs ds → DvAll u' K H' vs ds
  | _, _, .nil => .nil
  | _, _, .cons h a => .cons (Dv.lat e h) (DvAll.lat e a)
end
theorem Ext.tup (e : Ext u H u' H') {p : Addr} {vs : List V} (h : TupAt u K H p vs) : TupAt u' K H' p vs := h.elim (fun z => .inl (e.rd z.1 z.2)) .inr
theorem Ext.fz (e : Ext u H u' H') {p : Addr} {vs : List V} (h : FzAt u K H p vs) : FzAt u' K H' p vs := h.elim (fun z => .inl (e.rd z.1 z.2)) .inr
mutual
theorem Dv.ext (e : Ext u H u' H') : ∀ {v : V} {d : D}, Dv u K H v d → Dv u' K H' v d
  | _, _, .non => .non
  | _, _, .bl b => .bl b
  | _, _, .int i => .int i
  | _, _, .str x => .str x
  | _, _, .ty n => .ty n
  | _, _, .tup h a => .tup (e.tup h) (DvAll.ext e a)
  | _, _, .lst h s a => .lst ((e.old _ s).trans h) (e.sub _ s) (DvAll.ext e a)
  | _, _, .fz h a => .fz (e.fz h) (DvAll.ext e a)
  | _, _, .box h => .box (e.at h)
theorem DvAll.ext (e : Ext u H u' H') : ∀ {vs : List V} {ds : List D}, DvAll u K H vs ds → DvAll u' K H' vs ds
  | _, _, .nil => .nil
  | _, _, .cons h a => .cons (Dv.ext e h) (DvAll.ext e a)
end
/-! a change away from all that the data stand on -/
mutual
theorem Dv.away {o : HO} {q : Addr} (n : ¬ u.S q) : ∀ {v : V} {d : D}, Dv u K H v d → Dv u K (upd H q o) v d
  | _, _, .non => .non
  | _, _, .bl b => .bl b
  | _, _, .int i => .int i
  | _, _, .str x => .str x
  | _, _, .ty n => .ty n
  | _, _, .tup (p := p) h a => .tup (h.elim (fun z => .inl ⟨by
      unfold Rd
      rw [upd_ne (fun e : p = q => n (e ▸ z.2))]
      exact z.1, z.2⟩) .inr) (DvAll.away n a)
  | _, _, .lst (p := p) h s a => .lst (by
      rw [upd_ne (fun e : p = q => n (e ▸ s))]
      exact h) s (DvAll.away n a)
  | _, _, .fz (p := p) h a => .fz (h.elim (fun z => .inl ⟨by
      unfold Rd
      rw [upd_ne (fun e : p = q => n (e ▸ z.2))]
      exact z.1, z.2⟩) .inr) (DvAll.away n a)
  | _, _, .box h => .box h
theorem DvAll.away {o : HO} {q : Addr} (n : ¬ u.S q) : ∀ {vs : List V} {ds : List D}, DvAll u K H vs ds → DvAll u K (upd H q o) vs ds
  | _, _, .nil => .nil
  | _, _, .cons h a => .cons (Dv.away n h) (DvAll.away n a)
end
theorem TupAt.sq {p : Addr} {vs : List V} (h : TupAt u K H p vs) : SqT K H p vs := by
  rcases h with ⟨h, _⟩ | (h | ⟨o, h⟩) | h
  · exact .inl h
  · cases h
  · cases h
  · exact .inr h
theorem FzAt.sq {p : Addr} {vs : List V} (h : FzAt u K H p vs) : SqL K H p vs := by
  rcases h with ⟨h, _⟩ | (h | ⟨o, h⟩) | h
  · exact .inl h
  · cases h
  · cases h
  · exact .inr h
theorem DvAll.length : ∀ {vs : List V} {ds : List D}, DvAll u K H vs ds → vs.length = ds.length
  | _, _, .nil => rfl
  | _, _, .cons _ a => congrArg Nat.succ a.length
theorem DvAll.get : ∀ {vs : List V} {ds : List D} {i : Nat} {d : D}, DvAll u K H vs ds → ds[i]? = some d → ∃ v, vs[i]? = some v ∧ Dv u K H v d
  | _, _, _, _, .nil, e => by simp at e
  | _, _, 0, _, .cons h _, e => by
    simp at e
    subst e
    exact ⟨_, rfl, h⟩
  | _, _, i + 1, d, .cons _ a, e => DvAll.get (i := i) a (by simpa using e)
theorem DvAll.get' : ∀ {vs : List V} {ds : List D} {i : Nat} {v : V}, DvAll u K H vs ds → vs[i]? = some v → ∃ d, ds[i]? = some d ∧ Dv u K H v d
  | _, _, _, _, .nil, e => by simp at e
  | _, _, 0, _, .cons h _, e => by
    simp at e
    subst e
    exact ⟨_, rfl, h⟩
  | _, _, i + 1, d, .cons _ a, e => DvAll.get' (i := i) a (by simpa using e)
theorem DvAll.append : ∀ {vs ws : List V} {ds es : List D}, DvAll u K H vs ds → DvAll u K H ws es → DvAll u K H (vs ++ ws) (ds ++ es)
  | _, _, _, _, .nil, b => b
  | _, _, _, _, .cons h a, b => .cons h (a.append b)
theorem DvAll.set : ∀ {vs : List V} {ds : List D} (i : Nat) {v : V} {d : D}, DvAll u K H vs ds → Dv u K H v d → DvAll u K H (vs.set i v) (ds.set i d)
  | _, _, _, _, _, .nil, _ => .nil
  | _, _, 0, _, _, .cons _ a, q => .cons q a
  | _, _, i + 1, _, _, .cons h a, q => .cons h (a.set i q)
theorem DvAll.take : ∀ {vs : List V} {ds : List D} (i : Nat), DvAll u K H vs ds → DvAll u K H (vs.take i) (ds.take i)
  | _, _, 0, _ => .nil
  | _, _, _ + 1, .nil => .nil
  | _, _, i + 1, .cons h a => .cons h (a.take i)
theorem DvAll.drop : ∀ {vs : List V} {ds : List D} (i : Nat), DvAll u K H vs ds → DvAll u K H (vs.drop i) (ds.drop i)
  | _, _, 0, h => h
  | _, _, _ + 1, .nil => .nil
  | _, _, i + 1, .cons _ a => DvAll.drop i a
theorem DvAll.rep {v : V} {d : D} (h : Dv u K H v d) : ∀ n : Nat, DvAll u K H (List.replicate n v) (List.replicate n d)
  | 0 => .nil
  | n + 1 => .cons h (DvAll.rep h n)
end

/-- the memory's boxes stand in the heap -/
structure Rep (K : PySem.W.Frag) (u : Wd) (M : Mem) (H : Hp) : Prop where
  len : u.bs.length = M.length
  nd : u.bs.Nodup
  at_ : ∀ (k : Nat) (p : Addr) (ds : List D), u.bs[k]? = some p → M[k]? = some ds → ∃ vs, H p = some (.lst vs) ∧ DvAll u K H vs ds
  dis : ∀ p ∈ u.bs, ¬ u.S p
  trk : ∀ p, u.S p → H p ≠ none

section
variable {u : Wd} {K : PySem.W.Frag} {H : Hp} {M : Mem}
theorem Rep.box (r : Rep K u M H) {k : Nat} {ds : List D} (h : M[k]? = some ds) : ∃ p vs, u.bs[k]? = some p ∧ H p = some (.lst vs) ∧ DvAll u K H vs ds := by
  have hk : k < u.bs.length := by
    rw [r.len]
    exact (List.getElem?_eq_some_iff.mp h).1
  obtain ⟨vs, e, a⟩ := r.at_ k u.bs[k] ds (List.getElem?_eq_getElem hk) h
  exact ⟨u.bs[k], vs, List.getElem?_eq_getElem hk, e, a⟩
theorem Rep.boxAt (r : Rep K u M H) {k : Nat} {p : Addr} {ds : List D} (hp : u.bs[k]? = some p) (h : M[k]? = some ds) : ∃ vs, H p = some (.lst vs) ∧ DvAll u K H vs ds := r.at_ k p ds hp h
theorem Rep.isLst (r : Rep K u M H) {p : Addr} (h : p ∈ u.bs) : ∃ vs, H p = some (.lst vs) := by
  obtain ⟨k, hk, e⟩ := List.getElem_of_mem h
  have hM : k < M.length := by
    rw [← r.len]
    exact hk
  obtain ⟨vs, e', _⟩ := r.at_ k p M[k] (by rw [List.getElem?_eq_getElem hk, e]) (List.getElem?_eq_getElem hM)
  exact ⟨vs, e'⟩
theorem Rep.notBox (r : Rep K u M H) {p : Addr} (h : H p = none) : p ∉ u.bs := fun z => by
  obtain ⟨vs, e⟩ := r.isLst z
  rw [h] at e
  cases e
theorem Rep.notS (r : Rep K u M H) {p : Addr} (h : H p = none) : ¬ u.S p := fun z => r.trk p z h
theorem upd_none {p q : Addr} {o : HO} (h : H p = none) (hq : upd H p o q = none) : H q = none := by
  by_cases z : q = p
  · rw [z]
    exact h
  · rw [upd_ne z] at hq
    exact hq
/-- the same, one value more -/
def Wd.more (u : Wd) (p : Addr) : Wd := ⟨u.bs, fun q => u.S q ∨ q = p⟩
def Wd.push (u : Wd) (p : Addr) : Wd := ⟨u.bs ++ [p], u.S⟩
/-- a new thing that stays as it is -/
theorem Rep.new (r : Rep K u M H) {p : Addr} (h : H p = none) (o : HO) : Rep K (u.more p) M (upd H p o) ∧ Ext u H (u.more p) (upd H p o) := by
  have e : Ext u H (u.more p) (upd H p o) := ⟨⟨[], (List.append_nil _).symm, fun _ z => (nomatch z)⟩, fun q z => .inl z, fun q z => z.elim .inl fun e => .inr (e ▸ h), fun q z => upd_ne fun e => r.notS h (e ▸ z),
    fun q v hq _ => by rw [upd_ne (ne_of_none hq h)]; exact hq, fun q hq => upd_none h hq⟩
  refine ⟨⟨r.len, r.nd, fun k q ds h1 h2 => ?_, fun q hq z => z.elim (r.dis q hq) fun e => r.notBox h (e ▸ hq), fun q z => ?_⟩, e⟩
  · obtain ⟨vs, e1, a⟩ := r.at_ k q ds h1 h2
    exact ⟨vs, by rw [upd_ne (ne_of_none e1 h)]; exact e1, a.ext e⟩
  · rcases z with z | z
    · rw [e.old q z]
      exact r.trk q z
    · rw [z, upd_same]
      simp
/-- a new box -/
theorem Rep.newBox (r : Rep K u M H) {p : Addr} (h : H p = none) {vs : List V} {ds : List D} (a : DvAll u K H vs ds) : Rep K (u.push p) (M ++ [ds]) (upd H p (.lst vs)) ∧ Ext u H (u.push p) (upd H p (.lst vs)) ∧ (u.push p).bs[M.length]? = some p := by
  have hn := r.notBox h
  have e : Ext u H (u.push p) (upd H p (.lst vs)) := ⟨⟨[p], rfl, fun q z => by rw [List.mem_singleton.mp z]; exact h⟩, fun q z => z, fun q z => .inl z, fun q z => upd_ne fun e => r.notS h (e ▸ z),
    fun q v hq _ => by rw [upd_ne (ne_of_none hq h)]; exact hq, fun q hq => upd_none h hq⟩
  refine ⟨⟨by simp [Wd.push, r.len], ?_, fun k q es h1 h2 => ?_, fun q hq z => ?_, fun q z => ?_⟩, e, by rw [← r.len]; simp [Wd.push]⟩
  · show (u.bs ++ [p]).Nodup
    rw [List.nodup_append]
    exact ⟨r.nd, by simp, fun x hx y hy z => hn (by rw [← List.mem_singleton.mp hy, ← z]; exact hx)⟩
  · have h1 : (u.bs ++ [p])[k]? = some q := h1
    by_cases hk : k < u.bs.length
    · rw [List.getElem?_append_left hk] at h1
      rw [List.getElem?_append_left (by rw [← r.len]; exact hk)] at h2
      obtain ⟨ws, e1, b⟩ := r.at_ k q es h1 h2
      exact ⟨ws, by rw [upd_ne (ne_of_none e1 h)]; exact e1, b.ext e⟩
    · have hk2 : k < (u.bs ++ [p]).length := (List.getElem?_eq_some_iff.mp h1).1
      rw [List.length_append] at hk2
      have ek : k = u.bs.length := by
        have : [p].length = 1 := rfl
        omega
      subst ek
      have e1 : p = q := by simpa using h1
      have e2 : ds = es := by
        rw [r.len] at h2
        simpa using h2
      subst e1 e2
      exact ⟨vs, upd_same, a.ext e⟩
  · rcases List.mem_append.mp (show q ∈ u.bs ++ [p] from hq) with y | y
    · exact r.dis q y z
    · rw [List.mem_singleton.mp y] at z
      exact r.notS h z
  · rw [e.old q z]
    exact r.trk q z
/-- a box is changed -/
theorem Rep.put (r : Rep K u M H) {k : Nat} {p : Addr} (hb : u.bs[k]? = some p) {vs : List V} {ds : List D} (a : DvAll u K H vs ds) : Rep K u (M.set k ds) (upd H p (.lst vs)) ∧ Ext u H u (upd H p (.lst vs)) := by
  have hp : p ∈ u.bs := List.mem_of_getElem? hb
  have e : Ext u H u (upd H p (.lst vs)) := ⟨⟨[], (List.append_nil _).symm, fun _ z => (nomatch z)⟩, fun q z => z, fun q z => .inl z, fun q z => upd_ne fun e => r.dis p hp (e ▸ z),
    fun q v hq n => by rw [upd_ne (fun z => n (by rw [z]; exact hp))]; exact hq, fun q hq => by
    by_cases z : q = p
    · rw [z, upd_same] at hq
      cases hq
    · rw [upd_ne z] at hq
      exact hq⟩
  refine ⟨⟨by rw [List.length_set]; exact r.len, r.nd, fun j q es h1 h2 => ?_, r.dis, fun q z => by rw [e.old q z]; exact r.trk q z⟩, e⟩
  by_cases hj : j = k
  · subst hj
    rw [hb] at h1
    cases h1
    have hjM : j < M.length := by
      rw [← r.len]
      exact (List.getElem?_eq_some_iff.mp hb).1
    rw [List.getElem?_set_self hjM] at h2
    cases h2
    exact ⟨vs, upd_same, a.ext e⟩
  · rw [List.getElem?_set_ne (fun z => hj z.symm)] at h2
    obtain ⟨ws, e1, b⟩ := r.at_ j q es h1 h2
    have hq : q ≠ p := fun z => by
      subst z
      obtain ⟨h3, e3⟩ := List.getElem?_eq_some_iff.mp h1
      obtain ⟨h4, e4⟩ := List.getElem?_eq_some_iff.mp hb
      exact hj ((List.getElem_inj r.nd).mp (e3.trans e4.symm))
    exact ⟨ws, by rw [upd_ne hq]; exact e1, b.ext e⟩
end

/-- the slots -/
structure DSl (u : Wd) (K : PySem.W.Frag) (H : Hp) (σ : St) (ρ : DSt) : Prop where
  len : σ.length = ρ.length
  at_ : ∀ (i : Nat) (d : D), ρ[i]? = some (some d) → ∃ v, σ[i]? = some (some v) ∧ Dv u K H v d
section
variable {u u' : Wd} {K : PySem.W.Frag} {H H' : Hp} {σ : St} {ρ : DSt}
theorem DSl.ext (e : Ext u H u' H') (s : DSl u K H σ ρ) : DSl u' K H' σ ρ := ⟨s.len, fun i d h => let ⟨v, h1, h2⟩ := s.at_ i d h; ⟨v, h1, h2.ext e⟩⟩
theorem DSl.set (s : DSl u K H σ ρ) (i : Nat) {v : V} {d : D} (h : Dv u K H v d) : DSl u K H (σ.set i (some v)) (ρ.set i (some d)) := by
  refine ⟨by simp [s.len], fun j e q => ?_⟩
  by_cases hj : j = i
  · subst hj
    have hl : j < ρ.length := by
      have := (List.getElem?_eq_some_iff.mp q).1
      simpa using this
    rw [List.getElem?_set_self hl] at q
    cases q
    exact ⟨v, List.getElem?_set_self (by rw [s.len]; exact hl), h⟩
  · rw [List.getElem?_set_ne (fun z => hj z.symm)] at q
    rw [List.getElem?_set_ne (fun z => hj z.symm)]
    exact s.at_ j e q
end

/-! ### meanings over data -/
/-- what is wanted of an exception: its class, its fields -/
abbrev DW := Value → List (Str × D) → Mem → Prop
abbrev GE := DSt → Mem → (D → Mem → Prop) → DW → Prop
abbrev GT := DSt → Mem → (Bool → Mem → Prop) → DW → Prop
abbrev GA := DSt → Mem → (List D → Mem → Prop) → DW → Prop
structure GEnds where
  nx : DSt → Mem → Prop
  rt : D → Mem → Prop
  bk : DSt → Mem → Prop
  ct : DSt → Mem → Prop
  ex : Value → List (Str × D) → DSt → Mem → Prop
abbrev GS := GEnds → DSt → Mem → Prop
abbrev DSp := List D → Mem → (D → Mem → Prop) → DW → Prop

/-- an exception's own dict holds its fields -/
def XdAt (u : Wd) (K : PySem.W.Frag) (H : Hp) : Option Addr → List (Str × D) → Prop
  | none, fs => fs = []
  | some d, fs => u.S d ∧ ∃ ws, H d = some (.xd ws) ∧ ws.map (·.1) = fs.map (·.1) ∧ DvAll u K H (ws.map (·.2)) (fs.map (·.2))

/-- what a wish over data becomes -/
def Out (K : PySem.W.Frag) (u : Wd) (H : Hp) (W : DW) (Wv : WX) (σ : St) : Prop := ∀ u' M' H' cls od fs, W cls fs M' → Rep K u' M' H' → Ext u H u' H' → XdAt u' K H' od fs → Wv cls od σ H'
def Fin (K : PySem.W.Frag) (u : Wd) (H : Hp) (R : D → Mem → Prop) (Q : VK) : Prop := ∀ u' M' H' v d, R d M' → Rep K u' M' H' → Ext u H u' H' → Dv u' K H' v d → Q v H'
theorem Out.ext {K : PySem.W.Frag} {u u1 : Wd} {H H1 : Hp} {W : DW} {Wv : WX} {σ : St} (e : Ext u H u1 H1) (o : Out K u H W Wv σ) : Out K u1 H1 W Wv σ := fun u' M' H' cls od fs w r x z => o u' M' H' cls od fs w r (e.trans x) z
theorem Fin.ext {K : PySem.W.Frag} {u u1 : Wd} {H H1 : Hp} {R : D → Mem → Prop} {Q : VK} (e : Ext u H u1 H1) (o : Fin K u H R Q) : Fin K u1 H1 R Q := fun u' M' H' v d w r x z => o u' M' H' v d w r (e.trans x) z

def SimE (K : PySem.W.Frag) (Wv : WX) (t : TE) (g : GE) : Prop := ∀ (u : Wd) (M : Mem) (H : Hp) (σ : St) (ρ : DSt) (Q : VK) (R : D → Mem → Prop) (W : DW),
  Rep K u M H → DSl u K H σ ρ → g ρ M R W → Fin K u H R Q → Out K u H W Wv σ → t σ H Q
def SimT (K : PySem.W.Frag) (Wv : WX) (t : TT) (g : GT) : Prop := ∀ (u : Wd) (M : Mem) (H : Hp) (σ : St) (ρ : DSt) (Q : Bool → Hp → Prop) (R : Bool → Mem → Prop) (W : DW),
  Rep K u M H → DSl u K H σ ρ → g ρ M R W → (∀ u' M' H' b, R b M' → Rep K u' M' H' → Ext u H u' H' → Q b H') → Out K u H W Wv σ → t σ H Q
def SimA (K : PySem.W.Frag) (Wv : WX) (t : TA) (g : GA) : Prop := ∀ (u : Wd) (M : Mem) (H : Hp) (σ : St) (ρ : DSt) (Q : List V → Hp → Prop) (R : List D → Mem → Prop) (W : DW),
  Rep K u M H → DSl u K H σ ρ → g ρ M R W → (∀ u' M' H' vs ds, R ds M' → Rep K u' M' H' → Ext u H u' H' → DvAll u' K H' vs ds → Q vs H') → Out K u H W Wv σ → t σ H Q
structure Join (K : PySem.W.Frag) (Wv : WX) (u : Wd) (H : Hp) (D : Ends) (G : GEnds) : Prop where
  nx : ∀ u' M' H' σ' ρ', G.nx ρ' M' → Rep K u' M' H' → Ext u H u' H' → DSl u' K H' σ' ρ' → D.nx σ' H'
  bk : ∀ u' M' H' σ' ρ', G.bk ρ' M' → Rep K u' M' H' → Ext u H u' H' → DSl u' K H' σ' ρ' → D.bk σ' H'
  ct : ∀ u' M' H' σ' ρ', G.ct ρ' M' → Rep K u' M' H' → Ext u H u' H' → DSl u' K H' σ' ρ' → D.ct σ' H'
  rt : Fin K u H G.rt D.rt
  ex : ∀ u' M' H' σ' ρ' cls od fs, G.ex cls fs ρ' M' → Rep K u' M' H' → Ext u H u' H' → DSl u' K H' σ' ρ' → XdAt u' K H' od fs → Wv cls od σ' H'
def SimS (K : PySem.W.Frag) (Wv : WX) (t : TS) (g : GS) : Prop := ∀ (u : Wd) (M : Mem) (H : Hp) (σ : St) (ρ : DSt) (D : Ends) (G : GEnds),
  Rep K u M H → DSl u K H σ ρ → g G ρ M → Join K Wv u H D G → t D σ H

theorem Join.ext {K : PySem.W.Frag} {Wv : WX} {u u1 : Wd} {H H1 : Hp} {D : Ends} {G : GEnds} (e : Ext u H u1 H1) (j : Join K Wv u H D G) : Join K Wv u1 H1 D G :=
  ⟨fun u' M' H' σ' ρ' h r x s => j.nx u' M' H' σ' ρ' h r (e.trans x) s, fun u' M' H' σ' ρ' h r x s => j.bk u' M' H' σ' ρ' h r (e.trans x) s, fun u' M' H' σ' ρ' h r x s => j.ct u' M' H' σ' ρ' h r (e.trans x) s,
    fun u' M' H' v d h r x s => j.rt u' M' H' v d h r (e.trans x) s, fun u' M' H' σ' ρ' cls od fs h r x s z => j.ex u' M' H' σ' ρ' cls od fs h r (e.trans x) s z⟩
/-- an exception out of an expression, with the slots as they stand -/
theorem Join.out {K : PySem.W.Frag} {Wv : WX} {u : Wd} {H : Hp} {D : Ends} {G : GEnds} {σ : St} {ρ : DSt} (j : Join K Wv u H D G) (s : DSl u K H σ ρ) : Out K u H (fun cls fs M' => G.ex cls fs ρ M') Wv σ :=
  fun u' M' H' cls od fs w r x z => j.ex u' M' H' σ ρ cls od fs w r x (s.ext x) z

/-- an expression means g -/
def DE (X : Cx) (e : Expr) (g : GE) : Prop := ∀ Wv : WX, Takes X Wv → ∃ t, PE X e t ∧ SimE X.K Wv t g
def DT (X : Cx) (e : Expr) (g : GT) : Prop := ∀ Wv : WX, Takes X Wv → ∃ t, PT X e t ∧ SimT X.K Wv t g
def DWh (X : Cx) (e : Expr) (g : GT) : Prop := ∀ Wv : WX, Takes X Wv → ∃ t, PW X e t ∧ SimT X.K Wv t g
def DA (X : Cx) (es : List Expr) (g : GA) : Prop := ∀ Wv : WX, Takes X Wv → ∃ t, PA X es t ∧ SimA X.K Wv t g
def DK (X : Cx) (ks : List Keyword) (g : GA) : Prop := ∀ Wv : WX, Takes X Wv → ∃ t, PK X ks t ∧ SimA X.K Wv t g
def DS (X : Cx) (st : Stmt) (g : GS) : Prop := ∀ Wv : WX, Takes X Wv → ∃ t, PS X st t ∧ SimS X.K Wv t g
def DSs (X : Cx) (st : List Stmt) (g : GS) : Prop := ∀ Wv : WX, Takes X Wv → ∃ t, PSs X st t ∧ SimS X.K Wv t g

section
variable {X : Cx}
/-! ### names, constants -/
def gVar (i : Nat) : GE := fun ρ M R _ => match ρ[i]? with
  | some (some d) => R d M
  | _ => False
theorem de_var {e : Expr} (i : Nat) (h : PE X e (tVar i)) : DE X e (gVar i) := fun Wv _ => ⟨tVar i, h, fun u M H σ ρ Q R W r s g f o => by
  unfold gVar at g
  split at g
  · rename_i d e
    obtain ⟨v, e1, e2⟩ := s.at_ i d e
    exact ⟨v, e1, f u M H v d g r (Ext.refl _ _) e2⟩
  · exact g.elim⟩
def gC (d : D) : GE := fun _ M R _ => R d M
theorem de_c {e : Expr} {v : V} {d : D} (h : PE X e (tC v)) (hv : ∀ u K H, Dv u K H v d) : DE X e (gC d) := fun Wv _ => ⟨tC v, h, fun u M H σ ρ Q R W r s g f o => f u M H v d g r (Ext.refl _ _) (hv _ _ _)⟩
theorem de_int {i : Int} {j pos} : DE X (.Constant (.int i) j pos) (gC (.int i)) := de_c pe_int fun _ _ _ => .int i
theorem de_bl {b : Bool} {j pos} : DE X (.Constant (.bool b) j pos) (gC (.bl b)) := de_c pe_bl fun _ _ _ => .bl b
theorem de_non {j pos} : DE X (.Constant .none j pos) (gC .non) := de_c pe_non fun _ _ _ => .non
theorem de_str {x : Str} {j pos} : DE X (.Constant (.str x) j pos) (gC (.str x)) := de_c pe_str fun _ _ _ => .str x
end
end DL

namespace DL
open PySem PySem.Spec L2

/-! ### operators on two values -/
abbrev GR := D → D → Mem → (D → Mem → Prop) → Prop
def SimR (K : PySem.W.Frag) (r : R2) (q : GR) : Prop := ∀ (u : Wd) (M : Mem) (H : Hp) (x y : V) (dx dy : D) (Q : VK) (R : D → Mem → Prop),
  Rep K u M H → Dv u K H x dx → Dv u K H y dy → q dx dy M R → Fin K u H R Q → r x y H Q
def gOp (q : GR) (ga gb : GE) : GE := fun ρ M R W => ga ρ M (fun x M1 => gb ρ M1 (fun y M2 => q x y M2 R) W) W
section
variable {X : Cx} {a b c : Expr} {ga gb gc : GE} {pos : Pos}
theorem sim_op {K : PySem.W.Frag} {Wv : WX} {r : R2} {q : GR} {ta tb : TE} (s : SimR K r q) (ha : SimE K Wv ta ga) (hb : SimE K Wv tb gb) : SimE K Wv (tOp r ta tb) (gOp q ga gb) := fun u M H σ ρ Q R W rp sl g f o =>
  ha u M H σ ρ _ _ W rp sl g (fun u1 M1 H1 x dx g1 r1 e1 d1 =>
    hb u1 M1 H1 σ ρ _ _ W r1 (sl.ext e1) g1 (fun u2 M2 H2 y dy g2 r2 e2 d2 => s u2 M2 H2 x y dx dy Q R r2 (d1.ext e2) d2 g2 (f.ext (e1.trans e2))) (o.ext e1)) o
theorem de_op {op : Operator} {r : R2} {q : GR} (ho : OpR X (binaryOp op) r) (s : SimR X.K r q) (ha : DE X a ga) (hb : DE X b gb) : DE X (.BinOp a op b pos) (gOp q ga gb) := fun Wv tk => by
  obtain ⟨ta, pa, sa⟩ := ha Wv tk
  obtain ⟨tb, pb, sb⟩ := hb Wv tk
  exact ⟨_, pe_op ho pa pb, sim_op s sa sb⟩
theorem de_cmp {op : CmpOp} {r : R2} {q : GR} (ho : OpR X (compareOp op) r) (s : SimR X.K r q) (ha : DE X a ga) (hb : DE X b gb) (hm : behindInMarks op b = false) : DE X (.Compare a [op] [b] pos) (gOp q ga gb) := fun Wv tk => by
  obtain ⟨ta, pa, sa⟩ := ha Wv tk
  obtain ⟨tb, pb, sb⟩ := hb Wv tk
  exact ⟨_, pe_cmpR ho pa pb hm, sim_op s sa sb⟩
/-- two ints -/
def qI (C : Int → Int → Prop) (f : Int → Int → D) : GR := fun x y M R => match x, y with
  | .int i, .int j => C i j ∧ R (f i j) M
  | _, _ => False
def qI0 (f : Int → Int → D) : GR := fun x y M R => match x, y with
  | .int i, .int j => R (f i j) M
  | _, _ => False
theorem sim_I {K : PySem.W.Frag} {C : Int → Int → Prop} {f : Int → Int → D} {h : Int → Int → V} (hf : ∀ u K H i j, Dv u K H (h i j) (f i j)) : SimR K (rI C h) (qI C f) := fun u M H x y dx dy Q R rp dx' dy' g fi => by
  cases dx' <;> cases dy' <;> first | exact g.elim | skip
  rename_i i j
  exact ⟨i, j, rfl, rfl, g.1, fi u M H _ _ g.2 rp (Ext.refl _ _) (hf _ _ _ _ _)⟩
theorem sim_I0 {K : PySem.W.Frag} {f : Int → Int → D} {h : Int → Int → V} (hf : ∀ u K H i j, Dv u K H (h i j) (f i j)) : SimR K (rI0 h) (qI0 f) := fun u M H x y dx dy Q R rp dx' dy' g fi => by
  cases dx' <;> cases dy' <;> first | exact g.elim | skip
  rename_i i j
  exact ⟨i, j, rfl, rfl, fi u M H _ _ g rp (Ext.refl _ _) (hf _ _ _ _ _)⟩
theorem SimR.or {K : PySem.W.Frag} {r1 r2 : R2} {q1 q2 q : GR} (s1 : SimR K r1 q1) (s2 : SimR K r2 q2) (h : ∀ x y M R, q x y M R → q1 x y M R ∨ q2 x y M R) : SimR K (fun x y H Q => r1 x y H Q ∨ r2 x y H Q) q :=
  fun u M H x y dx dy Q R rp hx hy g f => (h dx dy M R g).elim (fun z => .inl (s1 u M H x y dx dy Q R rp hx hy z f)) fun z => .inr (s2 u M H x y dx dy Q R rp hx hy z f)
abbrev qAdd : GR := qI0 fun i j => .int (i + j)
abbrev qSub : GR := qI0 fun i j => .int (i - j)
abbrev qMul : GR := qI CMul fun i j => .int (i * j)
abbrev qMulW : GR := qI CMulW fun i j => .int (i * j)
abbrev qDiv : GR := qI CDiv fun i j => .int (i / j)
abbrev qDivN : GR := qI CDivN fun i j => .int (i.fdiv j)
abbrev qDivW : GR := qI CDivW fun i j => .int (i / j)
abbrev qMod : GR := qI (fun _ j => 0 < j) fun i j => .int (i % j)
abbrev qPow : GR := qI CPow fun i j => .int (i ^ j.toNat)
abbrev qShl : GR := qI CPow fun i j => .int (i * 2 ^ j.toNat)
abbrev qLt : GR := qI0 fun i j => .bl (decide (i < j))
abbrev qLe : GR := qI0 fun i j => .bl (decide (i ≤ j))
abbrev qGt : GR := qI0 fun i j => .bl (decide (j < i))
abbrev qGe : GR := qI0 fun i j => .bl (decide (j ≤ i))
theorem de_add (ha : DE X a ga) (hb : DE X b gb) : DE X (.BinOp a .Add b pos) (gOp qAdd ga gb) := de_op op_add (sim_I0 fun _ _ _ _ _ => .int _) ha hb
theorem de_sub (ha : DE X a ga) (hb : DE X b gb) : DE X (.BinOp a .Sub b pos) (gOp qSub ga gb) := de_op op_sub (sim_I0 fun _ _ _ _ _ => .int _) ha hb
theorem de_mul (ha : DE X a ga) (hb : DE X b gb) : DE X (.BinOp a .Mult b pos) (gOp qMul ga gb) := de_op op_mul (sim_I fun _ _ _ _ _ => .int _) ha hb
theorem de_mulW (ha : DE X a ga) (hb : DE X b gb) : DE X (.BinOp a .Mult b pos) (gOp qMulW ga gb) := de_op op_mulW (sim_I fun _ _ _ _ _ => .int _) ha hb
theorem de_div (ha : DE X a ga) (hb : DE X b gb) : DE X (.BinOp a .FloorDiv b pos) (gOp qDiv ga gb) := de_op op_fdiv (sim_I fun _ _ _ _ _ => .int _) ha hb
theorem de_divN (ha : DE X a ga) (hb : DE X b gb) : DE X (.BinOp a .FloorDiv b pos) (gOp qDivN ga gb) := de_op op_fdivN (sim_I fun _ _ _ _ _ => .int _) ha hb
theorem de_divW (ha : DE X a ga) (hb : DE X b gb) : DE X (.BinOp a .FloorDiv b pos) (gOp qDivW ga gb) := de_op op_fdivW (sim_I fun _ _ _ _ _ => .int _) ha hb
theorem de_mod (ha : DE X a ga) (hb : DE X b gb) : DE X (.BinOp a .Mod b pos) (gOp qMod ga gb) := de_op op_mod (sim_I fun _ _ _ _ _ => .int _) ha hb
theorem de_pow (ha : DE X a ga) (hb : DE X b gb) : DE X (.BinOp a .Pow b pos) (gOp qPow ga gb) := de_op op_pow (sim_I fun _ _ _ _ _ => .int _) ha hb
theorem de_shl (ha : DE X a ga) (hb : DE X b gb) : DE X (.BinOp a .LShift b pos) (gOp qShl ga gb) := de_op op_shl (sim_I fun _ _ _ _ _ => .int _) ha hb
theorem de_lt (ha : DE X a ga) (hb : DE X b gb) : DE X (.Compare a [.Lt] [b] pos) (gOp qLt ga gb) := de_cmp op_lt (sim_I0 fun _ _ _ _ _ => .bl _) ha hb (nomark _)
theorem de_le (ha : DE X a ga) (hb : DE X b gb) : DE X (.Compare a [.LtE] [b] pos) (gOp qLe ga gb) := de_cmp op_le (sim_I0 fun _ _ _ _ _ => .bl _) ha hb (nomark _)
theorem de_gt (ha : DE X a ga) (hb : DE X b gb) : DE X (.Compare a [.Gt] [b] pos) (gOp qGt ga gb) := de_cmp op_gt (sim_I0 fun _ _ _ _ _ => .bl _) ha hb (nomark _)
theorem de_ge (ha : DE X a ga) (hb : DE X b gb) : DE X (.Compare a [.GtE] [b] pos) (gOp qGe ga gb) := de_cmp op_ge (sim_I0 fun _ _ _ _ _ => .bl _) ha hb (nomark _)
end

/-! ### data as the library's trees: == and != -/
mutual
def pyD : D → Option PyData
  | .non => some .none
  | .bl b => some (.bool b)
  | .int i => some (.int i)
  | .str x => some (.str x)
  | .tup xs => (pyDs xs).map .tuple
  | .lst xs => (pyDs xs).map .list
  | .fz xs => (pyDs xs).map .list
  | .box _ => none
  | .ty _ => none
def pyDs : List D → Option (List PyData)
  | [] => some []
  | x :: xs => match pyD x, pyDs xs with
    | some d, some ds => some (d :: ds)
    | _, _ => none
end
/-- a box at the top is its list -/
def pyM (M : Mem) : D → Option PyData
  | .box k => match M[k]? with
    | some ds => (pyDs ds).map .list
    | none => none
  | d => pyD d
section
variable {u : Wd} {K : PySem.W.Frag} {H : Hp}
mutual
theorem Dv.dp : ∀ {v : V} {d : D} {e : PyData}, Dv u K H v d → pyD d = some e → Dp K H v e
  | _, .non, _, .non, q => by cases q; exact .non
  | _, .bl _, _, .bl b, q => by cases q; exact .bl b
  | _, .int _, _, .int i, q => by cases q; exact .int i
  | _, .str _, _, .str x, q => by cases q; exact .str x
  | _, .tup ds, _, .tup h a, q => by
    rw [pyD] at q
    cases e : pyDs ds with
    | none => rw [e] at q; cases q
    | some es =>
      rw [e] at q
      cases q
      exact .tup h.sq (DvAll.dp a e)
  | _, .lst ds, _, .lst h s a, q => by
    rw [pyD] at q
    cases e : pyDs ds with
    | none => rw [e] at q; cases q
    | some es =>
      rw [e] at q
      cases q
      exact .lst (SqL.of h) (DvAll.dp a e)
  | _, .fz ds, _, .fz h a, q => by
    rw [pyD] at q
    cases e : pyDs ds with
    | none => rw [e] at q; cases q
    | some es =>
      rw [e] at q
      cases q
      exact .lst h.sq (DvAll.dp a e)
  | _, .box _, _, .box _, q => by rw [pyD] at q; cases q
  | _, .ty _, _, .ty _, q => by rw [pyD] at q; cases q
theorem DvAll.dp : ∀ {vs : List V} {ds : List D} {es : List PyData}, DvAll u K H vs ds → pyDs ds = some es → DpAll K H vs es
  | _, [], _, .nil, q => by rw [pyDs] at q; cases q; exact .nil
  | _, d :: ds, _, .cons h a, q => by
    rw [pyDs] at q
    split at q
    · rename_i e es e1 e2
      cases q
      exact .cons (Dv.dp h e1) (DvAll.dp a e2)
    · cases q
end
theorem Dv.dpM {M : Mem} (r : Rep K u M H) {v : V} {d : D} {e : PyData} (h : Dv u K H v d) (q : pyM M d = some e) : Dp K H v e := by
  cases d <;> first | exact Dv.dp h q | skip
  rename_i k
  unfold pyM at q
  cases h with
  | box hb =>
    cases em : M[k]? with
    | none => simp only [em] at q; cases q
    | some ds =>
      simp only [em] at q
      obtain ⟨vs, e1, a⟩ := r.at_ _ _ _ hb em
      cases e2 : pyDs ds with
      | none => rw [e2] at q; cases q
      | some es =>
        rw [e2] at q
        cases q
        exact .lst (SqL.of e1) (DvAll.dp a e2)
end
def qEqD (f : Bool → Bool) : GR := fun x y M R => match pyM M x, pyM M y with
  | some d, some e => SeqAt.shaped d = true ∧ SeqAt.shaped e = true ∧ R (.bl (f (PyData.eqv d e))) M
  | _, _ => False
section
variable {X : Cx} {a b c : Expr} {ga gb gc : GE} {pos : Pos}
theorem de_eq (hu : X.A.units + 64 < cLine) (ha : DE X a ga) (hb : DE X b gb) : DE X (.Compare a [.Eq] [b] pos) (gOp (qEqD id) ga gb) := de_cmp (op_eqD hu) (fun u M H x y dx dy Q R rp hx hy g f => by
  unfold qEqD at g
  split at g
  · rename_i d e e1 e2
    exact ⟨d, e, hx.dpM rp e1, hy.dpM rp e2, g.1, g.2.1, f u M H _ _ g.2.2 rp (Ext.refl _ _) (.bl _)⟩
  · exact g.elim) ha hb (nomark _)
theorem de_ne (hu : X.A.units + 64 < cLine) (ha : DE X a ga) (hb : DE X b gb) : DE X (.Compare a [.NotEq] [b] pos) (gOp (qEqD not) ga gb) := de_cmp (op_neD hu) (fun u M H x y dx dy Q R rp hx hy g f => by
  unfold qEqD at g
  split at g
  · rename_i d e e1 e2
    exact ⟨d, e, hx.dpM rp e1, hy.dpM rp e2, g.1, g.2.1, f u M H _ _ g.2.2 rp (Ext.refl _ _) (.bl _)⟩
  · exact g.elim) ha hb (nomark _)

/-! ### one value -/
abbrev GU := D → Mem → (D → Mem → Prop) → Prop
def gUn (q : GU) (ga : GE) : GE := fun ρ M R W => ga ρ M (fun x M1 => q x M1 R) W
def qNeg : GU := fun x M R => match x with
  | .int i => R (.int (-i)) M
  | _ => False
theorem de_neg (ha : DE X a ga) : DE X (.UnaryOp .USub a pos) (gUn qNeg ga) := fun Wv tk => by
  obtain ⟨ta, pa, sa⟩ := ha Wv tk
  refine ⟨_, pe_un un_neg pa, fun u M H σ ρ Q R W r s g f o => sa u M H σ ρ _ _ W r s g (fun u1 M1 H1 x dx g1 r1 e1 d1 => ?_) o⟩
  cases d1 <;> first | exact g1.elim | skip
  rename_i i
  exact ⟨i, rfl, f.ext e1 u1 M1 H1 _ _ g1 r1 (Ext.refl _ _) (.int _)⟩
def qNot : GU := fun x M R => match x with
  | .bl b => R (.bl (!b)) M
  | _ => False
theorem de_not (ha : DE X a ga) : DE X (.UnaryOp .Not a pos) (gUn qNot ga) := fun Wv tk => by
  obtain ⟨ta, pa, sa⟩ := ha Wv tk
  refine ⟨_, pe_not pa, fun u M H σ ρ Q R W r s g f o => sa u M H σ ρ _ _ W r s g (fun u1 M1 H1 x dx g1 r1 e1 d1 => ?_) o⟩
  cases d1 <;> first | exact g1.elim | skip
  rename_i b
  exact ⟨b, rfl, f.ext e1 u1 M1 H1 _ _ g1 r1 (Ext.refl _ _) (.bl _)⟩

/-! ### and, or, if as values; tests -/
def gAndV (ga gb : GE) : GE := fun ρ M R W => ga ρ M (fun x M1 => match x with
  | .bl c => if c = true then gb ρ M1 R W else R (.bl false) M1
  | _ => False) W
def gOrV (ga gb : GE) : GE := fun ρ M R W => ga ρ M (fun x M1 => match x with
  | .bl c => if c = true then R (.bl true) M1 else gb ρ M1 R W
  | _ => False) W
theorem de_one {op} (ha : DE X a ga) : DE X (.BoolOp op [a] pos) ga := fun Wv tk => let ⟨ta, pa, sa⟩ := ha Wv tk; ⟨ta, pe_one pa, sa⟩
theorem de_and {rest : List Expr} (ha : DE X a ga) (hb : DE X (.BoolOp .And (b :: rest) pos) gb) : DE X (.BoolOp .And (a :: b :: rest) pos) (gAndV ga gb) := fun Wv tk => by
  obtain ⟨ta, pa, sa⟩ := ha Wv tk
  obtain ⟨tb, pb, sb⟩ := hb Wv tk
  refine ⟨_, pe_and pa pb, fun u M H σ ρ Q R W r s g f o => sa u M H σ ρ _ _ W r s g (fun u1 M1 H1 x dx g1 r1 e1 d1 => ?_) o⟩
  cases d1 <;> first | exact g1.elim | skip
  rename_i c
  refine ⟨c, rfl, ?_⟩
  cases c with
  | true =>
    rw [if_pos rfl]
    exact sb u1 M1 H1 σ ρ Q R W r1 (s.ext e1) g1 (f.ext e1) (o.ext e1)
  | false =>
    rw [if_neg Bool.false_ne_true]
    exact f.ext e1 u1 M1 H1 _ _ g1 r1 (Ext.refl _ _) (.bl _)
theorem de_or {rest : List Expr} (ha : DE X a ga) (hb : DE X (.BoolOp .Or (b :: rest) pos) gb) : DE X (.BoolOp .Or (a :: b :: rest) pos) (gOrV ga gb) := fun Wv tk => by
  obtain ⟨ta, pa, sa⟩ := ha Wv tk
  obtain ⟨tb, pb, sb⟩ := hb Wv tk
  refine ⟨_, pe_or pa pb, fun u M H σ ρ Q R W r s g f o => sa u M H σ ρ _ _ W r s g (fun u1 M1 H1 x dx g1 r1 e1 d1 => ?_) o⟩
  cases d1 <;> first | exact g1.elim | skip
  rename_i c
  refine ⟨c, rfl, ?_⟩
  cases c with
  | true =>
    rw [if_pos rfl]
    exact f.ext e1 u1 M1 H1 _ _ g1 r1 (Ext.refl _ _) (.bl _)
  | false =>
    rw [if_neg Bool.false_ne_true]
    exact sb u1 M1 H1 σ ρ Q R W r1 (s.ext e1) g1 (f.ext e1) (o.ext e1)
def gB (g : GE) : GT := fun ρ M R W => g ρ M (fun x M1 => match x with
  | .bl c => R c M1
  | _ => False) W
theorem dt_val {e : Expr} {g : GE} (h : DE X e g) (he : ∀ whole, isTrue e X.env whole = (do let v ← whole; standAt e.pos; holding [v] (truthy v)) := by intro _; rfl) : DT X e (gB g) := fun Wv tk => by
  obtain ⟨t, p, s⟩ := h Wv tk
  refine ⟨_, pt_val p he, fun u M H σ ρ Q R W r sl g f o => s u M H σ ρ _ _ W r sl g (fun u1 M1 H1 x dx g1 r1 e1 d1 => ?_) o⟩
  cases d1 <;> first | exact g1.elim | skip
  rename_i c
  exact ⟨c, rfl, f u1 M1 H1 c g1 r1 e1⟩
/-- a comparison as a test -/
theorem dt_cmp {op : CmpOp} {r : R2} {q : GR} (ho : OpR X (compareOp op) r) (s : SimR X.K r q) (ha : DE X a ga) (hb : DE X b gb) (hm : behindInMarks op b = false) : DT X (.Compare a [op] [b] pos) (gB (gOp q ga gb)) := fun Wv tk => by
  obtain ⟨ta, pa, sa⟩ := ha Wv tk
  obtain ⟨tb, pb, sb⟩ := hb Wv tk
  refine ⟨_, pt_cmpR ho pa pb hm, fun u M H σ ρ Q R W r sl g f o => sim_op s sa sb u M H σ ρ _ _ W r sl g (fun u1 M1 H1 x dx g1 r1 e1 d1 => ?_) o⟩
  cases d1 <;> first | exact g1.elim | skip
  rename_i c
  exact ⟨c, rfl, f u1 M1 H1 c g1 r1 e1⟩
def gAnd (ta tb : GT) : GT := fun ρ M R W => ta ρ M (fun c M1 => if c = true then tb ρ M1 R W else R false M1) W
def gOr (ta tb : GT) : GT := fun ρ M R W => ta ρ M (fun c M1 => if c = true then R true M1 else tb ρ M1 R W) W
def gNot (ta : GT) : GT := fun ρ M R W => ta ρ M (fun c M1 => R (!c) M1) W
variable {ta tb : GT} {rest : List Expr}
theorem dw_pt {e : Expr} {g : GT} (h : DWh X e g) : DT X e g := fun Wv tk => let ⟨t, p, s⟩ := h Wv tk; ⟨t, p.pt, s⟩
theorem dw_and1 (ha : DT X a ta) : DWh X (.BoolOp .And [a] pos) ta := fun Wv tk => let ⟨t, p, s⟩ := ha Wv tk; ⟨t, pw_and1 p, s⟩
theorem dw_or1 (ha : DT X a ta) : DWh X (.BoolOp .Or [a] pos) ta := fun Wv tk => let ⟨t, p, s⟩ := ha Wv tk; ⟨t, pw_or1 p, s⟩
theorem dw_and (ha : DT X a ta) (hb : DWh X (.BoolOp .And (b :: rest) pos) tb) : DWh X (.BoolOp .And (a :: b :: rest) pos) (gAnd ta tb) := fun Wv tk => by
  obtain ⟨t1, p1, s1⟩ := ha Wv tk
  obtain ⟨t2, p2, s2⟩ := hb Wv tk
  refine ⟨_, pw_and p1 p2, fun u M H σ ρ Q R W r s g f o => s1 u M H σ ρ _ _ W r s g (fun u1 M1 H1 c g1 r1 e1 => ?_) o⟩
  cases c with
  | true =>
    rw [if_pos rfl]
    exact s2 u1 M1 H1 σ ρ Q R W r1 (s.ext e1) g1 (fun u2 M2 H2 b g2 r2 e2 => f u2 M2 H2 b g2 r2 (e1.trans e2)) (o.ext e1)
  | false =>
    rw [if_neg Bool.false_ne_true]
    exact f u1 M1 H1 false g1 r1 e1
theorem dw_or (ha : DT X a ta) (hb : DWh X (.BoolOp .Or (b :: rest) pos) tb) : DWh X (.BoolOp .Or (a :: b :: rest) pos) (gOr ta tb) := fun Wv tk => by
  obtain ⟨t1, p1, s1⟩ := ha Wv tk
  obtain ⟨t2, p2, s2⟩ := hb Wv tk
  refine ⟨_, pw_or p1 p2, fun u M H σ ρ Q R W r s g f o => s1 u M H σ ρ _ _ W r s g (fun u1 M1 H1 c g1 r1 e1 => ?_) o⟩
  cases c with
  | true =>
    rw [if_pos rfl]
    exact f u1 M1 H1 true g1 r1 e1
  | false =>
    rw [if_neg Bool.false_ne_true]
    exact s2 u1 M1 H1 σ ρ Q R W r1 (s.ext e1) g1 (fun u2 M2 H2 b g2 r2 e2 => f u2 M2 H2 b g2 r2 (e1.trans e2)) (o.ext e1)
theorem dt_not (ha : DT X a ta) : DT X (.UnaryOp .Not a pos) (gNot ta) := fun Wv tk => by
  obtain ⟨t1, p1, s1⟩ := ha Wv tk
  exact ⟨_, pt_not p1, fun u M H σ ρ Q R W r s g f o => s1 u M H σ ρ _ _ W r s g (fun u1 M1 H1 c g1 r1 e1 => f u1 M1 H1 (!c) g1 r1 e1) o⟩
def gIf (t : GT) (ga gb : GE) : GE := fun ρ M R W => t ρ M (fun c M1 => if c = true then ga ρ M1 R W else gb ρ M1 R W) W
theorem de_if (hc : DT X c ta) (ha : DE X a ga) (hb : DE X b gb) : DE X (.IfExp c a b pos) (gIf ta ga gb) := fun Wv tk => by
  obtain ⟨t1, p1, s1⟩ := hc Wv tk
  obtain ⟨t2, p2, s2⟩ := ha Wv tk
  obtain ⟨t3, p3, s3⟩ := hb Wv tk
  refine ⟨_, pe_ifExp p1 p2 p3, fun u M H σ ρ Q R W r s g f o => s1 u M H σ ρ _ _ W r s g (fun u1 M1 H1 c g1 r1 e1 => ?_) o⟩
  cases c with
  | true =>
    rw [if_pos rfl]
    exact s2 u1 M1 H1 σ ρ Q R W r1 (s.ext e1) g1 (f.ext e1) (o.ext e1)
  | false =>
    rw [if_neg Bool.false_ne_true]
    exact s3 u1 M1 H1 σ ρ Q R W r1 (s.ext e1) g1 (f.ext e1) (o.ext e1)

/-! ### argument lists, displays -/
def gNil : GA := fun _ M R _ => R [] M
def gCons (ga : GE) (gr : GA) : GA := fun ρ M R W => ga ρ M (fun x M1 => gr ρ M1 (fun xs M2 => R (x :: xs) M2) W) W
theorem sim_nil {K : PySem.W.Frag} {Wv : WX} : SimA K Wv tNil gNil := fun u M H σ ρ Q R W r s g f o => f u M H [] [] g r (Ext.refl _ _) .nil
theorem sim_cons {K : PySem.W.Frag} {Wv : WX} {t1 : TE} {t2 : TA} {g1 : GE} {g2 : GA} (h1 : SimE K Wv t1 g1) (h2 : SimA K Wv t2 g2) : SimA K Wv (tCons t1 t2) (gCons g1 g2) := fun u M H σ ρ Q R W r s g f o =>
  h1 u M H σ ρ _ _ W r s g (fun u1 M1 H1 x dx q1 r1 e1 d1 => h2 u1 M1 H1 σ ρ _ _ W r1 (s.ext e1) q1 (fun u2 M2 H2 xs ds q2 r2 e2 d2 => f u2 M2 H2 _ _ q2 r2 (e1.trans e2) (.cons (d1.ext e2) d2)) (o.ext e1)) o
theorem da_nil : DA X [] gNil := fun Wv _ => ⟨_, pa_nil, sim_nil⟩
theorem da_cons {es : List Expr} {gr : GA} (ha : DE X a ga) (hr : DA X es gr) (hs : starEach (a :: es) X.env = (false, eval a X.env) :: starEach es X.env := by rfl) : DA X (a :: es) (gCons ga gr) := fun Wv tk => by
  obtain ⟨t1, p1, s1⟩ := ha Wv tk
  obtain ⟨t2, p2, s2⟩ := hr Wv tk
  exact ⟨_, pa_cons p1 p2 hs, sim_cons s1 s2⟩
theorem dk_nil : DK X [] gNil := fun Wv _ => ⟨_, pk_nil, sim_nil⟩
theorem dk_cons {kws : List Keyword} {nm : Option Str} {kpos : Pos} {gr : GA} (ha : DE X a ga) (hr : DK X kws gr) : DK X (⟨nm, a, kpos⟩ :: kws) (gCons ga gr) := fun Wv tk => by
  obtain ⟨t1, p1, s1⟩ := ha Wv tk
  obtain ⟨t2, p2, s2⟩ := hr Wv tk
  exact ⟨_, pk_cons p1 p2, sim_cons s1 s2⟩
def gTup (t : GA) : GE := fun ρ M R W => t ρ M (fun ds M1 => ds.length ≤ sizeLine ∧ R (.tup ds) M1) W
def gLst (t : GA) : GE := fun ρ M R W => t ρ M (fun ds M1 => ds.length ≤ sizeLine ∧ R (.lst ds) M1) W
def gBox (t : GA) : GE := fun ρ M R W => t ρ M (fun ds M1 => ds.length ≤ sizeLine ∧ R (.box M1.length) (M1 ++ [ds])) W
section
variable {u : Wd} {K : PySem.W.Frag} {M : Mem} {H : Hp} {p : Addr} {vs : List V} {ds : List D}
theorem new_tup (r : Rep K u M H) (h : H p = none) (a : DvAll u K H vs ds) : Rep K (u.more p) M (upd H p (.tup vs)) ∧ Ext u H (u.more p) (upd H p (.tup vs)) ∧ Dv (u.more p) K (upd H p (.tup vs)) (.ref p) (.tup ds) := by
  obtain ⟨r2, e2⟩ := r.new h (.tup vs)
  exact ⟨r2, e2, .tup (.inl ⟨.inl upd_same, .inr rfl⟩) (a.ext e2)⟩
theorem new_lst (r : Rep K u M H) (h : H p = none) (a : DvAll u K H vs ds) : Rep K (u.more p) M (upd H p (.lst vs)) ∧ Ext u H (u.more p) (upd H p (.lst vs)) ∧ Dv (u.more p) K (upd H p (.lst vs)) (.ref p) (.lst ds) := by
  obtain ⟨r2, e2⟩ := r.new h (.lst vs)
  exact ⟨r2, e2, .lst upd_same (.inr rfl) (a.ext e2)⟩
theorem new_box (r : Rep K u M H) (h : H p = none) (a : DvAll u K H vs ds) : Rep K (u.push p) (M ++ [ds]) (upd H p (.lst vs)) ∧ Ext u H (u.push p) (upd H p (.lst vs)) ∧ Dv (u.push p) K (upd H p (.lst vs)) (.ref p) (.box M.length) := by
  obtain ⟨r2, e2, hb⟩ := r.newBox h a
  exact ⟨r2, e2, .box hb⟩
end
theorem de_tup {es : List Expr} {g : GA} {x1} (h : DA X es g) : DE X (.Tuple es x1 pos) (gTup g) := fun Wv tk => by
  obtain ⟨t, p, s⟩ := h Wv tk
  refine ⟨_, pe_tup p, fun u M H σ ρ Q R W r sl g f o => s u M H σ ρ _ _ W r sl g (fun u1 M1 H1 vs ds g1 r1 e1 d1 => ⟨by rw [d1.length]; exact g1.1, fun q hq => ?_⟩) o⟩
  obtain ⟨r2, e2, d2⟩ := new_tup r1 hq d1
  exact f _ _ _ _ _ g1.2 r2 (e1.trans e2) d2
theorem de_lst {es : List Expr} {g : GA} (h : DA X es g) : DE X (.List es pos) (gLst g) := fun Wv tk => by
  obtain ⟨t, p, s⟩ := h Wv tk
  refine ⟨_, pe_lst p, fun u M H σ ρ Q R W r sl g f o => s u M H σ ρ _ _ W r sl g (fun u1 M1 H1 vs ds g1 r1 e1 d1 => ⟨by rw [d1.length]; exact g1.1, fun q hq => ?_⟩) o⟩
  obtain ⟨r2, e2, d2⟩ := new_lst r1 hq d1
  exact f _ _ _ _ _ g1.2 r2 (e1.trans e2) d2
theorem de_box {es : List Expr} {g : GA} (h : DA X es g) : DE X (.List es pos) (gBox g) := fun Wv tk => by
  obtain ⟨t, p, s⟩ := h Wv tk
  refine ⟨_, pe_lst p, fun u M H σ ρ Q R W r sl g f o => s u M H σ ρ _ _ W r sl g (fun u1 M1 H1 vs ds g1 r1 e1 d1 => ⟨by rw [d1.length]; exact g1.1, fun q hq => ?_⟩) o⟩
  obtain ⟨r2, e2, d2⟩ := new_box r1 hq d1
  exact f _ _ _ _ _ g1.2 r2 (e1.trans e2) d2
end
end DL

namespace DL
open PySem PySem.Spec L2

/-! ### sequences: items, lengths -/
def seqOf (M : Mem) : D → Option (List D)
  | .tup ds => some ds
  | .lst ds => some ds
  | .fz ds => some ds
  | .box k => M[k]?
  | _ => none
section
variable {u : Wd} {K : PySem.W.Frag} {M : Mem} {H : Hp}
theorem seq_at (r : Rep K u M H) {v : V} {d : D} {ds : List D} (h : Dv u K H v d) (q : seqOf M d = some ds) : ∃ p vs, v = .ref p ∧ (SqL K H p vs ∨ SqT K H p vs) ∧ DvAll u K H vs ds := by
  cases h <;> first | (cases q; done) | skip
  · rename_i h a
    cases q
    exact ⟨_, _, rfl, .inr h.sq, a⟩
  · rename_i h s a
    cases q
    exact ⟨_, _, rfl, .inl (SqL.of h), a⟩
  · rename_i h a
    cases q
    exact ⟨_, _, rfl, .inl h.sq, a⟩
  · rename_i p k hb
    obtain ⟨vs, e1, a⟩ := r.at_ k p ds hb q
    exact ⟨p, vs, rfl, .inl (SqL.of e1), a⟩
theorem atI_D {vs : List V} {ds : List D} (a : DvAll u K H vs ds) {i : Int} {d : D} (h : atI ds i = some d) : ∃ v, atI vs i = some v ∧ Dv u K H v d := by
  unfold atI at h ⊢
  rw [a.length]
  cases e : ixN ds.length i with
  | none => rw [e] at h; cases h
  | some j =>
    rw [e] at h
    exact a.get h
end
def qIx : GR := fun x y M R => match seqOf M x, y with
  | some ds, .int i => match atI ds i with
    | some d => R d M
    | none => False
  | _, _ => False
/-- a text's sign -/
def qIxS : GR := fun x y M R => match x, y with
  | .str z, .int i => z.length ≤ sizeLine ∧ match atI z.cps.toList i with
    | some c => R (.str ⟨#[c]⟩) M
    | none => False
  | _, _ => False
section
variable {X : Cx} {a b c : Expr} {ga gb gc : GE} {pos : Pos}
theorem de_ix (ha : DE X a ga) (hb : DE X b gb) (hs : PlainIx b) : DE X (.Subscript a b pos) (gOp qIx ga gb) := fun Wv tk => by
  obtain ⟨ta, pa, sa⟩ := ha Wv tk
  obtain ⟨tb, pb, sb⟩ := hb Wv tk
  refine ⟨_, pe_ix ix_seq pa pb hs, sim_op (fun u M H x y dx dy Q R rp hx hy g f => ?_) sa sb⟩
  unfold qIx at g
  split at g
  · rename_i ds i e1
    split at g
    · rename_i d e2
      obtain ⟨p, vs, rfl, h1, h2⟩ := seq_at rp hx e1
      cases hy
      obtain ⟨v, e3, h3⟩ := atI_D h2 e2
      have q := f u M H v d g rp (Ext.refl _ _) h3
      exact h1.elim (fun z => .inl ⟨p, vs, i, v, rfl, rfl, z, e3, q⟩) fun z => .inr (.inl ⟨p, vs, i, v, rfl, rfl, z, e3, q⟩)
    · exact g.elim
  · exact g.elim
theorem de_ixS (ha : DE X a ga) (hb : DE X b gb) (hs : PlainIx b) : DE X (.Subscript a b pos) (gOp qIxS ga gb) := fun Wv tk => by
  obtain ⟨ta, pa, sa⟩ := ha Wv tk
  obtain ⟨tb, pb, sb⟩ := hb Wv tk
  refine ⟨_, pe_ix ix_seq pa pb hs, sim_op (fun u M H x y dx dy Q R rp hx hy g f => ?_) sa sb⟩
  unfold qIxS at g
  split at g
  · rename_i z i
    obtain ⟨g0, g⟩ := g
    split at g
    · rename_i ch e2
      cases hx
      cases hy
      exact .inr (.inr ⟨z, i, ch, rfl, rfl, g0, e2, f u M H _ _ g rp (Ext.refl _ _) (.str _)⟩)
    · exact g.elim
  · exact g.elim

/-! ### calls of built-ins -/
abbrev GC := List D → Mem → (D → Mem → Prop) → Prop
def SimC (K : PySem.W.Frag) (r : List V → Hp → VK → Prop) (q : GC) : Prop := ∀ (u : Wd) (M : Mem) (H : Hp) (xs : List V) (ds : List D) (Q : VK) (R : D → Mem → Prop),
  Rep K u M H → DvAll u K H xs ds → q ds M R → Fin K u H R Q → r xs H Q
def gCB (q : GC) (t : GA) : GE := fun ρ M R W => t ρ M (fun ds M1 => q ds M1 R) W
theorem sim_cb {K : PySem.W.Frag} {Wv : WX} {r : List V → Hp → VK → Prop} {q : GC} {t : TA} {g : GA} (s : SimC K r q) (h : SimA K Wv t g) : SimE K Wv (tCB r t) (gCB q g) := fun u M H σ ρ Q R W rp sl g f o =>
  h u M H σ ρ _ _ W rp sl g (fun u1 M1 H1 vs ds g1 r1 e1 d1 => s u1 M1 H1 vs ds Q R r1 d1 g1 (f.ext e1)) o
variable {x : Str} {p : Pos} {e : Expr} {es : List Expr} {g : GA} {id T : String} {r : List V → Hp → VK → Prop} {q : GC}
theorem de_callB (hc : CallR X (.builtin id) r) (s : SimC X.K r q) (hg : Gl X x) (hm : X.mg x = none) (hv : bootBuiltins x = some (.builtin id)) (ha : DA X (e :: es) g) (hn : x ≠ "__name__" := by decide) (hdb : (x == ("__debug__" : Str)) = false := by decide)
    (he : starEach (e :: es) X.env = (false, eval e X.env) :: starEach es X.env := by rfl) (hpl : (backTo pos (starEach es X.env)).any (·.1) = false := by rfl) : DE X (.Call (.Name x p) (e :: es) [] pos) (gCB q g) := fun Wv tk => by
  obtain ⟨t, pt, st⟩ := ha Wv tk
  exact ⟨_, pe_callB hc hg hm hv pt hn hdb he hpl, sim_cb s st⟩
theorem de_callTy (hc : CallR X (.type T) r) (s : SimC X.K r q) (hg : Gl X x) (hm : X.mg x = none) (hv : bootBuiltins x = some (.type T)) (ha : DA X (e :: es) g) (hn : x ≠ "__name__" := by decide) (hdb : (x == ("__debug__" : Str)) = false := by decide)
    (he : starEach (e :: es) X.env = (false, eval e X.env) :: starEach es X.env := by rfl) (hpl : (backTo pos (starEach es X.env)).any (·.1) = false := by rfl) : DE X (.Call (.Name x p) (e :: es) [] pos) (gCB q g) := fun Wv tk => by
  obtain ⟨t, pt, st⟩ := ha Wv tk
  exact ⟨_, pe_callTy hc hg hm hv pt hn hdb he hpl, sim_cb s st⟩
/-- a built-in class as a value -/
theorem de_ty (n : Ky) (hg : Gl X x) (hm : X.mg x = none) (hv : bootBuiltins x = some (.type n.name)) (hn : x ≠ "__name__" := by decide) (hdb : (x == ("__debug__" : Str)) = false := by decide) : DE X (.Name x p) (gC (.ty n)) :=
  de_c (pe_bltn (v := .ty n.name) hg hm hv rfl hn hdb) fun _ _ _ => .ty n

def qAbs : GC := fun ds M R => match ds with
  | [.int i] => R (.int (i.natAbs : Int)) M
  | _ => False
theorem sim_abs {K : PySem.W.Frag} : SimC K (fun xs H Q => ∃ i, xs = [.int i] ∧ Q (.int (if i < 0 then -i else i)) H) qAbs := fun u M H xs ds Q R rp d g f => by
  unfold qAbs at g
  split at g
  · rename_i i
    cases d with
    | cons h1 h2 =>
      cases h1
      cases h2
      refine ⟨i, rfl, ?_⟩
      have e : (if i < 0 then -i else i) = (i.natAbs : Int) := by split <;> omega
      rw [e]
      exact f u M H _ _ g rp (Ext.refl _ _) (.int _)
  · exact g.elim
def qInt : GC := fun ds M R => match ds with
  | [.int i] => R (.int i) M
  | [.bl k] => R (.int (if k then 1 else 0)) M
  | _ => False
theorem sim_int {K : PySem.W.Frag} : SimC K (fun xs H Q => (∃ i, xs = [.int i] ∧ Q (.int i) H) ∨ ∃ k, xs = [.bl k] ∧ Q (.int (if k then 1 else 0)) H) qInt := fun u M H xs ds Q R rp d g f => by
  unfold qInt at g
  split at g
  · rename_i i
    cases d with
    | cons h1 h2 =>
      cases h1
      cases h2
      exact .inl ⟨i, rfl, f u M H _ _ g rp (Ext.refl _ _) (.int _)⟩
  · rename_i k
    cases d with
    | cons h1 h2 =>
      cases h1
      cases h2
      exact .inr ⟨k, rfl, f u M H _ _ g rp (Ext.refl _ _) (.int _)⟩
  · exact g.elim
def qMin : GC := fun ds M R => match ds with
  | [.int i, .int j] => R (.int (if j < i then j else i)) M
  | _ => False
theorem sim_min {K : PySem.W.Frag} : SimC K (fun xs H Q => ∃ i j, xs = [.int i, .int j] ∧ Q (.int (if j < i then j else i)) H) qMin := fun u M H xs ds Q R rp d g f => by
  unfold qMin at g
  split at g
  · rename_i i j
    cases d with
    | cons h1 h2 =>
      cases h1
      cases h2 with
      | cons h3 h4 =>
        cases h3
        cases h4
        exact ⟨i, j, rfl, f u M H _ _ g rp (Ext.refl _ _) (.int _)⟩
  · exact g.elim
def qMax : GC := fun ds M R => match ds with
  | [.int i, .int j] => R (.int (if j > i then j else i)) M
  | _ => False
theorem sim_max {K : PySem.W.Frag} : SimC K (fun xs H Q => ∃ i j, xs = [.int i, .int j] ∧ Q (.int (if j > i then j else i)) H) qMax := fun u M H xs ds Q R rp d g f => by
  unfold qMax at g
  split at g
  · rename_i i j
    cases d with
    | cons h1 h2 =>
      cases h1
      cases h2 with
      | cons h3 h4 =>
        cases h3
        cases h4
        exact ⟨i, j, rfl, f u M H _ _ g rp (Ext.refl _ _) (.int _)⟩
  · exact g.elim
/-- len -/
def lenD (M : Mem) : D → Option Nat
  | .str z => some z.length
  | d => (seqOf M d).map List.length
def qLen : GC := fun ds M R => match ds with
  | [.str z] => z.length ≤ sizeLine ∧ R (.int z.length) M
  | [d] => match seqOf M d with
    | some es => R (.int es.length) M
    | none => False
  | _ => False
theorem len_of {K : PySem.W.Frag} {H : Hp} {p : Addr} {vs : List V} (h : SqL K H p vs ∨ SqT K H p vs) : LenV K (.ref p) H vs.length := by
  rcases h with h | h
  · exact .inl ⟨vs, h, rfl⟩
  · exact .inr ⟨vs, h, rfl⟩
theorem sim_len {K : PySem.W.Frag} : SimC K (fun xs H Q => ∃ x n, xs = [x] ∧ LenV K x H n ∧ Q (.int n) H) qLen := fun u M H xs ds Q R rp d g f => by
  unfold qLen at g
  split at g
  · rename_i z
    cases d with
    | cons h1 h2 =>
      cases h1
      cases h2
      exact ⟨.str z, z.length, rfl, ⟨g.1, rfl⟩, f u M H _ _ g.2 rp (Ext.refl _ _) (.int _)⟩
  · rename_i dd hne
    split at g
    · rename_i es e1
      cases d with
      | cons h1 h2 =>
        cases h2
        obtain ⟨p, vs, rfl, h3, h4⟩ := seq_at rp h1 e1
        refine ⟨.ref p, vs.length, rfl, len_of h3, ?_⟩
        rw [h4.length]
        exact f u M H _ _ g rp (Ext.refl _ _) (.int _)
    · exact g.elim
  · exact g.elim
/-- list(x), a value; a box -/
def qListOf : GC := fun ds M R => match ds with
  | [d] => match seqOf M d with
    | some es => R (.lst es) M
    | none => False
  | _ => False
def qListBox : GC := fun ds M R => match ds with
  | [d] => match seqOf M d with
    | some es => R (.box M.length) (M ++ [es])
    | none => False
  | _ => False
theorem sim_listOf {K : PySem.W.Frag} : SimC K (fun xs H Q => ∃ p ys, xs = [.ref p] ∧ (SqL K H p ys ∨ SqT K H p ys) ∧ ∀ l, H l = none → Q (.ref l) (upd H l (.lst ys))) qListOf := fun u M H xs ds Q R rp d g f => by
  unfold qListOf at g
  split at g
  · split at g
    · rename_i dd es e1
      cases d with
      | cons h1 h2 =>
        cases h2
        obtain ⟨p, vs, rfl, h3, h4⟩ := seq_at rp h1 e1
        refine ⟨p, vs, rfl, h3, fun l hl => ?_⟩
        obtain ⟨r2, e2, d2⟩ := new_lst rp hl h4
        exact f _ _ _ _ _ g r2 e2 d2
    · exact g.elim
  · exact g.elim
theorem sim_listBox {K : PySem.W.Frag} : SimC K (fun xs H Q => ∃ p ys, xs = [.ref p] ∧ (SqL K H p ys ∨ SqT K H p ys) ∧ ∀ l, H l = none → Q (.ref l) (upd H l (.lst ys))) qListBox := fun u M H xs ds Q R rp d g f => by
  unfold qListBox at g
  split at g
  · split at g
    · rename_i dd es e1
      cases d with
      | cons h1 h2 =>
        cases h2
        obtain ⟨p, vs, rfl, h3, h4⟩ := seq_at rp h1 e1
        refine ⟨p, vs, rfl, h3, fun l hl => ?_⟩
        obtain ⟨r2, e2, d2⟩ := new_box rp hl h4
        exact f _ _ _ _ _ g r2 e2 d2
    · exact g.elim
  · exact g.elim
/-- tuple(x) -/
def qTupOf : GC := fun ds M R => match ds with
  | [d] => match seqOf M d with
    | some es => R (.tup es) M
    | none => False
  | _ => False
theorem seq_at2 {u : Wd} {K : PySem.W.Frag} {M : Mem} {H : Hp} (r : Rep K u M H) {v : V} {d : D} {ds : List D} (h : Dv u K H v d) (q : seqOf M d = some ds) : ∃ p vs, v = .ref p ∧ DvAll u K H vs ds ∧ ((SqL K H p vs) ∨ (SqT K H p vs ∧ Dv u K H (.ref p) (.tup ds))) := by
  cases h <;> first | (cases q; done) | skip
  · rename_i h a
    cases q
    exact ⟨_, _, rfl, a, .inr ⟨h.sq, .tup h a⟩⟩
  · rename_i h s a
    cases q
    exact ⟨_, _, rfl, a, .inl (SqL.of h)⟩
  · rename_i h a
    cases q
    exact ⟨_, _, rfl, a, .inl h.sq⟩
  · rename_i p k hb
    obtain ⟨vs, e1, a⟩ := r.at_ k p ds hb q
    exact ⟨p, vs, rfl, a, .inl (SqL.of e1)⟩
theorem sim_tupOf {K : PySem.W.Frag} : SimC K (fun xs H Q => ∃ p ys, xs = [.ref p] ∧ ((SqL K H p ys ∧ ∀ l, H l = none → Q (.ref l) (upd H l (.tup ys))) ∨ (SqT K H p ys ∧ Q (.ref p) H))) qTupOf := fun u M H xs ds Q R rp d g f => by
  unfold qTupOf at g
  split at g
  · split at g
    · rename_i dd es e1
      cases d with
      | cons h1 h2 =>
        cases h2
        obtain ⟨p, vs, rfl, h4, h3⟩ := seq_at2 rp h1 e1
        refine ⟨p, vs, rfl, ?_⟩
        rcases h3 with h3 | ⟨h3, h5⟩
        · refine .inl ⟨h3, fun l hl => ?_⟩
          obtain ⟨r2, e2, d2⟩ := new_tup rp hl h4
          exact f _ _ _ _ _ g r2 e2 d2
        · exact .inr ⟨h3, f u M H _ _ g rp (Ext.refl _ _) h5⟩
    · exact g.elim
  · exact g.elim
/-- all, any of truths -/
def truths : List D → Option (List Bool)
  | [] => some []
  | .bl b :: ds => (truths ds).map (b :: ·)
  | _ :: _ => none
theorem truths_vs {u : Wd} {K : PySem.W.Frag} {H : Hp} : ∀ {vs : List V} {ds : List D} {bs : List Bool}, DvAll u K H vs ds → truths ds = some bs → vs = bs.map V.bl
  | _, _, _, .nil, q => by cases q; rfl
  | _, _ :: ds, _, .cons h a, q => by
    cases h <;> first | (cases q; done) | skip
    rename_i b
    rw [truths] at q
    cases e : truths ds with
    | none => rw [e] at q; cases q
    | some bs =>
      rw [e] at q
      cases q
      rw [truths_vs a e]
      rfl
def qAll (f : List Bool → Bool) : GC := fun ds M R => match ds with
  | [.lst es] => match truths es with
    | some bs => R (.bl (f bs)) M
    | none => False
  | _ => False
theorem sim_all {K : PySem.W.Frag} {fb : List Bool → Bool} : SimC K (fun vs H Q => ∃ (a : Addr) (bs : List Bool), vs = [V.ref a] ∧ SqL K H a (bs.map V.bl) ∧ Q (.bl (fb bs)) H) (qAll fb) := fun u M H xs ds Q R rp d g f => by
  unfold qAll at g
  split at g
  · split at g
    · rename_i es bs e1
      cases d with
      | cons h1 h2 =>
        cases h2
        cases h1 with
        | lst h s a =>
          have e := truths_vs a e1
          subst e
          exact ⟨_, bs, rfl, SqL.of h, f u M H _ _ g rp (Ext.refl _ _) (.bl _)⟩
    · exact g.elim
  · exact g.elim

/-! ### isinstance -/
def kd : D → Option Ky
  | .non => some .non | .bl _ => some .bool | .int _ => some .int | .str _ => some .str | .tup _ => some .tuple | .lst _ => some .list | .fz _ => some .list | .box _ => some .list | .ty _ => none
def isi : Ky → Ky → Bool
  | .non, .non => true
  | .bool, .bool => true
  | .bool, .int => true
  | .int, .int => true
  | .str, .str => true
  | .tuple, .tuple => true
  | .list, .list => true
  | _, _ => false
theorem kit_isi (a b : Ky) : kitB a.name b.name = some (isi a b) := by cases a <;> cases b <;> decide +kernel
theorem ty_of {u : Wd} {K : PySem.W.Frag} {M : Mem} {H : Hp} (r : Rep K u M H) {v : V} {d : D} {k : Ky} (h : Dv u K H v d) (q : kd d = some k) : TyX K H v (.type k.name) := by
  cases h with
  | non => cases q; exact .base .non
  | bl b => cases q; exact .base (.bl b)
  | int i => cases q; exact .base (.int i)
  | str x => cases q; exact .base (.str x)
  | ty n => cases q
  | tup h a =>
    cases q
    rcases h with ⟨h | ⟨o, h⟩, _⟩ | (h | ⟨o, h⟩) | ⟨o, its, n, h, c, _⟩
    · exact .base (.tup h)
    · exact .fTuple h
    · cases h
    · cases h
    · exact .kTuple h c
  | lst h s a =>
    cases q
    exact .base (.lst h)
  | fz h a =>
    cases q
    rcases h with ⟨h | ⟨o, h⟩, _⟩ | (h | ⟨o, h⟩) | ⟨o, its, n, h, c, _⟩
    · exact .base (.lst h)
    · exact .base (.frz h)
    · cases h
    · cases h
    · exact .kList h c
  | box hb =>
    cases q
    obtain ⟨vs, e⟩ := r.isLst (List.mem_of_getElem? hb)
    exact .base (.lst e)
def qIsi : GC := fun ds M R => match ds with
  | [d, .ty n] => match kd d with
    | some k => R (.bl (isi k n)) M
    | none => False
  | _ => False
theorem sim_isi {K : PySem.W.Frag} : SimC K (rIsi K) qIsi := fun u M H xs ds Q R rp d g f => by
  unfold qIsi at g
  split at g
  · split at g
    · rename_i k e1
      cases d with
      | cons h1 h2 =>
        cases h2 with
        | cons h3 h4 =>
          cases h4
          cases h3
          exact ⟨_, _, _, _, _, rfl, .ty _, ty_of rp h1 e1, kit_ty (kit_isi _ _), f u M H _ _ g rp (Ext.refl _ _) (.bl _)⟩
    · exact g.elim
  · exact g.elim
/-- isinstance(x, (A, B)) -/
def gIsi2 (n m : Ky) (ga : GE) : GE := fun ρ M R W => ga ρ M (fun d M1 => match kd d with
  | some k => R (.bl (isi k n || isi k m)) M1
  | none => False) W
theorem de_isi2 {x1 : Nat} {y z : Str} {p1 p2 p3 : Pos} (n m : Ky) (hg : Gl X "isinstance") (hm : X.mg "isinstance" = none) (ha : DE X a ga) (hy : PE X (.Name y p1) (tC (.ty n.name))) (hz : PE X (.Name z p2) (tC (.ty m.name)))
    (he : starEach (a :: [.Tuple [.Name y p1, .Name z p2] x1 p3]) X.env = (false, eval a X.env) :: starEach [.Tuple [.Name y p1, .Name z p2] x1 p3] X.env := by rfl) (hpl : (backTo pos (starEach [.Tuple [.Name y p1, .Name z p2] x1 p3] X.env)).any (·.1) = false := by rfl) :
    DE X (.Call (.Name "isinstance" p) [a, .Tuple [.Name y p1, .Name z p2] x1 p3] [] pos) (gIsi2 n m ga) := fun Wv tk => by
  obtain ⟨ta, pa, sa⟩ := ha Wv tk
  refine ⟨_, pe_callB call_isiT hg hm PyProof.Rows.boot_isinstance (pa_cons pa (pa_cons (pe_tup (pa_cons hy (pa_cons hz pa_nil))) pa_nil) he) (by decide) (by decide) he hpl, fun u M H σ ρ Q R W r s g f o => sa u M H σ ρ _ _ W r s g (fun u1 M1 H1 v d g1 r1 e1 d1 => ?_) o⟩
  split at g1
  · rename_i k e2
    refine ⟨by show 2 ≤ sizeLine; decide, fun tp htp => ?_⟩
    obtain ⟨r2, e3⟩ := r1.new htp (.tup [.ty n.name, .ty m.name])
    refine ⟨v, tp, [.ty n.name, .ty m.name], _, [.type n.name, .type m.name], isi k n || isi k m, rfl, upd_same, .cons (.ty _) (.cons (.ty _) .nil), ty_of r2 (d1.ext e3) e2, ?_, f _ _ _ _ _ g1 r2 (e1.trans e3) (.bl _)⟩
    refine kitAny_cons (kit_ty (kit_isi k n)) (fun hf => kitAny_cons (kit_ty (kit_isi k m)) (fun hf2 => ?_) fun ht => ?_) fun ht => ?_
    · rw [hf, hf2]
      exact kitAny_nil
    · rw [ht, Bool.or_true]
    · rw [ht, Bool.true_or]
  · exact g1.elim

/-! ### lists and tuples put together -/
def qCat : GR := fun x y M R => match x, y with
  | .lst xs, .lst ys => xs.length + ys.length ≤ sizeLine ∧ R (.lst (xs ++ ys)) M
  | _, _ => False
def qCatT : GR := fun x y M R => match x, y with
  | .tup xs, .tup ys => xs ≠ [] ∧ xs.length + ys.length ≤ sizeLine ∧ R (.tup (xs ++ ys)) M
  | _, _ => False
def qRepL : GR := fun x y M R => match x, y with
  | .lst xs, .int k => -(2 ^ 63) ≤ k ∧ k < 2 ^ 63 ∧ xs.length * k.toNat ≤ sizeLine ∧ R (.lst (List.replicate k.toNat xs).flatten) M
  | _, _ => False
theorem de_cat (ha : DE X a ga) (hb : DE X b gb) : DE X (.BinOp a .Add b pos) (gOp qCat ga gb) := de_op op_cat (fun u M H x y dx dy Q R rp hx hy g f => by
  unfold qCat at g
  split at g
  · cases hx with
    | lst h1 s1 a1 =>
      cases hy with
      | lst h2 s2 a2 =>
        refine ⟨_, _, _, _, rfl, rfl, h1, h2, by rw [a1.length, a2.length]; exact g.1, fun l hl => ?_⟩
        obtain ⟨r2, e2, d2⟩ := new_lst rp hl (a1.append a2)
        exact f _ _ _ _ _ g.2 r2 e2 d2
  · exact g.elim) ha hb
theorem de_catT (ha : DE X a ga) (hb : DE X b gb) : DE X (.BinOp a .Add b pos) (gOp qCatT ga gb) := de_op op_catT (fun u M H x y dx dy Q R rp hx hy g f => by
  unfold qCatT at g
  split at g
  · cases hx with
    | tup h1 a1 =>
      cases hy with
      | tup h2 a2 =>
        refine ⟨_, _, _, _, rfl, rfl, h1.sq, h2.sq, fun z => ?_, by rw [a1.length, a2.length]; exact g.2.1, fun z => ?_, fun z l hl => ?_⟩
        · subst z
          cases a1
          exact g.1 rfl
        · subst z
          cases a2
          refine f u M H _ _ g.2.2 rp (Ext.refl _ _) ?_
          rw [List.append_nil]
          exact .tup h1 a1
        · obtain ⟨r2, e2, d2⟩ := new_tup rp hl (a1.append a2)
          exact f _ _ _ _ _ g.2.2 r2 e2 d2
  · exact g.elim) ha hb
theorem rep_flat {u : Wd} {K : PySem.W.Frag} {H : Hp} {vs : List V} {ds : List D} (a : DvAll u K H vs ds) : ∀ n : Nat, DvAll u K H (List.replicate n vs).flatten (List.replicate n ds).flatten
  | 0 => .nil
  | n + 1 => by
    rw [List.replicate_succ, List.replicate_succ, List.flatten_cons, List.flatten_cons]
    exact a.append (rep_flat a n)
theorem de_repL (ha : DE X a ga) (hb : DE X b gb) : DE X (.BinOp a .Mult b pos) (gOp qRepL ga gb) := de_op op_rep (fun u M H x y dx dy Q R rp hx hy g f => by
  unfold qRepL at g
  split at g
  · cases hx with
    | lst h1 s1 a1 =>
      cases hy
      refine ⟨_, _, _, rfl, rfl, h1, g.1, g.2.1, by rw [a1.length]; exact g.2.2.1, fun l hl => ?_⟩
      obtain ⟨r2, e2, d2⟩ := new_lst rp hl (rep_flat a1 _)
      exact f _ _ _ _ _ g.2.2.2 r2 e2 d2
  · exact g.elim) ha hb

/-! ### slices of tuples, lists, texts -/
def cutD (ds : List D) (lo hi : Option Int) : List D := (ds.drop (HT.sIx ds.length 0 lo)).take (HT.sIx ds.length ds.length hi - HT.sIx ds.length 0 lo)
theorem cut_D {u : Wd} {K : PySem.W.Frag} {H : Hp} {vs : List V} {ds : List D} (a : DvAll u K H vs ds) (lo hi : Option Int) : DvAll u K H (cutV vs lo hi) (cutD ds lo hi) := by
  unfold cutV cutD
  rw [a.length]
  exact (a.drop _).take _
abbrev GO := DSt → Mem → (Option Int → Mem → Prop) → DW → Prop
def SimO (K : PySem.W.Frag) (Wv : WX) (t : TO) (g : GO) : Prop := ∀ (u : Wd) (M : Mem) (H : Hp) (σ : St) (ρ : DSt) (Q : Option Int → Hp → Prop) (R : Option Int → Mem → Prop) (W : DW),
  Rep K u M H → DSl u K H σ ρ → g ρ M R W → (∀ u' M' H' b, R b M' → Rep K u' M' H' → Ext u H u' H' → Q b H') → Out K u H W Wv σ → t σ H Q
def DO (X : Cx) (e : Option Expr) (g : GO) : Prop := ∀ Wv : WX, Takes X Wv → ∃ t, PO X e t ∧ SimO X.K Wv t g
def gNoPart : GO := fun _ M R _ => R none M
def gPart (g : GE) : GO := fun ρ M R W => g ρ M (fun x M1 => match x with
  | .int i => R (some i) M1
  | _ => False) W
theorem do_none : DO X none gNoPart := fun Wv _ => ⟨_, po_none, fun u M H σ ρ Q R W r s g f o => f u M H none g r (Ext.refl _ _)⟩
theorem do_some (h : DE X a ga) : DO X (some a) (gPart ga) := fun Wv tk => by
  obtain ⟨t, pt, st⟩ := h Wv tk
  refine ⟨_, po_some pt, fun u M H σ ρ Q R W r s g f o => st u M H σ ρ _ _ W r s g (fun u1 M1 H1 v d g1 r1 e1 d1 => ?_) o⟩
  cases d1 <;> first | exact g1.elim | skip
  rename_i i
  exact ⟨i, rfl, f u1 M1 H1 _ g1 r1 e1⟩
abbrev GSl := D → Option Int → Option Int → Mem → (D → Mem → Prop) → Prop
def gSl (q : GSl) (ge : GE) (gl gh : GO) : GE := fun ρ M R W => ge ρ M (fun x M1 => gl ρ M1 (fun lo M2 => gh ρ M2 (fun hi M3 => q x lo hi M3 R) W) W) W
def qSlT : GSl := fun x lo hi M R => match x with
  | .tup ds => ¬ (HT.sIx ds.length 0 lo = 0 ∧ HT.sIx ds.length ds.length hi = ds.length) ∧ R (.tup (cutD ds lo hi)) M
  | _ => False
def qSlL : GSl := fun x lo hi M R => match seqOf M x, x with
  | some _, .tup _ => False
  | some ds, _ => R (.lst (cutD ds lo hi)) M
  | none, _ => False
variable {gl gh : GO} {lo hi : Option Expr} {p2 : Pos}
theorem de_sl {r : V → Option Int → Option Int → Hp → VK → Prop} {q : GSl} (hr : SlR X r) (hq : ∀ u M H x dx lo hi Q R, Rep X.K u M H → Dv u X.K H x dx → q dx lo hi M R → Fin X.K u H R Q → r x lo hi H Q)
    (he : DE X a ga) (hl : DO X lo gl) (hh : DO X hi gh) : DE X (.Subscript a (.Slice lo hi none p2) pos) (gSl q ga gl gh) := fun Wv tk => by
  obtain ⟨t1, p1, s1⟩ := he Wv tk
  obtain ⟨t2, p2, s2⟩ := hl Wv tk
  obtain ⟨t3, p3, s3⟩ := hh Wv tk
  refine ⟨_, pe_slice hr p1 p2 p3, fun u M H σ ρ Q R W rp s g f o => s1 u M H σ ρ _ _ W rp s g (fun u1 M1 H1 x dx g1 r1 e1 d1 => ?_) o⟩
  refine s2 u1 M1 H1 σ ρ _ _ W r1 (s.ext e1) g1 (fun u2 M2 H2 lo g2 r2 e2 => ?_) (o.ext e1)
  refine s3 u2 M2 H2 σ ρ _ _ W r2 (s.ext (e1.trans e2)) g2 (fun u3 M3 H3 hi g3 r3 e3 => ?_) (o.ext (e1.trans e2))
  exact hq u3 M3 H3 x dx lo hi Q R r3 (d1.ext (e2.trans e3)) g3 (f.ext (e1.trans (e2.trans e3)))
theorem de_slT (he : DE X a ga) (hl : DO X lo gl) (hh : DO X hi gh) : DE X (.Subscript a (.Slice lo hi none p2) pos) (gSl qSlT ga gl gh) := de_sl sl_tup (fun u M H x dx lo hi Q R rp hx g f => by
  unfold qSlT at g
  split at g
  · cases hx with
    | tup h1 a1 =>
      refine ⟨_, _, rfl, h1.sq, by rw [a1.length]; exact g.1, fun l hl => ?_⟩
      obtain ⟨r2, e2, d2⟩ := new_tup rp hl (cut_D a1 lo hi)
      exact f _ _ _ _ _ g.2 r2 e2 d2
  · exact g.elim) he hl hh
end
end DL

namespace DL
open PySem PySem.Spec L2

/-! ### canonical readings -/
def tE (K : PySem.W.Frag) (Wv : WX) (g : GE) : TE := fun σ H Q => ∃ u M ρ R W, Rep K u M H ∧ DSl u K H σ ρ ∧ g ρ M R W ∧ Fin K u H R Q ∧ Out K u H W Wv σ
def tT (K : PySem.W.Frag) (Wv : WX) (g : GT) : TT := fun σ H Q => ∃ u M ρ R W, Rep K u M H ∧ DSl u K H σ ρ ∧ g ρ M R W ∧ (∀ u' M' H' b, R b M' → Rep K u' M' H' → Ext u H u' H' → Q b H') ∧ Out K u H W Wv σ
theorem DE.pe {X : Cx} {e : Expr} {g : GE} {Wv : WX} (h : DE X e g) (tk : Takes X Wv) : PE X e (tE X.K Wv g) := by
  obtain ⟨t, p, s⟩ := h Wv tk
  exact ⟨fun pins sh σ H Q I ⟨u, M, ρ, R, W, r, sl, q, f, o⟩ => p.run pins sh σ H Q I (s u M H σ ρ Q R W r sl q f o)⟩
theorem DT.pt {X : Cx} {e : Expr} {g : GT} {Wv : WX} (h : DT X e g) (tk : Takes X Wv) : PT X e (tT X.K Wv g) := by
  obtain ⟨t, p, s⟩ := h Wv tk
  exact ⟨fun pins sh σ H Q I ⟨u, M, ρ, R, W, r, sl, q, f, o⟩ => p.run pins sh σ H Q I (s u M H σ ρ Q R W r sl q f o)⟩

/-! ### a def's promise over data -/
def spD (K : PySem.W.Frag) (sp : DSp) : Sp := fun vs H Q E => ∃ u M ds R W, Rep K u M H ∧ DvAll u K H vs ds ∧ sp ds M R W ∧ Fin K u H R Q ∧ ∀ u' M' H' cls od fs, W cls fs M' → Rep K u' M' H' → Ext u H u' H' → XdAt u' K H' od fs → E cls od H'
/-- the def at f keeps sp -/
abbrev FnD (P : Program) (w : World) (K : PySem.W.Frag) (mg : Str → Option Value) (base : Heap) (k : Nat) (f : Addr) (fd : FuncData) (ps : List Str) (sp : DSp) : Prop := FnOk P w K mg base (L2.CX P w) k f fd ps (spD K sp)
def startD (n : Nat) (ds : List D) : DSt := ds.map some ++ List.replicate (n - ds.length) none
theorem DvAll.sl {u : Wd} {K : PySem.W.Frag} {H : Hp} {vs : List V} {ds : List D} {N : List Str} (a : DvAll u K H vs ds) : DSl u K H (start N vs) (startD N.length ds) := by
  refine ⟨by simp [L2.start, startD, a.length], fun i d h => ?_⟩
  unfold startD at h
  unfold L2.start
  by_cases hi : i < ds.length
  · rw [List.getElem?_append_left (by simpa using hi), List.getElem?_map] at h
    cases e : ds[i]? with
    | none => rw [e] at h; cases h
    | some d' =>
      rw [e] at h
      cases h
      obtain ⟨v, e1, h1⟩ := a.get e
      refine ⟨v, ?_, h1⟩
      rw [List.getElem?_append_left (by rw [List.length_map, a.length]; exact hi), List.getElem?_map, e1]
      rfl
  · rw [List.getElem?_append_right (by simpa using hi), List.getElem?_replicate] at h
    split at h <;> cases h
def GEnds.fn (R : D → Mem → Prop) (W : DW) : GEnds := ⟨fun _ M => R .non M, R, fun _ _ => False, fun _ _ => False, fun c fs _ M => W c fs M⟩
section
variable {P : Program} {w : World} {K : PySem.W.Frag} {mg : Str → Option Value} {base : Heap} {x qual : Str} {params : Arguments} {body : List Stmt} {scope : Scope} {dvs : List V} {kws : List (Str × V)} {f : Addr} {fd : FuncData}
theorem fn_D {N ps : List Str} {k : Nat} {sp : DSp} {g : GS} (F : FunD K x qual params body scope dvs kws f fd) (S : FnScope N ps scope) (len : ∀ ds M R W, sp ds M R W → ds.length = ps.length)
    (hb : ∀ (cdv : Value) (A : Around) (outer : List Env) (s : Shared) (H : Hp) (E : XK), Room k (A.deeper (PyProof.Rows.envOfC qual scope s.heap.objs.size f cdv)) → DSs (cxOf (L2.CX P w) P w K mg base N qual scope f cdv A outer s H E) body g)
    (hg : ∀ ds M R W, sp ds M R W → g (GEnds.fn R W) (startD N.length ds) M) : FnD P w K mg base (k + 1) f fd ps sp := by
  refine F.ok S (fun vs H Q E h => ?_) fun cdv A outer s H vs Q E hr h => ?_
  · obtain ⟨u, M, ds, R, W, r, a, q, _⟩ := h
    rw [a.length]
    exact len ds M R W q
  · obtain ⟨u, M, ds, R, W, r, a, q, fi, ou⟩ := h
    obtain ⟨t, pt, st⟩ := hb cdv A outer s H E hr (fun cls d _ H' => E cls d H') (takes_of rfl rfl rfl rfl)
    refine ⟨t, pt, st u M H _ _ _ (GEnds.fn R W) r a.sl (hg ds M R W q) ⟨fun u' M' H' σ' ρ' h r' e' s' => fi u' M' H' _ _ h r' e' .non, fun _ _ _ _ _ h => h.elim, fun _ _ _ _ _ h => h.elim, fi, fun u' M' H' σ' ρ' cls od fs h r' e' _ z => ou u' M' H' cls od fs h r' e' z⟩⟩
end

/-! ### calls of defs -/
section
variable {X : Cx} {a b c : Expr} {ga gb gc : GE} {pos : Pos} {k : Nat} {f : Addr} {fd : FuncData} {ps ks : List Str} {sp : DSp} {x : Str} {p : Pos} {e : Expr} {es : List Expr} {g gk : GA} {ds : List Value} {dvs : List V} {dds : List D}
/-- f(..): the written arguments, then the defaults -/
def gCall (sp : DSp) (dds : List D) (t : GA) : GE := fun ρ M R W => t ρ M (fun xs M1 => sp (xs ++ dds) M1 R W) W
theorem de_call (F : FnD X.prog X.w X.K X.mg X.base k f fd ps sp) (hr : Room k X.A) (hg : Gl X x) (hm : X.mg x = some (.ref f)) (hk : PySem.W.keepIn X.K (.ref f) = true) (hb : Binds X.K fd ps ds) (hd : Vals dvs ds) (hdd : ∀ u H, DvAll u X.K H dvs dds)
    (ha : DA X (e :: es) g) (hdb : (x == ("__debug__" : Str)) = false := by decide) (he : starEach (e :: es) X.env = (false, eval e X.env) :: starEach es X.env := by rfl) (hpl : (backTo pos (starEach es X.env)).any (·.1) = false := by rfl) :
    DE X (.Call (.Name x p) (e :: es) [] pos) (gCall sp dds g) := fun Wv tk => by
  obtain ⟨t, pt, st⟩ := ha Wv tk
  refine ⟨_, pe_callSD (E := WE Wv) F hr hg hm hk hb hd (fun σ => passAt tk σ) pt hdb he hpl, fun u M H σ ρ Q R W r s g f o => st u M H σ ρ _ _ W r s g (fun u1 M1 H1 vs xs g1 r1 e1 d1 => ?_) o⟩
  exact ⟨u1, M1, xs ++ dds, R, W, r1, d1.append (hdd _ _), g1, f.ext e1, fun u' M' H' cls od fs w r' e' z => o u' M' H' cls od fs w r' (e1.trans e') z⟩
/-- f(.., k = v, ..) with keywords -/
def gCallK (sp : DSp) (gD : List D → List D → List D) (t tk : GA) : GE := fun ρ M R W => t ρ M (fun xs M1 => tk ρ M1 (fun zs M2 => sp (gD xs zs) M2 R W) W) W
end

/-! ### statements -/
section
variable {X : Cx} {a b c e : Expr} {ga gb gc ge : GE} {pos : Pos} {st : Stmt} {rest : List Stmt} {g1 g2 : GS} {gt : GT}
def gNext : GS := fun G ρ M => G.nx ρ M
def gSeq (g1 g2 : GS) : GS := fun G ρ M => g1 { G with nx := g2 G } ρ M
theorem dss_nil : DSs X [] gNext := fun Wv _ => ⟨_, pss_nil, fun u M H σ ρ D G r s g j => j.nx u M H σ ρ g r (Ext.refl _ _) s⟩
theorem dss_cons (h1 : DS X st g1) (h2 : DSs X rest g2) : DSs X (st :: rest) (gSeq g1 g2) := fun Wv tk => by
  obtain ⟨t1, p1, s1⟩ := h1 Wv tk
  obtain ⟨t2, p2, s2⟩ := h2 Wv tk
  refine ⟨_, pss_cons p1 p2, fun u M H σ ρ D G r s g j => s1 u M H σ ρ _ _ r s g ⟨fun u' M' H' σ' ρ' h r' e' s' => ?_, j.bk, j.ct, j.rt, j.ex⟩⟩
  exact s2 u' M' H' σ' ρ' D G r' s' h (j.ext e')
theorem dss_one (h1 : DS X st g1) : DSs X [st] g1 := fun Wv tk => let ⟨t1, p1, s1⟩ := h1 Wv tk; ⟨t1, pss_one p1, s1⟩
theorem ds_pass : DS X (.Pass pos) gNext := fun Wv _ => ⟨_, ps_pass, fun u M H σ ρ D G r s g j => j.nx u M H σ ρ g r (Ext.refl _ _) s⟩
def gBreak : GS := fun G ρ M => G.bk ρ M
def gCont : GS := fun G ρ M => G.ct ρ M
theorem ds_break : DS X (.Break pos) gBreak := fun Wv _ => ⟨_, ps_break, fun u M H σ ρ D G r s g j => j.bk u M H σ ρ g r (Ext.refl _ _) s⟩
theorem ds_continue : DS X (.Continue pos) gCont := fun Wv _ => ⟨_, ps_continue, fun u M H σ ρ D G r s g j => j.ct u M H σ ρ g r (Ext.refl _ _) s⟩
def gDrop (ge : GE) : GS := fun G ρ M => ge ρ M (fun _ M1 => G.nx ρ M1) (fun c fs M' => G.ex c fs ρ M')
theorem ds_expr (he : DE X e ge) (hs : swapsWith e none pos.line X.env = pure false := by rfl) : DS X (.Expr e pos) (gDrop ge) := fun Wv tk => by
  obtain ⟨t, p, s⟩ := he Wv tk
  exact ⟨_, ps_expr p hs, fun u M H σ ρ D G r sl g j => s u M H σ ρ _ _ _ r sl g (fun u1 M1 H1 v d h r1 e1 d1 => j.nx u1 M1 H1 σ ρ h r1 e1 (sl.ext e1)) (j.out sl)⟩
def gRet (ge : GE) : GS := fun G ρ M => ge ρ M G.rt (fun c fs M' => G.ex c fs ρ M')
theorem ds_ret (he : DE X e ge) : DS X (.Return (some e) pos) (gRet ge) := fun Wv tk => by
  obtain ⟨t, p, s⟩ := he Wv tk
  exact ⟨_, ps_ret p, fun u M H σ ρ D G r sl g j => s u M H σ ρ _ _ _ r sl g j.rt (j.out sl)⟩
def gRetN : GS := fun G _ M => G.rt .non M
theorem ds_retN : DS X (.Return none pos) gRetN := fun Wv _ => ⟨_, ps_retN, fun u M H σ ρ D G r sl g j => j.rt u M H _ _ g r (Ext.refl _ _) .non⟩
def gIfS (t : GT) (g1 g2 : GS) : GS := fun G ρ M => t ρ M (fun c M1 => if c = true then g1 G ρ M1 else g2 G ρ M1) (fun c fs M' => G.ex c fs ρ M')
theorem ds_if {p q : List Stmt} (hc : DT X c gt) (ha : DSs X p g1) (hb : DSs X q g2) : DS X (.If c p q pos) (gIfS gt g1 g2) := fun Wv tk => by
  obtain ⟨t1, p1, s1⟩ := hc Wv tk
  obtain ⟨t2, p2, s2⟩ := ha Wv tk
  obtain ⟨t3, p3, s3⟩ := hb Wv tk
  refine ⟨_, ps_if p1 p2 p3, fun u M H σ ρ D G r s g j => s1 u M H σ ρ _ _ _ r s g (fun u1 M1 H1 b h r1 e1 => ?_) (j.out s)⟩
  cases b with
  | true =>
    rw [if_pos rfl] at h ⊢
    exact s2 u1 M1 H1 σ ρ D G r1 (s.ext e1) h (j.ext e1)
  | false =>
    rw [if_neg Bool.false_ne_true] at h ⊢
    exact s3 u1 M1 H1 σ ρ D G r1 (s.ext e1) h (j.ext e1)
def gNever : GS := fun _ _ _ => False
theorem ds_never : DS X st gNever := fun Wv _ => ⟨_, ps_never, fun u M H σ ρ D G r s g j => g.elim⟩

/-! ### targets -/
abbrev GG := D → DSt → Mem → (DSt → Mem → Prop) → DW → Prop
def SimG (K : PySem.W.Frag) (Wv : WX) (t : TG) (g : GG) : Prop := ∀ (u : Wd) (M : Mem) (H : Hp) (σ : St) (ρ : DSt) (v : V) (d : D) (Q : St → Hp → Prop) (R : DSt → Mem → Prop) (W : DW),
  Rep K u M H → DSl u K H σ ρ → Dv u K H v d → g d ρ M R W → (∀ u' M' H' σ' ρ', R ρ' M' → Rep K u' M' H' → Ext u H u' H' → DSl u' K H' σ' ρ' → Q σ' H') → Out K u H W Wv σ → t v σ H Q
def DG (X : Cx) (tg : Expr) (g : GG) : Prop := ∀ Wv : WX, Takes X Wv → ∃ t, PG X tg t ∧ SimG X.K Wv t g
def ggName (i : Nat) : GG := fun d ρ M R _ => R (ρ.set i (some d)) M
theorem sim_name {K : PySem.W.Frag} {Wv : WX} (i : Nat) : SimG K Wv (gName i) (ggName i) := fun u M H σ ρ v d Q R W r s dv g f o => f u M H _ _ g r (Ext.refl _ _) (s.set i dv)
theorem dg_name {i : Nat} {x : Str} (hN : X.N.Nodup) (hi : X.N[i]? = some x) (hx : Loc X.env.scope x) (hf : X.fn x = true ∨ X.env.scope.names.lookup x = some .local := by first | exact .inl rfl | exact .inr rfl | assumption) : DG X (.Name x pos) (ggName i) := fun Wv _ => ⟨_, pg_name hN hi hx hf, sim_name i⟩
/-- several names at once -/
def ggNames : List Nat → List D → DSt → Mem → (DSt → Mem → Prop) → Prop
  | [], [], ρ, M, R => R ρ M
  | i :: is, d :: ds, ρ, M, R => ggNames is ds (ρ.set i (some d)) M R
  | _, _, _, _, _ => False
def ggTup (is : List Nat) : GG := fun d ρ M R _ => match d with
  | .tup ds => ggNames is ds ρ M R
  | _ => False
def tNames : List Nat → TGs
  | [] => L2.gNil
  | i :: is => L2.gCons (gName i) (tNames is)
theorem names_len : ∀ {is : List Nat} {ds : List D} {ρ : DSt} {M : Mem} {R : DSt → Mem → Prop}, ggNames is ds ρ M R → ds.length = is.length
  | [], [], _, _, _, _ => rfl
  | _ :: is, _ :: ds, _, _, _, h => congrArg Nat.succ (names_len (is := is) (ds := ds) h)
  | [], _ :: _, _, _, _, h => h.elim
  | _ :: _, [], _, _, _, h => h.elim
theorem sim_names {K : PySem.W.Frag} {u : Wd} {M : Mem} {H : Hp} (r : Rep K u M H) : ∀ {is : List Nat} {vs : List V} {ds : List D} {σ : St} {ρ : DSt} {Q : St → Hp → Prop} {R : DSt → Mem → Prop}, DSl u K H σ ρ → DvAll u K H vs ds → ggNames is ds ρ M R →
    (∀ σ' ρ', R ρ' M → DSl u K H σ' ρ' → Q σ' H) → tNames is vs σ H Q
  | [], _, _, _, _, _, _, s, .nil, g, f => ⟨rfl, f _ _ g s⟩
  | i :: is, _, _, _, _, _, _, s, .cons h a, g, f => ⟨_, _, rfl, sim_names r (s.set i h) a g f⟩
  | [], _, _, _, _, _, _, _, .cons _ _, g, _ => g.elim
  | _ :: _, _, _, _, _, _, _, _, .nil, g, _ => g.elim
theorem dg_tup {es : List Expr} {kk : Nat} {is : List Nat} {n : Nat} (hn : n = is.length) (h : PG X (.Tuple es kk pos) (L2.gTup X.K n (tNames is))) : DG X (.Tuple es kk pos) (ggTup is) := fun Wv _ => by
  refine ⟨_, h, fun u M H σ ρ v d Q R W r s dv g f o => ?_⟩
  unfold ggTup at g
  split at g
  · cases dv with
    | tup h1 a1 => exact ⟨_, _, rfl, h1.sq, by rw [a1.length, hn]; exact names_len g, sim_names r s a1 g fun σ' ρ' h2 s2 => f u M H _ _ h2 r (Ext.refl _ _) s2⟩
  · exact g.elim
/-- o[i] = v, o a box -/
def ggSub (go gi : GE) : GG := fun d ρ M R W => go ρ M (fun o M1 => gi ρ M1 (fun i M2 => match o, i with
  | .box k, .int z => match M2[k]? with
    | some ds => match ixN ds.length z with
      | some j => R ρ (M2.set k (ds.set j d))
      | none => False
    | none => False
  | _, _ => False) W) W
theorem dg_sub {o i : Expr} {go gi : GE} (ho : DE X o go) (hi : DE X i gi)
    (ha : ∀ v, assign (.Subscript o i pos) X.env v = (do
      let ov ← holding [v] (eval o X.env)
      let iv ← holding [v, ov] (eval i X.env)
      standAt pos
      holding [v, ov, iv] (setItem ov iv v)
      release [v, ov, iv] []) := by intro _; rfl) : DG X (.Subscript o i pos) (ggSub go gi) := fun Wv tk => by
  obtain ⟨t1, p1, s1⟩ := ho Wv tk
  obtain ⟨t2, p2, s2⟩ := hi Wv tk
  refine ⟨_, pg_sub p1 p2 set_list ha, fun u M H σ ρ v d Q R W r s dv g f o => s1 u M H σ ρ _ _ W r s g (fun u1 M1 H1 ov od g1 r1 e1 d1 => ?_) o⟩
  refine s2 u1 M1 H1 σ ρ _ _ W r1 (s.ext e1) g1 (fun u2 M2 H2 iv id g2 r2 e2 d2 => ?_) (o.ext e1)
  split at g2
  · rename_i k z
    cases em : M2[k]? with
    | none => simp only [em] at g2
    | some ds =>
      simp only [em] at g2
      cases ej : ixN ds.length z with
      | none => simp only [ej] at g2
      | some j =>
        simp only [ej] at g2
        cases d1 with
        | box hb =>
          have hb2 := e2.at hb
          obtain ⟨vs, h1, a1⟩ := r2.at_ _ _ _ hb2 em
          cases d2
          have e12 := e1.trans e2
          obtain ⟨r3, e3⟩ := r2.put hb2 (a1.set j (dv.ext e12))
          exact ⟨_, vs, z, j, rfl, rfl, h1, by rw [a1.length]; exact ej, f _ _ _ _ _ g2 r3 (e12.trans e3) (s.ext (e12.trans e3))⟩
  · exact g2.elim
def gAsg (ge : GE) (gg : GG) : GS := fun G ρ M => ge ρ M (fun d M1 => gg d ρ M1 G.nx (fun c fs M' => G.ex c fs ρ M')) (fun c fs M' => G.ex c fs ρ M')
theorem sim_asg {K : PySem.W.Frag} {Wv : WX} {te : TE} {t : TG} {gg : GG} (h1 : SimE K Wv te ge) (h2 : SimG K Wv t gg) : SimS K Wv (tAsg te t) (gAsg ge gg) := fun u M H σ ρ D G r s g j =>
  h1 u M H σ ρ _ _ _ r s g (fun u1 M1 H1 v d g1 r1 e1 d1 => h2 u1 M1 H1 σ ρ v d _ _ _ r1 (s.ext e1) d1 g1 (fun u2 M2 H2 σ' ρ' h r2 e2 s2 => j.nx u2 M2 H2 σ' ρ' h r2 (e1.trans e2) s2) ((j.ext e1).out (s.ext e1))) (j.out s)
theorem ds_set {i : Nat} {x : Str} {pos' : Pos} (hN : X.N.Nodup) (hi : X.N[i]? = some x) (hx : Loc X.env.scope x) (he : DE X e ge) (hs : swapsWith e (some (.Name x pos')) pos.line X.env = pure false := by rfl)
    (hf : X.fn x = true ∨ X.env.scope.names.lookup x = some .local := by first | exact .inl rfl | exact .inr rfl | assumption) : DS X (.Assign [.Name x pos'] e pos) (gAsg ge (ggName i)) := fun Wv tk => by
  obtain ⟨t, p, s⟩ := he Wv tk
  exact ⟨_, ps_set hN hi hx p hs hf, sim_asg s (sim_name i)⟩
theorem ds_asg {tg : Expr} {gg : GG} (he : DE X e ge) (hg : DG X tg gg) (hs : swapsWithSole [tg] e pos.line X.env = pure false := by rfl) (hw : swappedStores [tg] e X.env = pure none := by rfl)
    (h1 : (assignEach [tg] X.env).map (·.2) = [assign tg X.env] := by rfl) : DS X (.Assign [tg] e pos) (gAsg ge gg) := fun Wv tk => by
  obtain ⟨t, p, s⟩ := he Wv tk
  obtain ⟨t2, p2, s2⟩ := hg Wv tk
  exact ⟨_, ps_asg p p2 hs hw h1, sim_asg s s2⟩
def gPar (i j : Nat) (gA : GA) : GS := fun G ρ M => gA ρ M (fun ds M1 => match ds with
  | [d, e] => G.nx ((ρ.set i (some d)).set j (some e)) M1
  | _ => False) (fun c fs M' => G.ex c fs ρ M')
theorem ds_par {i j : Nat} {x y : Str} {gA : GA} {px py pt : Pos} {kt k2 pt2} (hc : X.calm = true) (hN : X.N.Nodup) (hi : X.N[i]? = some x) (hj : X.N[j]? = some y) (hij : i ≠ j)
    (hx : X.env.scope.names.lookup x = some .local) (hy : X.env.scope.names.lookup y = some .local) (ha : DA X [a, b] gA)
    (hw : swappedStores [.Tuple [.Name x px, .Name y py] kt pt] (.Tuple [a, b] k2 pt2) X.env = pure (some [x, y]))
    (hs : swapsWithSole [.Tuple [.Name x px, .Name y py] kt pt] (.Tuple [a, b] k2 pt2) pos.line X.env = pure false := by rfl) :
    DS X (.Assign [.Tuple [.Name x px, .Name y py] kt pt] (.Tuple [a, b] k2 pt2) pos) (gPar i j gA) := fun Wv tk => by
  obtain ⟨t, p, st⟩ := ha Wv tk
  refine ⟨_, ps_par hc hN hi hj hij hx hy p hw hs, fun u M H σ ρ D G r s g jn => st u M H σ ρ _ _ _ r s g (fun u1 M1 H1 vs ds g1 r1 e1 d1 => ?_) (jn.out s)⟩
  split at g1
  · cases d1 with
    | cons h1 q1 =>
      cases q1 with
      | cons h2 q2 =>
        cases q2
        exact ⟨_, _, rfl, jn.nx u1 M1 H1 _ _ g1 r1 e1 (((s.ext e1).set i h1).set j h2)⟩
  · exact g1.elim
def gAug (i : Nat) (ge : GE) (q : GR) : GS := fun G ρ M => match ρ[i]? with
  | some (some x) => ge ρ M (fun y M1 => q x y M1 fun z M2 => G.nx (ρ.set i (some z)) M2) (fun c fs M' => G.ex c fs ρ M')
  | _ => False
theorem ds_aug {i : Nat} {x : Str} {op : Operator} {ti : TIp} {q : GR} {pos' : Pos} (hN : X.N.Nodup) (hi : X.N[i]? = some x) (hx : Loc X.env.scope x) (he : DE X e ge) (ho : PIp X op ti) (hq : SimR X.K ti q)
    (hf : X.fn x = true ∨ X.env.scope.names.lookup x = some .local := by first | exact .inl rfl | exact .inr rfl | assumption) : DS X (.AugAssign (.Name x pos') op e pos) (gAug i ge q) := fun Wv tk => by
  obtain ⟨t, p, s⟩ := he Wv tk
  refine ⟨_, ps_aug hN hi hx p ho hf, fun u M H σ ρ D G r sl g j => ?_⟩
  unfold gAug at g
  split at g
  · rename_i d e1
    obtain ⟨v, h1, h2⟩ := sl.at_ i d e1
    refine ⟨v, h1, s u M H σ ρ _ _ _ r sl g (fun u1 M1 H1 y dy g1 r1 e1 d1 => ?_) (j.out sl)⟩
    exact hq u1 M1 H1 v y d dy _ _ r1 (h2.ext e1) d1 g1 fun u2 M2 H2 z dz g2 r2 e2 d2 => j.nx u2 M2 H2 _ _ g2 r2 (e1.trans e2) ((sl.ext (e1.trans e2)).set i d2)
  · exact g.elim
theorem sim_ipI {K : PySem.W.Frag} {h : Int → Int → Int} : SimR K (ipI h) (qI0 fun i j => .int (h i j)) := fun u M H x y dx dy Q R rp dx' dy' g fi => by
  cases dx' <;> cases dy' <;> first | exact g.elim | skip
  rename_i i j
  exact ⟨i, j, rfl, rfl, fi u M H _ _ g rp (Ext.refl _ _) (.int _)⟩

/-! ### while -/
def gWhile (gt : GT) (gb : GS) : GS := fun G ρ M => ∃ I : Nat → DSt → Mem → Prop, (∃ m, I m ρ M) ∧ ∀ m ρ M, I m ρ M →
  gt ρ M (fun b M1 => if b = true then gb { G with nx := fun ρ' M' => ∃ m', m' < m ∧ I m' ρ' M', ct := fun ρ' M' => ∃ m', m' < m ∧ I m' ρ' M', bk := G.nx } ρ M1 else G.nx ρ M1) (fun c fs M' => G.ex c fs ρ M')
theorem ds_while {body : List Stmt} {gb : GS} (hp : PassesOwn (model X.prog X.w) X.A X.env X.xe) (hc : DT X c gt) (hb : DSs X body gb) : DS X (.While c body [] pos) (gWhile gt gb) := fun Wv tk => by
  obtain ⟨t1, p1, s1⟩ := hc Wv tk
  obtain ⟨t2, p2, s2⟩ := hb Wv tk
  refine ⟨_, ps_while hp p1 p2, fun u M H σ ρ D G r s g j => ?_⟩
  obtain ⟨I, ⟨m0, i0⟩, turn⟩ := g
  refine ⟨fun m σ' H' => ∃ u' M' ρ', Rep X.K u' M' H' ∧ Ext u H u' H' ∧ DSl u' X.K H' σ' ρ' ∧ I m ρ' M', ⟨m0, u, M, ρ, r, Ext.refl _ _, s, i0⟩, ?_⟩
  rintro m σ1 H1 ⟨u1, M1, ρ1, r1, e1, sl1, i1⟩
  refine s1 u1 M1 H1 σ1 ρ1 _ _ _ r1 sl1 (turn m ρ1 M1 i1) (fun u2 M2 H2 b h r2 e2 => ?_) ((j.ext e1).out sl1)
  have e12 := e1.trans e2
  cases b with
  | true =>
    rw [if_pos rfl] at h ⊢
    refine ⟨fun σ' H' => ∃ m', m' < m ∧ ∃ u' M' ρ', Rep X.K u' M' H' ∧ Ext u H u' H' ∧ DSl u' X.K H' σ' ρ' ∧ I m' ρ' M', fun σ' H' h => h, s2 u2 M2 H2 σ1 ρ1 _ _ r2 (sl1.ext e2) h ?_⟩
    exact ⟨fun u3 M3 H3 σ3 ρ3 ⟨m', hm, h3⟩ r3 e3 s3 => ⟨m', hm, u3, M3, ρ3, r3, e12.trans e3, s3, h3⟩, fun u3 M3 H3 σ3 ρ3 h3 r3 e3 s3 => j.nx u3 M3 H3 σ3 ρ3 h3 r3 (e12.trans e3) s3,
      fun u3 M3 H3 σ3 ρ3 ⟨m', hm, h3⟩ r3 e3 s3 => ⟨m', hm, u3, M3, ρ3, r3, e12.trans e3, s3, h3⟩, j.rt.ext e12, (j.ext e12).ex⟩
  | false =>
    rw [if_neg Bool.false_ne_true] at h ⊢
    exact j.nx u2 M2 H2 σ1 ρ1 h r2 e12 (sl1.ext e2)
end
end DL

namespace DL
open PySem PySem.Spec L2

/-! ### what is walked -/
structure ItD (K : PySem.W.Frag) (u0 : Wd) (H0 : Hp) (J : It) (items : List D) (ok : Mem → Prop) : Prop where
  go : ∀ u M H i, Rep K u M H → Lat u0 H0 u H → ok M → i < items.length → J.go i H
  yl : ∀ u M H i x H' d, Rep K u M H → Lat u0 H0 u H → ok M → items[i]? = some d → J.yld i H x H' → ∃ u', Rep K u' M H' ∧ Ext u H u' H' ∧ Dv u' K H' x d
  st : ∀ u M H i, Rep K u M H → Lat u0 H0 u H → ok M → items.length ≤ i → J.stop i H
abbrev GI := DSt → Mem → (List D → (Mem → Prop) → Mem → Prop) → DW → Prop
def SimI (K : PySem.W.Frag) (Wv : WX) (t : TI) (g : GI) : Prop := ∀ (u : Wd) (M : Mem) (H : Hp) (σ : St) (ρ : DSt) (Q : It → Hp → Prop) (R : List D → (Mem → Prop) → Mem → Prop) (W : DW),
  Rep K u M H → DSl u K H σ ρ → g ρ M R W → (∀ u' M' H' J items ok, R items ok M' → ok M' → Rep K u' M' H' → Ext u H u' H' → ItD K u' H' J items ok → Q J H') → Out K u H W Wv σ → t σ H Q
def DI (X : Cx) (tg iter : Expr) (g : GI) : Prop := ∀ Wv : WX, Takes X Wv → ∃ t, PI X tg iter t ∧ SimI X.K Wv t g

/-- a list, a tuple or a text is walked, whichever comes -/
def iAny (K : PySem.W.Frag) (tl : TE) : TI := fun σ H R => tl σ H fun x H1 => (∃ a, x = .ref a ∧ (((∃ xs, SqL K H1 a xs) ∧ R (Itl K a) H1) ∨ ((∃ xs, SqT K H1 a xs) ∧ R (Itt K a) H1))) ∨ ∃ z, x = .str z ∧ R (Its z) H1
theorem pi_any {X : Cx} {tg l : Expr} {tl : TE} (hl : PE X l tl) : PI X tg l (iAny X.K tl) := by
  constructor
  intro pins sh σ H R I h
  refine thn (hl.run pins sh σ H _ I h) ?_
  rintro v s1 ⟨x, H1, I1, rx, (⟨p, rfl, q⟩ | ⟨z, rfl, q⟩)⟩
  · cases rx
    rcases q with ⟨⟨xs, hq⟩, q⟩ | ⟨⟨xs, hq⟩, q⟩
    · obtain ⟨its, _, pl, _⟩ := I1.list hq
      exact wpAny_pyIter_list pl.isList (pi_one (tk := s1.toks) I1 _ (turn_list p _) ⟨_, Heap.get?_push_size _ rfl, rfl, rfl⟩ q)
    · obtain ⟨its, _, pl, _⟩ := I1.tuple hq
      exact wpAny_pyIter_tuple (show s1.heap.IsTuple p its.toArray from pl) (pi_one (tk := s1.toks) I1 _ (turn_tuple p _) ⟨_, Heap.get?_push_size _ rfl, rfl, rfl⟩ q)
  · obtain ⟨t, rfl⟩ := rx
    by_cases hz : z.cps.all (· < 128) = true
    · exact wpAny_pyIter_ascii hz (pi_one (tk := s1.toks) I1 _ (turn_str _ z t "str_ascii_iterator" (.inl rfl)) ⟨_, Heap.get?_push_size _ rfl, rfl, rfl⟩ q)
    · exact wpAny_pyIter_wide (Bool.eq_false_iff.mpr hz) (pi_one (tk := s1.toks) I1 _ (turn_str _ z t "str_iterator" (.inr rfl)) ⟨_, Heap.get?_push_size _ rfl, rfl, rfl⟩ q)

section
variable {K : PySem.W.Frag} {u : Wd} {M : Mem} {H : Hp}
/-- a list that stays -/
theorem it_list {p : Addr} {vs : List V} {ds : List D} {ok : Mem → Prop} (h : ∀ u' M' H', Rep K u' M' H' → Lat u H u' H' → ok M' → ∃ vs, SqL K H' p vs ∧ DvAll u' K H' vs ds) : ItD K u H (Itl K p) ds ok where
  go := fun u' M' H' i r e o hi => by
    obtain ⟨vs, h1, a⟩ := h u' M' H' r e o
    obtain ⟨v, h2, _⟩ := a.get (List.getElem?_eq_getElem hi)
    exact ⟨vs, v, h1, h2⟩
  yl := fun u' M' H' i x H'' d r e o hd y => by
    obtain ⟨e1, y⟩ := y
    subst e1
    obtain ⟨vs, h1, a⟩ := h u' M' H'' r e o
    obtain ⟨v, h2, h3⟩ := a.get hd
    have e2 : x = v := Option.some.inj ((y vs h1).symm.trans h2)
    subst e2
    exact ⟨u', r, Ext.refl _ _, h3⟩
  st := fun u' M' H' i r e o hi => by
    obtain ⟨vs, h1, a⟩ := h u' M' H' r e o
    exact ⟨vs, h1, by rw [a.length]; exact hi⟩
theorem it_tup {p : Addr} {ds : List D} {ok : Mem → Prop} (h : ∀ u' M' H', Rep K u' M' H' → Lat u H u' H' → ok M' → ∃ vs, SqT K H' p vs ∧ DvAll u' K H' vs ds) : ItD K u H (Itt K p) ds ok where
  go := fun u' M' H' i r e o hi => by
    obtain ⟨vs, h1, a⟩ := h u' M' H' r e o
    obtain ⟨v, h2, _⟩ := a.get (List.getElem?_eq_getElem hi)
    exact ⟨vs, v, h1, h2⟩
  yl := fun u' M' H' i x H'' d r e o hd y => by
    obtain ⟨e1, y⟩ := y
    subst e1
    obtain ⟨vs, h1, a⟩ := h u' M' H'' r e o
    obtain ⟨v, h2, h3⟩ := a.get hd
    have e2 : x = v := Option.some.inj ((y vs h1).symm.trans h2)
    subst e2
    exact ⟨u', r, Ext.refl _ _, h3⟩
  st := fun u' M' H' i r e o hi => by
    obtain ⟨vs, h1, a⟩ := h u' M' H' r e o
    exact ⟨vs, h1, by rw [a.length]; exact hi⟩
/-- what is asked of the memory while a thing is walked -/
def okOf (M : Mem) : D → Mem → Prop
  | .box k => fun M' => M'[k]? = M[k]?
  | _ => fun _ => True
theorem okOf_self (M : Mem) (d : D) : okOf M d M := by cases d <;> first | trivial | rfl
/-- a sequence that stays, while the memory has it so -/
theorem seq_stays (r : Rep K u M H) {v : V} {d : D} {ds : List D} (h : Dv u K H v d) (q : seqOf M d = some ds) :
    ∃ p, v = .ref p ∧ ((∃ vs, SqL K H p vs) ∧ (∀ u' M' H', Rep K u' M' H' → Lat u H u' H' → okOf M d M' → ∃ vs, SqL K H' p vs ∧ DvAll u' K H' vs ds) ∨ (∃ vs, SqT K H p vs) ∧ (∀ u' M' H', Rep K u' M' H' → Lat u H u' H' → okOf M d M' → ∃ vs, SqT K H' p vs ∧ DvAll u' K H' vs ds)) := by
  cases h <;> first | (cases q; done) | skip
  · rename_i h a
    cases q
    exact ⟨_, rfl, .inr ⟨⟨_, h.sq⟩, fun u' M' H' r' e' _ => ⟨_, (e'.tup h).sq, a.lat e'⟩⟩⟩
  · rename_i h s a
    cases q
    exact ⟨_, rfl, .inl ⟨⟨_, SqL.of h⟩, fun u' M' H' r' e' _ => ⟨_, SqL.of ((e'.old _ s).trans h), a.lat e'⟩⟩⟩
  · rename_i h a
    cases q
    exact ⟨_, rfl, .inl ⟨⟨_, h.sq⟩, fun u' M' H' r' e' _ => ⟨_, (e'.fz h).sq, a.lat e'⟩⟩⟩
  · rename_i p k hb
    obtain ⟨vs, e1, a⟩ := r.at_ k p ds hb q
    refine ⟨p, rfl, .inl ⟨⟨_, SqL.of e1⟩, fun u' M' H' r' e' o => ?_⟩⟩
    have o' : M'[k]? = M[k]? := o
    have q' : M[k]? = some ds := q
    obtain ⟨vs', e2, a2⟩ := r'.at_ k p ds (e'.at hb) (o'.trans q')
    exact ⟨vs', SqL.of e2, a2⟩
end

/-- a text's signs -/
def signs (z : Str) : List D := z.cps.toList.map fun c => .str ⟨#[c]⟩
theorem it_str {K : PySem.W.Frag} {u : Wd} {H : Hp} (z : Str) (ok : Mem → Prop) : ItD K u H (Its z) (signs z) ok where
  go := fun u' M' H' i r e o hi => by simpa [signs, Its] using hi
  yl := fun u' M' H' i x H'' d r e o hd y => by
    obtain ⟨e1, c, h1, h2⟩ := y
    subst e1 h2
    have h3 : z.cps.toList[i]? = some c := by simpa using h1
    have h4 : some (D.str ⟨#[c]⟩) = some d := by
      rw [← hd]
      unfold signs
      rw [List.getElem?_map, h3]
      rfl
    cases h4
    exact ⟨u', r, Ext.refl _ _, .str _⟩
  st := fun u' M' H' i r e o hi => by simpa [signs, Its] using hi
/-- for x in e: a list, a tuple, a text -/
def giSeq (ge : GE) : GI := fun ρ M R W => ge ρ M (fun d M1 => match d with
  | .str z => R (signs z) (fun _ => True) M1
  | d => match seqOf M1 d with
    | some ds => R ds (okOf M1 d) M1
    | none => False) W
section
variable {X : Cx} {tg e a b c : Expr} {ge ga gb : GE} {pos p : Pos} {gA : GA}
theorem di_seq (he : DE X e ge) : DI X tg e (giSeq ge) := fun Wv tk => by
  obtain ⟨t, pt, st⟩ := he Wv tk
  refine ⟨_, pi_any pt, fun u M H σ ρ Q R W r s g f o => st u M H σ ρ _ _ W r s g (fun u1 M1 H1 v d g1 r1 e1 d1 => ?_) o⟩
  split at g1
  · rename_i z
    cases d1
    exact .inr ⟨z, rfl, f u1 M1 H1 _ _ _ g1 trivial r1 e1 (it_str z _)⟩
  · split at g1
    · rename_i ds q
      obtain ⟨p, rfl, h | h⟩ := seq_stays r1 d1 q
      · exact .inl ⟨p, rfl, .inl ⟨h.1, f u1 M1 H1 _ _ _ g1 (okOf_self _ _) r1 e1 (it_list (vs := []) h.2)⟩⟩
      · exact .inl ⟨p, rfl, .inr ⟨h.1, f u1 M1 H1 _ _ _ g1 (okOf_self _ _) r1 e1 (it_tup h.2)⟩⟩
    · exact g1.elim
/-- lo, lo + 1, .. -/
def rngD (lo : Int) (n : Nat) : List D := (List.range n).map fun i : Nat => .int (lo + (i : Int))
theorem rng_len (lo : Int) (n : Nat) : (rngD lo n).length = n := by simp [rngD]
theorem it_rng {K : PySem.W.Frag} {u : Wd} {H : Hp} (lo : Int) (n : Nat) (ok : Mem → Prop) : ItD K u H (Itr lo n) (rngD lo n) ok where
  go := fun u' M' H' i r e o hi => by rw [rng_len] at hi; exact hi
  yl := fun u' M' H' i x H'' d r e o hd y => by
    obtain ⟨e1, h2⟩ := y
    subst e1 h2
    unfold rngD at hd
    rw [List.getElem?_map] at hd
    cases e3 : (List.range n)[i]? with
    | none => rw [e3] at hd; cases hd
    | some j =>
      rw [e3] at hd
      have : j = i := by
        obtain ⟨h4, h5⟩ := List.getElem?_eq_some_iff.mp e3
        rw [← h5, List.getElem_range]
      subst this
      cases hd
      exact ⟨u', r, Ext.refl _ _, .int _⟩
  st := fun u' M' H' i r e o hi => by rw [rng_len] at hi; exact hi
def giRng1 (gA : GA) : GI := fun ρ M R W => gA ρ M (fun ds M1 => match ds with
  | [.int j] => -(2 ^ 62) ≤ j ∧ j < 2 ^ 62 ∧ R (rngD 0 j.toNat) (fun _ => True) M1
  | _ => False) W
def giRng2 (gA : GA) : GI := fun ρ M R W => gA ρ M (fun ds M1 => match ds with
  | [.int i, .int j] => (-(2 ^ 62) ≤ i ∧ i < 2 ^ 62 ∧ -(2 ^ 62) ≤ j ∧ j < 2 ^ 62) ∧ R (rngD i (j - i).toNat) (fun _ => True) M1
  | _ => False) W
theorem di_range1 (hg : Gl X "range") (hm : X.mg "range" = none) (ha : DA X [a] gA) (hs : starEach [a] X.env = [(false, eval a X.env)] := by rfl) : DI X tg (.Call (.Name "range" p) [a] [] pos) (giRng1 gA) := fun Wv tk => by
  obtain ⟨t, pt, st⟩ := ha Wv tk
  refine ⟨_, pi_range1 hg hm pt hs, fun u M H σ ρ Q R W r s g f o => st u M H σ ρ _ _ W r s g (fun u1 M1 H1 v d g1 r1 e1 d1 => ?_) o⟩
  split at g1
  · rename_i j
    cases d1 with
    | cons h1 h2 =>
      cases h1
      cases h2
      exact ⟨j, rfl, g1.1, g1.2.1, f u1 M1 H1 _ _ _ g1.2.2 trivial r1 e1 (it_rng 0 _ _)⟩
  · exact g1.elim
theorem di_range2 (hg : Gl X "range") (hm : X.mg "range" = none) (ha : DA X [a, b] gA) (hs : starEach [a, b] X.env = [(false, eval a X.env), (false, eval b X.env)] := by rfl) (hs2 : starEach [b] X.env = [(false, eval b X.env)] := by rfl) :
    DI X tg (.Call (.Name "range" p) [a, b] [] pos) (giRng2 gA) := fun Wv tk => by
  obtain ⟨t, pt, st⟩ := ha Wv tk
  refine ⟨_, pi_range2 hg hm pt hs hs2, fun u M H σ ρ Q R W r s g f o => st u M H σ ρ _ _ W r s g (fun u1 M1 H1 v d g1 r1 e1 d1 => ?_) o⟩
  split at g1
  · rename_i i j
    cases d1 with
    | cons h1 h2 =>
      cases h1
      cases h2 with
      | cons h3 h4 =>
        cases h3
        cases h4
        exact ⟨i, j, rfl, g1.1, f u1 M1 H1 _ _ _ g1.2 trivial r1 e1 (it_rng i _ _)⟩
  · exact g1.elim
/-- zip of two sequences of one kind -/
def zipD (xs ys : List D) : List D := (xs.zip ys).map fun p => .tup [p.1, p.2]
def giZip (gA : GA) : GI := fun ρ M R W => gA ρ M (fun ds M1 => match ds with
  | [x, y] => match kd x, kd y, seqOf M1 x, seqOf M1 y with
    | some .list, some .list, some xs, some ys => R (zipD xs ys) (fun M' => okOf M1 x M' ∧ okOf M1 y M') M1
    | some .tuple, some .tuple, some xs, some ys => R (zipD xs ys) (fun M' => okOf M1 x M' ∧ okOf M1 y M') M1
    | _, _, _, _ => False
  | _ => False) W
theorem zipD_get {xs ys : List D} {i : Nat} {d : D} (h : (zipD xs ys)[i]? = some d) : ∃ x y, xs[i]? = some x ∧ ys[i]? = some y ∧ d = .tup [x, y] := by
  unfold zipD at h
  rw [List.getElem?_map] at h
  cases e : (xs.zip ys)[i]? with
  | none => rw [e] at h; cases h
  | some q =>
    rw [e] at h
    cases h
    obtain ⟨h1, h2⟩ := List.getElem?_zip_eq_some.mp e
    exact ⟨q.1, q.2, h1, h2, rfl⟩
theorem stays_list {K : PySem.W.Frag} {u : Wd} {M : Mem} {H : Hp} (r : Rep K u M H) {v : V} {d : D} {ds : List D} (h : Dv u K H v d) (q : seqOf M d = some ds) (kl : kd d = some .list) :
    ∃ p, v = .ref p ∧ (∃ vs, SqL K H p vs) ∧ ∀ u' M' H', Rep K u' M' H' → Lat u H u' H' → okOf M d M' → ∃ vs, SqL K H' p vs ∧ DvAll u' K H' vs ds := by
  cases h <;> first | (cases q; done) | (cases kl; done) | skip
  · rename_i h s a
    cases q
    exact ⟨_, rfl, ⟨_, SqL.of h⟩, fun u' M' H' r' e' _ => ⟨_, SqL.of ((e'.old _ s).trans h), a.lat e'⟩⟩
  · rename_i h a
    cases q
    exact ⟨_, rfl, ⟨_, h.sq⟩, fun u' M' H' r' e' _ => ⟨_, (e'.fz h).sq, a.lat e'⟩⟩
  · rename_i p k hb
    obtain ⟨vs, e1, a⟩ := r.at_ k p ds hb q
    refine ⟨p, rfl, ⟨_, SqL.of e1⟩, fun u' M' H' r' e' o => ?_⟩
    have o' : M'[k]? = M[k]? := o
    have q' : M[k]? = some ds := q
    obtain ⟨vs', e2, a2⟩ := r'.at_ k p ds (e'.at hb) (o'.trans q')
    exact ⟨vs', SqL.of e2, a2⟩
theorem stays_tup {K : PySem.W.Frag} {u : Wd} {M : Mem} {H : Hp} {v : V} {d : D} {ds : List D} (h : Dv u K H v d) (q : seqOf M d = some ds) (k : kd d = some .tuple) :
    ∃ p, v = .ref p ∧ (∃ vs, SqT K H p vs) ∧ ∀ u' H', Lat u H u' H' → ∃ vs, SqT K H' p vs ∧ DvAll u' K H' vs ds := by
  cases h <;> first | (cases q; done) | (cases k; done) | skip
  rename_i h a
  cases q
  exact ⟨_, rfl, ⟨_, h.sq⟩, fun u' H' e' => ⟨_, (e'.tup h).sq, a.lat e'⟩⟩
theorem zip_lt {xs ys : List D} {i : Nat} (h : i < (zipD xs ys).length) : i < xs.length ∧ i < ys.length := by
  unfold zipD at h
  rw [List.length_map, List.length_zip] at h
  omega
theorem zip_ge {xs ys : List D} {i : Nat} (h : (zipD xs ys).length ≤ i) : xs.length ≤ i ∨ ys.length ≤ i := by
  unfold zipD at h
  rw [List.length_map, List.length_zip] at h
  omega
theorem di_zip {elts : List Expr} {kk : Nat} {tpos : Pos} (hg : Gl X "zip") (hm : X.mg "zip" = none) (ha : DA X [a, b] gA)
    (hs : starEach [a, b] X.env = (false, eval a X.env) :: starEach [b] X.env := by rfl) (hpl : (backTo pos (starEach [b] X.env)).any (·.1) = false := by rfl) : DI X (.Tuple elts kk tpos) (.Call (.Name "zip" p) [a, b] [] pos) (giZip gA) := fun Wv tk => by
  obtain ⟨t, pt, st⟩ := ha Wv tk
  refine ⟨_, RZ.pi_zipA hg hm pt hs hpl, fun u M H σ ρ Q R W r s g f o => st u M H σ ρ _ _ W r s g (fun u1 M1 H1 v d g1 r1 e1 d1 => ?_) o⟩
  split at g1
  · rename_i x y
    cases d1 with
    | cons dx d2 =>
      cases d2 with
      | cons dy d3 =>
        cases d3
        split at g1
        · rename_i xs ys kx ky qx qy
          obtain ⟨p1, rfl, ⟨vs1, h1⟩, k1⟩ := stays_list r1 dx qx kx
          obtain ⟨p2, rfl, ⟨vs2, h2⟩, k2⟩ := stays_list r1 dy qy ky
          refine ⟨p1, p2, vs1, vs2, rfl, .inl ⟨h1, h2, f u1 M1 H1 _ _ _ g1 ⟨okOf_self _ _, okOf_self _ _⟩ r1 e1 ⟨fun u' M' H' i r' e' o' hi => ?_, fun u' M' H' i x H'' d r' e' o' hd yl => ?_, fun u' M' H' i r' e' o' hi => ?_⟩⟩⟩
          · obtain ⟨ws1, q1, a1⟩ := k1 u' M' H' r' e' o'.1
            obtain ⟨ws2, q2, a2⟩ := k2 u' M' H' r' e' o'.2
            obtain ⟨i1, i2⟩ := zip_lt hi
            obtain ⟨y1, z1, _⟩ := a1.get (List.getElem?_eq_getElem i1)
            obtain ⟨y2, z2, _⟩ := a2.get (List.getElem?_eq_getElem i2)
            exact ⟨ws1, ws2, y1, y2, q1, q2, z1, z2⟩
          · obtain ⟨T, y1, y2, rfl, hT, rfl, f1, f2⟩ := yl
            obtain ⟨x1, x2, g1, g2, rfl⟩ := zipD_get hd
            obtain ⟨ws1, q1, a1⟩ := k1 u' M' H' r' e' o'.1
            obtain ⟨ws2, q2, a2⟩ := k2 u' M' H' r' e' o'.2
            obtain ⟨z1, w1, b1⟩ := a1.get g1
            obtain ⟨z2, w2, b2⟩ := a2.get g2
            have t1 : y1 = z1 := Option.some.inj ((f1 _ q1).symm.trans w1)
            have t2 : y2 = z2 := Option.some.inj ((f2 _ q2).symm.trans w2)
            subst t1 t2
            obtain ⟨r3, e3, d3⟩ := new_tup r' hT (.cons b1 (.cons b2 .nil))
            exact ⟨_, r3, e3, d3⟩
          · obtain ⟨ws1, q1, a1⟩ := k1 u' M' H' r' e' o'.1
            obtain ⟨ws2, q2, a2⟩ := k2 u' M' H' r' e' o'.2
            exact ⟨ws1, ws2, q1, q2, (zip_ge hi).elim (fun z => .inl (by rw [a1.length]; exact z)) fun z => .inr (by rw [a2.length]; exact z)⟩
        · rename_i xs ys kx ky qx qy
          obtain ⟨p1, rfl, ⟨vs1, h1⟩, k1⟩ := stays_tup dx qx kx
          obtain ⟨p2, rfl, ⟨vs2, h2⟩, k2⟩ := stays_tup dy qy ky
          refine ⟨p1, p2, vs1, vs2, rfl, .inr ⟨h1, h2, f u1 M1 H1 _ _ _ g1 ⟨okOf_self _ _, okOf_self _ _⟩ r1 e1 ⟨fun u' M' H' i r' e' o' hi => ?_, fun u' M' H' i x H'' d r' e' o' hd yl => ?_, fun u' M' H' i r' e' o' hi => ?_⟩⟩⟩
          · obtain ⟨ws1, q1, a1⟩ := k1 u' H' e'
            obtain ⟨ws2, q2, a2⟩ := k2 u' H' e'
            obtain ⟨i1, i2⟩ := zip_lt hi
            obtain ⟨y1, z1, _⟩ := a1.get (List.getElem?_eq_getElem i1)
            obtain ⟨y2, z2, _⟩ := a2.get (List.getElem?_eq_getElem i2)
            exact ⟨ws1, ws2, y1, y2, q1, q2, z1, z2⟩
          · obtain ⟨T, y1, y2, rfl, hT, rfl, f1, f2⟩ := yl
            obtain ⟨x1, x2, g1, g2, rfl⟩ := zipD_get hd
            obtain ⟨ws1, q1, a1⟩ := k1 u' H' e'
            obtain ⟨ws2, q2, a2⟩ := k2 u' H' e'
            obtain ⟨z1, w1, b1⟩ := a1.get g1
            obtain ⟨z2, w2, b2⟩ := a2.get g2
            have t1 : y1 = z1 := Option.some.inj ((f1 _ q1).symm.trans w1)
            have t2 : y2 = z2 := Option.some.inj ((f2 _ q2).symm.trans w2)
            subst t1 t2
            obtain ⟨r3, e3, d3⟩ := new_tup r' hT (.cons b1 (.cons b2 .nil))
            exact ⟨_, r3, e3, d3⟩
          · obtain ⟨ws1, q1, a1⟩ := k1 u' H' e'
            obtain ⟨ws2, q2, a2⟩ := k2 u' H' e'
            exact ⟨ws1, ws2, q1, q2, (zip_ge hi).elim (fun z => .inl (by rw [a1.length]; exact z)) fun z => .inr (by rw [a2.length]; exact z)⟩
        · exact g1.elim
  · exact g1.elim

/-! ### for -/
def gLoop (gg : GG) (gb : GS) (ok : Mem → Prop) : List D → GS
  | [], G, ρ, M => G.nx ρ M
  | d :: ds, G, ρ, M => gg d ρ M (fun ρ1 M1 => gb { G with nx := fun ρ2 M2 => ok M2 ∧ gLoop gg gb ok ds G ρ2 M2, ct := fun ρ2 M2 => ok M2 ∧ gLoop gg gb ok ds G ρ2 M2, bk := G.nx } ρ1 M1) (fun c fs M' => G.ex c fs ρ M')
def gFor (gi : GI) (gg : GG) (gb : GS) : GS := fun G ρ M => gi ρ M (fun items ok M1 => gLoop gg gb ok items G ρ M1) (fun c fs M' => G.ex c fs ρ M')
theorem ds_for {iter : Expr} {body : List Stmt} {gi : GI} {gg : GG} {gb : GS} (hp : PassesOwn (model X.prog X.w) X.A X.env X.xe) (hc : X.calm = true) (hi : DI X tg iter gi) (hg : DG X tg gg) (hb : DSs X body gb)
    (hs : ∀ x, foldedSetIterable iter X.env x = pure x := by intro _; rfl) : DS X (.For tg iter body [] pos) (gFor gi gg gb) := fun Wv tk => by
  obtain ⟨t1, p1, s1⟩ := hi Wv tk
  obtain ⟨t2, p2, s2⟩ := hg Wv tk
  obtain ⟨t3, p3, s3⟩ := hb Wv tk
  refine ⟨_, ps_for hp hc p1 p2 p3 hs, fun u M H σ ρ D G r s g j => s1 u M H σ ρ _ _ _ r s g (fun u1 M1 H1 J items ok h1 k1 r1 e1 it => ?_) (j.out s)⟩
  refine ⟨fun i m σ' H' => m = items.length - i ∧ ∃ u' M' ρ', Rep X.K u' M' H' ∧ Ext u1 H1 u' H' ∧ DSl u' X.K H' σ' ρ' ∧ ok M' ∧ gLoop gg gb ok (items.drop i) G ρ' M', ⟨items.length, rfl, u1, M1, ρ, r1, Ext.refl _ _, s.ext e1, k1, h1⟩, ?_⟩
  rintro i m σ2 H2 ⟨rfl, u2, M2, ρ2, r2, e2, sl2, k2, h2⟩
  have j2 := j.ext (e1.trans e2)
  by_cases hlt : i < items.length
  · right
    refine ⟨it.go u2 M2 H2 i r2 e2.lat k2 hlt, fun σ' H' => ∃ u' M' ρ', Rep X.K u' M' H' ∧ Ext u1 H1 u' H' ∧ DSl u' X.K H' σ' ρ' ∧ ok M' ∧ gLoop gg gb ok (items.drop (i + 1)) G ρ' M', fun σ' H' h => ⟨items.length - (i + 1), by omega, rfl, h⟩, fun x H' hy => ?_⟩
    obtain ⟨u3, r3, e3, d3⟩ := it.yl u2 M2 H2 i x H' _ r2 e2.lat k2 (List.getElem?_eq_getElem hlt) hy
    rw [List.drop_eq_getElem_cons hlt] at h2
    refine s2 u3 M2 H' σ2 ρ2 x _ _ _ _ r3 (sl2.ext e3) d3 h2 (fun u4 M4 H4 σ4 ρ4 h4 r4 e4 s4 => ?_) ((j2.ext e3).out (sl2.ext e3))
    have e24 := e3.trans e4
    refine s3 u4 M4 H4 σ4 ρ4 _ _ r4 s4 h4 ⟨fun u5 M5 H5 σ5 ρ5 h5 r5 e5 s5 => ⟨u5, M5, ρ5, r5, e2.trans (e24.trans e5), s5, h5.1, h5.2⟩, fun u5 M5 H5 σ5 ρ5 h5 r5 e5 s5 => j2.nx u5 M5 H5 σ5 ρ5 h5 r5 (e24.trans e5) s5,
      fun u5 M5 H5 σ5 ρ5 h5 r5 e5 s5 => ⟨u5, M5, ρ5, r5, e2.trans (e24.trans e5), s5, h5.1, h5.2⟩, j2.rt.ext e24, (j2.ext e24).ex⟩
  · left
    refine ⟨it.st u2 M2 H2 i r2 e2.lat k2 (by omega), ?_⟩
    rw [List.drop_eq_nil_of_le (by omega)] at h2
    exact j2.nx u2 M2 H2 σ2 ρ2 h2 r2 (Ext.refl _ _) sl2
end
end DL

namespace DL
open PySem PySem.Spec L2

/-! ### a thing that is being made: tracked, not yet a value -/
section
variable {u u' : Wd} {K : PySem.W.Frag} {M : Mem} {H H' : Hp} {q : Addr} {o : HO}
theorem Rep.away (r : Rep K u M H) (n : ¬ u.S q) (b : q ∉ u.bs) (o : HO) : Rep K u M (upd H q o) := by
  refine ⟨r.len, r.nd, fun k p ds h1 h2 => ?_, r.dis, fun p hp => ?_⟩
  · obtain ⟨vs, e1, a⟩ := r.at_ k p ds h1 h2
    refine ⟨vs, ?_, a.away n⟩
    rw [upd_ne (fun e : p = q => b (e ▸ List.mem_of_getElem? h1))]
    exact e1
  · rw [upd_ne (fun e : p = q => n (e ▸ hp))]
    exact r.trk p hp
theorem Ext.away (e : Ext u H u' H') (r : Rep K u M H) (h : H q = none) (o : HO) : Ext u H u' (upd H' q o) := by
  refine ⟨e.pre, e.sub, e.fresh, fun p hp => ?_, fun p v hv n => ?_, fun p hp => ?_⟩
  · rw [upd_ne (fun z : p = q => r.notS h (z ▸ hp))]
    exact e.old p hp
  · rw [upd_ne (ne_of_none hv h)]
    exact e.keep p v hv n
  · by_cases z : p = q
    · rw [z]
      exact h
    · rw [upd_ne z] at hp
      exact e.live p hp
theorem Ext.hid (e : Ext u H u' H') {v : HO} (h : H q = some v) (n : ¬ u.S q) (b : q ∉ u.bs) : H' q = some v ∧ ¬ u'.S q ∧ q ∉ u'.bs :=
  ⟨e.keep q v h b, (fun z => (e.fresh q z).elim n (fun y => by rw [h] at y; cases y)), e.out h b⟩
mutual
theorem Dv.weak (hs : ∀ p, u.S p → u'.S p) (hb : u'.bs = u.bs) : ∀ {v : V} {d : D}, Dv u K H v d → Dv u' K H v d
  | _, _, .non => .non
  | _, _, .bl b => .bl b
  | _, _, .int i => .int i
  | _, _, .str x => .str x
  | _, _, .ty n => .ty n
  | _, _, .tup h a => .tup (h.elim (fun z => .inl ⟨z.1, hs _ z.2⟩) .inr) (DvAll.weak hs hb a)
  | _, _, .lst h s a => .lst h (hs _ s) (DvAll.weak hs hb a)
  | _, _, .fz h a => .fz (h.elim (fun z => .inl ⟨z.1, hs _ z.2⟩) .inr) (DvAll.weak hs hb a)
  | _, _, .box h => .box (by rw [hb]; exact h)
theorem DvAll.weak (hs : ∀ p, u.S p → u'.S p) (hb : u'.bs = u.bs) : ∀ {vs : List V} {ds : List D}, DvAll u K H vs ds → DvAll u' K H vs ds
  | _, _, .nil => .nil
  | _, _, .cons h a => .cons (Dv.weak hs hb h) (DvAll.weak hs hb a)
end
theorem Rep.settle (r : Rep K u M H) {v : HO} (h : H q = some v) (b : q ∉ u.bs) : Rep K (u.more q) M H := by
  refine ⟨r.len, r.nd, fun k p ds h1 h2 => ?_, fun p hp z => z.elim (r.dis p hp) fun e => b (e ▸ hp), fun p hp => hp.elim (r.trk p) fun e => by rw [e, h]; simp⟩
  obtain ⟨vs, e1, a⟩ := r.at_ k p ds h1 h2
  exact ⟨vs, e1, a.weak (u' := u.more q) (fun _ z => Or.inl z) rfl⟩
theorem Ext.settle {u0 : Wd} {H0 : Hp} (e : Ext u0 H0 u H) (h : H0 q = none) : Ext u0 H0 (u.more q) H :=
  ⟨e.pre, fun p z => .inl (e.sub p z), fun p z => z.elim (e.fresh p) fun y => .inr (y ▸ h), e.old, e.keep, e.live⟩
end

/-! ### forgotten slots -/
theorem wipe_get (σ : St) (j : Nat) : ∀ vs : List Nat, (wipe σ vs)[j]? = if j ∈ vs then (σ[j]?).map (fun _ => none) else σ[j]?
  | [] => by simp [wipe]
  | v :: vs => by
    unfold wipe
    by_cases h : v = j
    · subst h
      rw [if_pos List.mem_cons_self]
      by_cases hv : v < σ.length
      · rw [List.getElem?_set_self (by rw [wipe_length]; exact hv), List.getElem?_eq_getElem hv]
        rfl
      · rw [List.getElem?_eq_none (by rw [List.length_set, wipe_length]; omega), List.getElem?_eq_none (by omega)]
        rfl
    · rw [List.getElem?_set_ne h, wipe_get σ j vs]
      by_cases h2 : j ∈ vs
      · rw [if_pos h2, if_pos (List.mem_cons_of_mem _ h2)]
      · rw [if_neg h2, if_neg (by simp only [List.mem_cons, not_or]; exact ⟨fun e => h e.symm, h2⟩)]
theorem wipe_set {σ : St} {i : Nat} {x : Option V} {vs : List Nat} (h : i ∈ vs) : wipe (σ.set i x) vs = wipe σ vs := by
  apply List.ext_getElem?
  intro j
  rw [wipe_get, wipe_get]
  by_cases hj : j ∈ vs
  · rw [if_pos hj, if_pos hj]
    by_cases e : i = j
    · subst e
      by_cases hl : i < σ.length
      · rw [List.getElem?_set_self hl, List.getElem?_eq_getElem hl]
        rfl
      · rw [List.getElem?_eq_none (by rw [List.length_set]; omega), List.getElem?_eq_none (by omega)]
    · rw [List.getElem?_set_ne e]
  · rw [if_neg hj, if_neg hj, List.getElem?_set_ne (fun e : i = j => hj (e ▸ h))]
theorem wipe_wipe (σ : St) (vs : List Nat) : wipe (wipe σ vs) vs = wipe σ vs := by
  apply List.ext_getElem?
  intro j
  rw [wipe_get, wipe_get]
  by_cases hj : j ∈ vs
  · rw [if_pos hj, if_pos hj]
    cases σ[j]? <;> rfl
  · rw [if_neg hj, if_neg hj]
def wipeD (ρ : DSt) : List Nat → DSt
  | [] => ρ
  | v :: vs => (wipeD ρ vs).set v none
theorem wipeD_len (ρ : DSt) : ∀ vs : List Nat, (wipeD ρ vs).length = ρ.length
  | [] => rfl
  | v :: vs => by rw [wipeD, List.length_set, wipeD_len ρ vs]
theorem wipeD_some {ρ : DSt} {j : Nat} {d : D} : ∀ {vs : List Nat}, (wipeD ρ vs)[j]? = some (some d) → ρ[j]? = some (some d) ∧ j ∉ vs
  | [], h => ⟨h, by simp⟩
  | v :: vs, h => by
    rw [wipeD] at h
    by_cases e : v = j
    · subst e
      by_cases hv : v < (wipeD ρ vs).length
      · rw [List.getElem?_set_self hv] at h
        cases h
      · rw [List.getElem?_eq_none (by rw [List.length_set]; omega)] at h
        cases h
    · rw [List.getElem?_set_ne e] at h
      obtain ⟨h1, h2⟩ := wipeD_some h
      refine ⟨h1, ?_⟩
      simp only [List.mem_cons, not_or]
      exact ⟨fun z => e z.symm, h2⟩
theorem DSl.wipe {u : Wd} {K : PySem.W.Frag} {H : Hp} {σ : St} {ρ : DSt} (s : DSl u K H σ ρ) (vs : List Nat) : DSl u K H (L2.wipe σ vs) (wipeD ρ vs) := by
  refine ⟨by rw [wipe_length, wipeD_len]; exact s.len, fun i d h => ?_⟩
  obtain ⟨h1, h2⟩ := wipeD_some h
  obtain ⟨v, h3, h4⟩ := s.at_ i d h1
  exact ⟨v, by rw [wipe_get, if_neg h2]; exact h3, h4⟩

/-! ### list comprehensions -/
def noW : DW := fun _ _ _ => False
/-- a target of a comprehension: it changes its own names alone -/
def TgOk (K : PySem.W.Frag) (vs : List Nat) (t : TG) (gg : GG) : Prop := ∀ (u : Wd) (M : Mem) (H : Hp) (σ : St) (ρ : DSt) (v : V) (d : D) (Q : St → Hp → Prop) (R : DSt → Mem → Prop),
  Rep K u M H → DSl u K H (wipe σ vs) ρ → Dv u K H v d → gg d ρ M R noW → (∀ σ' ρ', R ρ' M → DSl u K H σ' ρ' → wipe σ' vs = wipe σ vs → Q σ' H) → t v (wipe σ vs) H Q
theorem tg_name {K : PySem.W.Frag} {vs : List Nat} {i : Nat} (h : i ∈ vs) : TgOk K vs (gName i) (ggName i) := fun u M H σ ρ v d Q R r s dv g f => f _ _ g (s.set i dv) (by rw [wipe_set h, wipe_wipe])
theorem names_wipe {K : PySem.W.Frag} {u : Wd} {M : Mem} {H : Hp} {vs0 : List Nat} (r : Rep K u M H) : ∀ {is : List Nat} {vs : List V} {ds : List D} {σ : St} {ρ : DSt} {Q : St → Hp → Prop} {R : DSt → Mem → Prop}, (∀ i ∈ is, i ∈ vs0) → DSl u K H σ ρ → DvAll u K H vs ds → ggNames is ds ρ M R →
    (∀ σ' ρ', R ρ' M → DSl u K H σ' ρ' → wipe σ' vs0 = wipe σ vs0 → Q σ' H) → tNames is vs σ H Q
  | [], _, _, _, _, _, _, _, s, .nil, g, f => ⟨rfl, f _ _ g s rfl⟩
  | i :: is, _, _, _, _, _, _, m, s, .cons h a, g, f => ⟨_, _, rfl, names_wipe r (fun j hj => m j (List.mem_cons_of_mem _ hj)) (s.set i h) a g fun σ' ρ' h1 h2 h3 => f σ' ρ' h1 h2 (h3.trans (wipe_set (m i List.mem_cons_self)))⟩
  | [], _, _, _, _, _, _, _, _, .cons _ _, g, _ => g.elim
  | _ :: _, _, _, _, _, _, _, _, _, .nil, g, _ => g.elim
theorem tg_tup {K : PySem.W.Frag} {vs : List Nat} {is : List Nat} {n : Nat} (hn : n = is.length) (h : ∀ i ∈ is, i ∈ vs) : TgOk K vs (L2.gTup K n (tNames is)) (ggTup is) := fun u M H σ ρ v d Q R r s dv g f => by
  unfold ggTup at g
  split at g
  · cases dv with
    | tup h1 a1 => exact ⟨_, _, rfl, h1.sq, by rw [a1.length, hn]; exact names_len g, names_wipe r h s a1 g fun σ' ρ' h2 s2 w => f _ _ h2 s2 (w.trans (wipe_wipe _ _))⟩
  · exact g.elim
def gLcLoop (gg : GG) (gt : GT) (ge : GE) (ok : Mem → Prop) : List D → List D → DSt → Mem → (List D → Mem → Prop) → Prop
  | [], acc, _, M, R => R acc M
  | d :: ds, acc, ρ, M, R => gg d ρ M (fun ρ1 M1 => gt ρ1 M1 (fun b M2 => if b = true then ge ρ1 M2 (fun y M3 => acc.length < sizeLine ∧ ok M3 ∧ gLcLoop gg gt ge ok ds (acc ++ [y]) ρ M3 R) noW else ok M2 ∧ gLcLoop gg gt ge ok ds acc ρ M2 R) noW) noW
def gLc (gi : GI) (gg : GG) (gt : GT) (ge : GE) (vs : List Nat) : GE := fun ρ M R W => gi ρ M (fun items ok M1 => gLcLoop gg gt ge ok items [] (wipeD ρ vs) M1 fun acc M2 => R (.lst acc) M2) W
/-- no test -/
def gYes : GT := fun _ M R _ => R true M
abbrev W0 : WX := fun _ _ _ _ => False
theorem sim_yes {K : PySem.W.Frag} {Wv : WX} : SimT K Wv tYes gYes := fun u M H σ ρ Q R W r s g f o => f u M H true g r (Ext.refl _ _)
theorem no_out {K : PySem.W.Frag} {u : Wd} {H : Hp} {Wv : WX} {σ : St} : Out K u H noW Wv σ := fun _ _ _ _ _ _ h => h.elim
theorem sim_lc {K : PySem.W.Frag} {Wv : WX} {wi : TI} {gi : GI} {t : TG} {gg : GG} {tt : TT} {gt : GT} {te : TE} {ge : GE} {vs : List Nat} (hi : SimI K Wv wi gi) (hg : TgOk K vs t gg) (ht : SimT K W0 tt gt) (he : SimE K W0 te ge) :
    SimE K Wv (tLc wi t tt te vs) (gLc gi gg gt ge vs) := fun u M H σ ρ Q R W r s g f o => by
  refine hi u M H σ ρ _ _ W r s g (fun u1 M1 H1 J items ok h1 k1 r1 e1 it => fun L hL => ?_) o
  refine ⟨fun i m H' => m = items.length - i ∧ ∃ u' M' acc accD, Rep K u' M' H' ∧ Ext u1 H1 u' H' ∧ H' L = some (.lst acc) ∧ ¬ u'.S L ∧ L ∉ u'.bs ∧ DvAll u' K H' acc accD ∧ ok M' ∧ gLcLoop gg gt ge ok (items.drop i) accD (wipeD ρ vs) M' fun acc M2 => R (.lst acc) M2,
    ⟨items.length, rfl, u1, M1, [], [], r1.away (r1.notS hL) (r1.notBox hL) _, (Ext.refl _ _).away r1 hL _, upd_same, r1.notS hL, r1.notBox hL, .nil, k1, h1⟩, ?_⟩
  rintro i m H2 ⟨rfl, u2, M2, acc, accD, r2, e2, hD, nS, nB, a2, k2, h2⟩
  by_cases hlt : i < items.length
  · right
    refine ⟨it.go u2 M2 H2 i r2 e2.lat k2 hlt, fun H' => ∃ u' M' acc accD, Rep K u' M' H' ∧ Ext u1 H1 u' H' ∧ H' L = some (.lst acc) ∧ ¬ u'.S L ∧ L ∉ u'.bs ∧ DvAll u' K H' acc accD ∧ ok M' ∧ gLcLoop gg gt ge ok (items.drop (i + 1)) accD (wipeD ρ vs) M' fun acc M2 => R (.lst acc) M2,
      fun H' h => ⟨items.length - (i + 1), by omega, rfl, h⟩, fun x H' hy => ?_⟩
    obtain ⟨u3, r3, e3, d3⟩ := it.yl u2 M2 H2 i x H' _ r2 e2.lat k2 (List.getElem?_eq_getElem hlt) hy
    rw [List.drop_eq_getElem_cons hlt] at h2
    have sw : DSl u3 K H' (wipe σ vs) (wipeD ρ vs) := ((s.ext e1).ext (e2.trans e3)).wipe vs
    refine hg u3 M2 H' σ _ x _ _ _ r3 sw d3 h2 fun σ4 ρ4 h4 s4 w4 => ⟨w4, ?_⟩
    refine ht u3 M2 H' σ4 ρ4 _ _ noW r3 s4 h4 (fun u5 M5 H5 b h5 r5 e5 => ?_) no_out
    cases b with
    | true =>
      rw [if_pos rfl] at h5 ⊢
      refine he u5 M5 H5 σ4 ρ4 _ _ noW r5 (s4.ext e5) h5 (fun u6 M6 H6 y dy h6 r6 e6 d6 => ?_) no_out
      have e26 := e3.trans (e5.trans e6)
      obtain ⟨q1, q2, q3⟩ := e26.hid hD nS nB
      refine ⟨acc, q1, by rw [a2.length]; exact h6.1, u6, M6, acc ++ [y], accD ++ [dy], r6.away q2 q3 _, (e2.trans e26).away r1 hL _, upd_same, q2, q3, ((a2.ext e26).append (.cons d6 .nil)).away q2, h6.2.1, h6.2.2⟩
    | false =>
      rw [if_neg Bool.false_ne_true] at h5 ⊢
      have e25 := e3.trans e5
      obtain ⟨q1, q2, q3⟩ := e25.hid hD nS nB
      exact ⟨u5, M5, acc, accD, r5, e2.trans e25, q1, q2, q3, a2.ext e25, h5.1, h5.2⟩
  · left
    refine ⟨it.st u2 M2 H2 i r2 e2.lat k2 (by omega), ?_⟩
    rw [List.drop_eq_nil_of_le (by omega)] at h2
    exact f _ _ _ _ _ h2 (r2.settle hD nB) ((e1.trans e2).settle (e1.live _ hL)) (.lst hD (.inr rfl) (a2.weak (u' := u2.more L) (fun _ z => Or.inl z) rfl))
section
variable {X : Cx} {elt tg iter : Expr} {ifs : List Expr} {scope : Scope} {own : List (Str × Nat)} {pos spos py : Pos} {gi : GI} {t : TG} {gg : GG} {gt : GT} {ge : GE}
/-- [e for .. in ..] without a test -/
theorem de_lc (hc : X.calm = true) (hN : X.N.Nodup) (hi : DI X tg iter gi) (ok : BlkOk X.N X.env.scope scope own) (htg : TgOk X.K (own.map (·.2)) t gg)
    (hg : ∀ (s : Shared) (H : Hp) (C : Addr) (cl : List (Str × Addr)) (fp : List Addr), PG (X.blk s H scope (compEnvC scope cl C X.env) fp) tg t)
    (he : ∀ (s : Shared) (H : Hp) (C : Addr) (cl : List (Str × Addr)) (fp : List Addr), DE (X.blk s H scope (compEnvC scope cl C X.env) fp) elt ge) (hs : ∀ x, foldedSetIterable iter X.env x = pure x := by intro _; rfl) :
    DE X (.ListComp elt [⟨tg, iter, [], 0⟩] scope pos) (gLc gi gg gYes ge (own.map (·.2))) := fun Wv tk => by
  obtain ⟨wi, p1, s1⟩ := hi Wv tk
  refine ⟨_, pe_lc (tt := tYes) (te := tE X.K W0 ge) hc hN p1 ok hg (fun _ _ _ _ _ => pts_nil) (fun s H C cl fp => (he s H C cl fp).pe takes0) hs, sim_lc s1 htg sim_yes ?_⟩
  exact fun u M H σ ρ Q R W r s g f o => ⟨u, M, ρ, R, W, r, s, g, f, o⟩
/-- .. with one test -/
theorem de_lcIf {c : Expr} (hc : X.calm = true) (hN : X.N.Nodup) (hi : DI X tg iter gi) (ok : BlkOk X.N X.env.scope scope own) (htg : TgOk X.K (own.map (·.2)) t gg)
    (hg : ∀ (s : Shared) (H : Hp) (C : Addr) (cl : List (Str × Addr)) (fp : List Addr), PG (X.blk s H scope (compEnvC scope cl C X.env) fp) tg t)
    (ht : ∀ (s : Shared) (H : Hp) (C : Addr) (cl : List (Str × Addr)) (fp : List Addr), DT (X.blk s H scope (compEnvC scope cl C X.env) fp) c gt)
    (he : ∀ (s : Shared) (H : Hp) (C : Addr) (cl : List (Str × Addr)) (fp : List Addr), DE (X.blk s H scope (compEnvC scope cl C X.env) fp) elt ge) (hs : ∀ x, foldedSetIterable iter X.env x = pure x := by intro _; rfl) :
    DE X (.ListComp elt [⟨tg, iter, [c], 0⟩] scope pos) (gLc gi gg gt ge (own.map (·.2))) := fun Wv tk => by
  obtain ⟨wi, p1, s1⟩ := hi Wv tk
  refine ⟨_, pe_lc (tt := tT X.K W0 gt) (te := tE X.K W0 ge) hc hN p1 ok hg (fun s H C cl fp => pts_one ((ht s H C cl fp).pt takes0)) (fun s H C cl fp => (he s H C cl fp).pe takes0) hs, sim_lc s1 htg ?_ ?_⟩
  · exact fun u M H σ ρ Q R W r s g f o => ⟨u, M, ρ, R, W, r, s, g, f, o⟩
  · exact fun u M H σ ρ Q R W r s g f o => ⟨u, M, ρ, R, W, r, s, g, f, o⟩
/-- y = [e for .. in ..] -/
theorem ds_setLc {i : Nat} {y : Str} (hc : X.calm = true) (hN : X.N.Nodup) (hy : X.N[i]? = some y) (hyl : X.env.scope.names.lookup y = some .local)
    (hsw : swapsWith (.ListComp elt [⟨tg, iter, [], 0⟩] scope pos) (some (.Name y py)) spos.line X.env = pure true) (hi : DI X tg iter gi) (ok : BlkOk X.N X.env.scope scope own) (htg : TgOk X.K (own.map (·.2)) t gg)
    (hg : ∀ (s : Shared) (H : Hp) (C : Addr) (cl : List (Str × Addr)) (fp : List Addr), PG (X.blk s H scope (compEnvC scope cl C X.env) fp) tg t)
    (he : ∀ (s : Shared) (H : Hp) (C : Addr) (cl : List (Str × Addr)) (fp : List Addr), DE (X.blk s H scope (compEnvC scope cl C X.env) fp) elt ge) (hs : ∀ x, foldedSetIterable iter X.env x = pure x := by intro _; rfl) :
    DS X (.Assign [.Name y py] (.ListComp elt [⟨tg, iter, [], 0⟩] scope pos) spos) (gAsg (gLc gi gg gYes ge (own.map (·.2))) (ggName i)) := fun Wv tk => by
  obtain ⟨wi, p1, s1⟩ := hi Wv tk
  refine ⟨_, ps_setLc (tt := tYes) (te := tE X.K W0 ge) hc hN hy hyl hsw p1 ok hg (fun _ _ _ _ _ => pts_nil) (fun s H C cl fp => (he s H C cl fp).pe takes0) hs, sim_asg (sim_lc s1 htg sim_yes ?_) (sim_name i)⟩
  exact fun u M H σ ρ Q R W r s g f o => ⟨u, M, ρ, R, W, r, s, g, f, o⟩
end

/-! ### xs.append(e), xs a box -/
section
variable {X : Cx} {o e : Expr} {go ge : GE} {apos cpos : Pos}
def gAppend (go ge : GE) : GE := fun ρ M R W => go ρ M (fun x M1 => match x with
  | .box k => ge ρ M1 (fun y M2 => match M2[k]? with
    | some ds => ds.length < sizeLine ∧ R .non (M2.set k (ds ++ [y]))
    | none => False) W
  | _ => False) W
theorem de_append (ho : DE X o go) (he : DE X e ge) (hbase : attributeBase o "append" X.env (eval o X.env) = eval o X.env := by rfl)
    (hfew : ((backTo cpos (starEach [e] X.env)).all (fun x => !x.1) && (backToKw cpos (keywordEach [] X.env)).all (fun x => x.1.isSome) && decide ([e].length + ([] : List Keyword).length + (if ([] : List Keyword).isEmpty then 0 else 1) < 30)) = true := by rfl)
    (hline : (apos.endLine == cpos.line) = true := by rfl) (hs : starEach [e] X.env = (false, eval e X.env) :: starEach [] X.env := by rfl) (hplain : (backTo cpos (starEach [] X.env)).any (·.1) = false := by rfl) :
    DE X (.Call (.Attribute o "append" apos) [e] [] cpos) (gAppend go ge) := fun Wv tk => by
  obtain ⟨t1, p1, s1⟩ := ho Wv tk
  obtain ⟨t2, p2, s2⟩ := he Wv tk
  refine ⟨_, pe_bm PySem.F.plainAttrs_list PySem.F.slot_list_append PySem.F.type_list_append mt_append p1 (pa_cons p2 pa_nil hs) hbase hfew hline hs hplain, fun u M H σ ρ Q R W r s g f o => ?_⟩
  refine s1 u M H σ ρ _ _ W r s g (fun u1 M1 H1 x dx g1 r1 e1 d1 => ?_) o
  cases dx with
  | box k =>
    cases d1 with
    | box hb =>
      obtain ⟨vs0, h0⟩ := r1.isLst (List.mem_of_getElem? hb)
      refine ⟨.inl ⟨rfl, _, SqL.of h0⟩, s2 u1 M1 H1 σ ρ _ _ W r1 (s.ext e1) g1 (fun u2 M2 H2 y dy g2 r2 e2 d2 => ?_) (o.ext e1)⟩
      cases em : M2[k]? with
      | none => simp only [em] at g2
      | some ds =>
        simp only [em] at g2
        obtain ⟨vs, h1, a1⟩ := r2.at_ _ _ _ (e2.at hb) em
        obtain ⟨r3, e3⟩ := r2.put (e2.at hb) (a1.append (.cons d2 .nil))
        exact ⟨_, vs, y, rfl, rfl, h1, by rw [a1.length]; exact g2.1, f _ _ _ _ _ g2.2 r3 ((e1.trans e2).trans e3) .non⟩
  | _ => exact g1.elim
end
end DL

namespace DL
open PySem PySem.Spec L2

/-! ### calls with keywords alone -/
section
variable {X : Cx} {k n : Nat} {f : Addr} {fd : FuncData} {ps ks : List Str} {sp : DSp} {x : Str} {p pos : Pos} {e : Expr} {es : List Expr} {kws : List Keyword} {g gk : GA} {gU : List Value → List Value → List Value} {gV : List V → List V → List V} {gD : List D → List D → List D}
def tCallK0 (m : Nat) (sp : Sp) (gV : List V → List V → List V) (E : St → XK) (t : TA) : TE := fun σ H Q => t σ H fun zs H1 => zs.length = m ∧ sp (gV [] zs) H1 Q (E σ)
theorem pe_callK0 {sp : Sp} {E : St → XK} {t : TA} (F : FnOk X.prog X.w X.K X.mg X.base (L2.CX X.prog X.w) k f fd ps sp) (hr : Room k X.A) (hg : Gl X x) (hm : X.mg x = some (.ref f)) (hk : PySem.W.keepIn X.K (.ref f) = true) (hb : KBn X.K fd ps 0 ks gU gV)
    (hx : ∀ σ, PassesAt (L2.CX X.prog X.w) X σ (E σ)) (hkw : PK X kws t) (hall : (backToKw pos (keywordEach kws X.env)).all (·.1.isSome) = true := by rfl) (hks : (backToKw pos (keywordEach kws X.env)).filterMap (·.1) = ks := by rfl)
    (hdb : (x == ("__debug__" : Str)) = false := by decide) (hpl : ((backTo pos (starEach [] X.env)).any (·.1) || (backToKw pos (keywordEach kws X.env)).any (·.1.isNone)) = false := by rfl) :
    PE X (.Call (.Name x p) [] kws pos) (tCallK0 ks.length sp gV E t) := by
  constructor
  intro pins s σ H Q I h
  refine wpAny_Call_Name_kw (ld_glob I hg hm ?_ hdb)
  refine PySem.W.callWith_KW0 (h₀ := X.base) I.ok.mod.kin hk hall (thn (hkw.run pos pins s σ H _ I h) ?_) hpl
  rintro ws s2 ⟨zs, H2, I2, rz, lz, q2⟩
  refine ⟨I2.kIn, ?_⟩
  rw [hks]
  have rr : Vals (gV [] zs) (gU [] ws) := hb.rel .nil rz
  refine wpAny_call (codeAny_mono (F.run X.A X.stack s2 H2 ⟨[], ks.zip ws⟩ (gU [] ws) (gV [] zs) Q (E σ) hr I2.env0 (hb.to s2 [] ws I2.kIn rfl (rz.length.symm.trans lz)) rr q2) ?_)
  rintro (er | fl) s' hq
  · exact hx σ pins H2 s2 er s' I2 hq
  · cases fl <;> first | exact hq.elim | exact I2.after hq
def gCallK0 (m : Nat) (sp : DSp) (gD : List D → List D → List D) (t : GA) : GE := fun ρ M R W => t ρ M (fun zs M1 => zs.length = m ∧ sp (gD [] zs) M1 R W) W
theorem de_callK0 (F : FnD X.prog X.w X.K X.mg X.base k f fd ps sp) (hr : Room k X.A) (hg : Gl X x) (hm : X.mg x = some (.ref f)) (hk : PySem.W.keepIn X.K (.ref f) = true) (hb : KBn X.K fd ps 0 ks gU gV)
    (hgD : ∀ u H vs ds zs es, DvAll u X.K H vs ds → DvAll u X.K H zs es → DvAll u X.K H (gV vs zs) (gD ds es)) (hkw : DK X kws gk) (hall : (backToKw pos (keywordEach kws X.env)).all (·.1.isSome) = true := by rfl) (hks : (backToKw pos (keywordEach kws X.env)).filterMap (·.1) = ks := by rfl)
    (hdb : (x == ("__debug__" : Str)) = false := by decide) (hpl : ((backTo pos (starEach [] X.env)).any (·.1) || (backToKw pos (keywordEach kws X.env)).any (·.1.isNone)) = false := by rfl) :
    DE X (.Call (.Name x p) [] kws pos) (gCallK0 ks.length sp gD gk) := fun Wv tk => by
  obtain ⟨t, pt, st⟩ := hkw Wv tk
  refine ⟨_, pe_callK0 (E := WE Wv) F hr hg hm hk hb (fun σ => passAt tk σ) pt hall hks hdb hpl, fun u M H σ ρ Q R W r s g f o => st u M H σ ρ _ _ W r s g (fun u1 M1 H1 vs xs g1 r1 e1 d1 => ?_) o⟩
  exact ⟨d1.length.trans g1.1, u1, M1, _, R, W, r1, hgD _ _ _ _ _ _ .nil d1, g1.2, f.ext e1, fun u' M' H' cls od fs w r' e' z => o u' M' H' cls od fs w r' (e1.trans e') z⟩
end
section
variable {K : PySem.W.Frag} {x qual : Str} {params : Arguments} {body : List Stmt} {scope : Scope} {dvs : List V} {kws : List (Str × V)} {f : Addr} {fd : FuncData} {ps ks : List Str} {n : Nat}
/-- no defaults: all parameters are given -/
theorem kb_none (g : {α : Type} → List α → List α → List α) (F : FunD K x qual params body scope [] kws f fd) (hrel : ∀ {vs zs : List V} {us ws : List Value}, Vals vs us → Vals zs ws → Vals (g vs zs) (g us ws))
    (h : ∀ (kV doc pm : Value) (an : Option Addr) (cdv ct : Value) (us ws : List Value), us.length = n → ws.length = ks.length → bindArgs (PySem.W.fnOf x qual params body scope .none kV doc pm an cdv ct) ⟨us, ks.zip ws⟩ = pure (ps.zip (g us ws))) :
    KBn K fd ps n ks (fun us ws => g us ws) (fun vs zs => g vs zs) := by
  obtain ⟨oc, od, dV, kV, doc, pm, an, cdv, ct, osl, rfl, lk, hcd, hD, hK⟩ := F.ex
  rcases hD with ⟨_, rfl⟩ | ⟨e, _⟩
  · exact ⟨fun s us ws _ l1 l2 => .of_eq (h kV doc pm an cdv ct us ws l1 l2), fun r1 r2 => hrel r1 r2⟩
  · exact absurd rfl e
/-- with defaults: all parameters are given -/
theorem kb_some (g : {α : Type} → List α → List α → List α) (F : FunD K x qual params body scope dvs kws f fd) (hd : dvs ≠ []) (hrel : ∀ {vs zs : List V} {us ws : List Value}, Vals vs us → Vals zs ws → Vals (g vs zs) (g us ws))
    (h : ∀ (T : Addr) (kV doc pm : Value) (an : Option Addr) (cdv ct : Value) (us ws its : List Value), us.length = n → ws.length = ks.length → its.length = dvs.length →
      ∃ k, bindArgs (PySem.W.fnOf x qual params body scope (.ref T) kV doc pm an cdv ct) ⟨us, ks.zip ws⟩ = seqItems? (.ref T) >>= k ∧ k (some its.toArray) = pure (ps.zip (g us ws))) :
    KBn K fd ps n ks (fun us ws => g us ws) (fun vs zs => g vs zs) := by
  obtain ⟨oc, od, dV, kV, doc, pm, an, cdv, ct, osl, rfl, lk, hcd, hD, hK⟩ := F.ex
  rcases hD with ⟨e, _⟩ | ⟨_, T, o, its, m, rfl, lT, oT, rT⟩
  · exact absurd e hd
  · refine ⟨fun s us ws X l1 l2 => BindsTo.of_looks fun Mo => ?_, fun r1 r2 => hrel r1 r2⟩
    obtain ⟨q, e1, e2⟩ := h T kV doc pm an cdv ct us ws its l1 l2 rT.length.symm
    rw [e1]
    exact looks_items X lT oT (.of_pure e2)
end

/-! ### is of truths, of None -/
section
variable {X : Cx} {a b c : Expr} {ga gb gc : GE} {pos : Pos}
def qIsB (f : Bool → Bool) : GR := fun x y M R => match x, y with
  | .bl i, .bl j => R (.bl (f (decide (i = j)))) M
  | _, _ => False
theorem de_isB (ha : DE X a ga) (hb : DE X b gb) : DE X (.Compare a [.Is] [b] pos) (gOp (qIsB id) ga gb) := de_cmp op_isBl (fun u M H x y dx dy Q R rp dx' dy' g fi => by
  cases dx' <;> cases dy' <;> first | exact g.elim | skip
  rename_i i j
  exact ⟨i, j, rfl, rfl, fi u M H _ _ g rp (Ext.refl _ _) (.bl _)⟩) ha hb (nomark _)
def isNon : D → Bool
  | .non => true
  | _ => false
def qIsN (f : Bool → Bool) : GR := fun x y M R => match y with
  | .non => R (.bl (f (isNon x))) M
  | _ => False
theorem non_iff {u : Wd} {K : PySem.W.Frag} {H : Hp} {v : V} {d : D} (h : Dv u K H v d) : decide (v = .non) = isNon d := by cases h <;> rfl
theorem de_isN (ha : DE X a ga) (hb : DE X b gb) : DE X (.Compare a [.Is] [b] pos) (gOp (qIsN id) ga gb) := de_cmp op_isN (fun u M H x y dx dy Q R rp dx' dy' g fi => by
  cases dy' <;> first | exact g.elim | skip
  refine ⟨rfl, ?_⟩
  rw [non_iff dx']
  exact fi u M H _ _ g rp (Ext.refl _ _) (.bl _)) ha hb (nomark _)
theorem de_notN (ha : DE X a ga) (hb : DE X b gb) : DE X (.Compare a [.IsNot] [b] pos) (gOp (qIsN not) ga gb) := de_cmp op_notN (fun u M H x y dx dy Q R rp dx' dy' g fi => by
  cases dy' <;> first | exact g.elim | skip
  refine ⟨rfl, ?_⟩
  rw [non_iff dx']
  exact fi u M H _ _ g rp (Ext.refl _ _) (.bl _)) ha hb (nomark _)

/-! ### repr of data -/
def rRepr (K : PySem.W.Frag) : List V → Hp → VK → Prop := fun xs H Q => ∃ v d, xs = [v] ∧ Dp K H v d ∧ d.showable = true ∧ d.hasDict = false ∧ d.depth ≤ 60 ∧ d.shown.length ≤ sizeLine ∧ Q (.str d.shown) H
theorem call_repr_D (hg : X.A.guards = some []) (hu : X.A.units + 64 < cLine) : CallR X (.builtin "repr") (rRepr X.K) := by
  intro pins s σ H xs us Q I r h
  obtain ⟨v, d, rfl, dp, h1, h2, h3, h4, q⟩ := h
  obtain ⟨uv, rfl, ru⟩ := r.one
  have fin : ∀ tk, EP X pins σ Q (.str d.shown tk) { s with toks := s.toks + 1 } := fun tk => ⟨.str d.shown, H, I.tok _, ⟨tk, rfl⟩, q⟩
  cases dp with
  | non => cases (show uv = Value.none from ru); exact P.repr_of_none (fin _)
  | bl b => cases (show uv = Value.bool b from ru); exact P.repr_of_bool (fin _)
  | int i =>
    obtain ⟨t, rfl⟩ := (show ∃ t, uv = Value.int i t from ru)
    exact P.repr_of_int (by simpa [PyData.showable] using h1) (fin _)
  | str x =>
    obtain ⟨t, rfl⟩ := (show ∃ t, uv = Value.str x t from ru)
    exact P.repr_of_str (fin _) h4
  | lst hs ha =>
    cases (show uv = Value.ref _ from ru)
    obtain ⟨as, rd⟩ := Dp.reads I _ _ _ (.lst hs ha) rfl
    exact repr_of_reads' rd h1 (PyData.noDict_hsm h2) hg (by omega) (fun b o e => e) (fun h' u tk hk => ⟨.str _, H, I.kept hk, ⟨u, rfl⟩, q⟩) h4
  | tup hs ha =>
    cases (show uv = Value.ref _ from ru)
    obtain ⟨as, rd⟩ := Dp.reads I _ _ _ (.tup hs ha) rfl
    exact repr_of_reads' rd h1 (PyData.noDict_hsm h2) hg (by omega) (fun b o e => e) (fun h' u tk hk => ⟨.str _, H, I.kept hk, ⟨u, rfl⟩, q⟩) h4
def qRepr : GC := fun ds M R => match ds with
  | [d] => match pyM M d with
    | some e => e.showable = true ∧ e.hasDict = false ∧ e.depth ≤ 60 ∧ e.shown.length ≤ sizeLine ∧ R (.str e.shown) M
    | none => False
  | _ => False
theorem sim_repr {K : PySem.W.Frag} : SimC K (rRepr K) qRepr := fun u M H xs ds Q R rp d g f => by
  unfold qRepr at g
  split at g
  · split at g
    · rename_i e e1
      cases d with
      | cons h1 h2 =>
        cases h2
        exact ⟨_, e, rfl, h1.dpM rp e1, g.1, g.2.1, g.2.2.1, g.2.2.2.1, f u M H _ _ g.2.2.2.2 rp (Ext.refl _ _) (.str _)⟩
    · exact g.elim
  · exact g.elim
end

/-! ### the law's own entry: at the caller's place nothing is shown yet -/
section
variable {P : Program} {w : World} {K : PySem.W.Frag} {mg mb : Str → Option Value} {base : Heap} {x qual : Str} {params : Arguments} {body : List Stmt} {scope : Scope} {dvs : List V} {kws : List (Str × V)} {f : Addr} {fd : FuncData}
theorem fn_at {CX : CXT} {A : Around} {k : Nat} {N ps : List Str} {outer : List Env} {s : Shared} {H : Hp} {args : Args} {us : List Value} {vs : List V} {Q : VK} {E : XK} (F : FunD K x qual params body scope dvs kws f fd) (S : FnScope N ps scope) (hr : Room (k + 1) A)
    (e0 : Env0 P w K mg base A outer s H) (hb : BindsTo s fd args (ps.zip us)) (r : Vals vs us) (hl : vs.length = ps.length)
    (hbody : ∀ cdv, ∃ t, PSs (cxOf CX P w K mg base N qual scope f cdv A outer s H E) body t ∧ t { nx := fun _ H' => Q .non H', rt := Q } (L2.start N vs) H) : codeAny (model P w) A (.call (.ref f) args) (CR CX outer P w H s Q E) s := by
  obtain ⟨oc, od, dV, kV, doc, pm, an, cdv, ct, osl, rfl, lk, hcd, _, _⟩ := F.ex
  have KX : K.In s.heap := e0.mod.kin.keeps fun b o z => (e0.bs b o z).1
  have lim : s.heap.NoLimit := e0.mod.nolimit.keeps fun b o z => (e0.bs b o z).1
  have kinds : ∀ y ∈ ps.zip us, scope.names.lookup y.1 = some .local ∨ (scope.names.lookup y.1 = some .cell ∧ ((cellsFrom (s.heap.objs.size + 1) scope.names []).lookup y.1).isSome = true) := by
    rintro ⟨m, v⟩ hy
    exact (S.par m (List.of_mem_zip hy).1).imp id fun z => ⟨z, PySem.W.cellsFrom_some _ _ _ (.inl z)⟩
  refine codeAny_call_function hr.depth (KX _ _ lk) rfl S.co S.gen rfl (PySem.W.codeRec_of KX hcd) (hb _ _ _ _ (wpAny_newFunctionEnv_cells S.kind kinds ?_))
  rintro env rfl s1 ic
  refine ⟨lim.keeps ic.toInCall.keep, codeAny_func ?_⟩
  obtain ⟨t, ht, hq⟩ := hbody cdv
  refine wpAny_mono (ht.run [] s1 (L2.start N vs) H _ (inv_start S hr.hd e0 hl r ic) hq) ?_ fun _ _ z => z
  rintro fl s' hs
  cases fl with
  | ret u2 =>
    obtain ⟨v, σ', H', J, rv, q⟩ := hs
    exact ⟨v, H', J.os, J.bare, J.base, J.hok, rv, q⟩
  | next =>
    obtain ⟨σ', H', J, q⟩ := hs
    exact ⟨V.non, H', J.os, J.bare, J.base, J.hok, rfl, q⟩
  | brk => exact hs.choose_spec.choose_spec.2.elim
  | cont => exact hs.choose_spec.choose_spec.2.elim
end
end DL

namespace DL
open PySem PySem.Spec L2

theorem ints_dv {u : Wd} {K : PySem.W.Frag} {H : Hp} : ∀ ns : List Int, DvAll u K H (ns.map V.int) (ns.map D.int)
  | [] => .nil
  | n :: ns => .cons (.int n) (ints_dv ns)
/-- what the law's body is to show over data, of every script of n ints at most -/
def LawOk (n m : Nat) (g : GS) : Prop := ∀ ns : List Int, ns.length ≤ n → g (GEnds.fn (fun d _ => d = .bl true) noW) (startD m [.fz (ns.map D.int)]) []
/-- the law's call, from its body's meaning -/
theorem law_D {P : Program} {w : World} {K : PySem.W.Frag} {mg mb : Str → Option Value} {k n : Nat} {fa a : Addr} {fd : FuncData} {x y qual : Str} {params : Arguments} {body : List Stmt} {scope : Scope} {dvs : List V} {kws : List (Str × V)} {N : List Str} {g : GS} {s1 : Shared} {vs : List Value} {ns : List Int}
    (KX : K.In s1.heap) (hns : s1.heap.Ns mainGlobals mg) (hb : s1.heap.Ns builtinsNs mb) (hbb : ∀ x : Str, x ≠ "__name__" → mb x = bootBuiltins x) (hlim : s1.heap.NoLimit) (hg : s1.gens = #[])
    (ha : s1.heap.get? a = some { cls := .type "list", data := .seq vs.toArray }) (hi : PyProof.Rows.IntsAre vs ns) (hl : ns.length ≤ sizeLine) (hln : ns.length ≤ n) (hr : Room (k + 1) callerA)
    (F : FunD K y qual params body scope dvs kws fa fd) (S : FnScope N [x] scope) (hbind : ∀ (s : Shared) (u : Value), BindsTo s fd ⟨[u], []⟩ [(x, u)])
    (hB : ∀ base : Heap, K.In base → base.Ns mainGlobals mg → ∀ (cdv : Value) (s : Shared) (H : Hp) (E : XK), DSs (cxOf (L2.CX P w) P w K mg base N qual scope fa cdv callerA [] s H E) body g) (hG : LawOk n N.length g) :
    codeAny (model P w) callerA (.call (.ref fa) ⟨[.ref a], []⟩) (fun r s' => r = .ok (.ret (.bool true)) ∧ OldK s1.heap s'.heap ∧ s'.os = s1.os ∧ PyProof.Rows.AllBare s'.gens) s1 := by
  have rv := vals_ints hi
  have lenV := hi.length
  -- H: nothing is tracked, or the script alone
  have main : ∀ H : Hp, (∀ b o, H b = some o → b = a ∧ K.lookup a = none ∧ o = .frz { cls := .type "list", data := .seq vs.toArray } (.lst (ns.map V.int))) → FzAt ⟨[], fun b => H b ≠ none⟩ K H a (ns.map V.int) →
      codeAny (model P w) callerA (.call (.ref fa) ⟨[.ref a], []⟩) (fun r s' => r = .ok (.ret (.bool true)) ∧ OldK s1.heap s'.heap ∧ s'.os = s1.os ∧ PyProof.Rows.AllBare s'.gens) s1 := by
    intro H hH hS
    have hok : HOk P w H s1.heap := fun b o q => by
      obtain ⟨rfl, _, rfl⟩ := hH b o q
      exact ⟨ha, by rw [List.length_map]; exact hl, vs, _, rv, ha⟩
    have low : ∀ {b : Addr} {o : Obj}, s1.heap.get? b = some o → (b = a → False) → (hidT s1.heap H).get? b = some o := fun {b o} q nb => by
      refine hidT_get q ?_
      cases z : H b with
      | none => rfl
      | some v => exact (nb (hH b v z).1).elim
    have dic : ∀ {b : Addr} {m : Str → Option Value}, s1.heap.Ns b m → (hidT s1.heap H).Ns b m := fun {b m} z => by
      obtain ⟨o, es, ep, q, dd, rr⟩ := z
      refine ⟨o, es, ep, low q fun eb => ?_, dd, rr⟩
      subst eb
      rw [ha] at q
      cases q
      exact Data.noConfusion dd
    have kin : K.In (hidT s1.heap H) := fun b o q => by
      refine hidT_get (KX b o q) ?_
      cases z : H b with
      | none => rfl
      | some v =>
        obtain ⟨rfl, z2, _⟩ := hH b v z
        rw [z2] at q
        cases q
    have md : Mod K mg (hidT s1.heap H) := ⟨kin, dic hns, ⟨mb, dic hb, hbb⟩, hlim.imp fun mc z => ⟨dic z.1, z.2⟩⟩
    have e0 : Env0 P w K mg (hidT s1.heap H) callerA [] s1 H := ⟨rfl, md, fun b o q => of_hidT q, Nat.le_of_eq (hidT_size _ _), trivial, fun b z => (nomatch z), hok, .of_eq hg⟩
    have rep : Rep K ⟨[], fun b => H b ≠ none⟩ [] H := ⟨rfl, List.nodup_nil, fun k p ds z => by simp at z, fun p z => (nomatch z), fun p z => z⟩
    refine codeAny_mono (fn_at (CX := L2.CX P w) (us := [.ref a]) (vs := [.ref a]) (Q := fun v _ => v = .bl true) (E := fun _ _ _ => False) F S hr e0 (hbind s1 (.ref a)) (.cons rfl .nil) rfl fun cdv => ?_) ?_
    · obtain ⟨t, pt, st⟩ := hB _ kin (dic hns) cdv s1 H (fun _ _ _ => False) (fun cls d _ H' => False) (takes_of rfl rfl rfl rfl)
      refine ⟨t, pt, st _ [] H _ _ _ _ rep (DvAll.sl (.cons (.fz hS (ints_dv ns)) .nil)) (hG ns hln) ⟨fun _ _ _ _ _ z _ _ _ => D.noConfusion (show D.non = D.bl true from z), fun _ _ _ _ _ z => False.elim z, fun _ _ _ _ _ z => False.elim z, fun u' M' H' v d z r' e' dv => ?_, fun _ _ _ _ _ _ _ _ z => False.elim z⟩⟩
      have z' : d = .bl true := z
      subst z'
      cases dv
      rfl
    · rintro (er | fl) s' h
      · obtain ⟨_, _, _, _, _, _, _, _, _, _, _, _, z⟩ := h
        exact False.elim z
      · cases fl with
        | next => exact False.elim h
        | brk => exact False.elim h
        | cont => exact False.elim h
        | ret u2 =>
          obtain ⟨v, H', os, bare, un, hok', rr, q⟩ := h
          have q' : v = .bl true := q
          subst q'
          obtain rfl : u2 = Value.bool true := rr
          refine ⟨rfl, OldK.of_keep fun b o z => ?_, os, bare⟩
          cases hz : H b with
          | none => exact un.keep b o z hz (fun y => (nomatch y)) (fun y => (nomatch y))
          | some v =>
            obtain ⟨rfl, _, rfl⟩ := hH b v hz
            obtain ⟨z1, _⟩ := hok b _ hz
            obtain ⟨z2, _⟩ := hok' b _ (un.frzs b _ _ hz)
            rw [z] at z1
            cases z1
            exact z2
  cases hk : K.lookup a with
  | some o =>
    have q := KX a o hk
    rw [ha] at q
    cases q
    exact main (fun _ => none) (fun b o z => nomatch z) (.inr (.inr ⟨_, vs.toArray, _, hk, rfl, rfl, rfl, by rw [List.size_toArray, lenV]; exact hl, by simpa using rv⟩))
  | none =>
    refine main (fun b => if b = a then some (.frz { cls := .type "list", data := .seq vs.toArray } (.lst (ns.map V.int))) else none) (fun b o z => ?_) (.inl ⟨.inr ⟨_, if_pos rfl⟩, by simp⟩)
    by_cases eb : b = a
    · rw [if_pos eb] at z
      cases z
      exact ⟨eb, hk, rfl⟩
    · rw [if_neg eb] at z
      cases z
/-- the goal that a head with facts leaves -/
theorem walk_D {l : PySem.W.OpenLaw} {n k : Nat} {q : Program} {loose : List Str} {XP : (Str → Option Value) → Heap → Prop} {YP : World → Heap → Prop} {d : DefRec} {x : Str} (hn : l.most = some n) (hn2 : n ≤ sizeLine) (hdf : d.params.defaults = []) (hr : Room (k + 1) callerA)
    (F : ∀ (w : World) (mg : Str → Option Value) (fa : Addr) (h : Heap), YP w h → h.Ns mainGlobals mg → mg d.name = some (.ref fa) →
      ∃ (K : PySem.W.Frag) (fd : FuncData) (y qual : Str) (params : Arguments) (body : List Stmt) (scope : Scope) (dvs : List V) (kws : List (Str × V)) (N : List Str) (g : GS), K.In h ∧ FunD K y qual params body scope dvs kws fa fd ∧ FnScope N [x] scope ∧ (∀ (s : Shared) (u : Value), BindsTo s fd ⟨[u], []⟩ [(x, u)]) ∧
        (∀ base : Heap, K.In base → base.Ns mainGlobals mg → ∀ (cdv : Value) (s : Shared) (H : Hp) (E : XK), DSs (cxOf (L2.CX l.prog w) l.prog w K mg base N qual scope fa cdv callerA [] s H E) body g) ∧ LawOk n N.length g) :
    PySem.W.WalkO q loose XP YP l.row.toRowW d [] (fun f vs => PySem.call f vs) := by
  refine Att.attach_call hn hdf ?_
  intro w s0 s1 mg mb fa o pm cd doc a vs ns G Y ho hd hcd hmg hobj hints hlen hg
  obtain ⟨K, fd, y, qual, params, body, scope, dvs, kws, N, g, KX, F1, S, hb, hB, hG⟩ := F w mg fa _ Y G.T.g hmg
  exact law_D KX G.T.g G.T.b G.T.builtins G.T.nolimit hg hobj hints (Nat.le_trans hlen hn2) hlen hr F1 S hb hB hG
end DL

namespace DL
open PySem PySem.Spec L2

/-! ### comparisons as tests -/
section
variable {X : Cx} {a b c : Expr} {ga gb gc : GE} {pos : Pos}
theorem dt_lt (ha : DE X a ga) (hb : DE X b gb) : DT X (.Compare a [.Lt] [b] pos) (gB (gOp qLt ga gb)) := dt_cmp op_lt (sim_I0 fun _ _ _ _ _ => .bl _) ha hb (nomark _)
theorem dt_le (ha : DE X a ga) (hb : DE X b gb) : DT X (.Compare a [.LtE] [b] pos) (gB (gOp qLe ga gb)) := dt_cmp op_le (sim_I0 fun _ _ _ _ _ => .bl _) ha hb (nomark _)
theorem dt_gt (ha : DE X a ga) (hb : DE X b gb) : DT X (.Compare a [.Gt] [b] pos) (gB (gOp qGt ga gb)) := dt_cmp op_gt (sim_I0 fun _ _ _ _ _ => .bl _) ha hb (nomark _)
theorem dt_ge (ha : DE X a ga) (hb : DE X b gb) : DT X (.Compare a [.GtE] [b] pos) (gB (gOp qGe ga gb)) := dt_cmp op_ge (sim_I0 fun _ _ _ _ _ => .bl _) ha hb (nomark _)
theorem sim_eqD {K : PySem.W.Frag} : SimR K (rEqD K) (qEqD id) := fun u M H x y dx dy Q R rp hx hy g f => by
  unfold qEqD at g
  split at g
  · rename_i d e e1 e2
    exact ⟨d, e, hx.dpM rp e1, hy.dpM rp e2, g.1, g.2.1, f u M H _ _ g.2.2 rp (Ext.refl _ _) (.bl _)⟩
  · exact g.elim
theorem sim_neD {K : PySem.W.Frag} : SimR K (rNeD K) (qEqD not) := fun u M H x y dx dy Q R rp hx hy g f => by
  unfold qEqD at g
  split at g
  · rename_i d e e1 e2
    exact ⟨d, e, hx.dpM rp e1, hy.dpM rp e2, g.1, g.2.1, f u M H _ _ g.2.2 rp (Ext.refl _ _) (.bl _)⟩
  · exact g.elim
theorem dt_eq (hu : X.A.units + 64 < cLine) (ha : DE X a ga) (hb : DE X b gb) : DT X (.Compare a [.Eq] [b] pos) (gB (gOp (qEqD id) ga gb)) := dt_cmp (op_eqD hu) sim_eqD ha hb (nomark _)
theorem dt_ne (hu : X.A.units + 64 < cLine) (ha : DE X a ga) (hb : DE X b gb) : DT X (.Compare a [.NotEq] [b] pos) (gB (gOp (qEqD not) ga gb)) := dt_cmp (op_neD hu) sim_neD ha hb (nomark _)
end
/-! ### keywords in another order -/
def kw1 {α : Type} (_ ws : List α) : List α := match ws with
  | [a] => [a]
  | _ => []
def kw12 {α : Type} (_ ws : List α) : List α := match ws with
  | [a, b] => [a, b]
  | _ => []
def kw21 {α : Type} (_ ws : List α) : List α := match ws with
  | [a, b] => [b, a]
  | _ => []
theorem kw1_v {vs zs : List V} {us ws : List Value} (_ : Vals vs us) (r : Vals zs ws) : Vals (kw1 vs zs) (kw1 us ws) := by
  cases r with
  | nil => exact .nil
  | cons h t =>
    cases t with
    | nil => exact .cons h .nil
    | cons _ _ => exact .nil
theorem kw12_v {vs zs : List V} {us ws : List Value} (_ : Vals vs us) (r : Vals zs ws) : Vals (kw12 vs zs) (kw12 us ws) := by
  cases r with
  | nil => exact .nil
  | cons h t =>
    cases t with
    | nil => exact .nil
    | cons h2 t2 =>
      cases t2 with
      | nil => exact .cons h (.cons h2 .nil)
      | cons _ _ => exact .nil
theorem kw21_v {vs zs : List V} {us ws : List Value} (_ : Vals vs us) (r : Vals zs ws) : Vals (kw21 vs zs) (kw21 us ws) := by
  cases r with
  | nil => exact .nil
  | cons h t =>
    cases t with
    | nil => exact .nil
    | cons h2 t2 =>
      cases t2 with
      | nil => exact .cons h2 (.cons h .nil)
      | cons _ _ => exact .nil
theorem kw1_d {K : PySem.W.Frag} (u : Wd) (H : Hp) (vs : List V) (ds : List D) (zs : List V) (es : List D) (_ : DvAll u K H vs ds) (r : DvAll u K H zs es) : DvAll u K H (kw1 vs zs) (kw1 ds es) := by
  cases r with
  | nil => exact .nil
  | cons h t =>
    cases t with
    | nil => exact .cons h .nil
    | cons _ _ => exact .nil
theorem kw12_d {K : PySem.W.Frag} (u : Wd) (H : Hp) (vs : List V) (ds : List D) (zs : List V) (es : List D) (_ : DvAll u K H vs ds) (r : DvAll u K H zs es) : DvAll u K H (kw12 vs zs) (kw12 ds es) := by
  cases r with
  | nil => exact .nil
  | cons h t =>
    cases t with
    | nil => exact .nil
    | cons h2 t2 =>
      cases t2 with
      | nil => exact .cons h (.cons h2 .nil)
      | cons _ _ => exact .nil
theorem kw21_d {K : PySem.W.Frag} (u : Wd) (H : Hp) (vs : List V) (ds : List D) (zs : List V) (es : List D) (_ : DvAll u K H vs ds) (r : DvAll u K H zs es) : DvAll u K H (kw21 vs zs) (kw21 ds es) := by
  cases r with
  | nil => exact .nil
  | cons h t =>
    cases t with
    | nil => exact .nil
    | cons h2 t2 =>
      cases t2 with
      | nil => exact .cons h2 (.cons h .nil)
      | cons _ _ => exact .nil
/-- nothing is promised of defs that are never called with success -/
theorem fn_no {P : Program} {w : World} {K : PySem.W.Frag} {mg : Str → Option Value} {base : Heap} {k : Nat} {f : Addr} {fd : FuncData} {ps : List Str} : FnD P w K mg base k f fd ps (fun _ _ _ _ => False) :=
  ⟨fun vs H Q E h => by obtain ⟨_, _, _, _, _, _, _, z, _⟩ := h; exact z.elim, fun A outer s H args us vs Q E _ _ _ _ h => by obtain ⟨_, _, _, _, _, _, _, z, _⟩ := h; exact z.elim⟩
end DL

namespace DL
open PySem PySem.Spec L2
/-! ### the same meanings, said by what is there (for boxes, whose lists stand in the memory) -/
theorem DE.imp {X : Cx} {e : Expr} {g g' : GE} (h : DE X e g) (i : ∀ ρ M R W, g' ρ M R W → g ρ M R W) : DE X e g' := fun Wv tk => let ⟨t, p, s⟩ := h Wv tk; ⟨t, p, fun u M H σ ρ Q R W r sl q f o => s u M H σ ρ Q R W r sl (i ρ M R W q) f o⟩
def qIxE : GR := fun x y M R => ∃ ds i d, seqOf M x = some ds ∧ y = .int i ∧ atI ds i = some d ∧ R d M
theorem qIxE_imp {x y : D} {M : Mem} {R : D → Mem → Prop} (h : qIxE x y M R) : qIx x y M R := by
  obtain ⟨ds, i, d, h1, rfl, h2, h⟩ := h
  unfold qIx
  simp only [h1, h2]
  exact h
def qLenE : GC := fun ds M R => ∃ d es, ds = [d] ∧ seqOf M d = some es ∧ R (.int es.length) M
theorem sim_lenE {K : PySem.W.Frag} : SimC K (fun xs H Q => ∃ x n, xs = [x] ∧ LenV K x H n ∧ Q (.int n) H) qLenE := fun u M H xs ds Q R rp d g f => by
  obtain ⟨x, es, rfl, h1, g⟩ := g
  refine sim_len u M H xs _ Q R rp d ?_ f
  unfold qLen
  cases x <;> first | (cases h1; done) | (simp only [h1]; exact g)
def qTupOfE : GC := fun ds M R => ∃ d es, ds = [d] ∧ seqOf M d = some es ∧ R (.tup es) M
theorem sim_tupOfE {K : PySem.W.Frag} : SimC K (fun xs H Q => ∃ p ys, xs = [.ref p] ∧ ((SqL K H p ys ∧ ∀ l, H l = none → Q (.ref l) (upd H l (.tup ys))) ∨ (SqT K H p ys ∧ Q (.ref p) H))) qTupOfE := fun u M H xs ds Q R rp d g f => by
  obtain ⟨x, es, rfl, h1, g⟩ := g
  refine sim_tupOf u M H xs _ Q R rp d ?_ f
  unfold qTupOf
  simp only [h1]
  exact g
section
variable {X : Cx} {a b c e o i : Expr} {ga gb ge go gi : GE} {pos apos cpos : Pos} {tg : Expr}
theorem gOp_imp {q q' : GR} (h : ∀ x y M R, q' x y M R → q x y M R) {X : Cx} {f : Expr} : (∀ Wv, Takes X Wv → ∃ t ta tb r, t = tOp r ta tb ∧ PE X f t ∧ SimR X.K r q ∧ SimE X.K Wv ta ga ∧ SimE X.K Wv tb gb) → DE X f (gOp q' ga gb) := fun hh Wv tk => by
  obtain ⟨t, ta, tb, r, rfl, p, s, sa, sb⟩ := hh Wv tk
  exact ⟨_, p, sim_op (fun u M H x y dx dy Q R rp hx hy g f => s u M H x y dx dy Q R rp hx hy (h _ _ _ _ g) f) sa sb⟩
theorem sim_ix {K : PySem.W.Frag} : SimR K (rIx K) qIx := fun u M H x y dx dy Q R rp hx hy g f => by
  unfold qIx at g
  split at g
  · rename_i ds i e1
    split at g
    · rename_i d e2
      obtain ⟨p, vs, rfl, h1, h2⟩ := seq_at rp hx e1
      cases hy
      obtain ⟨v, e3, h3⟩ := atI_D h2 e2
      have q := f u M H v d g rp (Ext.refl _ _) h3
      exact h1.elim (fun z => .inl ⟨p, vs, i, v, rfl, rfl, z, e3, q⟩) fun z => .inr (.inl ⟨p, vs, i, v, rfl, rfl, z, e3, q⟩)
    · exact g.elim
  · exact g.elim
theorem de_ixE (ha : DE X a ga) (hb : DE X b gb) (hs : PlainIx b) : DE X (.Subscript a b pos) (gOp qIxE ga gb) := gOp_imp (q := qIx) (fun _ _ _ _ h => qIxE_imp h) fun Wv tk => by
  obtain ⟨ta, pa, sa⟩ := ha Wv tk
  obtain ⟨tb, pb, sb⟩ := hb Wv tk
  exact ⟨_, ta, tb, _, rfl, pe_ix ix_seq pa pb hs, sim_ix, sa, sb⟩
/-- the receiver's list is looked up behind the argument -/
def gAppendE (go ge : GE) : GE := fun ρ M R W => go ρ M (fun x M1 => ∃ k, x = .box k ∧ ge ρ M1 (fun y M2 => ∃ ds, M2[k]? = some ds ∧ ds.length < sizeLine ∧ R .non (M2.set k (ds ++ [y]))) W) W
theorem de_appendE (ho : DE X o go) (he : DE X e ge) (hbase : attributeBase o "append" X.env (eval o X.env) = eval o X.env := by rfl)
    (hfew : ((backTo cpos (starEach [e] X.env)).all (fun x => !x.1) && (backToKw cpos (keywordEach [] X.env)).all (fun x => x.1.isSome) && decide ([e].length + ([] : List Keyword).length + (if ([] : List Keyword).isEmpty then 0 else 1) < 30)) = true := by rfl)
    (hline : (apos.endLine == cpos.line) = true := by rfl) (hs : starEach [e] X.env = (false, eval e X.env) :: starEach [] X.env := by rfl) (hplain : (backTo cpos (starEach [] X.env)).any (·.1) = false := by rfl) :
    DE X (.Call (.Attribute o "append" apos) [e] [] cpos) (gAppendE go ge) := fun Wv tk => by
  obtain ⟨t1, p1, s1⟩ := ho Wv tk
  obtain ⟨t2, p2, s2⟩ := he Wv tk
  refine ⟨_, pe_bm PySem.F.plainAttrs_list PySem.F.slot_list_append PySem.F.type_list_append mt_append p1 (pa_cons p2 pa_nil hs) hbase hfew hline hs hplain, fun u M H σ ρ Q R W r s g f o => ?_⟩
  refine s1 u M H σ ρ _ _ W r s g (fun u1 M1 H1 x dx g1 r1 e1 d1 => ?_) o
  obtain ⟨k, rfl, g1⟩ := g1
  cases d1 with
  | box hb =>
    obtain ⟨vs0, h0⟩ := r1.isLst (List.mem_of_getElem? hb)
    refine ⟨.inl ⟨rfl, _, SqL.of h0⟩, s2 u1 M1 H1 σ ρ _ _ W r1 (s.ext e1) g1 (fun u2 M2 H2 y dy g2 r2 e2 d2 => ?_) (o.ext e1)⟩
    obtain ⟨ds, em, hl, g2⟩ := g2
    obtain ⟨vs, h1, a1⟩ := r2.at_ _ _ _ (e2.at hb) em
    obtain ⟨r3, e3⟩ := r2.put (e2.at hb) (a1.append (.cons d2 .nil))
    exact ⟨_, vs, y, rfl, rfl, h1, by rw [a1.length]; exact hl, f _ _ _ _ _ g2 r3 ((e1.trans e2).trans e3) .non⟩
def ggSubE (go gi : GE) : GG := fun d ρ M R W => go ρ M (fun o M1 => gi ρ M1 (fun i M2 => ∃ k z ds j, o = .box k ∧ i = .int z ∧ M2[k]? = some ds ∧ ixN ds.length z = some j ∧ R ρ (M2.set k (ds.set j d))) W) W
theorem dg_subE (ho : DE X o go) (hi : DE X i gi)
    (ha : ∀ v, assign (.Subscript o i pos) X.env v = (do
      let ov ← holding [v] (eval o X.env)
      let iv ← holding [v, ov] (eval i X.env)
      standAt pos
      holding [v, ov, iv] (setItem ov iv v)
      release [v, ov, iv] []) := by intro _; rfl) : DG X (.Subscript o i pos) (ggSubE go gi) := fun Wv tk => by
  obtain ⟨t1, p1, s1⟩ := ho Wv tk
  obtain ⟨t2, p2, s2⟩ := hi Wv tk
  refine ⟨_, pg_sub p1 p2 set_list ha, fun u M H σ ρ v d Q R W r s dv g f o => s1 u M H σ ρ _ _ W r s g (fun u1 M1 H1 ov od g1 r1 e1 d1 => ?_) o⟩
  refine s2 u1 M1 H1 σ ρ _ _ W r1 (s.ext e1) g1 (fun u2 M2 H2 iv id g2 r2 e2 d2 => ?_) (o.ext e1)
  obtain ⟨k, z, ds, j, rfl, rfl, em, ej, g2⟩ := g2
  cases d1 with
  | box hb =>
    have hb2 := e2.at hb
    obtain ⟨vs, h1, a1⟩ := r2.at_ _ _ _ hb2 em
    cases d2
    have e12 := e1.trans e2
    obtain ⟨r3, e3⟩ := r2.put hb2 (a1.set j (dv.ext e12))
    exact ⟨_, vs, z, j, rfl, rfl, h1, by rw [a1.length]; exact ej, f _ _ _ _ _ g2 r3 (e12.trans e3) (s.ext (e12.trans e3))⟩
def giSeqE (ge : GE) : GI := fun ρ M R W => ge ρ M (fun d M1 => ∃ ds, seqOf M1 d = some ds ∧ R ds (okOf M1 d) M1) W
theorem di_seqE (he : DE X e ge) : DI X tg e (giSeqE ge) := fun Wv tk => by
  obtain ⟨t, pt, st⟩ := he Wv tk
  refine ⟨_, pi_any pt, fun u M H σ ρ Q R W r s g f o => st u M H σ ρ _ _ W r s g (fun u1 M1 H1 v d g1 r1 e1 d1 => ?_) o⟩
  obtain ⟨ds, q, g1⟩ := g1
  obtain ⟨p, rfl, h | h⟩ := seq_stays r1 d1 q
  · exact .inl ⟨p, rfl, .inl ⟨h.1, f u1 M1 H1 _ _ _ g1 (okOf_self _ _) r1 e1 (it_list (vs := []) h.2)⟩⟩
  · exact .inl ⟨p, rfl, .inr ⟨h.1, f u1 M1 H1 _ _ _ g1 (okOf_self _ _) r1 e1 (it_tup h.2)⟩⟩
end
def qReprE : GC := fun ds M R => ∃ d e, ds = [d] ∧ pyM M d = some e ∧ e.showable = true ∧ e.hasDict = false ∧ e.depth ≤ 60 ∧ e.shown.length ≤ sizeLine ∧ R (.str e.shown) M
theorem sim_reprE {K : PySem.W.Frag} : SimC K (rRepr K) qReprE := fun u M H xs ds Q R rp d g f => by
  obtain ⟨x, e, rfl, h1, h2, h3, h4, h5, g⟩ := g
  refine sim_repr u M H xs _ Q R rp d ?_ f
  unfold qRepr
  simp only [h1]
  exact ⟨h2, h3, h4, h5, g⟩

/-! ### comprehensions and loops whose turns leave the memory as it is -/
theorem lc_map {gg : GG} {ge : GE} {ok : Mem → Prop} {ρ : DSt} {M : Mem} {f : D → D} (hok : ok M) : ∀ {items acc : List D} {R : List D → Mem → Prop}, acc.length + items.length ≤ sizeLine →
    (∀ d ∈ items, ∀ R' : D → Mem → Prop, R' (f d) M → gg d ρ M (fun ρ1 M1 => ge ρ1 M1 R' noW) noW) → R (acc ++ items.map f) M → gLcLoop gg gYes ge ok items acc ρ M R
  | [], acc, R, _, _, h => by
    simp only [List.map_nil, List.append_nil] at h
    exact h
  | d :: ds, acc, R, hl, hs, h => by
    simp only [List.length_cons] at hl
    refine hs d List.mem_cons_self _ ⟨by omega, hok, lc_map hok (by simp only [List.length_append, List.length_singleton]; omega) (fun d' hd => hs d' (List.mem_cons_of_mem _ hd)) ?_⟩
    simpa using h
theorem loop_each {gg : GG} {gb : GS} {ok : Mem → Prop} (P : DSt → Mem → Prop) : ∀ {items : List D} {G : GEnds} {ρ : DSt} {M : Mem}, P ρ M → (∀ ρ M, P ρ M → G.nx ρ M) →
    (∀ d ∈ items, ∀ ρ M, P ρ M → ∀ N : DSt → Mem → Prop, (∀ ρ' M', P ρ' M' → ok M' → N ρ' M') → gg d ρ M (fun ρ1 M1 => gb { G with nx := N, ct := N, bk := G.nx } ρ1 M1) (fun c fs M' => G.ex c fs ρ M')) → (∀ ρ M, P ρ M → ok M) → gLoop gg gb ok items G ρ M
  | [], G, ρ, M, h, he, _, _ => he ρ M h
  | d :: ds, G, ρ, M, h, he, hs, hk => hs d List.mem_cons_self ρ M h _ fun ρ' M' h' _ => ⟨hk ρ' M' h', loop_each P h' he (fun d' hd => hs d' (List.mem_cons_of_mem _ hd)) hk⟩
end DL

namespace DL
open PySem PySem.Spec L2
/-! ### == and != of two texts -/
section
variable {X : Cx} {a b : Expr} {ga gb : GE} {pos : Pos}
def qEqS (f : Bool → Bool) : GR := fun x y M R => match x, y with
  | .str i, .str j => R (.bl (f (decide (i = j)))) M
  | _, _ => False
theorem dec_str (i j : Str) : decide (V.str i = V.str j) = decide (i = j) := by
  by_cases e : i = j
  · subst e
    rw [decide_eq_true rfl, decide_eq_true rfl]
  · rw [decide_eq_false e, decide_eq_false fun z => e (V.str.inj z)]
theorem sim_eqS {K : PySem.W.Frag} : SimR K rEq (qEqS id) := fun u M H x y dx dy Q R rp dx' dy' g fi => by
  cases dx' <;> cases dy' <;> first | exact g.elim | skip
  rename_i i j
  refine ⟨rfl, ?_⟩
  rw [dec_str]
  exact fi u M H _ _ g rp (Ext.refl _ _) (.bl _)
theorem sim_neS {K : PySem.W.Frag} : SimR K rNe (qEqS not) := fun u M H x y dx dy Q R rp dx' dy' g fi => by
  cases dx' <;> cases dy' <;> first | exact g.elim | skip
  rename_i i j
  refine ⟨rfl, ?_⟩
  rw [dec_str]
  exact fi u M H _ _ g rp (Ext.refl _ _) (.bl _)
theorem de_eqS (ha : DE X a ga) (hb : DE X b gb) : DE X (.Compare a [.Eq] [b] pos) (gOp (qEqS id) ga gb) := de_cmp op_eq sim_eqS ha hb (nomark _)
theorem de_neS (ha : DE X a ga) (hb : DE X b gb) : DE X (.Compare a [.NotEq] [b] pos) (gOp (qEqS not) ga gb) := de_cmp op_ne sim_neS ha hb (nomark _)
theorem dt_eqS (ha : DE X a ga) (hb : DE X b gb) : DT X (.Compare a [.Eq] [b] pos) (gB (gOp (qEqS id) ga gb)) := dt_cmp op_eq sim_eqS ha hb (nomark _)
theorem dt_neS (ha : DE X a ga) (hb : DE X b gb) : DT X (.Compare a [.NotEq] [b] pos) (gB (gOp (qEqS not) ga gb)) := dt_cmp op_ne sim_neS ha hb (nomark _)
end
/-! ### loops by the turn's number -/
theorem loop_ix {gg : GG} {gb : GS} {ok : Mem → Prop} (P : Nat → DSt → Mem → Prop) : ∀ {items : List D} {G : GEnds} {ρ : DSt} {M : Mem} (n : Nat), P n ρ M → (∀ ρ M, P (n + items.length) ρ M → G.nx ρ M) →
    (∀ i d, items[i]? = some d → ∀ ρ M, P (n + i) ρ M → ∀ N : DSt → Mem → Prop, (∀ ρ' M', P (n + i + 1) ρ' M' → N ρ' M') → gg d ρ M (fun ρ1 M1 => gb { G with nx := N, ct := N, bk := G.nx } ρ1 M1) (fun c fs M' => G.ex c fs ρ M')) → (∀ j ρ M, P j ρ M → ok M) → gLoop gg gb ok items G ρ M
  | [], G, ρ, M, n, h, he, _, _ => he ρ M h
  | d :: ds, G, ρ, M, n, h, he, hs, hk => by
    refine hs 0 d rfl ρ M h _ fun ρ' M' h' => ⟨hk _ ρ' M' h', loop_ix P (n + 1) h' (fun ρ M z => he ρ M ?_) (fun i d' hd ρ M z N hN => hs (i + 1) d' hd ρ M ?_ N fun ρ2 M2 z2 => hN ρ2 M2 ?_) hk⟩
    · rw [List.length_cons, ← Nat.add_assoc, Nat.add_right_comm]
      exact z
    · rw [← Nat.add_assoc, Nat.add_right_comm]
      exact z
    · rw [← Nat.add_assoc, Nat.add_right_comm n i 1] at z2
      exact z2
theorem rng_get {lo : Int} {n i : Nat} {d : D} (h : (rngD lo n)[i]? = some d) : i < n ∧ d = .int (lo + (i : Int)) := by
  have hi : i < n := by
    have := (List.getElem?_eq_some_iff.mp h).1
    rwa [rng_len] at this
  refine ⟨hi, ?_⟩
  unfold rngD at h
  rw [List.getElem?_map, List.getElem?_range hi] at h
  exact (Option.some.inj h).symm
theorem get_last {M : Mem} {x : List D} : (M ++ [x])[M.length]? = some x := by simp
theorem get_old {M : Mem} {x es : List D} {k : Nat} (h : M[k]? = some es) : (M ++ [x])[k]? = some es := by
  rw [List.getElem?_append_left (List.getElem?_eq_some_iff.mp h).1]
  exact h
theorem mem_lt {M : Mem} {es : List D} {k : Nat} (h : M[k]? = some es) : k < M.length := (List.getElem?_eq_some_iff.mp h).1
end DL

namespace DL
open PySem PySem.Spec L2
/-! ### targets within targets -/
abbrev GGs := List D → DSt → Mem → (DSt → Mem → Prop) → Prop
def SimGs (K : PySem.W.Frag) (t : TGs) (g : GGs) : Prop := ∀ (u : Wd) (M : Mem) (H : Hp) (σ : St) (ρ : DSt) (vs : List V) (ds : List D) (Q : St → Hp → Prop) (R : DSt → Mem → Prop),
  Rep K u M H → DSl u K H σ ρ → DvAll u K H vs ds → g ds ρ M R → (∀ u' M' H' σ' ρ', R ρ' M' → Rep K u' M' H' → Ext u H u' H' → DSl u' K H' σ' ρ' → Q σ' H') → t vs σ H Q
def DGs (X : Cx) (es : List Expr) (g : GGs) : Prop := ∀ Wv : WX, Takes X Wv → ∃ t, PGs X es t ∧ SimGs X.K t g
def ggNil : GGs := fun ds ρ M R => match ds with
  | [] => R ρ M
  | _ :: _ => False
def ggCons (gg : GG) (gs : GGs) : GGs := fun ds ρ M R => match ds with
  | [] => False
  | d :: ds => gg d ρ M (fun ρ1 M1 => gs ds ρ1 M1 R) noW
section
variable {X : Cx} {tg : Expr} {es : List Expr} {gg : GG} {gs : GGs} {n : Nat} {pos : Pos}
theorem dgs_nil : DGs X [] ggNil := fun Wv _ => ⟨_, pgs_nil, fun u M H σ ρ vs ds Q R r s a g f => by
  cases a with
  | nil => exact ⟨rfl, f u M H σ ρ g r (Ext.refl _ _) s⟩
  | cons _ _ => exact g.elim⟩
theorem dgs_cons (h1 : DG X tg gg) (h2 : DGs X es gs) (hs : (assignEach (tg :: es) X.env).map (·.2) = assign tg X.env :: (assignEach es X.env).map (·.2) := by rfl) : DGs X (tg :: es) (ggCons gg gs) := fun Wv tk => by
  obtain ⟨t1, p1, s1⟩ := h1 Wv tk
  obtain ⟨t2, p2, s2⟩ := h2 Wv tk
  refine ⟨_, pgs_cons p1 p2 hs, fun u M H σ ρ vs ds Q R r s a g f => ?_⟩
  cases a with
  | nil => exact g.elim
  | cons h a =>
    refine ⟨_, _, rfl, s1 u M H σ ρ _ _ _ _ noW r s h g (fun u1 M1 H1 σ1 ρ1 g1 r1 e1 sl1 => ?_) no_out⟩
    exact s2 u1 M1 H1 σ1 ρ1 _ _ _ R r1 sl1 (a.ext e1) g1 fun u2 M2 H2 σ2 ρ2 g2 r2 e2 sl2 => f u2 M2 H2 σ2 ρ2 g2 r2 (e1.trans e2) sl2
def ggTupG (n : Nat) (gs : GGs) : GG := fun d ρ M R _ => match d with
  | .tup ds => ds.length = n ∧ gs ds ρ M R
  | _ => False
def ggLstG (n : Nat) (gs : GGs) : GG := fun d ρ M R _ => match d with
  | .lst ds => ds.length = n ∧ gs ds ρ M R
  | _ => False
theorem dg_tupG {kk : Nat} (hc : X.calm = true) (h : DGs X es gs) (hn : (assignEach es X.env).length = n := by rfl) (hst : (assignEach es X.env).findIdx? (·.1) = none := by rfl) : DG X (.Tuple es kk pos) (ggTupG n gs) := fun Wv tk => by
  obtain ⟨t, p, s⟩ := h Wv tk
  refine ⟨_, pg_tup hc p hn hst, fun u M H σ ρ v d Q R W r sl dv g f o => ?_⟩
  unfold ggTupG at g
  split at g
  · cases dv with
    | tup h1 a1 => exact ⟨_, _, rfl, h1.sq, a1.length.trans g.1, s u M H σ ρ _ _ Q R r sl a1 g.2 f⟩
  · exact g.elim
theorem dg_lstG {kk : Nat} (hc : X.calm = true) (h : DGs X es gs) (hn : (assignEach es X.env).length = n := by rfl) (hst : (assignEach es X.env).findIdx? (·.1) = none := by rfl) : DG X (.Tuple es kk pos) (ggLstG n gs) := fun Wv tk => by
  obtain ⟨t, p, s⟩ := h Wv tk
  refine ⟨_, pg_unl hc p hn hst, fun u M H σ ρ v d Q R W r sl dv g f o => ?_⟩
  unfold ggLstG at g
  split at g
  · cases dv with
    | lst h1 s1 a1 => exact ⟨_, _, rfl, SqL.of h1, a1.length.trans g.1, s u M H σ ρ _ _ Q R r sl a1 g.2 f⟩
  · exact g.elim
end

/-! ### comprehensions with two sources -/
def tI (K : PySem.W.Frag) (Wv : WX) (g : GI) : TI := fun σ H Q => ∃ u M ρ R W, Rep K u M H ∧ DSl u K H σ ρ ∧ g ρ M R W ∧ (∀ u' M' H' J items ok, R items ok M' → ok M' → Rep K u' M' H' → Ext u H u' H' → ItD K u' H' J items ok → Q J H') ∧ Out K u H W Wv σ
theorem DI.pi {X : Cx} {tg e : Expr} {g : GI} {Wv : WX} (h : DI X tg e g) (tk : Takes X Wv) : PI X tg e (tI X.K Wv g) := by
  obtain ⟨t, p, s⟩ := h Wv tk
  exact ⟨fun pins sh σ H Q I ⟨u, M, ρ, R, W, r, sl, q, f, o⟩ => p.run pins sh σ H Q I (s u M H σ ρ Q R W r sl q f o)⟩
def gLcLoop2 (gg : GG) (gt : GT) (gi1 : GI) (gg1 : GG) (gt1 : GT) (ge : GE) (vs1 : List Nat) (ok : Mem → Prop) : List D → List D → DSt → Mem → (List D → Mem → Prop) → Prop
  | [], acc, _, M, R => R acc M
  | d :: ds, acc, ρ, M, R => gg d ρ M (fun ρ1 M1 => gt ρ1 M1 (fun b M2 => if b = true then
      gi1 ρ1 M2 (fun items1 ok1 M3 => gLcLoop gg1 gt1 ge ok1 items1 acc (wipeD ρ1 vs1) M3 fun acc' M4 => ok M4 ∧ gLcLoop2 gg gt gi1 gg1 gt1 ge vs1 ok ds acc' ρ M4 R) noW
      else ok M2 ∧ gLcLoop2 gg gt gi1 gg1 gt1 ge vs1 ok ds acc ρ M2 R) noW) noW
def gLc2 (gi : GI) (gg : GG) (gt : GT) (gi1 : GI) (gg1 : GG) (gt1 : GT) (ge : GE) (vs vs1 : List Nat) : GE := fun ρ M R W => gi ρ M (fun items ok M1 => gLcLoop2 gg gt gi1 gg1 gt1 ge vs1 ok items [] (wipeD ρ vs) M1 fun acc M2 => R (.lst acc) M2) W
theorem sim_lc2 {K : PySem.W.Frag} {Wv : WX} {wi wi1 : TI} {gi gi1 : GI} {t t1 : TG} {gg gg1 : GG} {tt tt1 : TT} {gt gt1 : GT} {te : TE} {ge : GE} {vs vs1 : List Nat} (hi : SimI K Wv wi gi) (hg : TgOk K vs t gg) (ht : SimT K W0 tt gt) (hi1 : SimI K W0 wi1 gi1) (hg1 : TgOk K vs1 t1 gg1) (ht1 : SimT K W0 tt1 gt1) (he : SimE K W0 te ge) :
    SimE K Wv (tLc2 wi t tt wi1 t1 tt1 te vs vs1) (gLc2 gi gg gt gi1 gg1 gt1 ge vs vs1) := fun u M H σ ρ Q R W r s g f o => by
  refine hi u M H σ ρ _ _ W r s g (fun u1 M1 H1 J items ok h1 k1 r1 e1 it => fun L hL => ?_) o
  refine ⟨fun i m H' => m = items.length - i ∧ ∃ u' M' acc accD, Rep K u' M' H' ∧ Ext u1 H1 u' H' ∧ H' L = some (.lst acc) ∧ ¬ u'.S L ∧ L ∉ u'.bs ∧ DvAll u' K H' acc accD ∧ ok M' ∧ gLcLoop2 gg gt gi1 gg1 gt1 ge vs1 ok (items.drop i) accD (wipeD ρ vs) M' fun acc M2 => R (.lst acc) M2,
    ⟨items.length, rfl, u1, M1, [], [], r1.away (r1.notS hL) (r1.notBox hL) _, (Ext.refl _ _).away r1 hL _, upd_same, r1.notS hL, r1.notBox hL, .nil, k1, h1⟩, ?_⟩
  rintro i m H2 ⟨rfl, u2, M2, acc, accD, r2, e2, hD, nS, nB, a2, k2, h2⟩
  by_cases hlt : i < items.length
  · right
    refine ⟨it.go u2 M2 H2 i r2 e2.lat k2 hlt, fun H' => ∃ u' M' acc accD, Rep K u' M' H' ∧ Ext u1 H1 u' H' ∧ H' L = some (.lst acc) ∧ ¬ u'.S L ∧ L ∉ u'.bs ∧ DvAll u' K H' acc accD ∧ ok M' ∧ gLcLoop2 gg gt gi1 gg1 gt1 ge vs1 ok (items.drop (i + 1)) accD (wipeD ρ vs) M' fun acc M2 => R (.lst acc) M2,
      fun H' h => ⟨items.length - (i + 1), by omega, rfl, h⟩, fun x H' hy => ?_⟩
    obtain ⟨u3, r3, e3, d3⟩ := it.yl u2 M2 H2 i x H' _ r2 e2.lat k2 (List.getElem?_eq_getElem hlt) hy
    rw [List.drop_eq_getElem_cons hlt] at h2
    have sw : DSl u3 K H' (wipe σ vs) (wipeD ρ vs) := ((s.ext e1).ext (e2.trans e3)).wipe vs
    refine hg u3 M2 H' σ _ x _ _ _ r3 sw d3 h2 fun σ4 ρ4 h4 s4 w4 => ⟨w4, ?_⟩
    refine ht u3 M2 H' σ4 ρ4 _ _ noW r3 s4 h4 (fun u5 M5 H5 b h5 r5 e5 => ?_) no_out
    cases b with
    | true =>
      rw [if_pos rfl] at h5 ⊢
      refine hi1 u5 M5 H5 σ4 ρ4 _ _ noW r5 (s4.ext e5) h5 (fun u6 M6 H6 J1 items1 ok1 h6 k6 r6 e6 it1 => ?_) no_out
      have e26 := e3.trans (e5.trans e6)
      obtain ⟨q1, q2, q3⟩ := e26.hid hD nS nB
      refine ⟨fun j m H' => m = items1.length - j ∧ ∃ u' M' acc accD, Rep K u' M' H' ∧ Ext u1 H1 u' H' ∧ Lat u6 H6 u' H' ∧ DSl u' K H' σ4 ρ4 ∧ H' L = some (.lst acc) ∧ ¬ u'.S L ∧ L ∉ u'.bs ∧ DvAll u' K H' acc accD ∧ ok1 M' ∧ gLcLoop gg1 gt1 ge ok1 (items1.drop j) accD (wipeD ρ4 vs1) M' (fun acc' M4 => ok M4 ∧ gLcLoop2 gg gt gi1 gg1 gt1 ge vs1 ok (items.drop (i + 1)) acc' (wipeD ρ vs) M4 fun acc M2 => R (.lst acc) M2),
        ⟨items1.length, rfl, u6, M6, acc, accD, r6, e2.trans e26, Lat.refl _ _, s4.ext (e5.trans e6), q1, q2, q3, a2.ext e26, k6, h6⟩, ?_⟩
      rintro j m H7 ⟨rfl, u7, M7, acc7, accD7, r7, e7, l7, s7, hD7, nS7, nB7, a7, k7, h7⟩
      by_cases hlt1 : j < items1.length
      · right
        refine ⟨it1.go u7 M7 H7 j r7 l7 k7 hlt1, fun H' => ∃ u' M' acc accD, Rep K u' M' H' ∧ Ext u1 H1 u' H' ∧ Lat u6 H6 u' H' ∧ DSl u' K H' σ4 ρ4 ∧ H' L = some (.lst acc) ∧ ¬ u'.S L ∧ L ∉ u'.bs ∧ DvAll u' K H' acc accD ∧ ok1 M' ∧ gLcLoop gg1 gt1 ge ok1 (items1.drop (j + 1)) accD (wipeD ρ4 vs1) M' (fun acc' M4 => ok M4 ∧ gLcLoop2 gg gt gi1 gg1 gt1 ge vs1 ok (items.drop (i + 1)) acc' (wipeD ρ vs) M4 fun acc M2 => R (.lst acc) M2),
          fun H' h => ⟨items1.length - (j + 1), by omega, rfl, h⟩, fun x1 H8 hy1 => ?_⟩
        obtain ⟨u8, r8, e8, d8⟩ := it1.yl u7 M7 H7 j x1 H8 _ r7 l7 k7 (List.getElem?_eq_getElem hlt1) hy1
        rw [List.drop_eq_getElem_cons hlt1] at h7
        have sw1 : DSl u8 K H8 (wipe σ4 vs1) (wipeD ρ4 vs1) := (s7.ext e8).wipe vs1
        refine hg1 u8 M7 H8 σ4 _ x1 _ _ _ r8 sw1 d8 h7 fun σ9 ρ9 h9 s9 w9 => ⟨w9, ?_⟩
        refine ht1 u8 M7 H8 σ9 ρ9 _ _ noW r8 s9 h9 (fun u10 M10 H10 b h10 r10 e10 => ?_) no_out
        cases b with
        | true =>
          rw [if_pos rfl] at h10 ⊢
          refine he u10 M10 H10 σ9 ρ9 _ _ noW r10 (s9.ext e10) h10 (fun u11 M11 H11 y dy h11 r11 e11 d11 => ?_) no_out
          have e711 := e8.trans (e10.trans e11)
          obtain ⟨p1, p2, p3⟩ := e711.hid hD7 nS7 nB7
          have lk : ¬ u6.S L := fun z => nS7 (l7.sub _ z)
          refine ⟨acc7, p1, by rw [a7.length]; exact h11.1, u11, M11, acc7 ++ [y], accD7 ++ [dy], r11.away p2 p3 _, (e7.trans e711).away r1 hL _, (l7.trans e711.lat).away lk, ?_, upd_same, p2, p3, ((a7.ext e711).append (.cons d11 .nil)).away p2, h11.2.1, h11.2.2⟩
          exact ⟨s7.len, fun i d hd => let ⟨v, x1, x2⟩ := s7.at_ i d hd; ⟨v, x1, (x2.ext e711).away p2⟩⟩
        | false =>
          rw [if_neg Bool.false_ne_true] at h10 ⊢
          have e710 := e8.trans e10
          obtain ⟨p1, p2, p3⟩ := e710.hid hD7 nS7 nB7
          exact ⟨u10, M10, acc7, accD7, r10, e7.trans e710, l7.trans e710.lat, s7.ext e710, p1, p2, p3, a7.ext e710, h10.1, h10.2⟩
      · left
        refine ⟨it1.st u7 M7 H7 j r7 l7 k7 (by omega), ?_⟩
        rw [List.drop_eq_nil_of_le (by omega)] at h7
        exact ⟨u7, M7, acc7, accD7, r7, e7, hD7, nS7, nB7, a7, h7.1, h7.2⟩
    | false =>
      rw [if_neg Bool.false_ne_true] at h5 ⊢
      have e25 := e3.trans e5
      obtain ⟨q1, q2, q3⟩ := e25.hid hD nS nB
      exact ⟨u5, M5, acc, accD, r5, e2.trans e25, q1, q2, q3, a2.ext e25, h5.1, h5.2⟩
  · left
    refine ⟨it.st u2 M2 H2 i r2 e2.lat k2 (by omega), ?_⟩
    rw [List.drop_eq_nil_of_le (by omega)] at h2
    exact f _ _ _ _ _ h2 (r2.settle hD nB) ((e1.trans e2).settle (e1.live _ hL)) (.lst hD (.inr rfl) (a2.weak (u' := u2.more L) (fun _ z => Or.inl z) rfl))
section
variable {X : Cx} {elt tg iter tg1 iter1 : Expr} {scope : Scope} {own : List (Str × Nat)} {vs1 : List Nat} {pos spos py : Pos} {gi gi1 : GI} {t t1 : TG} {gg gg1 : GG} {gt gt1 : GT} {ge : GE}
theorem de_lc2 (hc : X.calm = true) (hN : X.N.Nodup) (hi : DI X tg iter gi) (ok : BlkOk X.N X.env.scope scope own) (hv : ∀ i ∈ vs1, i ∈ own.map (·.2)) (htg : TgOk X.K (own.map (·.2)) t gg) (htg1 : TgOk X.K vs1 t1 gg1)
    (hg : ∀ (s : Shared) (H : Hp) (C : Addr) (cl : List (Str × Addr)) (fp : List Addr), PG (X.blk s H scope (compEnvC scope cl C X.env) fp) tg t)
    (hi1 : ∀ (s : Shared) (H : Hp) (C : Addr) (cl : List (Str × Addr)) (fp : List Addr), DI (X.blk s H scope (compEnvC scope cl C X.env) fp) tg1 iter1 gi1)
    (hg1 : ∀ (s : Shared) (H : Hp) (C : Addr) (cl : List (Str × Addr)) (fp : List Addr), PG (X.blk s H scope (compEnvC scope cl C X.env) fp) tg1 t1)
    (he : ∀ (s : Shared) (H : Hp) (C : Addr) (cl : List (Str × Addr)) (fp : List Addr), DE (X.blk s H scope (compEnvC scope cl C X.env) fp) elt ge) (hs : ∀ x, foldedSetIterable iter X.env x = pure x := by intro _; rfl) (hs1 : ∀ env x, foldedSetIterable iter1 env x = pure x := by intro _ _; rfl) :
    DE X (.ListComp elt [⟨tg, iter, [], 0⟩, ⟨tg1, iter1, [], 0⟩] scope pos) (gLc2 gi gg gYes gi1 gg1 gYes ge (own.map (·.2)) vs1) := fun Wv tk => by
  obtain ⟨wi, p1, s1⟩ := hi Wv tk
  refine ⟨_, pe_lc2 (tt := tYes) (tt1 := tYes) (wi1 := tI X.K W0 gi1) (te := tE X.K W0 ge) hc hN p1 ok hv hg (fun _ _ _ _ _ => pts_nil) (fun s H C cl fp => (hi1 s H C cl fp).pi takes0) hg1 (fun _ _ _ _ _ => pts_nil) (fun s H C cl fp => (he s H C cl fp).pe takes0) hs hs1, sim_lc2 s1 htg sim_yes ?_ htg1 sim_yes ?_⟩
  · exact fun u M H σ ρ Q R W r s g f o => ⟨u, M, ρ, R, W, r, s, g, f, o⟩
  · exact fun u M H σ ρ Q R W r s g f o => ⟨u, M, ρ, R, W, r, s, g, f, o⟩
theorem ds_setLc2 {i : Nat} {y : Str} (hc : X.calm = true) (hN : X.N.Nodup) (hy : X.N[i]? = some y) (hyl : X.env.scope.names.lookup y = some .local)
    (hsw : swapsWith (.ListComp elt [⟨tg, iter, [], 0⟩, ⟨tg1, iter1, [], 0⟩] scope pos) (some (.Name y py)) spos.line X.env = pure true) (hi : DI X tg iter gi) (ok : BlkOk X.N X.env.scope scope own) (hv : ∀ i ∈ vs1, i ∈ own.map (·.2)) (htg : TgOk X.K (own.map (·.2)) t gg) (htg1 : TgOk X.K vs1 t1 gg1)
    (hg : ∀ (s : Shared) (H : Hp) (C : Addr) (cl : List (Str × Addr)) (fp : List Addr), PG (X.blk s H scope (compEnvC scope cl C X.env) fp) tg t)
    (hi1 : ∀ (s : Shared) (H : Hp) (C : Addr) (cl : List (Str × Addr)) (fp : List Addr), DI (X.blk s H scope (compEnvC scope cl C X.env) fp) tg1 iter1 gi1)
    (hg1 : ∀ (s : Shared) (H : Hp) (C : Addr) (cl : List (Str × Addr)) (fp : List Addr), PG (X.blk s H scope (compEnvC scope cl C X.env) fp) tg1 t1)
    (he : ∀ (s : Shared) (H : Hp) (C : Addr) (cl : List (Str × Addr)) (fp : List Addr), DE (X.blk s H scope (compEnvC scope cl C X.env) fp) elt ge) (hs : ∀ x, foldedSetIterable iter X.env x = pure x := by intro _; rfl) (hs1 : ∀ env x, foldedSetIterable iter1 env x = pure x := by intro _ _; rfl) :
    DS X (.Assign [.Name y py] (.ListComp elt [⟨tg, iter, [], 0⟩, ⟨tg1, iter1, [], 0⟩] scope pos) spos) (gAsg (gLc2 gi gg gYes gi1 gg1 gYes ge (own.map (·.2)) vs1) (ggName i)) := fun Wv tk => by
  obtain ⟨wi, p1, s1⟩ := hi Wv tk
  refine ⟨_, ps_setLc2 (tt := tYes) (tt1 := tYes) (wi1 := tI X.K W0 gi1) (te := tE X.K W0 ge) hc hN hy hyl hsw p1 ok hv hg (fun _ _ _ _ _ => pts_nil) (fun s H C cl fp => (hi1 s H C cl fp).pi takes0) hg1 (fun _ _ _ _ _ => pts_nil) (fun s H C cl fp => (he s H C cl fp).pe takes0) hs hs1, sim_asg (sim_lc2 s1 htg sim_yes ?_ htg1 sim_yes ?_) (sim_name i)⟩
  · exact fun u M H σ ρ Q R W r s g f o => ⟨u, M, ρ, R, W, r, s, g, f, o⟩
  · exact fun u M H σ ρ Q R W r s g f o => ⟨u, M, ρ, R, W, r, s, g, f, o⟩
end

/-! ### any, all of a box; a < b < c -/
def qAllE (f : List Bool → Bool) : GC := fun ds M R => ∃ d es bs, ds = [d] ∧ kd d = some .list ∧ seqOf M d = some es ∧ truths es = some bs ∧ R (.bl (f bs)) M
theorem sim_allE {K : PySem.W.Frag} {fb : List Bool → Bool} : SimC K (fun vs H Q => ∃ (a : Addr) (bs : List Bool), vs = [V.ref a] ∧ SqL K H a (bs.map V.bl) ∧ Q (.bl (fb bs)) H) (qAllE fb) := fun u M H xs ds Q R rp d g f => by
  obtain ⟨x, es, bs, rfl, kx, q, e1, g⟩ := g
  cases d with
  | cons h1 h2 =>
    cases h2
    obtain ⟨p, rfl, ⟨vs, hs⟩, k⟩ := stays_list rp h1 q kx
    obtain ⟨vs', h3, a⟩ := k u M H rp (Lat.refl _ _) (okOf_self _ _)
    have e := truths_vs a e1
    subst e
    exact ⟨_, bs, rfl, h3, f u M H _ _ g rp (Ext.refl _ _) (.bl _)⟩
section
variable {X : Cx} {a b c : Expr} {ga gb gc : GE} {pos : Pos}
def gChain (q q' : GR) (ga gb gc : GE) : GE := fun ρ M R W => ga ρ M (fun x M1 => gb ρ M1 (fun y M2 => q x y M2 fun z M3 => match z with
  | .bl k => if k = true then gc ρ M3 (fun w M4 => q' y w M4 R) W else R (.bl false) M3
  | _ => False) W) W
theorem sim_chain {K : PySem.W.Frag} {Wv : WX} {r r' : R2} {q q' : GR} {ta tb tc : TE} (s1 : SimR K r q) (s2 : SimR K r' q') (ha : SimE K Wv ta ga) (hb : SimE K Wv tb gb) (hc : SimE K Wv tc gc) : SimE K Wv (tChain r r' ta tb tc) (gChain q q' ga gb gc) := fun u M H σ ρ Q R W rp sl g f o =>
  ha u M H σ ρ _ _ W rp sl g (fun u1 M1 H1 x dx g1 r1 e1 d1 =>
    hb u1 M1 H1 σ ρ _ _ W r1 (sl.ext e1) g1 (fun u2 M2 H2 y dy g2 r2 e2 d2 => s1 u2 M2 H2 x y dx dy _ _ r2 (d1.ext e2) d2 g2 fun u3 M3 H3 z dz g3 r3 e3 d3 => by
      have e13 := e1.trans (e2.trans e3)
      cases d3 <;> first | exact g3.elim | skip
      rename_i k
      refine ⟨k, rfl, ?_⟩
      cases k with
      | true =>
        rw [if_pos rfl]
        exact hc u3 M3 H3 σ ρ _ _ W r3 (sl.ext e13) g3 (fun u4 M4 H4 w dw g4 r4 e4 d4 => s2 u4 M4 H4 y w dy dw Q R r4 (d2.ext (e3.trans e4)) d4 g4 (f.ext (e13.trans e4))) (o.ext e13)
      | false =>
        rw [if_neg Bool.false_ne_true]
        exact f u3 M3 H3 _ _ g3 r3 e13 (.bl _)) (o.ext e1)) o
theorem de_chain {op op' : CmpOp} {r r' : R2} {q q' : GR} (ho : OpR X (compareOp op) r) (ho' : OpR X (compareOp op') r') (s1 : SimR X.K r q) (s2 : SimR X.K r' q') (ha : DE X a ga) (hb : DE X b gb) (hc : DE X c gc)
    (hm : lastMarks [op, op'] [b, c] = false := by with_unfolding_all rfl) : DE X (.Compare a [op, op'] [b, c] pos) (gChain q q' ga gb gc) := fun Wv tk => by
  obtain ⟨ta, pa, sa⟩ := ha Wv tk
  obtain ⟨tb, pb, sb⟩ := hb Wv tk
  obtain ⟨tc, pc, sc⟩ := hc Wv tk
  exact ⟨_, pe_chain ho ho' pa pb pc hm, sim_chain s1 s2 sa sb sc⟩
theorem dt_chain {op op' : CmpOp} {r r' : R2} {q q' : GR} (ho : OpR X (compareOp op) r) (ho' : OpR X (compareOp op') r') (s1 : SimR X.K r q) (s2 : SimR X.K r' q') (ha : DE X a ga) (hb : DE X b gb) (hc : DE X c gc)
    (hm : lastMarks [op, op'] [b, c] = false := by with_unfolding_all rfl) : DT X (.Compare a [op, op'] [b, c] pos) (gB (gChain q q' ga gb gc)) := fun Wv tk => by
  obtain ⟨ta, pa, sa⟩ := ha Wv tk
  obtain ⟨tb, pb, sb⟩ := hb Wv tk
  obtain ⟨tc, pc, sc⟩ := hc Wv tk
  refine ⟨_, pt_chain ho ho' pa pb pc hm, fun u M H σ ρ Q R W r sl g f o => sim_chain s1 s2 sa sb sc u M H σ ρ _ _ W r sl g (fun u1 M1 H1 x dx g1 r1 e1 d1 => ?_) o⟩
  cases d1 <;> first | exact g1.elim | skip
  rename_i c
  exact ⟨c, rfl, f u1 M1 H1 c g1 r1 e1⟩
end
/-! ### what is never reached -/
def gNo : GE := fun _ _ _ _ => False
theorem de_never {X : Cx} {e : Expr} : DE X e gNo := fun Wv _ => ⟨fun _ _ _ => False, ⟨fun _ _ _ _ _ _ h => h.elim⟩, fun u M H σ ρ Q R W r s g f o => g⟩
end DL

namespace DL
open PySem PySem.Spec L2
/-! ### small steps, fractions, contracts that many laws share -/
def fnum (a b : Int) : Int := (b.sign * a) / (Int.gcd a b)
def fden (a b : Int) : Int := (b.natAbs / Int.gcd a b : Nat)
def fr (a b : Int) : D := .tup [.int (fnum a b), .int (fden a b)]
abbrev fd (a b : Int) : D := .tup [.int a, .int b]
def isNum : D → Bool
  | .int _ => true
  | _ => false
theorem ifT {c : Bool} {A B : Prop} (h : c = true) (a : A) : if c = true then A else B := by rw [if_pos h]; exact a
theorem ifF {c : Bool} {A B : Prop} (h : c = false) (b : B) : if c = true then A else B := by rw [h, if_neg Bool.false_ne_true]; exact b
theorem if2 {c : Bool} {A B : Prop} (a : c = true → A) (b : c = false → B) : if c = true then A else B := by
  cases c with
  | true => exact ifT rfl (a rfl)
  | false => exact ifF rfl (b rfl)
theorem eqI (a b : Int) : PyData.eqv (.int a) (.int b) = decide (a = b) := by
  unfold PyData.eqv
  rfl
theorem eqB (a b : Bool) : PyData.eqv (.bool a) (.bool b) = (a == b) := by
  unfold PyData.eqv
  rfl
theorem shI (a : Int) : SeqAt.shaped (.int a) = true := rfl
theorem shB (a : Bool) : SeqAt.shaped (.bool a) = true := rfl
theorem small (n : Nat) (h : n ≤ 1000 := by decide) : n ≤ sizeLine := Nat.le_trans h (by decide)
theorem gcd_pos {a b : Int} (h : b ≠ 0) : 0 < Int.gcd a b := Int.gcd_pos_of_ne_zero_right a h
theorem gcd_le {a b : Int} (h : b ≠ 0) : Int.gcd a b ≤ b.natAbs := Nat.le_of_dvd (Int.natAbs_pos.mpr h) (Nat.gcd_dvd_right _ _)
theorem fden_pos {a b : Int} (h : b ≠ 0) : 0 < fden a b := by
  unfold fden
  have h1 := gcd_le (a := a) h
  have h2 := gcd_pos (a := a) h
  have := Nat.div_pos h1 h2
  omega
theorem fdiv_neg {a : Int} {g : Nat} (hg : 0 < g) (hd : (g : Int) ∣ a) : a.fdiv (-(g : Int)) = (-1 * a) / g := by
  obtain ⟨k, rfl⟩ := hd
  have hg' : (g : Int) ≠ 0 := by omega
  rw [show (g : Int) * k = -(g : Int) * (-k) by rw [Int.neg_mul_neg], Int.mul_fdiv_cancel_left _ (by omega)]
  rw [show -1 * (-(g : Int) * -k) = (g : Int) * (-k) by rw [Int.neg_mul_neg, Int.neg_mul, Int.one_mul, Int.mul_neg], Int.mul_ediv_cancel_left _ hg']
theorem mul_bd {a b x y : Int} (h1 : -x ≤ a) (h2 : a ≤ x) (h3 : -y ≤ b) (h4 : b ≤ y) : -(x * y) ≤ a * b ∧ a * b ≤ x * y := by
  have hx : 0 ≤ x := by omega
  have hy : 0 ≤ y := by omega
  have h : (a * b).natAbs ≤ (x * y).natAbs := by
    rw [Int.natAbs_mul, Int.natAbs_mul]
    exact Nat.mul_le_mul (by omega) (by omega)
  have := Int.mul_nonneg hx hy
  omega
theorem get_set {M : Mem} {k : Nat} {es fs : List D} (h : M[k]? = some es) : (M.set k fs)[k]? = some fs := List.getElem?_set_self (List.getElem?_eq_some_iff.mp h).1
theorem get_ne {M : Mem} {k j : Nat} {fs : List D} (h : k ≠ j) : (M.set k fs)[j]? = M[j]? := List.getElem?_set_ne h
theorem seqOf_set {M : Mem} {k : Nat} {es : List D} {x : D} (h : x ≠ .box k) : seqOf (M.set k es) x = seqOf M x := by
  cases x <;> first | rfl | skip
  rename_i j
  exact get_ne fun e => h (by rw [e])
theorem notT {b : Bool} (h : (!b) = true) : b = false := by cases b <;> first | rfl | cases h
theorem notF {b : Bool} (h : (!b) = false) : b = true := by cases b <;> first | rfl | cases h
theorem eqT2 (a b c d : Int) : PyData.eqv (.tuple [.int a, .int b]) (.tuple [.int c, .int d]) = (decide (a = c) && (decide (b = d) && true)) := by
  simp only [PyData.eqv, PyData.eqvAll]
  rfl
theorem eqB1 (b : Bool) : PyData.eqv (.bool b) (.bool b) = true := by rw [eqB]; exact beq_self_eq_true b
theorem eqI1 (b : Int) : PyData.eqv (.int b) (.int b) = true := by rw [eqI]; exact decide_eq_true rfl
theorem zip_self : ∀ (xs : List D) (d : D), d ∈ zipD xs xs → ∃ y, y ∈ xs ∧ d = .tup [y, y]
  | [], d, h => by simp [zipD] at h
  | x :: xs, d, h => by
    have h : d ∈ (.tup [x, x]) :: zipD xs xs := h
    rcases List.mem_cons.mp h with e | h
    · exact ⟨x, List.mem_cons_self, e⟩
    · obtain ⟨y, h1, h2⟩ := zip_self xs d h
      exact ⟨y, List.mem_cons_of_mem _ h1, h2⟩
theorem truths_true : ∀ (xs : List D), truths (xs.map fun _ => D.bl true) = some (xs.map fun _ => true)
  | [] => rfl
  | x :: xs => by
    rw [List.map_cons, truths, truths_true xs]
    rfl
theorem all_true : ∀ (xs : List D), (xs.map fun _ => true).all id = true
  | [] => rfl
  | x :: xs => all_true xs
theorem low_iff {a b : Int} (hb : 0 < b) : (decide (fnum a b = a) && (decide (fden a b = b) && true)) = decide (Int.gcd a b = 1) := by
  have hb0 : b ≠ 0 := by omega
  have hp := gcd_pos (a := a) hb0
  by_cases e : Int.gcd a b = 1
  · have e1 : fnum a b = a := by
      unfold fnum
      rw [e, Int.sign_eq_one_of_pos hb, Int.one_mul]
      exact Int.ediv_one a
    have e2 : fden a b = b := by
      unfold fden
      rw [e, Nat.div_one]
      omega
    rw [decide_eq_true e, decide_eq_true e1, decide_eq_true e2]
    rfl
  · have e2 : fden a b ≠ b := by
      unfold fden
      have : b.natAbs / Int.gcd a b < b.natAbs := Nat.div_lt_self (by omega) (by omega)
      omega
    rw [decide_eq_false e, decide_eq_false e2, Bool.false_and, Bool.and_false]
theorem fnum_abs {a b : Int} (h : b ≠ 0) : (fnum a b).natAbs = a.natAbs / Int.gcd a b := by
  have hp := gcd_pos (a := a) h
  obtain ⟨k, hk⟩ : ((Int.gcd a b : Nat) : Int) ∣ a := Int.gcd_dvd_left ..
  unfold fnum
  generalize Int.gcd a b = g at hp hk ⊢
  subst hk
  have hg : (g : Int) ≠ 0 := by omega
  rw [show b.sign * ((g : Int) * k) = (g : Int) * (b.sign * k) by rw [Int.mul_left_comm], Int.mul_ediv_cancel_left _ hg, Int.natAbs_mul, Int.natAbs_mul, Int.natAbs_natCast, Nat.mul_div_cancel_left _ hp, Int.natAbs_sign, if_neg h, Nat.one_mul]
theorem fr_low {a b : Int} (h : b ≠ 0) : Int.gcd (fnum a b) (fden a b) = 1 := by
  have hp := gcd_pos (a := a) h
  show Nat.gcd (fnum a b).natAbs (fden a b).natAbs = 1
  rw [fnum_abs h]
  unfold fden
  rw [Int.natAbs_natCast]
  have e : Int.gcd a b = Nat.gcd a.natAbs b.natAbs := rfl
  rw [e] at hp ⊢
  rw [Nat.gcd_div (Nat.gcd_dvd_left _ _) (Nat.gcd_dvd_right _ _)]
  exact Nat.div_self hp
theorem fr_bd {a b : Int} (h : b ≠ 0) : (fnum a b).natAbs ≤ a.natAbs ∧ 0 < fden a b ∧ (fden a b).natAbs ≤ b.natAbs := by
  refine ⟨?_, fden_pos h, ?_⟩
  · rw [fnum_abs h]
    exact Nat.div_le_self _ _
  · unfold fden
    rw [Int.natAbs_natCast]
    exact Nat.div_le_self _ _
theorem fr_one (a : Int) : fr a 1 = fd a 1 := by
  unfold fr fnum fden
  have e : Int.gcd a 1 = 1 := Int.gcd_one_right a
  rw [e]
  have e1 : (Int.sign 1 * a) / ((1 : Nat) : Int) = a := by
    rw [show Int.sign 1 = 1 from rfl, Int.one_mul]
    exact Int.ediv_one a
  rw [e1]
  rfl
def sp_is_number : DSp := fun ds M R _ => ∃ d, ds = [d] ∧ kd d ≠ none ∧ R (.bl (isNum d)) M
/-- a FRACTION of bounded size -/
def Ok (a b : Int) : Prop := -100000 < a ∧ a < 100000 ∧ 0 < b ∧ b < 10000
theorem Ok.den {a b c d : Int} (h1 : Ok a b) (h2 : Ok c d) : 0 < b * d ∧ b * d ≤ 100000000 := by
  obtain ⟨_, _, p1, p2⟩ := h1
  obtain ⟨_, _, q1, q2⟩ := h2
  have := mul_bd (a := b) (b := d) (x := 10000) (y := 10000) (by omega) (by omega) (by omega) (by omega)
  have := Int.mul_pos p1 q1
  omega
theorem Ok.m {a b : Int} (h : Ok a b) (j : Int) : CMul a j := .inl ⟨by have := h.1; omega, by have := h.2.1; omega⟩
theorem Ok.n {a b : Int} (h : Ok a b) (j : Int) : CMul b j := .inl ⟨by have := h.2.2.1; omega, by have := h.2.2.2; omega⟩
theorem over_den {a b c d : Int} (h1 : Ok a b) (h2 : Ok c d) (hc : c ≠ 0) : b * c ≠ 0 ∧ (b * c).natAbs < 1073741824 := by
  obtain ⟨_, _, p1, p2⟩ := h1
  obtain ⟨q1, q2, _, _⟩ := h2
  have := mul_bd (a := b) (b := c) (x := 10000) (y := 100000) (by omega) (by omega) (by omega) (by omega)
  exact ⟨Int.mul_ne_zero (by omega) hc, by omega⟩
def sp_op (f : Int → Int → Int → Int → D) : DSp := fun ds M R _ => ∃ a b c d : Int, ds = [fd a b, fd c d] ∧ Ok a b ∧ Ok c d ∧ R (f a b c d) M
def sp_plus : DSp := sp_op fun a b c d => fr (a * d + c * b) (b * d)
def sp_minus : DSp := sp_op fun a b c d => fr (a * d - c * b) (b * d)
def sp_times : DSp := sp_op fun a b c d => fr (a * c) (b * d)
def sp_over : DSp := fun ds M R _ => ∃ a b c d : Int, ds = [fd a b, fd c d] ∧ Ok a b ∧ Ok c d ∧ c ≠ 0 ∧ R (fr (a * d) (b * c)) M
def sgn (a : Int) : Int := (if decide (0 < a) then 1 else 0) - (if decide (a < 0) then 1 else 0)
def sp_sign_of : DSp := fun ds M R _ => ∃ a b : Int, ds = [fd a b] ∧ R (.int (sgn a)) M
def sp_floor_of : DSp := fun ds M R _ => ∃ a b : Int, ds = [fd a b] ∧ 0 < b ∧ b < 1073741824 ∧ R (.int (a / b)) M
/-- is it lowered? -/
def isFr : D → Bool
  | .tup [.int a, .int b] => decide (0 < b) && decide (Int.gcd a b = 1)
  | _ => false
theorem isFr1 (x : D) : isFr (.tup [x]) = false := by cases x <;> rfl
theorem isFr3 (x y z : D) (r : List D) : isFr (.tup (x :: y :: z :: r)) = false := by cases x <;> first | rfl | (cases y <;> rfl)
theorem isFr_no {x y : D} (h : (isNum x && (isNum y && true)) = false) : isFr (.tup [x, y]) = false := by
  cases x <;> first | rfl | (cases y <;> first | rfl | (cases h; done))
theorem num_int {x : D} (h : isNum x = true) : ∃ i, x = .int i := by
  cases x <;> first | exact ⟨_, rfl⟩ | (cases h; done)
/-- what is asked about -/
def Thing : D → Prop
  | .tup xs => xs.length ≤ 1000 ∧ (∀ x ∈ xs, kd x ≠ none) ∧ (∀ a b, xs = [.int a, .int b] → b.natAbs < 1073741824)
  | d => kd d ≠ none
def sp_is_frac : DSp := fun ds M R _ => ∃ d, ds = [d] ∧ Thing d ∧ R (.bl (isFr d)) M
def sp_law_cell_at : DSp := fun ds M R _ => ∃ (ns : List Int) (k : Nat), ds = [.fz (ns.map D.int), .int k] ∧ ∀ c : Int, R (.int c) M
/-- a box of draws, m of which were made at most -/
def isBox (m : Nat) (ds : List D) : Prop := ∃ a b c : Int, ds = [.int a, .int b, .int c] ∧ 0 ≤ b ∧ b < 4611686018427387904 ∧ 0 ≤ c ∧ c ≤ m
def sp_law_box : DSp := fun ds M R _ => ∃ (ns : List Int) (k : Nat), ds = [.fz (ns.map D.int), .int k] ∧ k ≤ 100 ∧ ∀ es, isBox 0 es → R (.box M.length) (M ++ [es])
def sp_law_take : DSp := fun ds M R _ => ∃ (k m : Nat) (n : Int) (es : List D), ds = [.box k, .int n] ∧ M[k]? = some es ∧ isBox m es ∧ m < 1000000 ∧ 0 < n ∧ n < 1073741824 ∧ ∀ v es', isBox (m + 1) es' → 0 ≤ v → v < n → R (.int v) (M.set k es')
def sp_law_of : DSp := fun ds M R _ => ∃ (k m : Nat) (x : D) (xs es : List D), ds = [.box k, x] ∧ x ≠ .box k ∧ seqOf M x = some xs ∧ M[k]? = some es ∧ isBox m es ∧ m < 1000000 ∧ xs ≠ [] ∧ xs.length < 1000 ∧ ∀ v es', isBox (m + 1) es' → v ∈ xs → R v (M.set k es')
/-- a number over another one, lowered -/
def sp_frac : DSp := fun ds M R _ => ∃ a b : Int, ds = [.int a, .int b] ∧ b ≠ 0 ∧ b.natAbs < 1073741824 ∧ R (fr a b) M
def sp_law_frac : DSp := sp_frac
def sp_law_draw : DSp := fun ds M R _ => ∃ (k m : Nat) (n : Int) (es : List D), ds = [.box k, .int n] ∧ M[k]? = some es ∧ isBox m es ∧ m < 900000 ∧ 0 ≤ n ∧ n < 1000 ∧ ∀ t b es', isBox (m + 2) es' → -n ≤ t → t ≤ n → 1 ≤ b → b ≤ 4 → R (fr t b) (M.set k es')
/-- data that law_same is asked of: of depth below n -/
def Plain : Nat → D → Prop
  | 0, _ => False
  | n + 1, .tup xs => xs.length ≤ 1000 ∧ ∀ x ∈ xs, Plain n x
  | n + 1, .lst xs => xs.length ≤ 1000 ∧ ∀ x ∈ xs, Plain n x
  | _ + 1, .int _ => True
  | _ + 1, .bl _ => True
  | _ + 1, _ => False
def sp_law_same (n : Nat) : DSp := fun ds M R _ => ∃ x, ds = [x, x] ∧ Plain n x ∧ R (.bl true) M
def Low (a b : Int) : Prop := Ok a b ∧ Int.gcd a b = 1
/-- the box of draws stands -/
def BoxAt (M : Mem) (kb m : Nat) : Prop := ∃ es, M[kb]? = some es ∧ isBox m es
theorem BoxAt.mono {M : Mem} {kb m n : Nat} (h : BoxAt M kb m) (hm : m ≤ n) : BoxAt M kb n := by
  obtain ⟨es, h1, a, b, c, h2, h3, h4, h5, h6⟩ := h
  exact ⟨es, h1, a, b, c, h2, h3, h4, h5, by omega⟩
theorem fr_Ok {a b : Int} (h : b ≠ 0) (h1 : a.natAbs < 100000) (h2 : b.natAbs < 10000) : Ok (fnum a b) (fden a b) := by
  have hb := fr_bd (a := a) h
  exact ⟨by omega, by omega, by omega, by omega⟩
theorem plain_fr (n : Nat) (a b : Int) : Plain (n + 2) (fr a b) := ⟨by show 2 ≤ 1000; decide, fun x hx => by
  simp only [List.mem_cons, List.not_mem_nil, or_false] at hx
  rcases hx with rfl | rfl <;> trivial⟩
/-- all boxes stay as they are -/
def Keeps (M M' : Mem) : Prop := ∀ (k : Nat) (es : List D), M[k]? = some es → M'[k]? = some es
theorem Keeps.refl (M : Mem) : Keeps M M := fun _ _ h => h
theorem Keeps.trans {M M1 M2 : Mem} (a : Keeps M M1) (b : Keeps M1 M2) : Keeps M M2 := fun k es h => b k es (a k es h)
theorem Keeps.push (M : Mem) (x : List D) : Keeps M (M ++ [x]) := fun _ _ h => get_old h
theorem Keeps.new {M M' : Mem} {x : List D} (h : Keeps (M ++ [x]) M') : Keeps M M' := (Keeps.push M x).trans h
theorem Keeps.pushSet (M : Mem) (x y : List D) : Keeps M ((M ++ [x]).set M.length y) := fun k es h => by
  rw [get_ne (by have := mem_lt h; omega)]
  exact get_old h
theorem BoxAt.keep {M M' : Mem} {k m : Nat} (h : BoxAt M k m) (q : Keeps M M') : BoxAt M' k m := let ⟨es, h1, h2⟩ := h; ⟨es, q k es h1, h2⟩
theorem BoxAt.put {M : Mem} {k m : Nat} {es fs : List D} (h : M[k]? = some es) (b : isBox m fs) : BoxAt (M.set k fs) k m := ⟨fs, get_set h, b⟩
/-- one statement, then the rest: said so for the kernel's sake -/
theorem seq_mk {g1 g2 : GS} {G : GEnds} {ρ : DSt} {M : Mem} (h : g1 { G with nx := g2 G } ρ M) : gSeq g1 g2 G ρ M := h
end DL

namespace K47
open PySem PySem.Spec L2 DL
/-! ### contracts -/
def gcdL (ns : List Int) : Nat := ns.foldl (fun g a => Nat.gcd g a.natAbs) 0
def sp_common : DSp := fun ds M R _ => ∃ ns : List Int, ds = [.lst (ns.map D.int)] ∧ R (.int (gcdL ns : Nat)) M
/-- small fractions -/
def Sm (f : Int × Int) : Prop := -1000 ≤ f.1 ∧ f.1 ≤ 1000 ∧ 0 < f.2 ∧ f.2 ≤ 4
abbrev fp (f : Int × Int) : D := .tup [.int f.1, .int f.2]
def sp_least_bottom : DSp := fun ds M R _ => ∃ fs : List (Int × Int), ds = [.lst (fs.map fp)] ∧ (∀ f ∈ fs, Sm f) ∧ fs.length ≤ 4 ∧ ∀ L : Int, 0 < L → L ≤ 256 → (∀ f ∈ fs, f.2 ∣ L) → R (.int L) M
def sp_scaled : DSp := fun ds M R _ => ∃ fs : List (Int × Int), ds = [.lst (fs.map fp)] ∧ (∀ f ∈ fs, Sm f) ∧ fs.length ≤ 4 ∧ ∀ L : Int, 0 < L → L ≤ 256 → (∀ f ∈ fs, f.2 ∣ L) → R (.tup [.lst (fs.map fun f => .int (f.1 * (L / f.2))), .int L]) M
/-- is a place within reach? -/
def inn (u v r : Int) : Bool := decide (u * u + v * v ≤ r * r)
/-- one corner, seen at a scale -/
def corner (L : Int) (x y r : Int × Int) (p q : Int) : Bool := inn (p * L - x.1 * (L / x.2)) (q * L - y.1 * (L / y.2)) (r.1 * (L / r.2))
def four (b1 b2 b3 b4 : Bool) : Bool := [b1, b2, b3, b4].any id && !([b1, b2, b3, b4].all id)
def fourAt (L : Int) (x y r : Int × Int) (p q : Int) : Bool := four (corner L x y r (p + 0) (q + 0)) (corner L x y r (p + 0) (q + 1)) (corner L x y r (p + 1) (q + 0)) (corner L x y r (p + 1) (q + 1))
def hoopB (x y r : Int × Int) (p q : Int) : Bool := fourAt (x.2 * y.2 * r.2) x y r p q
def pegB (x y : Int × Int) (p q : Int) : Bool := decide (x.1 / x.2 = p) && (decide (y.1 / y.2 = q) && true)
abbrev hoopD (x y r : Int × Int) : D := .tup [.str "hoop", .str "a", .str "c", .tup [fp x, fp y], fp r]
abbrev pegD (x y : Int × Int) : D := .tup [.str "peg", .str "a.b", .str "o", .tup [fp x, fp y]]
abbrev cellD (p q : Int) : D := .tup [.int p, .int q]
def Near (p : Int) : Prop := -100000 ≤ p ∧ p ≤ 100000
def sp_hoop_marks : DSp := fun ds M R _ => ∃ (x y r : Int × Int) (p q : Int), ds = [hoopD x y r, cellD p q] ∧ Sm x ∧ Sm y ∧ Sm r ∧ Near p ∧ Near q ∧ R (.bl (hoopB x y r p q)) M
def sp_law_round : DSp := fun ds M R _ => ∃ (x y r : Int × Int) (p q : Int), ds = [.tup [fp x, fp y], fp r, cellD p q] ∧ Sm x ∧ Sm y ∧ Sm r ∧ Near p ∧ Near q ∧ ∀ M', Keeps M M' → R (.bl (hoopB x y r p q)) M'
/-- a stroke, and whether it marks a cell -/
inductive Stroke where
  | hoop (x y r : Int × Int)
  | peg (x y : Int × Int)
def Stroke.d : Stroke → D
  | .hoop x y r => hoopD x y r
  | .peg x y => pegD x y
def Stroke.Ok : Stroke → Prop
  | .hoop x y r => Sm x ∧ Sm y ∧ Sm r
  | .peg x y => Sm x ∧ Sm y
def Stroke.on (p q : Int) : Stroke → Bool
  | .hoop x y r => hoopB x y r p q
  | .peg x y => pegB x y p q
def sp_marks : DSp := fun ds M R _ => ∃ (s : Stroke) (p q : Int), ds = [s.d, cellD p q] ∧ s.Ok ∧ Near p ∧ Near q ∧ R (.bl (s.on p q)) M
def sp_law_marked : DSp := fun ds M R _ => ∃ (s : Stroke) (p q : Int), ds = [s.d, cellD p q] ∧ s.Ok ∧ Near p ∧ Near q ∧ ∀ M', Keeps M M' → R (.bl (s.on p q)) M'
def g_floor_of : GS := (gRet (gOp qDiv (gOp qIx (gVar 0) (gC (.int 0))) (gOp qIx (gVar 0) (gC (.int 1)))))
def g_common_L2 : GS := (gPar 1 3 (gCons (gVar 3) (gCons (gOp qMod (gVar 1) (gVar 3)) gNil)))
def g_common_L1 : GS := (gSeq (gAsg (gCB qAbs (gCons (gVar 2) gNil)) (ggName 3))
  (gWhile (gB (gOp qGt (gVar 3) (gC (.int 0)))) g_common_L2))
def g_common : GS := (gSeq (gAsg (gC (.int 0)) (ggName 1))
  (gSeq (gFor (giSeq (gVar 0)) (ggName 2) g_common_L1)
  (gRet (gVar 1))))
def sp_string_marks : DSp := fun _ _ _ _ => False
def g_law_cell_at : GS := (gSeq (gIfS (gB (gOp qLt (gVar 1) (gCB qLenE (gCons (gVar 0) gNil)))) (gRet (gOp qIxE (gVar 0) (gVar 1))) gNext)
  (gRet (gC (.int 0))))
def g_law_take_t0 : GS := (gIfS (gB (gOp qGt (gOp qIxE (gVar 0) (gC (.int 0))) (gC (.int 0)))) (gSeq (gAsg (gOp qMod (gOp qIxE (gVar 0) (gC (.int 0))) (gVar 1)) (ggName 2))
  (gSeq (gAsg (gOp qDiv (gOp qIxE (gVar 0) (gC (.int 0))) (gVar 1)) (ggSubE (gVar 0) (gC (.int 0))))
  (gRet (gVar 2)))) gNext)
def g_law_take_t1 : GS := (gAsg (gOp qAdd (gOp qIxE (gVar 0) (gC (.int 2))) (gC (.int 1))) (ggSubE (gVar 0) (gC (.int 2))))
def g_law_take_t2 : GS := (gAsg (gOp qMod (gOp qMul (gOp qAdd (gOp qIxE (gVar 0) (gC (.int 1))) (gOp qMul (gC (.int 48271)) (gOp qIxE (gVar 0) (gC (.int 2))))) (gOp qAdd (gC (.int 39373)) (gOp qIxE (gVar 0) (gC (.int 2))))) (gC (.int 2147483647))) (ggName 3))
def g_law_take_t3 : GS := (gAsg (gOp qMod (gOp qMul (gOp qAdd (gOp qAdd (gVar 3) (gOp qIxE (gVar 0) (gC (.int 2)))) (gOp qDiv (gOp qIxE (gVar 0) (gC (.int 1))) (gC (.int 1000003)))) (gOp qAdd (gOp qMod (gVar 3) (gC (.int 40009))) (gC (.int 7)))) (gC (.int 2147483629))) (ggName 4))
def g_law_take_t4 : GS := (gRet (gOp qMod (gOp qDiv (gOp qMod (gOp qAdd (gOp qMul (gVar 4) (gC (.int 48271))) (gVar 3)) (gC (.int 2147483587))) (gC (.int 64))) (gVar 1)))
def g_law_take_s4 : GS := g_law_take_t4
def g_law_take_s3 : GS := (gSeq g_law_take_t3
  g_law_take_s4)
def g_law_take_s2 : GS := (gSeq g_law_take_t2
  g_law_take_s3)
def g_law_take_s1 : GS := (gSeq g_law_take_t1
  g_law_take_s2)
def g_law_take : GS := (gSeq g_law_take_t0
  g_law_take_s1)
def g_law_frac_L1 : GS := (gPar 2 3 (gCons (gVar 3) (gCons (gOp qMod (gVar 2) (gVar 3)) gNil)))
def g_law_frac : GS := (gSeq (gPar 2 3 (gCons (gCB qAbs (gCons (gVar 0) gNil)) (gCons (gCB qAbs (gCons (gVar 1) gNil)) gNil)))
  (gSeq (gWhile (gB (gOp qGt (gVar 3) (gC (.int 0)))) g_law_frac_L1)
  (gSeq (gAsg (gIf (gB (gOp qGt (gVar 1) (gC (.int 0)))) (gC (.int 1)) (gUn qNeg (gC (.int 1)))) (ggName 4))
  (gRet (gTup (gCons (gOp qDiv (gOp qMul (gVar 4) (gVar 0)) (gVar 2)) (gCons (gOp qDiv (gCB qAbs (gCons (gVar 1) gNil)) (gVar 2)) gNil)))))))
def g_law_round_t0 : GS := (gAsg (gOp qMul (gOp qMul (gOp qIx (gOp qIx (gVar 0) (gC (.int 0))) (gC (.int 1))) (gOp qIx (gOp qIx (gVar 0) (gC (.int 1))) (gC (.int 1)))) (gOp qIx (gVar 1) (gC (.int 1)))) (ggName 3))
def g_law_round_t1 : GS := (gAsg (gLc (giSeq (gTup (gCons (gOp qIx (gVar 0) (gC (.int 0))) (gCons (gOp qIx (gVar 0) (gC (.int 1))) (gCons (gVar 1) gNil))))) (ggTup [12, 13]) gYes (gOp qMul (gVar 12) (gOp qDiv (gVar 3) (gVar 13))) [12, 13]) (ggLstG 3 (ggCons (ggName 4) (ggCons (ggName 5) (ggCons (ggName 6) ggNil)))))
def g_law_round_t2 : GS := (gAsg (gBox gNil) (ggName 7))
def g_law_round_L2 : GS := (gSeq (gAsg (gOp qSub (gOp qMul (gOp qAdd (gOp qIx (gVar 2) (gC (.int 0))) (gVar 8)) (gVar 3)) (gVar 4)) (ggName 10))
  (gSeq (gAsg (gOp qSub (gOp qMul (gOp qAdd (gOp qIx (gVar 2) (gC (.int 1))) (gVar 9)) (gVar 3)) (gVar 5)) (ggName 11))
  (gDrop (gAppendE (gVar 7) (gOp qLe (gOp qAdd (gOp qMul (gVar 10) (gVar 10)) (gOp qMul (gVar 11) (gVar 11))) (gOp qMul (gVar 6) (gVar 6)))))))
def g_law_round_L1 : GS := (gFor (giSeq (gTup (gCons (gC (.int 0)) (gCons (gC (.int 1)) gNil)))) (ggName 9) g_law_round_L2)
def g_law_round_t3 : GS := (gFor (giSeq (gTup (gCons (gC (.int 0)) (gCons (gC (.int 1)) gNil)))) (ggName 8) g_law_round_L1)
def g_law_round_t4 : GS := (gRet (gAndV (gCB (qAllE fun bs => bs.any id) (gCons (gVar 7) gNil)) (gUn qNot (gCB (qAllE fun bs => bs.all id) (gCons (gVar 7) gNil)))))
def g_law_round_s4 : GS := g_law_round_t4
def g_law_round_s3 : GS := (gSeq g_law_round_t3
  g_law_round_s4)
def g_law_round_s2 : GS := (gSeq g_law_round_t2
  g_law_round_s3)
def g_law_round_s1 : GS := (gSeq g_law_round_t1
  g_law_round_s2)
def g_law_round : GS := (gSeq g_law_round_t0
  g_law_round_s1)
def g_least_bottom_L1 : GS := (gAsg (gOp qDiv (gOp qMul (gVar 1) (gVar 3)) (gCall sp_common [] (gCons (gLst (gCons (gVar 1) (gCons (gVar 3) gNil))) gNil))) (ggName 1))
def g_least_bottom : GS := (gSeq (gAsg (gC (.int 1)) (ggName 1))
  (gSeq (gFor (giSeq (gVar 0)) (ggTup [2, 3]) g_least_bottom_L1)
  (gRet (gVar 1))))
def g_law_box : GS := (gSeq (gAsg (gCall sp_law_cell_at [] (gCons (gVar 0) (gCons (gVar 1) gNil))) (ggName 2))
  (gRet (gBox (gCons (gOp qMul (gCB qAbs (gCons (gVar 2) gNil)) (gCB qInt (gCons (gOp qGe (gCB qAbs (gCons (gVar 2) gNil)) (gOp qPow (gC (.int 10)) (gC (.int 18)))) gNil))) (gCons (gOp qAdd (gOp qAdd (gOp qMod (gVar 2) (gC (.int 2305843009213693951))) (gOp qMul (gC (.int 39373)) (gVar 1))) (gC (.int 17))) (gCons (gC (.int 0)) gNil))))))
def g_law_of : GS := (gRet (gOp qIxE (gVar 1) (gCall sp_law_take [] (gCons (gVar 0) (gCons (gCB qLenE (gCons (gVar 1) gNil)) gNil)))))
def g_law_marked : GS := (gSeq (gIfS (gB (gOp (qEqS id) (gOp qIx (gVar 0) (gC (.int 0))) (gC (.str "peg")))) (gRet (gOp (qEqD id) (gVar 1) (gTup (gCons (gOp qDiv (gOp qIx (gOp qIx (gOp qIx (gVar 0) (gC (.int 3))) (gC (.int 0))) (gC (.int 0))) (gOp qIx (gOp qIx (gOp qIx (gVar 0) (gC (.int 3))) (gC (.int 0))) (gC (.int 1)))) (gCons (gOp qDiv (gOp qIx (gOp qIx (gOp qIx (gVar 0) (gC (.int 3))) (gC (.int 1))) (gC (.int 0))) (gOp qIx (gOp qIx (gOp qIx (gVar 0) (gC (.int 3))) (gC (.int 1))) (gC (.int 1)))) gNil))))) gNext)
  (gRet (gIf (gB (gOp (qEqS id) (gOp qIx (gVar 0) (gC (.int 0))) (gC (.str "string")))) gNo (gCall sp_law_round [] (gCons (gOp qIx (gVar 0) (gC (.int 3))) (gCons (gOp qIx (gVar 0) (gC (.int 4))) (gCons (gVar 1) gNil)))))))
def g_scaled : GS := (gSeq (gAsg (gCall sp_least_bottom [] (gCons (gVar 0) gNil)) (ggName 1))
  (gRet (gTup (gCons (gLc (giSeq (gVar 0)) (ggTup [2, 3]) gYes (gOp qMul (gVar 2) (gOp qDiv (gVar 1) (gVar 3))) [2, 3]) (gCons (gVar 1) gNil)))))
def g_law_same (n : Nat) : GS := (gSeq (gIfS (gB (gIsi2 .list .tuple (gVar 1))) (gSeq (gIfS (gOr (gB (gOp (qEqD not) (gCB qIsi (gCons (gVar 0) (gCons (gC (.ty .list)) gNil))) (gCB qIsi (gCons (gVar 1) (gCons (gC (.ty .list)) gNil))))) (gB (gOp (qEqD not) (gCB qIsi (gCons (gVar 0) (gCons (gC (.ty .tuple)) gNil))) (gCB qIsi (gCons (gVar 1) (gCons (gC (.ty .tuple)) gNil)))))) (gRet (gC (.bl false))) gNext)
  (gRet (gAndV (gOp (qEqD id) (gCB qLen (gCons (gVar 0) gNil)) (gCB qLen (gCons (gVar 1) gNil))) (gCB (qAll fun bs => bs.all id) (gCons (gLc (giZip (gCons (gVar 0) (gCons (gVar 1) gNil))) (ggTup [2, 3]) gYes (gCall (sp_law_same n) [] (gCons (gVar 2) (gCons (gVar 3) gNil))) [2, 3]) gNil))))) gNext)
  (gSeq (gIfS (gOr (gB (gOp (qEqD not) (gCB qIsi (gCons (gVar 0) (gCons (gC (.ty .bool)) gNil))) (gCB qIsi (gCons (gVar 1) (gCons (gC (.ty .bool)) gNil))))) (gB (gOp (qEqD not) (gCB qIsi (gCons (gVar 0) (gCons (gC (.ty .int)) gNil))) (gCB qIsi (gCons (gVar 1) (gCons (gC (.ty .int)) gNil)))))) (gRet (gC (.bl false))) gNext)
  (gRet (gOp (qEqD id) (gVar 0) (gVar 1)))))
def g_law_draw : GS := (gRet (gCall sp_law_frac [] (gCons (gOp qSub (gCall sp_law_take [] (gCons (gVar 0) (gCons (gOp qAdd (gOp qMul (gC (.int 2)) (gVar 1)) (gC (.int 1))) gNil))) (gVar 1)) (gCons (gCall sp_law_of [] (gCons (gVar 0) (gCons (gLst (gCons (gC (.int 1)) (gCons (gC (.int 1)) (gCons (gC (.int 1)) (gCons (gC (.int 2)) (gCons (gC (.int 3)) (gCons (gC (.int 4)) gNil))))))) gNil))) gNil))))
def g_hoop_marks_t0 : GS := (gAsg (gCall sp_scaled [] (gCons (gOp qCat (gCB qListOf (gCons (gOp qIx (gVar 0) (gC (.int 3))) gNil)) (gLst (gCons (gOp qIx (gVar 0) (gC (.int 4))) gNil))) gNil)) (ggTupG 2 (ggCons (ggLstG 3 (ggCons (ggName 2) (ggCons (ggName 3) (ggCons (ggName 4) ggNil)))) (ggCons (ggName 5) ggNil))))
def g_hoop_marks_t1 : GS := (gAsg (gLc2 (giSeq (gTup (gCons (gC (.int 0)) (gCons (gC (.int 1)) gNil)))) (ggName 9) gYes (giSeq (gTup (gCons (gC (.int 0)) (gCons (gC (.int 1)) gNil)))) (ggName 10) gYes (gTup (gCons (gOp qAdd (gOp qIx (gVar 1) (gC (.int 0))) (gVar 9)) (gCons (gOp qAdd (gOp qIx (gVar 1) (gC (.int 1))) (gVar 10)) gNil))) [9, 10] [10]) (ggName 6))
def g_hoop_marks_t2 : GS := (gAsg (gLc (giSeq (gVar 6)) (ggTup [11, 12]) gYes (gTup (gCons (gOp qSub (gOp qMul (gVar 11) (gVar 5)) (gVar 2)) (gCons (gOp qSub (gOp qMul (gVar 12) (gVar 5)) (gVar 3)) gNil))) [11, 12]) (ggName 7))
def g_hoop_marks_t3 : GS := (gAsg (gLc (giSeq (gVar 7)) (ggTup [13, 14]) gYes (gOp qLe (gOp qAdd (gOp qMul (gVar 13) (gVar 13)) (gOp qMul (gVar 14) (gVar 14))) (gOp qMul (gVar 4) (gVar 4))) [13, 14]) (ggName 8))
def g_hoop_marks_t4 : GS := (gRet (gAndV (gCB (qAll fun bs => bs.any id) (gCons (gVar 8) gNil)) (gUn qNot (gCB (qAll fun bs => bs.all id) (gCons (gVar 8) gNil)))))
def g_hoop_marks_s4 : GS := g_hoop_marks_t4
def g_hoop_marks_s3 : GS := (gSeq g_hoop_marks_t3
  g_hoop_marks_s4)
def g_hoop_marks_s2 : GS := (gSeq g_hoop_marks_t2
  g_hoop_marks_s3)
def g_hoop_marks_s1 : GS := (gSeq g_hoop_marks_t1
  g_hoop_marks_s2)
def g_hoop_marks : GS := (gSeq g_hoop_marks_t0
  g_hoop_marks_s1)
def g_marks : GS := (gSeq (gIfS (gB (gOp (qEqS id) (gOp qIx (gVar 0) (gC (.int 0))) (gC (.str "peg")))) (gRet (gOp (qEqD id) (gCB qTupOf (gCons (gLc (giSeq (gOp qIx (gVar 0) (gC (.int 3)))) (ggName 2) gYes (gCall sp_floor_of [] (gCons (gVar 2) gNil)) [2]) gNil)) (gCB qTupOf (gCons (gVar 1) gNil)))) gNext)
  (gRet (gIf (gB (gOp (qEqS id) (gOp qIx (gVar 0) (gC (.int 0))) (gC (.str "string")))) (gCall sp_string_marks [] (gCons (gVar 0) (gCons (gVar 1) gNil))) (gCall sp_hoop_marks [] (gCons (gVar 0) (gCons (gVar 1) gNil))))))
def g_law_L2_t0 : GS := (gAsg (gTup (gCons (gCall sp_law_draw [] (gCons (gVar 2) (gCons (gC (.int 3)) gNil))) (gCons (gCall sp_law_draw [] (gCons (gVar 2) (gCons (gC (.int 3)) gNil))) gNil))) (ggName 4))
def g_law_L2_t1 : GS := (gAsg (gCall sp_law_of [] (gCons (gVar 2) (gCons (gLst (gCons (gCall sp_law_draw [] (gCons (gVar 2) (gCons (gC (.int 3)) gNil))) (gCons (gCall sp_law_draw [] (gCons (gVar 2) (gCons (gC (.int 5)) gNil))) (gCons (gTup (gCons (gC (.int 0)) (gCons (gC (.int 1)) gNil))) (gCons (gTup (gCons (gC (.int 5)) (gCons (gC (.int 1)) gNil))) (gCons (gTup (gCons (gC (.int 1)) (gCons (gC (.int 3)) gNil))) gNil)))))) gNil))) (ggName 5))
def g_law_L2_t2 : GS := (gIfS (gB (gOp (qEqD id) (gCall sp_law_take [] (gCons (gVar 2) (gCons (gC (.int 3)) gNil))) (gC (.int 0)))) (gPar 4 5 (gCons (gTup (gCons (gTup (gCons (gC (.int 3)) (gCons (gC (.int 1)) gNil))) (gCons (gTup (gCons (gUn qNeg (gC (.int 4))) (gCons (gC (.int 1)) gNil))) gNil))) (gCons (gCall sp_law_of [] (gCons (gVar 2) (gCons (gLst (gCons (gTup (gCons (gC (.int 5)) (gCons (gC (.int 1)) gNil))) (gCons (gTup (gCons (gUn qNeg (gC (.int 5))) (gCons (gC (.int 1)) gNil))) (gCons (gTup (gCons (gC (.int 1)) (gCons (gC (.int 1)) gNil))) (gCons (gTup (gCons (gC (.int 2)) (gCons (gC (.int 1)) gNil))) gNil))))) gNil))) gNil))) gNext)
def g_law_L2_t3 : GS := (gAsg (gLst (gCons (gTup (gCons (gC (.str "hoop")) (gCons (gC (.str "a")) (gCons (gC (.str "c")) (gCons (gVar 4) (gCons (gVar 5) gNil)))))) (gCons (gTup (gCons (gC (.str "peg")) (gCons (gC (.str "a.b")) (gCons (gC (.str "o")) (gCons (gVar 4) gNil))))) gNil))) (ggName 6))
def g_law_L3_t0 : GS := (gPar 8 9 (gCons (gOp qDiv (gOp qIx (gOp qIx (gVar 4) (gC (.int 0))) (gC (.int 0))) (gOp qIx (gOp qIx (gVar 4) (gC (.int 0))) (gC (.int 1)))) (gCons (gOp qDiv (gOp qIx (gOp qIx (gVar 4) (gC (.int 1))) (gC (.int 0))) (gOp qIx (gOp qIx (gVar 4) (gC (.int 1))) (gC (.int 1)))) gNil)))
def g_law_L3_t1 : GS := (gAsg (gTup (gCons (gOp qSub (gOp qAdd (gVar 8) (gCall sp_law_take [] (gCons (gVar 2) (gCons (gC (.int 13)) gNil)))) (gC (.int 6))) (gCons (gOp qSub (gOp qAdd (gVar 9) (gCall sp_law_take [] (gCons (gVar 2) (gCons (gC (.int 13)) gNil)))) (gC (.int 6))) gNil))) (ggName 10))
def g_law_L3_t2 : GS := (gAsg (gCall sp_law_of [] (gCons (gVar 2) (gCons (gLst (gCons (gVar 10) (gCons (gVar 10) (gCons (gTup (gCons (gVar 8) (gCons (gVar 9) gNil))) (gCons (gTup (gCons (gOp qSub (gVar 8) (gC (.int 1))) (gCons (gVar 9) gNil))) (gCons (gTup (gCons (gVar 8) (gCons (gOp qSub (gVar 9) (gC (.int 1))) gNil))) (gCons (gTup (gCons (gOp qAdd (gVar 8) (gC (.int 5))) (gCons (gVar 9) gNil))) (gCons (gTup (gCons (gOp qAdd (gVar 8) (gC (.int 3))) (gCons (gOp qAdd (gVar 9) (gC (.int 4))) gNil))) gNil)))))))) gNil))) (ggName 10))
def g_law_L3_t3 : GS := (gAsg (gLc (giSeq (gVar 6)) (ggName 12) gYes (gCall sp_law_marked [] (gCons (gVar 12) (gCons (gVar 10) gNil))) [12]) (ggName 11))
def g_law_L3_t4 : GS := (gIfS (gNot (gB (gCall (sp_law_same 3) [] (gCons (gLc (giSeq (gVar 6)) (ggName 12) gYes (gCall sp_marks [] (gCons (gVar 12) (gCons (gVar 10) gNil))) [12]) (gCons (gVar 11) gNil))))) (gRet (gC (.bl false))) gNext)
def g_law_L3_t5 : GS := (gIfS (gNot (gB (gCall (sp_law_same 3) [] (gCons (gCallK0 2 sp_marks kw21 (gCons (gVar 10) (gCons (gOp qIx (gVar 6) (gOp qMod (gVar 7) (gC (.int 2)))) gNil))) (gCons (gOp qIx (gVar 11) (gOp qMod (gVar 7) (gC (.int 2)))) gNil))))) (gRet (gC (.bl false))) gNext)
def g_law_L3_s5 : GS := g_law_L3_t5
def g_law_L3_s4 : GS := (gSeq g_law_L3_t4
  g_law_L3_s5)
def g_law_L3_s3 : GS := (gSeq g_law_L3_t3
  g_law_L3_s4)
def g_law_L3_s2 : GS := (gSeq g_law_L3_t2
  g_law_L3_s3)
def g_law_L3_s1 : GS := (gSeq g_law_L3_t1
  g_law_L3_s2)
def g_law_L3 : GS := (gSeq g_law_L3_t0
  g_law_L3_s1)
def g_law_L2_t4 : GS := (gFor (giRng1 (gCons (gC (.int 30)) gNil)) (ggName 7) g_law_L3)
def g_law_L2_s4 : GS := g_law_L2_t4
def g_law_L2_s3 : GS := (gSeq g_law_L2_t3
  g_law_L2_s4)
def g_law_L2_s2 : GS := (gSeq g_law_L2_t2
  g_law_L2_s3)
def g_law_L2_s1 : GS := (gSeq g_law_L2_t1
  g_law_L2_s2)
def g_law_L2 : GS := (gSeq g_law_L2_t0
  g_law_L2_s1)
def g_law_L1 : GS := (gSeq (gAsg (gCall sp_law_box [] (gCons (gVar 0) (gCons (gVar 1) gNil))) (ggName 2))
  (gFor (giRng1 (gCons (gC (.int 8)) gNil)) (ggName 3) g_law_L2))
def g_law : GS := (gSeq (gFor (giRng1 (gCons (gCB qMax (gCons (gC (.int 2)) (gCons (gCB qMin (gCons (gCB qLenE (gCons (gVar 0) gNil)) (gCons (gC (.int 3)) gNil))) gNil))) gNil)) (ggName 1) g_law_L1)
  (gRet (gC (.bl true))))
theorem len_law_frac (ds : List D) (M : Mem) (R : D → Mem → Prop) (W : DW) (h : sp_law_frac ds M R W) : ds.length = 2 := by obtain ⟨a, b, rfl, _⟩ := h; rfl
theorem pure_law_frac (ds : List D) (M : Mem) (R : D → Mem → Prop) (W : DW) (h : sp_law_frac ds M R W) : g_law_frac (GEnds.fn R W) (startD 5 ds) M := by
  obtain ⟨a, b, rfl, hb, hs, h⟩ := h
  have hp := gcd_pos (a := a) hb
  have hl := gcd_le (a := a) hb
  refine ⟨fun m ρ M' => ∃ x y : Nat, ρ = [some (.int a), some (.int b), some (.int x), some (.int y), none] ∧ Nat.gcd x y = Int.gcd a b ∧ m = y ∧ M' = M, ⟨b.natAbs, a.natAbs, b.natAbs, rfl, rfl, rfl, rfl⟩, ?_⟩
  rintro y ρ M' ⟨x, _, rfl, hg, rfl, rfl⟩
  refine if2 (fun hc => ?_) fun hc => ?_
  · have hy : (0 : Int) < (y : Int) := of_decide_eq_true hc
    have hy' : 0 < y := by omega
    refine ⟨hy, x % y, Nat.mod_lt _ hy', y, x % y, rfl, ?_, rfl, rfl⟩
    rw [← hg, Nat.gcd_comm x y, Nat.gcd_rec y x, Nat.gcd_comm]
  · have hy : ¬ (0 : Int) < (y : Int) := of_decide_eq_false hc
    have hy' : y = 0 := by omega
    subst hy'
    rw [Nat.gcd_zero_right] at hg
    subst hg
    have hd : CDiv (b.sign * a) (Int.gcd a b : Nat) := ⟨by omega, by omega⟩
    have e2 : ((b.natAbs : Nat) : Int) / (Int.gcd a b : Nat) = fden a b := by
      unfold fden
      rw [Int.natCast_ediv]
    refine if2 (fun hc => ?_) fun hc => ?_
    · have hb' : 0 < b := of_decide_eq_true hc
      refine ⟨.inl ⟨by decide, by decide⟩, hd, hd, small 2, ?_⟩
      show R (.tup [.int (1 * a / (Int.gcd a b : Nat)), .int (((b.natAbs : Nat) : Int) / (Int.gcd a b : Nat))]) M'
      rw [e2, show (1 * a / (Int.gcd a b : Nat) : Int) = fnum a b by unfold fnum; rw [Int.sign_eq_one_of_pos hb']]
      exact h
    · have hb' : ¬ 0 < b := of_decide_eq_false hc
      refine ⟨.inl ⟨by decide, by decide⟩, hd, hd, small 2, ?_⟩
      show R (.tup [.int (-1 * a / (Int.gcd a b : Nat)), .int (((b.natAbs : Nat) : Int) / (Int.gcd a b : Nat))]) M'
      rw [e2, show (-1 * a / (Int.gcd a b : Nat) : Int) = fnum a b by unfold fnum; rw [Int.sign_eq_neg_one_of_neg (by omega)]]
      exact h
theorem len_floor_of (ds : List D) (M : Mem) (R : D → Mem → Prop) (W : DW) (h : sp_floor_of ds M R W) : ds.length = 1 := by obtain ⟨a, b, rfl, _⟩ := h; rfl
theorem pure_floor_of (ds : List D) (M : Mem) (R : D → Mem → Prop) (W : DW) (h : sp_floor_of ds M R W) : g_floor_of (GEnds.fn R W) (startD 1 ds) M := by
  obtain ⟨a, b, rfl, h1, h2, h⟩ := h
  exact ⟨⟨h1, h2⟩, h⟩
theorem len_law_cell_at (ds : List D) (M : Mem) (R : D → Mem → Prop) (W : DW) (h : sp_law_cell_at ds M R W) : ds.length = 2 := by obtain ⟨a, b, rfl, _⟩ := h; rfl
theorem pure_law_cell_at (ds : List D) (M : Mem) (R : D → Mem → Prop) (W : DW) (h : sp_law_cell_at ds M R W) : g_law_cell_at (GEnds.fn R W) (startD 2 ds) M := by
  obtain ⟨ns, k, rfl, h⟩ := h
  refine ⟨_, ns.map D.int, rfl, rfl, if2 (fun hc => ?_) fun hc => h 0⟩
  have hk : (k : Int) < ((ns.map D.int).length : Nat) := of_decide_eq_true hc
  rw [List.length_map] at hk
  have hk' : k < ns.length := by omega
  refine ⟨ns.map D.int, k, .int ns[k], rfl, rfl, ?_, h _⟩
  refine atI_nat ?_
  rw [List.getElem?_map, List.getElem?_eq_getElem hk']
  rfl
theorem len_law_box (ds : List D) (M : Mem) (R : D → Mem → Prop) (W : DW) (h : sp_law_box ds M R W) : ds.length = 2 := by obtain ⟨a, b, rfl, _⟩ := h; rfl
theorem pure_law_box (ds : List D) (M : Mem) (R : D → Mem → Prop) (W : DW) (h : sp_law_box ds M R W) : g_law_box (GEnds.fn R W) (startD 3 ds) M := by
  obtain ⟨ns, k, rfl, hk, h⟩ := h
  refine ⟨ns, k, rfl, fun c => ?_⟩
  refine ⟨⟨by decide, by decide, by decide⟩, .inr ?_, (show (0 : Int) < 2305843009213693951 by decide), .inl ⟨by decide, by decide⟩, small 3, ?_⟩
  · show -(2 ^ 64) < (if _ then (1 : Int) else 0) ∧ (if _ then (1 : Int) else 0) < 2 ^ 64
    split <;> exact ⟨by decide, by decide⟩
  · refine h _ ⟨_, _, 0, rfl, ?_, ?_, by decide, by decide⟩ <;> omega
theorem len_law_take (ds : List D) (M : Mem) (R : D → Mem → Prop) (W : DW) (h : sp_law_take ds M R W) : ds.length = 2 := by obtain ⟨_, _, _, _, rfl, _⟩ := h; rfl
theorem pure_law_take (ds : List D) (M : Mem) (R : D → Mem → Prop) (W : DW) (h : sp_law_take ds M R W) : g_law_take (GEnds.fn R W) (startD 5 ds) M := by
  obtain ⟨k, m, n, es, rfl, hM, ⟨a, b, c, rfl, hb0, hb1, hc0, hc1⟩, hm, hn0, hn1, h⟩ := h
  refine ⟨_, _, _, hM, rfl, rfl, if2 (fun hc => ?_) fun hc => ?_⟩
  · refine ⟨_, _, _, hM, rfl, rfl, hn0, ?_⟩
    refine ⟨_, _, _, hM, rfl, rfl, ⟨hn0, hn1⟩, ?_⟩
    refine ⟨_, _, _, 0, rfl, rfl, hM, rfl, ?_⟩
    exact h _ _ ⟨_, b, c, rfl, hb0, hb1, hc0, by omega⟩ (Int.emod_nonneg _ (by omega)) (Int.emod_lt_of_pos _ hn0)
  · refine ⟨_, _, _, hM, rfl, rfl, ?_⟩
    refine ⟨_, _, _, 2, rfl, rfl, hM, rfl, ?_⟩
    have h2 := get_set (fs := [.int a, .int b, .int (c + 1)]) hM
    refine ⟨_, _, _, h2, rfl, rfl, ?_⟩
    refine ⟨_, _, _, h2, rfl, rfl, .inl ⟨by decide, by decide⟩, ?_⟩
    refine ⟨_, _, _, h2, rfl, rfl, .inr ⟨by omega, by omega⟩, (show (0 : Int) < 2147483647 by decide), ?_⟩
    refine ⟨_, _, _, h2, rfl, rfl, ?_⟩
    refine ⟨_, _, _, h2, rfl, rfl, ⟨by decide, by decide⟩, (show (0 : Int) < 40009 by decide), ?_⟩
    refine ⟨.inr ?_, (show (0 : Int) < 2147483629 by decide), .inr ⟨by decide, by decide⟩, (show (0 : Int) < 2147483587 by decide), ⟨by decide, by decide⟩, hn0, ?_⟩
    · have h1 := Int.emod_nonneg ((b + 48271 * (c + 1)) * (39373 + (c + 1)) % 2147483647) (show (40009 : Int) ≠ 0 by decide)
      have h2 := Int.emod_lt_of_pos ((b + 48271 * (c + 1)) * (39373 + (c + 1)) % 2147483647) (show (0 : Int) < 40009 by decide)
      exact ⟨by omega, by omega⟩
    · exact h _ _ ⟨a, b, c + 1, rfl, hb0, hb1, by omega, by omega⟩ (Int.emod_nonneg _ (by omega)) (Int.emod_lt_of_pos _ hn0)
theorem len_law_of (ds : List D) (M : Mem) (R : D → Mem → Prop) (W : DW) (h : sp_law_of ds M R W) : ds.length = 2 := by obtain ⟨_, _, _, _, _, rfl, _⟩ := h; rfl
theorem pure_law_of (ds : List D) (M : Mem) (R : D → Mem → Prop) (W : DW) (h : sp_law_of ds M R W) : g_law_of (GEnds.fn R W) (startD 2 ds) M := by
  obtain ⟨k, m, x, xs, es, rfl, hx, hs, hM, hbx, hm, hne, hl, h⟩ := h
  have hpos : 0 < xs.length := List.length_pos_iff.mpr hne
  refine ⟨_, _, rfl, hs, ?_⟩
  refine ⟨k, m, xs.length, es, rfl, hM, hbx, hm, by omega, by omega, fun v es' hb' h0 h1 => ?_⟩
  have hv : v.toNat < xs.length := by omega
  refine ⟨xs, v, xs[v.toNat], (seqOf_set hx).trans hs, rfl, ?_, h _ es' hb' (List.getElem_mem hv)⟩
  have q : atI xs ((v.toNat : Nat) : Int) = some xs[v.toNat] := atI_nat (List.getElem?_eq_getElem hv)
  rw [Int.toNat_of_nonneg h0] at q
  exact q
theorem len_law_draw (ds : List D) (M : Mem) (R : D → Mem → Prop) (W : DW) (h : sp_law_draw ds M R W) : ds.length = 2 := by obtain ⟨_, _, _, _, rfl, _⟩ := h; rfl
theorem pure_law_draw (ds : List D) (M : Mem) (R : D → Mem → Prop) (W : DW) (h : sp_law_draw ds M R W) : g_law_draw (GEnds.fn R W) (startD 2 ds) M := by
  obtain ⟨k, m, n, es, rfl, hM, hbx, hm, hn0, hn1, h⟩ := h
  refine ⟨.inl ⟨by decide, by decide⟩, k, m, 2 * n + 1, es, rfl, hM, hbx, by omega, by omega, by omega, fun v es1 hb1 h0 h1 => ?_⟩
  refine ⟨small 6, k, m + 1, .lst [.int 1, .int 1, .int 1, .int 2, .int 3, .int 4], _, es1, rfl, (by intro z; cases z), rfl, get_set hM, hb1, by omega, (by intro z; cases z), by decide, fun d es2 hb2 hd => ?_⟩
  rw [List.set_set]
  have key : ∀ b : Int, 1 ≤ b → b ≤ 4 → sp_law_frac [.int (v - n), .int b] (M.set k es2) R W := fun b h2 h3 => ⟨v - n, b, rfl, by omega, by omega, h _ _ _ hb2 (by omega) (by omega) h2 h3⟩
  simp only [List.mem_cons, List.not_mem_nil, or_false] at hd
  rcases hd with rfl | rfl | rfl | rfl | rfl | rfl
  · exact key 1 (by decide) (by decide)
  · exact key 1 (by decide) (by decide)
  · exact key 1 (by decide) (by decide)
  · exact key 2 (by decide) (by decide)
  · exact key 3 (by decide) (by decide)
  · exact key 4 (by decide) (by decide)
theorem no_law_same {ds : List D} {M : Mem} {R : D → Mem → Prop} {W : DW} (h : sp_law_same 0 ds M R W) : False := by obtain ⟨x, _, h, _⟩ := h; exact h
theorem len_law_same (n : Nat) (ds : List D) (M : Mem) (R : D → Mem → Prop) (W : DW) (h : sp_law_same n ds M R W) : ds.length = 2 := by obtain ⟨x, rfl, _⟩ := h; rfl
theorem same_zip (n : Nat) {xs : List D} {ρ : DSt} {M : Mem} {R : D → Mem → Prop} {ok : Mem → Prop} (hok : ok M) (hl : xs.length ≤ 1000) (hp : ∀ y ∈ xs, Plain n y) (hρ : ∃ a b c d, ρ = [a, b, c, d]) (h : R (.bl true) M) :
    gLcLoop (ggTup [2, 3]) gYes (gCall (sp_law_same n) [] (gCons (gVar 2) (gCons (gVar 3) gNil))) ok (zipD xs xs) [] ρ M (fun acc M2 => (fun (ds : List D) (M1 : Mem) => qAll (fun bs => bs.all id) ds M1 R) [.lst acc] M2) := by
  obtain ⟨a, b, c, d, rfl⟩ := hρ
  have hz : (zipD xs xs).length ≤ 1000 := by
    unfold zipD
    rw [List.length_map, List.length_zip]
    omega
  refine lc_map (f := fun _ => .bl true) hok (small _ (by simpa using hz)) (fun e he R' hR => ?_) ?_
  · obtain ⟨y, hy, rfl⟩ := zip_self xs e he
    exact ⟨y, rfl, hp y hy, hR⟩
  · rw [List.nil_append]
    unfold qAll
    simp only [truths_true, all_true]
    exact h
theorem pure_law_same (n : Nat) (ds : List D) (M : Mem) (R : D → Mem → Prop) (W : DW) (h : sp_law_same (n + 1) ds M R W) : g_law_same n (GEnds.fn R W) (startD 4 ds) M := by
  obtain ⟨x, rfl, hp, h⟩ := h
  cases x with
  | int i =>
    refine ⟨rfl, rfl, ifF (by show (!PyData.eqv (.bool _) (.bool _)) = false; rw [eqB1]; rfl) ?_⟩
    refine ⟨rfl, rfl, ifF (by show (!PyData.eqv (.bool _) (.bool _)) = false; rw [eqB1]; rfl) ?_⟩
    refine ⟨rfl, rfl, ?_⟩
    show R (.bl (PyData.eqv (.int i) (.int i))) M
    rw [eqI1]
    exact h
  | bl i =>
    refine ⟨rfl, rfl, ifF (by show (!PyData.eqv (.bool _) (.bool _)) = false; rw [eqB1]; rfl) ?_⟩
    refine ⟨rfl, rfl, ifF (by show (!PyData.eqv (.bool _) (.bool _)) = false; rw [eqB1]; rfl) ?_⟩
    refine ⟨rfl, rfl, ?_⟩
    show R (.bl (PyData.eqv (.bool i) (.bool i))) M
    rw [eqB1]
    exact h
  | tup xs =>
    refine ⟨rfl, rfl, ifF (by show (!PyData.eqv (.bool _) (.bool _)) = false; rw [eqB1]; rfl) ?_⟩
    refine ⟨rfl, rfl, ifF (by show (!PyData.eqv (.bool _) (.bool _)) = false; rw [eqB1]; rfl) ?_⟩
    refine ⟨rfl, rfl, ifT (by show PyData.eqv (.int _) (.int _) = true; rw [eqI1]) ?_⟩
    exact same_zip n (ok := fun M' => okOf M (.tup xs) M' ∧ okOf M (.tup xs) M') ⟨trivial, trivial⟩ hp.1 hp.2 ⟨_, _, _, _, rfl⟩ h
  | lst xs =>
    refine ⟨rfl, rfl, ifF (by show (!PyData.eqv (.bool _) (.bool _)) = false; rw [eqB1]; rfl) ?_⟩
    refine ⟨rfl, rfl, ifF (by show (!PyData.eqv (.bool _) (.bool _)) = false; rw [eqB1]; rfl) ?_⟩
    refine ⟨rfl, rfl, ifT (by show PyData.eqv (.int _) (.int _) = true; rw [eqI1]) ?_⟩
    exact same_zip n (ok := fun M' => okOf M (.lst xs) M' ∧ okOf M (.lst xs) M') ⟨trivial, trivial⟩ hp.1 hp.2 ⟨_, _, _, _, rfl⟩ h
  | _ => exact hp.elim
/-! ### common, least_bottom, scaled -/
theorem len_common (ds : List D) (M : Mem) (R : D → Mem → Prop) (W : DW) (h : sp_common ds M R W) : ds.length = 1 := by obtain ⟨ns, rfl, _⟩ := h; rfl
theorem common_loop {row : D} {M : Mem} {R : D → Mem → Prop} {W : DW} : ∀ (ns : List Int) (g : Nat) (x2 x3 : Option D), R (.int ((ns.foldl (fun g a => Nat.gcd g a.natAbs) g : Nat) : Int)) M →
    gLoop (ggName 2) g_common_L1 (fun _ => True) (ns.map D.int) { GEnds.fn R W with nx := gRet (gVar 1) (GEnds.fn R W) } [some row, some (.int g), x2, x3] M
  | [], g, x2, x3, h => h
  | a :: ns, g, x2, x3, h => by
    refine ⟨fun m ρ M' => ∃ x y : Nat, ρ = [some row, some (.int x), some (.int a), some (.int y)] ∧ Nat.gcd x y = Nat.gcd g a.natAbs ∧ m = y ∧ M' = M, ⟨a.natAbs, g, a.natAbs, rfl, rfl, rfl, rfl⟩, ?_⟩
    rintro y ρ M' ⟨x, _, rfl, hg, rfl, rfl⟩
    refine if2 (fun hc => ?_) fun hc => ?_
    · have hy : (0 : Int) < (y : Int) := of_decide_eq_true hc
      have hy' : 0 < y := by omega
      refine ⟨hy, x % y, Nat.mod_lt _ hy', y, x % y, rfl, ?_, rfl, rfl⟩
      rw [← hg, Nat.gcd_comm x y, Nat.gcd_rec y x, Nat.gcd_comm]
    · have hy : ¬ (0 : Int) < (y : Int) := of_decide_eq_false hc
      have hy' : y = 0 := by omega
      subst hy'
      rw [Nat.gcd_zero_right] at hg
      refine ⟨trivial, common_loop ns x _ _ ?_⟩
      rw [hg]
      exact h
theorem pure_common (ds : List D) (M : Mem) (R : D → Mem → Prop) (W : DW) (h : sp_common ds M R W) : g_common (GEnds.fn R W) (startD 4 ds) M := by
  obtain ⟨ns, rfl, h⟩ := h
  exact common_loop ns 0 none none h
theorem gcdL2 (a b : Nat) : gcdL [(a : Int), (b : Int)] = Nat.gcd a b := by
  show Nat.gcd (Nat.gcd 0 a) b = _
  rw [Nat.gcd_zero_left]
theorem len_least_bottom (ds : List D) (M : Mem) (R : D → Mem → Prop) (W : DW) (h : sp_least_bottom ds M R W) : ds.length = 1 := by obtain ⟨ns, rfl, _⟩ := h; rfl
theorem lcm_facts {g b : Int} (hg : 0 < g) (hb : 0 < b) : (g * b) / (Int.gcd g b : Nat) ≤ g * b ∧ 0 < (g * b) / (Int.gcd g b : Nat) ∧ g ∣ (g * b) / (Int.gcd g b : Nat) ∧ b ∣ (g * b) / (Int.gcd g b : Nat) := by
  have hp : 0 < Int.gcd g b := gcd_pos (by omega)
  have h1 : ((Int.gcd g b : Nat) : Int) ∣ g := Int.gcd_dvd_left ..
  have h2 : ((Int.gcd g b : Nat) : Int) ∣ b := Int.gcd_dvd_right ..
  have e1 : (g * b) / (Int.gcd g b : Nat) = g * (b / (Int.gcd g b : Nat)) := Int.mul_ediv_assoc _ h2
  have e2 : (g * b) / (Int.gcd g b : Nat) = b * (g / (Int.gcd g b : Nat)) := by rw [Int.mul_comm g b]; exact Int.mul_ediv_assoc _ h1
  refine ⟨Int.ediv_le_self _ (by have := Int.mul_pos hg hb; omega), ?_, ⟨_, e1⟩, ⟨_, e2⟩⟩
  rw [e1]
  exact Int.mul_pos hg (Int.ediv_pos_of_pos_of_dvd hb (by omega) h2)
theorem bottom_loop {row : D} {M : Mem} {R : D → Mem → Prop} {W : DW} : ∀ (fs : List (Int × Int)) (g B : Int) (n : Nat) (x2 x3 : Option D), 0 < g → g ≤ 4 ^ n → n + fs.length ≤ 4 → (∀ f ∈ fs, Sm f) → (∀ L : Int, 0 < L → L ≤ 256 → g ∣ L → (∀ f ∈ fs, f.2 ∣ L) → R (.int L) M) →
    gLoop (ggTup [2, 3]) g_least_bottom_L1 (fun _ => True) (fs.map fp) { GEnds.fn R W with nx := gRet (gVar 1) (GEnds.fn R W) } [some row, some (.int g), x2, x3] M
  | [], g, B, n, x2, x3, h0, h1, hn, hs, h => h g h0 (by
      have : n = 0 ∨ n = 1 ∨ n = 2 ∨ n = 3 ∨ n = 4 := by simp at hn; omega
      rcases this with rfl | rfl | rfl | rfl | rfl <;> omega) (Int.dvd_refl g) (fun f hf => (nomatch hf))
  | (a, b) :: fs, g, B, n, x2, x3, h0, h1, hn, hs, h => by
    obtain ⟨_, _, hb0, hb1⟩ := hs (a, b) List.mem_cons_self
    have hb0 : 0 < b := hb0
    have hb1 : b ≤ 4 := hb1
    have hn' : n + (fs.length + 1) ≤ 4 := hn
    have hg : g ≤ 256 := by
      have : n = 0 ∨ n = 1 ∨ n = 2 ∨ n = 3 ∨ n = 4 := by omega
      rcases this with rfl | rfl | rfl | rfl | rfl <;> omega
    obtain ⟨f1, f2, f3, f4⟩ := lcm_facts h0 hb0
    have hgl := gcd_le (a := g) (b := b) (by omega)
    have hgp := gcd_pos (a := g) (b := b) (by omega)
    have e : [D.int g, D.int b] = [g, b].map D.int := rfl
    have eg : gcdL [g, b] = Int.gcd g b := by
      show Nat.gcd (Nat.gcd 0 g.natAbs) b.natAbs = _
      rw [Nat.gcd_zero_left]
      rfl
    refine ⟨.inl ⟨by omega, by omega⟩, small 2, [g, b], rfl, ?_⟩
    rw [eg]
    refine ⟨⟨by omega, by omega⟩, trivial, ?_⟩
    refine bottom_loop fs _ B (n + 1) _ _ f2 ?_ (by omega) (fun f hf => hs f (List.mem_cons_of_mem _ hf)) fun L l0 l1 l2 l3 => h L l0 l1 (Int.dvd_trans f3 l2) fun f hf => ?_
    · refine Int.le_trans f1 ?_
      rw [Int.pow_succ]
      have : g * b ≤ g * 4 := Int.mul_le_mul_of_nonneg_left hb1 (by omega)
      have : g * 4 ≤ 4 ^ n * 4 := Int.mul_le_mul_of_nonneg_right h1 (by omega)
      omega
    · rcases List.mem_cons.mp hf with rfl | hf
      · exact Int.dvd_trans f4 l2
      · exact l3 f hf
theorem pure_least_bottom (ds : List D) (M : Mem) (R : D → Mem → Prop) (W : DW) (h : sp_least_bottom ds M R W) : g_least_bottom (GEnds.fn R W) (startD 4 ds) M := by
  obtain ⟨fs, rfl, hs, hl, h⟩ := h
  exact bottom_loop fs 1 0 0 none none (by decide) (by decide) (by omega) hs fun L l0 l1 _ l3 => h L l0 l1 l3
theorem len_scaled (ds : List D) (M : Mem) (R : D → Mem → Prop) (W : DW) (h : sp_scaled ds M R W) : ds.length = 1 := by obtain ⟨ns, rfl, _⟩ := h; rfl
theorem pure_scaled (ds : List D) (M : Mem) (R : D → Mem → Prop) (W : DW) (h : sp_scaled ds M R W) : g_scaled (GEnds.fn R W) (startD 4 ds) M := by
  obtain ⟨fs, rfl, hs, hl, h⟩ := h
  refine ⟨fs, rfl, hs, hl, fun L l0 l1 l3 => ?_⟩
  have key : gLcLoop (ggTup [2, 3]) gYes (gOp qMul (gVar 2) (gOp qDiv (gVar 1) (gVar 3))) (okOf M (.lst (fs.map fp))) (fs.map fp) [] [some (.lst (fs.map fp)), some (.int L), none, none] M
      (fun acc M2 => (gCons (gVar 1) gNil) [some (.lst (fs.map fp)), some (.int L), none, none] M2 (fun xs M3 => (D.lst acc :: xs).length ≤ sizeLine ∧ R (.tup (D.lst acc :: xs)) M3) W) := by
    refine lc_map (f := fun d => match d with | .tup [.int a, .int b] => .int (a * (L / b)) | _ => .non) trivial (small _ (by rw [List.length_map]; simp; omega)) (fun d hd R' hR => ?_) ?_
    · obtain ⟨f, hf, rfl⟩ := List.mem_map.mp hd
      obtain ⟨_, _, hb0, hb1⟩ := hs f hf
      refine ⟨⟨hb0, by omega⟩, .inr ?_, hR⟩
      have q1 : L / f.2 ≤ L := Int.ediv_le_self _ (by omega)
      have q2 : 0 ≤ L / f.2 := Int.ediv_nonneg (by omega) (by omega)
      exact ⟨by omega, by omega⟩
    · refine ⟨small 2, ?_⟩
      have e : (fs.map fp).map (fun d => match d with | D.tup [.int a, .int b] => D.int (a * (L / b)) | _ => .non) = fs.map fun f => .int (f.1 * (L / f.2)) := by
        rw [List.map_map]
        rfl
      show R (.tup [.lst ((fs.map fp).map _), .int L]) M
      rw [e]
      exact h L l0 l1 l3
  exact key
/-! ### scales -/
theorem corner_scale {L k : Int} (hk : 0 < k) {x y r : Int × Int} (hx : x.2 ∣ L) (hy : y.2 ∣ L) (hr : r.2 ∣ L) (p q : Int) : corner (L * k) x y r p q = corner L x y r p q := by
  have e1 : ∀ b : Int, b ∣ L → L * k / b = L / b * k := fun b hb => by rw [Int.mul_comm L k, Int.mul_ediv_assoc _ hb, Int.mul_comm]
  unfold corner inn
  rw [e1 _ hx, e1 _ hy, e1 _ hr]
  have f1 : p * (L * k) - x.1 * (L / x.2 * k) = (p * L - x.1 * (L / x.2)) * k := by
    rw [← Int.mul_assoc, ← Int.mul_assoc, Int.sub_mul]
  have f2 : q * (L * k) - y.1 * (L / y.2 * k) = (q * L - y.1 * (L / y.2)) * k := by
    rw [← Int.mul_assoc, ← Int.mul_assoc, Int.sub_mul]
  have f3 : r.1 * (L / r.2 * k) = r.1 * (L / r.2) * k := by rw [← Int.mul_assoc]
  rw [f1, f2, f3]
  have sq : ∀ a : Int, a * k * (a * k) = a * a * (k * k) := fun a => by
    rw [Int.mul_assoc, Int.mul_left_comm k a k, ← Int.mul_assoc]
  rw [sq, sq, sq, ← Int.add_mul]
  have hkk : 0 < k * k := Int.mul_pos hk hk
  apply decide_eq_decide.mpr
  exact ⟨fun h => Int.le_of_mul_le_mul_right h hkk, fun h => Int.mul_le_mul_of_nonneg_right h (by omega)⟩
theorem corner_any {L : Int} (hL : 0 < L) {x y r : Int × Int} (hx0 : 0 < x.2) (hy0 : 0 < y.2) (hr0 : 0 < r.2) (hx : x.2 ∣ L) (hy : y.2 ∣ L) (hr : r.2 ∣ L) (p q : Int) : corner L x y r p q = corner (x.2 * y.2 * r.2) x y r p q := by
  have hP : 0 < x.2 * y.2 * r.2 := Int.mul_pos (Int.mul_pos hx0 hy0) hr0
  rw [← corner_scale hP hx hy hr p q, Int.mul_comm L, corner_scale hL ⟨y.2 * r.2, by rw [Int.mul_assoc]⟩ ⟨x.2 * r.2, by rw [Int.mul_comm x.2, Int.mul_assoc]⟩ ⟨x.2 * y.2, by rw [Int.mul_comm]⟩]
/-! ### hoop_marks, law_round -/
theorem div_bd {L b : Int} (l0 : 0 < L) (hb : 0 < b) : 0 ≤ L / b ∧ L / b ≤ L := ⟨Int.ediv_nonneg (by omega) (by omega), Int.ediv_le_self _ (by omega)⟩
theorem term_bd {L a b : Int} (l0 : 0 < L) (l1 : L ≤ 256) (h : Sm (a, b)) : -256000 ≤ a * (L / b) ∧ a * (L / b) ≤ 256000 := by
  obtain ⟨h1, h2, h3, h4⟩ := h
  have d := div_bd (b := b) l0 h3
  have := mul_bd (a := a) (b := L / b) (x := 1000) (y := 256) h1 h2 (by omega) (by omega)
  omega
theorem gap_bd {L p z : Int} (l0 : 0 < L) (l1 : L ≤ 256) (hp : -100000 ≤ p ∧ p ≤ 100001) (hz : -256000 ≤ z ∧ z ≤ 256000) : -(2 ^ 64) < p * L - z ∧ p * L - z < 2 ^ 64 := by
  have := mul_bd (a := p) (b := L) (x := 100001) (y := 256) (by omega) (by omega) (by omega) (by omega)
  omega
theorem len_hoop_marks (ds : List D) (M : Mem) (R : D → Mem → Prop) (W : DW) (h : sp_hoop_marks ds M R W) : ds.length = 2 := by obtain ⟨_, _, _, _, _, rfl, _⟩ := h; rfl
theorem any4 (b1 b2 b3 b4 : Bool) : truths [.bl b1, .bl b2, .bl b3, .bl b4] = some [b1, b2, b3, b4] := rfl
theorem hoop_s4 {x0 x1 x2 x3 x4 x5 x6 x7 x9 x10 x11 x12 x13 x14 : Option D} {b1 b2 b3 b4 : Bool} {M : Mem} {R : D → Mem → Prop} {W : DW} (h : R (.bl (four b1 b2 b3 b4)) M) :
    g_hoop_marks_s4 (GEnds.fn R W) [x0, x1, x2, x3, x4, x5, x6, x7, some (.lst [.bl b1, .bl b2, .bl b3, .bl b4]), x9, x10, x11, x12, x13, x14] M := by
  unfold four at h
  refine if2 (fun hc => ?_) fun hc => ?_
  · have hc' : [b1, b2, b3, b4].any id = true := hc
    rw [hc', Bool.true_and] at h
    exact h
  · have hc' : [b1, b2, b3, b4].any id = false := hc
    rw [hc', Bool.false_and] at h
    exact h
theorem hoop_s3 {x0 x1 x2 x3 x5 x6 x8 x9 x10 x11 x12 x13 x14 : Option D} {r u1 v1 u2 v2 u3 v3 u4 v4 : Int} {M : Mem} {R : D → Mem → Prop} {W : DW} (hr : ∀ j, CMul r j) (h1 : ∀ j, CMul u1 j) (h2 : ∀ j, CMul v1 j) (h3 : ∀ j, CMul u2 j) (h4 : ∀ j, CMul v2 j) (h5 : ∀ j, CMul u3 j) (h6 : ∀ j, CMul v3 j) (h7 : ∀ j, CMul u4 j) (h8 : ∀ j, CMul v4 j)
    (h : R (.bl (four (inn u1 v1 r) (inn u2 v2 r) (inn u3 v3 r) (inn u4 v4 r))) M) :
    g_hoop_marks_s3 (GEnds.fn R W) [x0, x1, x2, x3, some (.int r), x5, x6, some (.lst [cellD u1 v1, cellD u2 v2, cellD u3 v3, cellD u4 v4]), x8, x9, x10, x11, x12, x13, x14] M := by
  refine ⟨h1 _, h2 _, hr _, by decide, trivial, ?_⟩
  refine ⟨h3 _, h4 _, hr _, by show 1 < sizeLine; decide, trivial, ?_⟩
  refine ⟨h5 _, h6 _, hr _, by show 2 < sizeLine; decide, trivial, ?_⟩
  refine ⟨h7 _, h8 _, hr _, by show 3 < sizeLine; decide, trivial, ?_⟩
  exact hoop_s4 h
theorem hoop_s2 {x0 x1 x7 x8 x9 x10 x11 x12 x13 x14 : Option D} {x y r L u1 v1 u2 v2 u3 v3 u4 v4 : Int} {M : Mem} {R : D → Mem → Prop} {W : DW} (hL : ∀ i, CMul i L)
    (h : g_hoop_marks_s3 (GEnds.fn R W) [x0, x1, some (.int x), some (.int y), some (.int r), some (.int L), some (.lst [cellD u1 v1, cellD u2 v2, cellD u3 v3, cellD u4 v4]), some (.lst [cellD (u1 * L - x) (v1 * L - y), cellD (u2 * L - x) (v2 * L - y), cellD (u3 * L - x) (v3 * L - y), cellD (u4 * L - x) (v4 * L - y)]), x8, x9, x10, x11, x12, x13, x14] M) :
    g_hoop_marks_s2 (GEnds.fn R W) [x0, x1, some (.int x), some (.int y), some (.int r), some (.int L), some (.lst [cellD u1 v1, cellD u2 v2, cellD u3 v3, cellD u4 v4]), x7, x8, x9, x10, x11, x12, x13, x14] M := by
  refine ⟨hL _, hL _, small 2, by decide, trivial, ?_⟩
  refine ⟨hL _, hL _, small 2, by show 1 < sizeLine; decide, trivial, ?_⟩
  refine ⟨hL _, hL _, small 2, by show 2 < sizeLine; decide, trivial, ?_⟩
  refine ⟨hL _, hL _, small 2, by show 3 < sizeLine; decide, trivial, ?_⟩
  exact h
theorem hoop_s1 {x0 x2 x3 x4 x5 x6 x7 x8 x9 x10 x11 x12 x13 x14 : Option D} {p q : Int} {M : Mem} {G : GEnds}
    (h : g_hoop_marks_s2 G [x0, some (cellD p q), x2, x3, x4, x5, some (.lst [cellD (p + 0) (q + 0), cellD (p + 0) (q + 1), cellD (p + 1) (q + 0), cellD (p + 1) (q + 1)]), x7, x8, x9, x10, x11, x12, x13, x14] M) :
    g_hoop_marks_s1 G [x0, some (cellD p q), x2, x3, x4, x5, x6, x7, x8, x9, x10, x11, x12, x13, x14] M := by
  refine ⟨small 2, small 2, small 2, by decide, trivial, small 2, by show 1 < sizeLine; decide, trivial, trivial, ?_⟩
  refine ⟨small 2, small 2, by show 2 < sizeLine; decide, trivial, small 2, by show 3 < sizeLine; decide, trivial, trivial, ?_⟩
  exact h
theorem hoop_t0 {x y r : Int × Int} {x2 x3 x4 x5 x6 x7 x8 x9 x10 x11 x12 x13 x14 : Option D} {c : Option D} {M : Mem} {G : GEnds} (hx : Sm x) (hy : Sm y) (hr : Sm r)
    (h : ∀ L : Int, 0 < L → L ≤ 256 → x.2 ∣ L → y.2 ∣ L → r.2 ∣ L → G.nx [some (hoopD x y r), c, some (.int (x.1 * (L / x.2))), some (.int (y.1 * (L / y.2))), some (.int (r.1 * (L / r.2))), some (.int L), x6, x7, x8, x9, x10, x11, x12, x13, x14] M) :
    g_hoop_marks_t0 G [some (hoopD x y r), c, x2, x3, x4, x5, x6, x7, x8, x9, x10, x11, x12, x13, x14] M := by
  refine ⟨small 1, small 3, [x, y, r], rfl, fun f hf => ?_, by show 3 ≤ 4; decide, fun L l0 l1 l3 => ⟨rfl, ⟨rfl, ?_⟩⟩⟩
  · simp only [List.mem_cons, List.not_mem_nil, or_false] at hf
    rcases hf with rfl | rfl | rfl <;> assumption
  · exact h L l0 l1 (l3 x (by simp)) (l3 y (by simp)) (l3 r (by simp))
theorem pure_hoop_marks (ds : List D) (M : Mem) (R : D → Mem → Prop) (W : DW) (h : sp_hoop_marks ds M R W) : g_hoop_marks (GEnds.fn R W) (startD 15 ds) M := by
  obtain ⟨x, y, r, p, q, rfl, hx, hy, hr, hp, hq, h⟩ := h
  refine hoop_t0 hx hy hr fun L l0 l1 dx dy dr => ?_
  have tx := term_bd l0 l1 hx
  have ty := term_bd l0 l1 hy
  have tr := term_bd l0 l1 hr
  have hp' := hp.1
  have hp'' := hp.2
  have hq' := hq.1
  have hq'' := hq.2
  have gx0 := gap_bd (p := p + 0) l0 l1 (by omega) tx
  have gx1 := gap_bd (p := p + 1) l0 l1 (by omega) tx
  have gy0 := gap_bd (p := q + 0) l0 l1 (by omega) ty
  have gy1 := gap_bd (p := q + 1) l0 l1 (by omega) ty
  have e : ∀ p q, corner L x y r p q = corner (x.2 * y.2 * r.2) x y r p q := fun p q => corner_any l0 hx.2.2.1 hy.2.2.1 hr.2.2.1 dx dy dr p q
  have hB : hoopB x y r p q = fourAt L x y r p q := by
    unfold hoopB fourAt
    rw [e, e, e, e]
  rw [hB] at h
  unfold fourAt corner at h
  exact hoop_s1 (hoop_s2 (fun i => .inr ⟨by omega, by omega⟩) (hoop_s3 (fun j => .inl ⟨by omega, by omega⟩) (fun j => .inl gx0) (fun j => .inl gy0) (fun j => .inl gx0) (fun j => .inl gy1) (fun j => .inl gx1) (fun j => .inl gy0) (fun j => .inl gx1) (fun j => .inl gy1) h))
theorem len_law_round (ds : List D) (M : Mem) (R : D → Mem → Prop) (W : DW) (h : sp_law_round ds M R W) : ds.length = 3 := by obtain ⟨_, _, _, _, _, rfl, _⟩ := h; rfl
theorem round_s4 {x0 x1 x2 x3 x4 x5 x6 x8 x9 x10 x11 x12 x13 : Option D} {k : Nat} {b1 b2 b3 b4 : Bool} {M : Mem} {R : D → Mem → Prop} {W : DW} (hk : M[k]? = some [.bl b1, .bl b2, .bl b3, .bl b4]) (h : R (.bl (four b1 b2 b3 b4)) M) :
    g_law_round_s4 (GEnds.fn R W) [x0, x1, x2, x3, x4, x5, x6, some (.box k), x8, x9, x10, x11, x12, x13] M := by
  unfold four at h
  refine ⟨_, _, _, rfl, rfl, hk, rfl, if2 (fun hc => ?_) fun hc => ?_⟩
  · have hc' : [b1, b2, b3, b4].any id = true := hc
    rw [hc', Bool.true_and] at h
    exact ⟨_, _, _, rfl, rfl, hk, rfl, h⟩
  · have hc' : [b1, b2, b3, b4].any id = false := hc
    rw [hc', Bool.false_and] at h
    exact h
/-- one corner -/
theorem round_L2 {x0 x1 x10 x11 x12 x13 : Option D} {L x y r p q i j : Int} {k : Nat} {es : List D} {M : Mem} {G : GEnds} (hk : M[k]? = some es) (hl : es.length < sizeLine) (hL : ∀ i, CMul i L) (hr : ∀ j, CMul r j) (hu : ∀ j, CMul ((p + i) * L - x) j) (hv : ∀ z, CMul ((q + j) * L - y) z)
    (h : ∀ y10 y11, G.nx [x0, x1, some (cellD p q), some (.int L), some (.int x), some (.int y), some (.int r), some (.box k), some (.int i), some (.int j), y10, y11, x12, x13]
      (M.set k (es ++ [.bl (inn ((p + i) * L - x) ((q + j) * L - y) r)]))) :
    g_law_round_L2 G [x0, x1, some (cellD p q), some (.int L), some (.int x), some (.int y), some (.int r), some (.box k), some (.int i), some (.int j), x10, x11, x12, x13] M :=
  ⟨hL _, hL _, k, rfl, hu _, hv _, hr _, es, hk, hl, h _ _⟩
theorem round_s2 {x0 x1 x7 x8 x9 x10 x11 x12 x13 : Option D} {L x y r p q : Int} {M : Mem} {R : D → Mem → Prop} {W : DW} (hL : ∀ i, CMul i L) (hr : ∀ j, CMul r j) (hu0 : ∀ j, CMul ((p + 0) * L - x) j) (hu1 : ∀ j, CMul ((p + 1) * L - x) j) (hv0 : ∀ j, CMul ((q + 0) * L - y) j) (hv1 : ∀ j, CMul ((q + 1) * L - y) j)
    (h : ∀ M', Keeps M M' → R (.bl (four (inn ((p + 0) * L - x) ((q + 0) * L - y) r) (inn ((p + 0) * L - x) ((q + 1) * L - y) r) (inn ((p + 1) * L - x) ((q + 0) * L - y) r) (inn ((p + 1) * L - x) ((q + 1) * L - y) r))) M') :
    g_law_round_s2 (GEnds.fn R W) [x0, x1, some (cellD p q), some (.int L), some (.int x), some (.int y), some (.int r), x7, x8, x9, x10, x11, x12, x13] M := by
  refine ⟨by decide, small 2, small 2, ?_⟩
  refine round_L2 (i := 0) (j := 0) get_last (by decide) hL hr hu0 hv0 fun _ _ => ⟨trivial, ?_⟩
  refine round_L2 (i := 0) (j := 1) (get_set get_last) (by show 1 < sizeLine; decide) hL hr hu0 hv1 fun _ _ => ⟨trivial, trivial, small 2, ?_⟩
  rw [List.set_set]
  refine round_L2 (i := 1) (j := 0) (get_set get_last) (by show 2 < sizeLine; decide) hL hr hu1 hv0 fun _ _ => ⟨trivial, ?_⟩
  rw [List.set_set]
  refine round_L2 (i := 1) (j := 1) (get_set get_last) (by show 3 < sizeLine; decide) hL hr hu1 hv1 fun _ _ => ⟨trivial, trivial, ?_⟩
  rw [List.set_set]
  exact round_s4 (get_set get_last) (h _ (Keeps.pushSet _ _ _))
theorem round_t1 {x1 x2 y1 y2 r1 r2 L : Int} {x4 x5 x6 x7 x8 x9 x10 x11 x12 x13 : Option D} {c : Option D} {M : Mem} {G : GEnds} (hx : 0 < x2 ∧ x2 ≤ 4) (hy : 0 < y2 ∧ y2 ≤ 4) (hr : 0 < r2 ∧ r2 ≤ 4) (hL : 0 < L ∧ L ≤ 64)
    (h : G.nx [some (.tup [fd x1 x2, fd y1 y2]), some (fd r1 r2), c, some (.int L), some (.int (x1 * (L / x2))), some (.int (y1 * (L / y2))), some (.int (r1 * (L / r2))), x7, x8, x9, x10, x11, x12, x13] M) :
    g_law_round_t1 G [some (.tup [fd x1 x2, fd y1 y2]), some (fd r1 r2), c, some (.int L), x4, x5, x6, x7, x8, x9, x10, x11, x12, x13] M := by
  have bx := div_bd hL.1 hx.1
  have by_ := div_bd hL.1 hy.1
  have br := div_bd hL.1 hr.1
  refine ⟨small 3, ⟨hx.1, by omega⟩, .inr ⟨by omega, by omega⟩, by decide, trivial, ?_⟩
  refine ⟨⟨hy.1, by omega⟩, .inr ⟨by omega, by omega⟩, by show 1 < sizeLine; decide, trivial, ?_⟩
  refine ⟨⟨hr.1, by omega⟩, .inr ⟨by omega, by omega⟩, by show 2 < sizeLine; decide, trivial, rfl, ?_⟩
  exact h
theorem pure_law_round (ds : List D) (M : Mem) (R : D → Mem → Prop) (W : DW) (h : sp_law_round ds M R W) : g_law_round (GEnds.fn R W) (startD 14 ds) M := by
  obtain ⟨⟨x1, x2⟩, ⟨y1, y2⟩, ⟨r1, r2⟩, p, q, rfl, hx, hy, hr, hp, hq, h⟩ := h
  show g_law_round (GEnds.fn R W) (startD 14 [.tup [fd x1 x2, fd y1 y2], fd r1 r2, cellD p q]) M
  have hx' := hx; have hy' := hy; have hr' := hr
  obtain ⟨hx1, hx2, hx3, hx4⟩ := hx'
  obtain ⟨hy1, hy2, hy3, hy4⟩ := hy'
  obtain ⟨hr1, hr2, hr3, hr4⟩ := hr'
  simp only at hx1 hx2 hx3 hx4 hy1 hy2 hy3 hy4 hr1 hr2 hr3 hr4
  have P1 := mul_bd (a := x2) (b := y2) (x := 4) (y := 4) (by omega) (by omega) (by omega) (by omega)
  have P2 := mul_bd (a := x2 * y2) (b := r2) (x := 16) (y := 4) (by omega) (by omega) (by omega) (by omega)
  have P3 : 0 < x2 * y2 * r2 := Int.mul_pos (Int.mul_pos hx3 hy3) hr3
  refine ⟨.inl ⟨by omega, by omega⟩, .inl ⟨by omega, by omega⟩, ?_⟩
  have hB : hoopB (x1, x2) (y1, y2) (r1, r2) p q = fourAt (x2 * y2 * r2) (x1, x2) (y1, y2) (r1, r2) p q := rfl
  rw [hB] at h
  have hp' := hp.1
  have hp'' := hp.2
  have hq' := hq.1
  have hq'' := hq.2
  have key : ∀ L : Int, 0 < L → L ≤ 64 → (∀ M', Keeps M M' → R (.bl (fourAt L (x1, x2) (y1, y2) (r1, r2) p q)) M') → g_law_round_s1 (GEnds.fn R W) [some (.tup [fd x1 x2, fd y1 y2]), some (fd r1 r2), some (cellD p q), some (.int L), none, none, none, none, none, none, none, none, none, none] M := fun L l0 l1 h => by
    have tx := term_bd l0 (by omega) hx
    have ty := term_bd l0 (by omega) hy
    have tr := term_bd l0 (by omega) hr
    have gx0 := gap_bd (p := p + 0) l0 (by omega) (by omega) tx
    have gx1 := gap_bd (p := p + 1) l0 (by omega) (by omega) tx
    have gy0 := gap_bd (p := q + 0) l0 (by omega) (by omega) ty
    have gy1 := gap_bd (p := q + 1) l0 (by omega) (by omega) ty
    unfold fourAt corner at h
    refine round_t1 ⟨hx3, hx4⟩ ⟨hy3, hy4⟩ ⟨hr3, hr4⟩ ⟨l0, l1⟩ ?_
    exact round_s2 (fun i => .inr ⟨by omega, by omega⟩) (fun j => .inl ⟨by omega, by omega⟩) (fun _ => .inl gx0) (fun _ => .inl gx1) (fun _ => .inl gy0) (fun _ => .inl gy1) h
  exact key _ P3 (by omega) h
/-! ### marks -/
theorem len_marks (ds : List D) (M : Mem) (R : D → Mem → Prop) (W : DW) (h : sp_marks ds M R W) : ds.length = 2 := by obtain ⟨_, _, _, rfl, _⟩ := h; rfl
theorem pure_marks (ds : List D) (M : Mem) (R : D → Mem → Prop) (W : DW) (h : sp_marks ds M R W) : g_marks (GEnds.fn R W) (startD 3 ds) M := by
  obtain ⟨s, p, q, rfl, ho, hp, hq, h⟩ := h
  cases s with
  | hoop x y r => exact ⟨x, y, r, p, q, rfl, ho.1, ho.2.1, ho.2.2, hp, hq, h⟩
  | peg x y =>
    obtain ⟨hx, hy⟩ := ho
    have hx3 := hx.2.2.1
    have hx4 := hx.2.2.2
    have hy3 := hy.2.2.1
    have hy4 := hy.2.2.2
    refine ⟨x.1, x.2, rfl, hx3, by omega, by decide, trivial, y.1, y.2, rfl, hy3, by omega, by show 1 < sizeLine; decide, trivial, rfl, rfl, ?_⟩
    show R (.bl (PyData.eqv (.tuple [.int (x.1 / x.2), .int (y.1 / y.2)]) (.tuple [.int p, .int q]))) M
    rw [eqT2]
    exact h
theorem len_law_marked (ds : List D) (M : Mem) (R : D → Mem → Prop) (W : DW) (h : sp_law_marked ds M R W) : ds.length = 2 := by obtain ⟨_, _, _, rfl, _⟩ := h; rfl
theorem pure_law_marked (ds : List D) (M : Mem) (R : D → Mem → Prop) (W : DW) (h : sp_law_marked ds M R W) : g_law_marked (GEnds.fn R W) (startD 2 ds) M := by
  obtain ⟨s, p, q, rfl, ho, hp, hq, h⟩ := h
  cases s with
  | hoop x y r => exact ⟨x, y, r, p, q, rfl, ho.1, ho.2.1, ho.2.2, hp, hq, h⟩
  | peg x y =>
    obtain ⟨hx, hy⟩ := ho
    have hx3 := hx.2.2.1
    have hx4 := hx.2.2.2
    have hy3 := hy.2.2.1
    have hy4 := hy.2.2.2
    refine ⟨⟨hx3, by omega⟩, ⟨hy3, by omega⟩, small 2, rfl, rfl, ?_⟩
    show R (.bl (PyData.eqv (.tuple [.int p, .int q]) (.tuple [.int (x.1 / x.2), .int (y.1 / y.2)]))) M
    rw [eqT2, show decide (p = x.1 / x.2) = decide (x.1 / x.2 = p) from decide_eq_decide.mpr eq_comm, show decide (q = y.1 / y.2) = decide (y.1 / y.2 = q) from decide_eq_decide.mpr eq_comm]
    exact h M (Keeps.refl M)
/-! ### draws, by what stands in the box -/
theorem fr_sm {t b : Int} (h0 : -100 ≤ t) (h1 : t ≤ 100) (h2 : 1 ≤ b) (h3 : b ≤ 4) : ∃ f : Int × Int, fr t b = fp f ∧ -100 ≤ f.1 ∧ f.1 ≤ 100 ∧ 0 < f.2 ∧ f.2 ≤ 4 := by
  have d := fr_bd (a := t) (b := b) (by omega)
  exact ⟨(fnum t b, fden t b), rfl, by show -100 ≤ fnum t b; omega, by show fnum t b ≤ 100; omega, by show 0 < fden t b; omega, by show fden t b ≤ 4; omega⟩
/-- one step: a cell is drawn, both strokes are asked about it -/
def SmF (f : Int × Int) : Prop := -100 ≤ f.1 ∧ f.1 ≤ 100 ∧ 0 < f.2 ∧ f.2 ≤ 4
theorem SmF.sm {f : Int × Int} (h : SmF f) : Sm f := ⟨by have := h.1; omega, by have := h.2.1; omega, h.2.2.1, h.2.2.2⟩
theorem SmF.div {f : Int × Int} (h : SmF f) : -200 ≤ f.1 / f.2 ∧ f.1 / f.2 ≤ 200 := by
  obtain ⟨h1, h2, h3, h4⟩ := h
  have e1 := Int.mul_ediv_add_emod f.1 f.2
  have e2 := Int.emod_nonneg f.1 (show f.2 ≠ 0 by omega)
  have e3 := Int.emod_lt_of_pos f.1 h3
  generalize f.1 / f.2 = z at *
  have : f.2 = 1 ∨ f.2 = 2 ∨ f.2 = 3 ∨ f.2 = 4 := by omega
  rcases this with e | e | e | e <;> rw [e] at e1 e3 <;> omega
theorem L3_s4 {x y r : Int × Int} {p q : Int} {st : Nat} {x0 x1 x2 x3 x8 x9 x12 : Option D} {M : Mem} {G : GEnds} (hx : Sm x) (hy : Sm y) (hr : Sm r) (hp : Near p) (hq : Near q)
    (h : G.nx [x0, x1, x2, x3, some (.tup [fp x, fp y]), some (fp r), some (.lst [hoopD x y r, pegD x y]), some (.int st), x8, x9, some (cellD p q), some (.lst [.bl (hoopB x y r p q), .bl (pegB x y p q)]), x12] M) :
    g_law_L3_s4 G [x0, x1, x2, x3, some (.tup [fp x, fp y]), some (fp r), some (.lst [hoopD x y r, pegD x y]), some (.int st), x8, x9, some (cellD p q), some (.lst [.bl (hoopB x y r p q), .bl (pegB x y p q)]), x12] M := by
  refine ⟨Stroke.hoop x y r, p, q, rfl, ⟨hx, hy, hr⟩, hp, hq, by decide, trivial, ?_⟩
  refine ⟨Stroke.peg x y, p, q, rfl, ⟨hx, hy⟩, hp, hq, by show 1 < sizeLine; decide, trivial, ?_⟩
  refine ⟨_, rfl, ⟨by show 2 ≤ 1000; decide, fun z hz => ?_⟩, ?_⟩
  · simp only [List.mem_append, List.mem_cons, List.not_mem_nil, or_false, List.nil_append] at hz
    rcases hz with rfl | rfl <;> trivial
  have key : ∀ (s : Stroke) (b : Bool), s.Ok → s.on p q = b → atI [hoopD x y r, pegD x y] ((st : Int) % 2) = some s.d → atI [D.bl (hoopB x y r p q), .bl (pegB x y p q)] ((st : Int) % 2) = some (.bl b) →
      g_law_L3_s5 G [x0, x1, x2, x3, some (.tup [fp x, fp y]), some (fp r), some (.lst [hoopD x y r, pegD x y]), some (.int st), x8, x9, some (cellD p q), some (.lst [.bl (hoopB x y r p q), .bl (pegB x y p q)]), x12] M := fun s b hs hb e1 e2 => by
    refine ⟨(show (0 : Int) < 2 by decide), ?_⟩
    show (match atI [hoopD x y r, pegD x y] ((st : Int) % 2) with | some d => _ | none => False)
    rw [e1]
    refine ⟨rfl, s, p, q, rfl, hs, hp, hq, (show (0 : Int) < 2 by decide), ?_⟩
    show (match atI [D.bl (hoopB x y r p q), .bl (pegB x y p q)] ((st : Int) % 2) with | some d => _ | none => False)
    rw [e2, hb]
    exact ⟨_, rfl, trivial, h⟩
  have h2 : ((st : Int) % 2 = 0) ∨ ((st : Int) % 2 = 1) := by omega
  rcases h2 with e | e
  · exact key (.hoop x y r) _ ⟨hx, hy, hr⟩ rfl (by rw [e]; rfl) (by rw [e]; rfl)
  · exact key (.peg x y) _ ⟨hx, hy⟩ rfl (by rw [e]; rfl) (by rw [e]; rfl)
theorem L3_t3 {x y r : Int × Int} {p q : Int} {x0 x1 x2 x3 x7 x8 x9 x11 x12 : Option D} {M : Mem} {G : GEnds} {N : DSt → Mem → Prop} (hx : Sm x) (hy : Sm y) (hr : Sm r) (hp : Near p) (hq : Near q)
    (h : ∀ M', Keeps M M' → N [x0, x1, x2, x3, some (.tup [fp x, fp y]), some (fp r), some (.lst [hoopD x y r, pegD x y]), x7, x8, x9, some (cellD p q), some (.lst [.bl (hoopB x y r p q), .bl (pegB x y p q)]), x12] M') :
    g_law_L3_t3 { G with nx := N } [x0, x1, x2, x3, some (.tup [fp x, fp y]), some (fp r), some (.lst [hoopD x y r, pegD x y]), x7, x8, x9, some (cellD p q), x11, x12] M := by
  refine ⟨Stroke.hoop x y r, p, q, rfl, ⟨hx, hy, hr⟩, hp, hq, fun M1 k1 => ⟨by decide, trivial, ?_⟩⟩
  refine ⟨Stroke.peg x y, p, q, rfl, ⟨hx, hy⟩, hp, hq, fun M2 k2 => ⟨by show 1 < sizeLine; decide, trivial, ?_⟩⟩
  exact h M2 (k1.trans k2)
theorem L3_t2 {a b p q : Int} {kb m : Nat} {x0 x1 x3 x4 x5 x6 x7 x11 x12 : Option D} {M : Mem} {G : GEnds} {N : DSt → Mem → Prop} (ha : -200 ≤ a ∧ a ≤ 200) (hb : -200 ≤ b ∧ b ≤ 200) (hp : Near p) (hq : Near q) (hB : BoxAt M kb m) (hm : m < 900000)
    (h : ∀ p' q' M', Near p' → Near q' → BoxAt M' kb (m + 1) → N [x0, x1, some (.box kb), x3, x4, x5, x6, x7, some (.int a), some (.int b), some (cellD p' q'), x11, x12] M') :
    g_law_L3_t2 { G with nx := N } [x0, x1, some (.box kb), x3, x4, x5, x6, x7, some (.int a), some (.int b), some (cellD p q), x11, x12] M := by
  refine ⟨small 2, small 2, small 2, small 2, small 2, small 7, ?_⟩
  obtain ⟨es_v, hM_v, hb_v⟩ := hB
  refine ⟨_, _, _, _, es_v, rfl, (by intro z; cases z), rfl, hM_v, hb_v, by omega, (by intro z; cases z), (show 7 < 1000 by decide), fun v fs_v hc_v hv => ?_⟩
  have hB' := BoxAt.put hM_v hc_v
  simp only [List.mem_cons, List.not_mem_nil, or_false] at hv
  have n1 : ∀ z : Int, -300 ≤ z → z ≤ 300 → Near z := fun z h1 h2 => ⟨by omega, by omega⟩
  rcases hv with rfl | rfl | rfl | rfl | rfl | rfl | rfl
  · exact h p q _ hp hq hB'
  · exact h p q _ hp hq hB'
  · exact h a b _ (n1 _ (by omega) (by omega)) (n1 _ (by omega) (by omega)) hB'
  · exact h (a - 1) b _ (n1 _ (by omega) (by omega)) (n1 _ (by omega) (by omega)) hB'
  · exact h a (b - 1) _ (n1 _ (by omega) (by omega)) (n1 _ (by omega) (by omega)) hB'
  · exact h (a + 5) b _ (n1 _ (by omega) (by omega)) (n1 _ (by omega) (by omega)) hB'
  · exact h (a + 3) (b + 4) _ (n1 _ (by omega) (by omega)) (n1 _ (by omega) (by omega)) hB'
theorem L3_t0 {x y : Int × Int} {x0 x1 x2 x3 x5 x6 x7 x8 x9 x10 x11 x12 : Option D} {M : Mem} {G : GEnds} {N : DSt → Mem → Prop} (hx : SmF x) (hy : SmF y)
    (h : N [x0, x1, x2, x3, some (.tup [fp x, fp y]), x5, x6, x7, some (.int (x.1 / x.2)), some (.int (y.1 / y.2)), x10, x11, x12] M) :
    g_law_L3_t0 { G with nx := N } [x0, x1, x2, x3, some (.tup [fp x, fp y]), x5, x6, x7, x8, x9, x10, x11, x12] M := by
  have hx3 := hx.2.2.1
  have hx4 := hx.2.2.2
  have hy3 := hy.2.2.1
  have hy4 := hy.2.2.2
  exact ⟨⟨hx3, by omega⟩, ⟨hy3, by omega⟩, h⟩
theorem L3_t1 {a b : Int} {kb m : Nat} {x0 x1 x3 x4 x5 x6 x7 x10 x11 x12 : Option D} {M : Mem} {G : GEnds} {N : DSt → Mem → Prop} (ha : -200 ≤ a ∧ a ≤ 200) (hb : -200 ≤ b ∧ b ≤ 200) (hB : BoxAt M kb m) (hm : m < 900000)
    (h : ∀ p' q' M', Near p' → Near q' → BoxAt M' kb (m + 2) → N [x0, x1, some (.box kb), x3, x4, x5, x6, x7, some (.int a), some (.int b), some (cellD p' q'), x11, x12] M') :
    g_law_L3_t1 { G with nx := N } [x0, x1, some (.box kb), x3, x4, x5, x6, x7, some (.int a), some (.int b), x10, x11, x12] M := by
  obtain ⟨es_v1, hM_v1, hb_v1⟩ := hB
  refine ⟨_, _, 13, es_v1, rfl, hM_v1, hb_v1, by omega, by decide, by decide, fun v1 fs_v1 hc_v1 a0 a1 => ?_⟩
  have hB1 := BoxAt.put hM_v1 hc_v1
  obtain ⟨es_v2, hM_v2, hb_v2⟩ := hB1
  refine ⟨_, _, 13, es_v2, rfl, hM_v2, hb_v2, by omega, by decide, by decide, fun v2 fs_v2 hc_v2 b0 b1 => ?_⟩
  have hB2 := BoxAt.put hM_v2 hc_v2
  exact ⟨small 2, h (a + v1 - 6) (b + v2 - 6) _ ⟨by omega, by omega⟩ ⟨by omega, by omega⟩ hB2⟩
theorem L3_ok {x y r : Int × Int} {kb m st : Nat} {x0 x1 x3 x8 x9 x10 x11 x12 : Option D} {M : Mem} {G : GEnds} (hx : SmF x) (hy : SmF y) (hr : SmF r) (hB : BoxAt M kb m) (hm : m < 800000)
    (h : ∀ y8 y9 y10 y11 M', BoxAt M' kb (m + 3) → G.nx [x0, x1, some (.box kb), x3, some (.tup [fp x, fp y]), some (fp r), some (.lst [hoopD x y r, pegD x y]), some (.int st), y8, y9, y10, y11, x12] M') :
    g_law_L3 G [x0, x1, some (.box kb), x3, some (.tup [fp x, fp y]), some (fp r), some (.lst [hoopD x y r, pegD x y]), some (.int st), x8, x9, x10, x11, x12] M := by
  have dx := hx.div
  have dy := hy.div
  refine seq_mk (L3_t0 hx hy ?_)
  refine seq_mk (L3_t1 dx dy hB (by omega) fun p q M2 hp hq hB2 => ?_)
  refine seq_mk (L3_t2 dx dy hp hq hB2 (by omega) fun p q M3 hp hq hB3 => ?_)
  refine seq_mk (L3_t3 hx.sm hy.sm hr.sm hp hq fun M4 k4 => ?_)
  exact L3_s4 hx.sm hy.sm hr.sm hp hq (h _ _ _ _ M4 ((hB3.keep k4)))
abbrev hpD (x y r : Int × Int) : D := .lst [hoopD x y r, pegD x y]
theorem L2_t3 {x y r : Int × Int} {x0 x1 x2 x3 x6 x7 x8 x9 x10 x11 x12 : Option D} {M : Mem} {G : GEnds} {N : DSt → Mem → Prop}
    (h : N [x0, x1, x2, x3, some (.tup [fp x, fp y]), some (fp r), some (hpD x y r), x7, x8, x9, x10, x11, x12] M) :
    g_law_L2_t3 { G with nx := N } [x0, x1, x2, x3, some (.tup [fp x, fp y]), some (fp r), x6, x7, x8, x9, x10, x11, x12] M :=
  ⟨small 5, small 4, small 2, h⟩
theorem L2_t4 {x y r : Int × Int} {kb m : Nat} {x0 x1 x3 x7 x8 x9 x10 x11 x12 : Option D} {M : Mem} {G : GEnds} (hx : SmF x) (hy : SmF y) (hr : SmF r) (hB : BoxAt M kb m) (hm : m < 700000)
    (h : ∀ y4 y5 y6 y7 y8 y9 y10 y11 M', BoxAt M' kb (m + 90) → G.nx [x0, x1, some (.box kb), x3, y4, y5, y6, y7, y8, y9, y10, y11, x12] M') :
    g_law_L2_t4 G [x0, x1, some (.box kb), x3, some (.tup [fp x, fp y]), some (fp r), some (hpD x y r), x7, x8, x9, x10, x11, x12] M := by
  refine ⟨by decide, by decide, ?_⟩
  refine loop_ix (fun j ρ M' => (∃ y7 y8 y9 y10 y11, ρ = [x0, x1, some (.box kb), x3, some (.tup [fp x, fp y]), some (fp r), some (hpD x y r), y7, y8, y9, y10, y11, x12]) ∧ BoxAt M' kb (m + 3 * j)) 0 ⟨⟨_, _, _, _, _, rfl⟩, hB⟩ ?_ ?_ fun _ _ _ _ => trivial
  · rintro ρ M' ⟨⟨y7, y8, y9, y10, y11, rfl⟩, hB'⟩
    exact h _ _ _ _ _ _ _ _ M' hB'
  · rintro j d hd ρ M' ⟨⟨y7, y8, y9, y10, y11, rfl⟩, hB'⟩ N hN
    obtain ⟨hj, rfl⟩ := rng_get hd
    have hj' : j < 30 := hj
    rw [Int.zero_add]
    exact L3_ok hx hy hr hB' (by omega) fun y8 y9 y10 y11 M2 hB2 => hN _ _ ⟨⟨_, _, _, _, _, rfl⟩, hB2.mono (by omega)⟩
theorem L2_t0 {kb m : Nat} {x0 x1 x3 x4 x5 x6 x7 x8 x9 x10 x11 x12 : Option D} {M : Mem} {G : GEnds} {N : DSt → Mem → Prop} (hB : BoxAt M kb m) (hm : m < 700000)
    (h : ∀ (x y : Int × Int) M', SmF x → SmF y → BoxAt M' kb (m + 4) → N [x0, x1, some (.box kb), x3, some (.tup [fp x, fp y]), x5, x6, x7, x8, x9, x10, x11, x12] M') :
    g_law_L2_t0 { G with nx := N } [x0, x1, some (.box kb), x3, x4, x5, x6, x7, x8, x9, x10, x11, x12] M := by
  obtain ⟨es_t1, hM_t1, hb_t1⟩ := hB
  refine ⟨_, _, 3, es_t1, rfl, hM_t1, hb_t1, by omega, by decide, by decide, fun t1 b1 fs_t1 hc_t1 p1 p2 p3 p4 => ?_⟩
  have hB1 := BoxAt.put hM_t1 hc_t1
  obtain ⟨es_t2, hM_t2, hb_t2⟩ := hB1
  refine ⟨_, _, 3, es_t2, rfl, hM_t2, hb_t2, by omega, by decide, by decide, fun t2 b2 fs_t2 hc_t2 q1 q2 q3 q4 => ?_⟩
  have hB2 := BoxAt.put hM_t2 hc_t2
  obtain ⟨x, ex1, hx⟩ := fr_sm (t := t1) (b := b1) (by omega) (by omega) p3 p4
  obtain ⟨y, ey1, hy⟩ := fr_sm (t := t2) (b := b2) (by omega) (by omega) q3 q4
  rw [ex1, ey1]
  exact ⟨small 2, h x y _ hx hy hB2⟩
theorem L2_t1 {kb m : Nat} {x0 x1 x3 x4 x5 x6 x7 x8 x9 x10 x11 x12 : Option D} {M : Mem} {G : GEnds} {N : DSt → Mem → Prop} (hB : BoxAt M kb m) (hm : m < 700000)
    (h : ∀ (r : Int × Int) M', SmF r → BoxAt M' kb (m + 5) → N [x0, x1, some (.box kb), x3, x4, some (fp r), x6, x7, x8, x9, x10, x11, x12] M') :
    g_law_L2_t1 { G with nx := N } [x0, x1, some (.box kb), x3, x4, x5, x6, x7, x8, x9, x10, x11, x12] M := by
  obtain ⟨es_t3, hM_t3, hb_t3⟩ := hB
  refine ⟨_, _, 3, es_t3, rfl, hM_t3, hb_t3, by omega, by decide, by decide, fun t3 b3 fs_t3 hc_t3 r1 r2 r3 r4 => ?_⟩
  have hB3 := BoxAt.put hM_t3 hc_t3
  obtain ⟨es_t4, hM_t4, hb_t4⟩ := hB3
  refine ⟨_, _, 5, es_t4, rfl, hM_t4, hb_t4, by omega, by decide, by decide, fun t4 b4 fs_t4 hc_t4 s1 s2 s3 s4 => ?_⟩
  have hB4 := BoxAt.put hM_t4 hc_t4
  obtain ⟨u, eu, hu⟩ := fr_sm (t := t3) (b := b3) (by omega) (by omega) r3 r4
  obtain ⟨v, ev, hv⟩ := fr_sm (t := t4) (b := b4) (by omega) (by omega) s3 s4
  rw [eu, ev]
  refine ⟨small 2, small 2, small 2, small 5, ?_⟩
  obtain ⟨es_w, hM_w, hb_w⟩ := hB4
  refine ⟨_, _, _, _, es_w, rfl, (by intro z; cases z), rfl, hM_w, hb_w, by omega, (by intro z; cases z), (show 5 < 1000 by decide), fun w fs_w hc_w hw => ?_⟩
  have hB5 := BoxAt.put hM_w hc_w
  simp only [List.mem_cons, List.not_mem_nil, or_false] at hw
  rcases hw with rfl | rfl | rfl | rfl | rfl
  · exact h u _ hu hB5
  · exact h v _ hv hB5
  · exact h (0, 1) _ ⟨by decide, by decide, by decide, by decide⟩ hB5
  · exact h (5, 1) _ ⟨by decide, by decide, by decide, by decide⟩ hB5
  · exact h (1, 3) _ ⟨by decide, by decide, by decide, by decide⟩ hB5
theorem L2_t2 {x y r : Int × Int} {kb m : Nat} {x0 x1 x3 x6 x7 x8 x9 x10 x11 x12 : Option D} {M : Mem} {G : GEnds} {N : DSt → Mem → Prop} (hx : SmF x) (hy : SmF y) (hr : SmF r) (hB : BoxAt M kb m) (hm : m < 700000)
    (h : ∀ (x y r : Int × Int) M', SmF x → SmF y → SmF r → BoxAt M' kb (m + 2) → N [x0, x1, some (.box kb), x3, some (.tup [fp x, fp y]), some (fp r), x6, x7, x8, x9, x10, x11, x12] M') :
    g_law_L2_t2 { G with nx := N } [x0, x1, some (.box kb), x3, some (.tup [fp x, fp y]), some (fp r), x6, x7, x8, x9, x10, x11, x12] M := by
  obtain ⟨es_z, hM_z, hb_z⟩ := hB
  refine ⟨_, _, 3, es_z, rfl, hM_z, hb_z, by omega, by decide, by decide, fun z fs_z hc_z z0 z1 => ?_⟩
  have hB6 := BoxAt.put hM_z hc_z
  refine ⟨shI _, shI _, if2 (fun hc => ?_) fun hc => ?_⟩
  · refine ⟨small 2, small 2, small 2, small 2, small 2, small 2, small 2, small 4, ?_⟩
    obtain ⟨es_w2, hM_w2, hb_w2⟩ := hB6
    refine ⟨_, _, _, _, es_w2, rfl, (by intro z; cases z), rfl, hM_w2, hb_w2, by omega, (by intro z; cases z), (show 4 < 1000 by decide), fun w2 fs_w2 hc_w2 hw2 => ?_⟩
    have hB7 := BoxAt.put hM_w2 hc_w2
    simp only [List.mem_cons, List.not_mem_nil, or_false] at hw2
    have s3 : SmF (3, 1) := ⟨by decide, by decide, by decide, by decide⟩
    have s4 : SmF (-4, 1) := ⟨by decide, by decide, by decide, by decide⟩
    rcases hw2 with rfl | rfl | rfl | rfl
    · exact h (3, 1) (-4, 1) (5, 1) _ s3 s4 ⟨by decide, by decide, by decide, by decide⟩ hB7
    · exact h (3, 1) (-4, 1) (-5, 1) _ s3 s4 ⟨by decide, by decide, by decide, by decide⟩ hB7
    · exact h (3, 1) (-4, 1) (1, 1) _ s3 s4 ⟨by decide, by decide, by decide, by decide⟩ hB7
    · exact h (3, 1) (-4, 1) (2, 1) _ s3 s4 ⟨by decide, by decide, by decide, by decide⟩ hB7
  · exact h x y r _ hx hy hr (hB6.mono (by omega))
theorem L2_ok {kb m : Nat} {x0 x1 x3 x4 x5 x6 x7 x8 x9 x10 x11 x12 : Option D} {M : Mem} {G : GEnds} (hB : BoxAt M kb m) (hm : m < 600000)
    (h : ∀ y4 y5 y6 y7 y8 y9 y10 y11 M', BoxAt M' kb (m + 101) → G.nx [x0, x1, some (.box kb), x3, y4, y5, y6, y7, y8, y9, y10, y11, x12] M') :
    g_law_L2 G [x0, x1, some (.box kb), x3, x4, x5, x6, x7, x8, x9, x10, x11, x12] M := by
  refine seq_mk (L2_t0 hB (by omega) fun x y M1 hx hy hB1 => ?_)
  refine seq_mk (L2_t1 hB1 (by omega) fun r M2 hr hB2 => ?_)
  refine seq_mk (L2_t2 hx hy hr hB2 (by omega) fun x y r M3 hx hy hr hB3 => ?_)
  refine seq_mk (L2_t3 ?_)
  exact L2_t4 hx hy hr hB3 (by omega) fun y4 y5 y6 y7 y8 y9 y10 y11 M' hB' => h _ _ _ _ _ _ _ _ _ (hB'.mono (by omega))
theorem law_ok : LawOk 63 13 g_law := by
  intro ns hns
  refine ⟨_, _, rfl, rfl, ?_⟩
  have hl : (ns.map D.int).length = ns.length := List.length_map _
  have hj : ∀ n : Int, 0 ≤ n → 0 ≤ (if (if (3 : Int) < n then 3 else n) > 2 then (if (3 : Int) < n then 3 else n) else 2) ∧ (if (if (3 : Int) < n then 3 else n) > 2 then (if (3 : Int) < n then 3 else n) else 2) ≤ 3 := fun n h0 => by
    split <;> split <;> omega
  have hjj := hj ((ns.map D.int).length : Nat) (by omega)
  refine ⟨by omega, by omega, ?_⟩
  refine loop_ix (fun _ ρ M => ∃ x1 x2 x3 x4 x5 x6 x7 x8 x9 x10 x11 x12, ρ = [some (.fz (ns.map D.int)), x1, x2, x3, x4, x5, x6, x7, x8, x9, x10, x11, x12]) 0 ⟨_, _, _, _, _, _, _, _, _, _, _, _, rfl⟩ ?_ ?_ fun _ _ _ _ => trivial
  · rintro ρ M ⟨x1, x2, x3, x4, x5, x6, x7, x8, x9, x10, x11, x12, rfl⟩
    exact rfl
  · rintro i d hd ρ M ⟨x1, x2, x3, x4, x5, x6, x7, x8, x9, x10, x11, x12, rfl⟩ N hN
    obtain ⟨hi, rfl⟩ := rng_get hd
    rw [Int.zero_add]
    refine ⟨ns, i, rfl, by omega, fun es hes => ?_⟩
    refine ⟨by decide, by decide, ?_⟩
    refine loop_ix (fun j ρ M' => (∃ x3 x4 x5 x6 x7 x8 x9 x10 x11 x12, ρ = [some (.fz (ns.map D.int)), some (.int i), some (.box M.length), x3, x4, x5, x6, x7, x8, x9, x10, x11, x12]) ∧ BoxAt M' M.length (101 * j)) 0 ⟨⟨_, _, _, _, _, _, _, _, _, _, rfl⟩, es, get_last, hes⟩ ?_ ?_ fun _ _ _ _ => trivial
    · rintro ρ M' ⟨⟨x3, x4, x5, x6, x7, x8, x9, x10, x11, x12, rfl⟩, _⟩
      exact hN _ _ ⟨_, _, _, _, _, _, _, _, _, _, _, _, rfl⟩
    · rintro j d hd ρ M' ⟨⟨x3, x4, x5, x6, x7, x8, x9, x10, x11, x12, rfl⟩, hB⟩ N2 hN2
      obtain ⟨hj4, rfl⟩ := rng_get hd
      have hj4' : j < 8 := hj4
      exact L2_ok hB (by omega) fun y4 y5 y6 y7 y8 y9 y10 y11 M'' hB' => hN2 _ _ ⟨⟨_, _, _, _, _, _, _, _, _, _, rfl⟩, hB'.mono (by omega)⟩
def top (i : Nat) : Stmt := PySem.Challenge.pw_pegwishes_k47_cells_of_hoops_and_pegs.main.body.getD i (.Pass ⟨0, 0, 0, 0⟩)
abbrev s_floor_of : Stmt := top 1
abbrev N_floor_of : List Str := ["one"]
theorem sc_floor_of : FnScope N_floor_of ["one"] (defScope s_floor_of) := ⟨rfl, rfl, rfl, by decide +kernel, rfl, by decide +kernel, by decide +kernel⟩
abbrev s_common : Stmt := top 3
abbrev N_common : List Str := ["row", "found", "one", "rest"]
theorem sc_common : FnScope N_common ["row"] (defScope s_common) := ⟨rfl, rfl, rfl, by decide +kernel, rfl, by decide +kernel, by decide +kernel⟩
abbrev s_string_marks : Stmt := top 10
abbrev s_law_cell_at : Stmt := top 14
abbrev N_law_cell_at : List Str := ["_law_script", "_law_k"]
theorem sc_law_cell_at : FnScope N_law_cell_at ["_law_script", "_law_k"] (defScope s_law_cell_at) := ⟨rfl, rfl, rfl, by decide +kernel, rfl, by decide +kernel, by decide +kernel⟩
abbrev s_law_take : Stmt := top 16
abbrev N_law_take : List Str := ["_law_box_here", "_law_size", "_law_found", "_law_once", "_law_twice"]
theorem sc_law_take : FnScope N_law_take ["_law_box_here", "_law_size"] (defScope s_law_take) := ⟨rfl, rfl, rfl, by decide +kernel, rfl, by decide +kernel, by decide +kernel⟩
abbrev s_law_frac : Stmt := top 19
abbrev N_law_frac : List Str := ["_law_top", "_law_under", "_law_big", "_law_small", "_law_sign"]
theorem sc_law_frac : FnScope N_law_frac ["_law_top", "_law_under"] (defScope s_law_frac) := ⟨rfl, rfl, rfl, by decide +kernel, rfl, by decide +kernel, by decide +kernel⟩
abbrev s_law_round : Stmt := top 22
abbrev N_law_round : List Str := ["_law_start", "_law_size", "_law_spot", "_law_by", "_law_x", "_law_y", "_law_reach", "_law_some", "_law_right", "_law_up", "_law_flat", "_law_along", "_law_top", "_law_under"]
theorem sc_law_round : FnScope N_law_round ["_law_start", "_law_size", "_law_spot"] (defScope s_law_round) := ⟨rfl, rfl, rfl, by decide +kernel, rfl, by decide +kernel, by decide +kernel⟩
abbrev s_least_bottom : Stmt := top 4
abbrev N_least_bottom : List Str := ["fracs", "found", "top", "bottom"]
theorem sc_least_bottom : FnScope N_least_bottom ["fracs"] (defScope s_least_bottom) := ⟨rfl, rfl, rfl, by decide +kernel, rfl, by decide +kernel, by decide +kernel⟩
abbrev s_law_box : Stmt := top 15
abbrev N_law_box : List Str := ["_law_script", "_law_k", "_law_core"]
theorem sc_law_box : FnScope N_law_box ["_law_script", "_law_k"] (defScope s_law_box) := ⟨rfl, rfl, rfl, by decide +kernel, rfl, by decide +kernel, by decide +kernel⟩
abbrev s_law_of : Stmt := top 18
abbrev N_law_of : List Str := ["_law_box_here", "_law_some"]
theorem sc_law_of : FnScope N_law_of ["_law_box_here", "_law_some"] (defScope s_law_of) := ⟨rfl, rfl, rfl, by decide +kernel, rfl, by decide +kernel, by decide +kernel⟩
abbrev s_law_marked : Stmt := top 23
abbrev N_law_marked : List Str := ["_law_mark", "_law_spot"]
theorem sc_law_marked : FnScope N_law_marked ["_law_mark", "_law_spot"] (defScope s_law_marked) := ⟨rfl, rfl, rfl, by decide +kernel, rfl, by decide +kernel, by decide +kernel⟩
abbrev s_scaled : Stmt := top 6
abbrev N_scaled : List Str := ["fracs", "by", "top", "bottom"]
theorem sc_scaled : FnScope N_scaled ["fracs"] (defScope s_scaled) := ⟨rfl, rfl, rfl, by decide +kernel, rfl, by decide +kernel, by decide +kernel⟩
abbrev s_law_same : Stmt := top 17
abbrev N_law_same : List Str := ["_law_found", "_law_due", "_law_here", "_law_there"]
theorem sc_law_same : FnScope N_law_same ["_law_found", "_law_due"] (defScope s_law_same) := ⟨rfl, rfl, rfl, by decide +kernel, rfl, by decide +kernel, by decide +kernel⟩
abbrev s_law_draw : Stmt := top 20
abbrev N_law_draw : List Str := ["_law_box_here", "_law_top"]
theorem sc_law_draw : FnScope N_law_draw ["_law_box_here", "_law_top"] (defScope s_law_draw) := ⟨rfl, rfl, rfl, by decide +kernel, rfl, by decide +kernel, by decide +kernel⟩
abbrev s_hoop_marks : Stmt := top 11
abbrev N_hoop_marks : List Str := ["stroke", "cell", "x", "y", "reach", "by", "corners", "gaps", "inner", "right", "up", "one", "two", "first", "second"]
theorem sc_hoop_marks : FnScope N_hoop_marks ["stroke", "cell"] (defScope s_hoop_marks) := ⟨rfl, rfl, rfl, by decide +kernel, rfl, by decide +kernel, by decide +kernel⟩
abbrev s_marks : Stmt := top 12
abbrev N_marks : List Str := ["stroke", "cell", "number"]
theorem sc_marks : FnScope N_marks ["stroke", "cell"] (defScope s_marks) := ⟨rfl, rfl, rfl, by decide +kernel, rfl, by decide +kernel, by decide +kernel⟩
abbrev s_law : Stmt := top 24
abbrev N_law : List Str := ["_law_script", "_law_k", "_law_box_here", "_law_turn", "_law_start", "_law_size", "_law_some", "_law_step", "_law_x", "_law_y", "_law_spot", "_law_due", "_law_mark"]
theorem sc_law : FnScope N_law ["_law_script"] (defScope s_law) := ⟨rfl, rfl, rfl, by decide +kernel, rfl, by decide +kernel, by decide +kernel⟩
structure Fds where
  floor_of : FuncData
  common : FuncData
  string_marks : FuncData
  law_cell_at : FuncData
  law_take : FuncData
  law_frac : FuncData
  law_round : FuncData
  least_bottom : FuncData
  law_box : FuncData
  law_of : FuncData
  law_marked : FuncData
  scaled : FuncData
  law_same : FuncData
  law_draw : FuncData
  hoop_marks : FuncData
  marks : FuncData
  law : FuncData
structure Tx (K : PySem.W.Frag) (mg : Str → Option Value) (B : Fds) : Prop where
  F_floor_of : FunD K "floor_of" "floor_of" (defArgs s_floor_of) (defBody s_floor_of) (defScope s_floor_of) [] [] (He.ga K "floor_of") B.floor_of
  m_floor_of : mg "floor_of" = some (.ref (He.ga K "floor_of"))
  F_common : FunD K "common" "common" (defArgs s_common) (defBody s_common) (defScope s_common) [] [] (He.ga K "common") B.common
  m_common : mg "common" = some (.ref (He.ga K "common"))
  F_string_marks : FunD K "string_marks" "string_marks" (defArgs s_string_marks) (defBody s_string_marks) (defScope s_string_marks) [] [] (He.ga K "string_marks") B.string_marks
  m_string_marks : mg "string_marks" = some (.ref (He.ga K "string_marks"))
  F_law_cell_at : FunD K "_law_cell_at" "_law_cell_at" (defArgs s_law_cell_at) (defBody s_law_cell_at) (defScope s_law_cell_at) [] [] (He.ga K "_law_cell_at") B.law_cell_at
  m_law_cell_at : mg "_law_cell_at" = some (.ref (He.ga K "_law_cell_at"))
  F_law_take : FunD K "_law_take" "_law_take" (defArgs s_law_take) (defBody s_law_take) (defScope s_law_take) [] [] (He.ga K "_law_take") B.law_take
  m_law_take : mg "_law_take" = some (.ref (He.ga K "_law_take"))
  F_law_frac : FunD K "_law_frac" "_law_frac" (defArgs s_law_frac) (defBody s_law_frac) (defScope s_law_frac) [] [] (He.ga K "_law_frac") B.law_frac
  m_law_frac : mg "_law_frac" = some (.ref (He.ga K "_law_frac"))
  F_law_round : FunD K "_law_round" "_law_round" (defArgs s_law_round) (defBody s_law_round) (defScope s_law_round) [] [] (He.ga K "_law_round") B.law_round
  m_law_round : mg "_law_round" = some (.ref (He.ga K "_law_round"))
  F_least_bottom : FunD K "least_bottom" "least_bottom" (defArgs s_least_bottom) (defBody s_least_bottom) (defScope s_least_bottom) [] [] (He.ga K "least_bottom") B.least_bottom
  m_least_bottom : mg "least_bottom" = some (.ref (He.ga K "least_bottom"))
  F_law_box : FunD K "_law_box" "_law_box" (defArgs s_law_box) (defBody s_law_box) (defScope s_law_box) [] [] (He.ga K "_law_box") B.law_box
  m_law_box : mg "_law_box" = some (.ref (He.ga K "_law_box"))
  F_law_of : FunD K "_law_of" "_law_of" (defArgs s_law_of) (defBody s_law_of) (defScope s_law_of) [] [] (He.ga K "_law_of") B.law_of
  m_law_of : mg "_law_of" = some (.ref (He.ga K "_law_of"))
  F_law_marked : FunD K "_law_marked" "_law_marked" (defArgs s_law_marked) (defBody s_law_marked) (defScope s_law_marked) [] [] (He.ga K "_law_marked") B.law_marked
  m_law_marked : mg "_law_marked" = some (.ref (He.ga K "_law_marked"))
  F_scaled : FunD K "scaled" "scaled" (defArgs s_scaled) (defBody s_scaled) (defScope s_scaled) [] [] (He.ga K "scaled") B.scaled
  m_scaled : mg "scaled" = some (.ref (He.ga K "scaled"))
  F_law_same : FunD K "_law_same" "_law_same" (defArgs s_law_same) (defBody s_law_same) (defScope s_law_same) [] [] (He.ga K "_law_same") B.law_same
  m_law_same : mg "_law_same" = some (.ref (He.ga K "_law_same"))
  F_law_draw : FunD K "_law_draw" "_law_draw" (defArgs s_law_draw) (defBody s_law_draw) (defScope s_law_draw) [] [] (He.ga K "_law_draw") B.law_draw
  m_law_draw : mg "_law_draw" = some (.ref (He.ga K "_law_draw"))
  F_hoop_marks : FunD K "hoop_marks" "hoop_marks" (defArgs s_hoop_marks) (defBody s_hoop_marks) (defScope s_hoop_marks) [] [] (He.ga K "hoop_marks") B.hoop_marks
  m_hoop_marks : mg "hoop_marks" = some (.ref (He.ga K "hoop_marks"))
  F_marks : FunD K "marks" "marks" (defArgs s_marks) (defBody s_marks) (defScope s_marks) [] [] (He.ga K "marks") B.marks
  m_marks : mg "marks" = some (.ref (He.ga K "marks"))
  F_law : FunD K "law" "law" (defArgs s_law) (defBody s_law) (defScope s_law) [] [] (He.ga K "law") B.law
  m_law : mg "law" = some (.ref (He.ga K "law"))
  n_abs : mg "abs" = none
  n_all : mg "all" = none
  n_any : mg "any" = none
  n_bool : mg "bool" = none
  n_int : mg "int" = none
  n_isinstance : mg "isinstance" = none
  n_len : mg "len" = none
  n_list : mg "list" = none
  n_max : mg "max" = none
  n_min : mg "min" = none
  n_range : mg "range" = none
  n_tuple : mg "tuple" = none
  n_zip : mg "zip" = none
section
variable {P : Program} {w : World} {K : PySem.W.Frag} {mg : Str → Option Value} {base : Heap} {B : Fds}
theorem b_floor_of (T : Tx K mg B) : Binds K B.floor_of ["one"] [] := T.F_floor_of.bindsN fun _ _ _ _ _ _ us hl => match us, hl with | [_], _ => rfl
theorem b_common (T : Tx K mg B) : Binds K B.common ["row"] [] := T.F_common.bindsN fun _ _ _ _ _ _ us hl => match us, hl with | [_], _ => rfl
theorem b_string_marks (T : Tx K mg B) : Binds K B.string_marks ["stroke", "cell"] [] := T.F_string_marks.bindsN fun _ _ _ _ _ _ us hl => match us, hl with | [_, _], _ => rfl
theorem b_law_cell_at (T : Tx K mg B) : Binds K B.law_cell_at ["_law_script", "_law_k"] [] := T.F_law_cell_at.bindsN fun _ _ _ _ _ _ us hl => match us, hl with | [_, _], _ => rfl
theorem b_law_take (T : Tx K mg B) : Binds K B.law_take ["_law_box_here", "_law_size"] [] := T.F_law_take.bindsN fun _ _ _ _ _ _ us hl => match us, hl with | [_, _], _ => rfl
theorem b_law_frac (T : Tx K mg B) : Binds K B.law_frac ["_law_top", "_law_under"] [] := T.F_law_frac.bindsN fun _ _ _ _ _ _ us hl => match us, hl with | [_, _], _ => rfl
theorem b_law_round (T : Tx K mg B) : Binds K B.law_round ["_law_start", "_law_size", "_law_spot"] [] := T.F_law_round.bindsN fun _ _ _ _ _ _ us hl => match us, hl with | [_, _, _], _ => rfl
theorem b_least_bottom (T : Tx K mg B) : Binds K B.least_bottom ["fracs"] [] := T.F_least_bottom.bindsN fun _ _ _ _ _ _ us hl => match us, hl with | [_], _ => rfl
theorem b_law_box (T : Tx K mg B) : Binds K B.law_box ["_law_script", "_law_k"] [] := T.F_law_box.bindsN fun _ _ _ _ _ _ us hl => match us, hl with | [_, _], _ => rfl
theorem b_law_of (T : Tx K mg B) : Binds K B.law_of ["_law_box_here", "_law_some"] [] := T.F_law_of.bindsN fun _ _ _ _ _ _ us hl => match us, hl with | [_, _], _ => rfl
theorem b_law_marked (T : Tx K mg B) : Binds K B.law_marked ["_law_mark", "_law_spot"] [] := T.F_law_marked.bindsN fun _ _ _ _ _ _ us hl => match us, hl with | [_, _], _ => rfl
theorem b_scaled (T : Tx K mg B) : Binds K B.scaled ["fracs"] [] := T.F_scaled.bindsN fun _ _ _ _ _ _ us hl => match us, hl with | [_], _ => rfl
theorem b_law_same (T : Tx K mg B) : Binds K B.law_same ["_law_found", "_law_due"] [] := T.F_law_same.bindsN fun _ _ _ _ _ _ us hl => match us, hl with | [_, _], _ => rfl
theorem b_law_draw (T : Tx K mg B) : Binds K B.law_draw ["_law_box_here", "_law_top"] [] := T.F_law_draw.bindsN fun _ _ _ _ _ _ us hl => match us, hl with | [_, _], _ => rfl
theorem b_hoop_marks (T : Tx K mg B) : Binds K B.hoop_marks ["stroke", "cell"] [] := T.F_hoop_marks.bindsN fun _ _ _ _ _ _ us hl => match us, hl with | [_, _], _ => rfl
theorem b_marks (T : Tx K mg B) : Binds K B.marks ["stroke", "cell"] [] := T.F_marks.bindsN fun _ _ _ _ _ _ us hl => match us, hl with | [_, _], _ => rfl
theorem kb_marks_cell_stroke (T : Tx K mg B) : KBn K B.marks ["stroke", "cell"] 0 ["cell", "stroke"] (fun us ws => kw21 us ws) (fun vs zs => kw21 vs zs) := kb_none (n := 0) (fun {_} us ws => kw21 us ws) T.F_marks kw21_v fun _ _ _ _ _ _ us ws h1 h2 => match us, h1, ws, h2 with | [], _, [_, _], _ => rfl
theorem ok_floor_of (T : Tx K mg B) : FnD P w K mg base 1 (He.ga K "floor_of") B.floor_of ["one"] sp_floor_of := by
  refine fn_D T.F_floor_of sc_floor_of len_floor_of (fun cdv A outer s H E hr => ?_) pure_floor_of
  exact (dss_one (ds_ret (de_div (de_ix (de_var 0 (pv 0)) de_int (fun _ _ => rfl)) (de_ix (de_var 0 (pv 0)) de_int (fun _ _ => rfl)))))
theorem ok_common (T : Tx K mg B) : FnD P w K mg base 1 (He.ga K "common") B.common ["row"] sp_common := by
  refine fn_D T.F_common sc_common len_common (fun cdv A outer s H E hr => ?_) pure_common
  exact (dss_cons (ds_set (i := 1) sc_common.nd rfl (by first | exact Or.inl rfl | exact Or.inr rfl) de_int)
  (dss_cons (ds_for (passes_of rfl) rfl (di_seq (de_var 0 (pv 0))) (dg_name (i := 2) sc_common.nd rfl (by first | exact Or.inl rfl | exact Or.inr rfl)) (dss_cons (ds_set (i := 3) sc_common.nd rfl (by first | exact Or.inl rfl | exact Or.inr rfl) (de_callB call_abs sim_abs (by rfl) T.n_abs PyProof.Rows.boot_abs (da_cons (de_var 2 (pv 2)) da_nil)))
  (dss_one (ds_while (passes_of rfl) (dt_gt (de_var 3 (pv 3)) de_int) (dss_one (ds_par (i := 1) (j := 3) rfl sc_common.nd rfl rfl (by decide) rfl rfl (da_cons (de_var 3 (pv 3)) (da_cons (de_mod (de_var 1 (pv 1)) (de_var 3 (pv 3))) da_nil)) (by rfl)))))))
  (dss_one (ds_ret (de_var 1 (pv 1))))))
theorem ok_string_marks (T : Tx K mg B) : FnD P w K mg base 1 (He.ga K "string_marks") B.string_marks ["stroke", "cell"] sp_string_marks := fn_no
theorem ok_law_cell_at (T : Tx K mg B) : FnD P w K mg base 1 (He.ga K "_law_cell_at") B.law_cell_at ["_law_script", "_law_k"] sp_law_cell_at := by
  refine fn_D T.F_law_cell_at sc_law_cell_at len_law_cell_at (fun cdv A outer s H E hr => ?_) pure_law_cell_at
  exact (dss_cons (ds_if (dt_lt (de_var 1 (pv 1)) (de_callB call_len sim_lenE (by rfl) T.n_len PySem.boot_len (da_cons (de_var 0 (pv 0)) da_nil))) (dss_one (ds_ret (de_ixE (de_var 0 (pv 0)) (de_var 1 (pv 1)) (fun _ _ => rfl)))) dss_nil)
  (dss_one (ds_ret de_int)))
theorem ok_law_take (T : Tx K mg B) : FnD P w K mg base 1 (He.ga K "_law_take") B.law_take ["_law_box_here", "_law_size"] sp_law_take := by
  refine fn_D T.F_law_take sc_law_take len_law_take (fun cdv A outer s H E hr => ?_) pure_law_take
  exact (dss_cons (ds_if (dt_gt (de_ixE (de_var 0 (pv 0)) de_int (fun _ _ => rfl)) de_int) (dss_cons (ds_set (i := 2) sc_law_take.nd rfl (by first | exact Or.inl rfl | exact Or.inr rfl) (de_mod (de_ixE (de_var 0 (pv 0)) de_int (fun _ _ => rfl)) (de_var 1 (pv 1))))
  (dss_cons (ds_asg (de_div (de_ixE (de_var 0 (pv 0)) de_int (fun _ _ => rfl)) (de_var 1 (pv 1))) (dg_subE (de_var 0 (pv 0)) de_int))
  (dss_one (ds_ret (de_var 2 (pv 2)))))) dss_nil)
  (dss_cons (ds_asg (de_add (de_ixE (de_var 0 (pv 0)) de_int (fun _ _ => rfl)) de_int) (dg_subE (de_var 0 (pv 0)) de_int))
  (dss_cons (ds_set (i := 3) sc_law_take.nd rfl (by first | exact Or.inl rfl | exact Or.inr rfl) (de_mod (de_mul (de_add (de_ixE (de_var 0 (pv 0)) de_int (fun _ _ => rfl)) (de_mul de_int (de_ixE (de_var 0 (pv 0)) de_int (fun _ _ => rfl)))) (de_add de_int (de_ixE (de_var 0 (pv 0)) de_int (fun _ _ => rfl)))) de_int))
  (dss_cons (ds_set (i := 4) sc_law_take.nd rfl (by first | exact Or.inl rfl | exact Or.inr rfl) (de_mod (de_mul (de_add (de_add (de_var 3 (pv 3)) (de_ixE (de_var 0 (pv 0)) de_int (fun _ _ => rfl))) (de_div (de_ixE (de_var 0 (pv 0)) de_int (fun _ _ => rfl)) de_int)) (de_add (de_mod (de_var 3 (pv 3)) de_int) de_int)) de_int))
  (dss_one (ds_ret (de_mod (de_div (de_mod (de_add (de_mul (de_var 4 (pv 4)) de_int) (de_var 3 (pv 3))) de_int) de_int) (de_var 1 (pv 1)))))))))
theorem ok_law_frac (T : Tx K mg B) : FnD P w K mg base 1 (He.ga K "_law_frac") B.law_frac ["_law_top", "_law_under"] sp_law_frac := by
  refine fn_D T.F_law_frac sc_law_frac len_law_frac (fun cdv A outer s H E hr => ?_) pure_law_frac
  exact (dss_cons (ds_par (i := 2) (j := 3) rfl sc_law_frac.nd rfl rfl (by decide) rfl rfl (da_cons (de_callB call_abs sim_abs (by rfl) T.n_abs PyProof.Rows.boot_abs (da_cons (de_var 0 (pv 0)) da_nil)) (da_cons (de_callB call_abs sim_abs (by rfl) T.n_abs PyProof.Rows.boot_abs (da_cons (de_var 1 (pv 1)) da_nil)) da_nil)) (by rfl))
  (dss_cons (ds_while (passes_of rfl) (dt_gt (de_var 3 (pv 3)) de_int) (dss_one (ds_par (i := 2) (j := 3) rfl sc_law_frac.nd rfl rfl (by decide) rfl rfl (da_cons (de_var 3 (pv 3)) (da_cons (de_mod (de_var 2 (pv 2)) (de_var 3 (pv 3))) da_nil)) (by rfl))))
  (dss_cons (ds_set (i := 4) sc_law_frac.nd rfl (by first | exact Or.inl rfl | exact Or.inr rfl) (de_if (dt_gt (de_var 1 (pv 1)) de_int) de_int (de_neg de_int)))
  (dss_one (ds_ret (de_tup (da_cons (de_div (de_mul (de_var 4 (pv 4)) (de_var 0 (pv 0))) (de_var 2 (pv 2))) (da_cons (de_div (de_callB call_abs sim_abs (by rfl) T.n_abs PyProof.Rows.boot_abs (da_cons (de_var 1 (pv 1)) da_nil)) (de_var 2 (pv 2))) da_nil))))))))
theorem ok_law_round (T : Tx K mg B) : FnD P w K mg base 1 (He.ga K "_law_round") B.law_round ["_law_start", "_law_size", "_law_spot"] sp_law_round := by
  refine fn_D T.F_law_round sc_law_round len_law_round (fun cdv A outer s H E hr => ?_) pure_law_round
  exact (dss_cons (ds_set (i := 3) sc_law_round.nd rfl (by first | exact Or.inl rfl | exact Or.inr rfl) (de_mul (de_mul (de_ix (de_ix (de_var 0 (pv 0)) de_int (fun _ _ => rfl)) de_int (fun _ _ => rfl)) (de_ix (de_ix (de_var 0 (pv 0)) de_int (fun _ _ => rfl)) de_int (fun _ _ => rfl))) (de_ix (de_var 1 (pv 1)) de_int (fun _ _ => rfl))))
  (dss_cons (ds_asg (de_lc (own := [("_law_top", 12), ("_law_under", 13)]) rfl sc_law_round.nd (di_seq (de_tup (da_cons (de_ix (de_var 0 (pv 0)) de_int (fun _ _ => rfl)) (da_cons (de_ix (de_var 0 (pv 0)) de_int (fun _ _ => rfl)) (da_cons (de_var 1 (pv 1)) da_nil))))) (blkOk_by (own := [("_law_top", 12), ("_law_under", 13)]) (N := N_law_round) (sc := defScope s_law_round) (by decide +kernel)) (tg_tup (is := [12, 13]) rfl (by decide)) (fun _ _ _ _ _ => pg_tup rfl (pgs_cons (pg_name (i := 12) sc_law_round.nd rfl (Or.inl rfl)) (pgs_cons (pg_name (i := 13) sc_law_round.nd rfl (Or.inl rfl)) pgs_nil))) (fun _ _ _ _ _ => (de_mul (de_var 12 (pv 12)) (de_div (de_var 3 (pv 3)) (de_var 13 (pv 13)))))) (dg_lstG rfl (dgs_cons (dg_name (i := 4) sc_law_round.nd rfl (by first | exact Or.inl rfl | exact Or.inr rfl)) (dgs_cons (dg_name (i := 5) sc_law_round.nd rfl (by first | exact Or.inl rfl | exact Or.inr rfl)) (dgs_cons (dg_name (i := 6) sc_law_round.nd rfl (by first | exact Or.inl rfl | exact Or.inr rfl)) dgs_nil)))))
  (dss_cons (ds_set (i := 7) sc_law_round.nd rfl (by first | exact Or.inl rfl | exact Or.inr rfl) (de_box da_nil))
  (dss_cons (ds_for (passes_of rfl) rfl (di_seq (de_tup (da_cons de_int (da_cons de_int da_nil)))) (dg_name (i := 8) sc_law_round.nd rfl (by first | exact Or.inl rfl | exact Or.inr rfl)) (dss_one (ds_for (passes_of rfl) rfl (di_seq (de_tup (da_cons de_int (da_cons de_int da_nil)))) (dg_name (i := 9) sc_law_round.nd rfl (by first | exact Or.inl rfl | exact Or.inr rfl)) (dss_cons (ds_set (i := 10) sc_law_round.nd rfl (by first | exact Or.inl rfl | exact Or.inr rfl) (de_sub (de_mul (de_add (de_ix (de_var 2 (pv 2)) de_int (fun _ _ => rfl)) (de_var 8 (pv 8))) (de_var 3 (pv 3))) (de_var 4 (pv 4))))
  (dss_cons (ds_set (i := 11) sc_law_round.nd rfl (by first | exact Or.inl rfl | exact Or.inr rfl) (de_sub (de_mul (de_add (de_ix (de_var 2 (pv 2)) de_int (fun _ _ => rfl)) (de_var 9 (pv 9))) (de_var 3 (pv 3))) (de_var 5 (pv 5))))
  (dss_one (ds_expr (de_appendE (de_var 7 (pv 7)) (de_le (de_add (de_mul (de_var 10 (pv 10)) (de_var 10 (pv 10))) (de_mul (de_var 11 (pv 11)) (de_var 11 (pv 11)))) (de_mul (de_var 6 (pv 6)) (de_var 6 (pv 6))))))))))))
  (dss_one (ds_ret (de_and (de_callB (cr_any rfl) sim_allE (by rfl) T.n_any PyProof.Rows.boot_any (da_cons (de_var 7 (pv 7)) da_nil)) (de_one (de_not (de_callB (cr_all rfl) sim_allE (by rfl) T.n_all PyProof.Rows.boot_all (da_cons (de_var 7 (pv 7)) da_nil)))))))))))
theorem ok_least_bottom (T : Tx K mg B) : FnD P w K mg base 2 (He.ga K "least_bottom") B.least_bottom ["fracs"] sp_least_bottom := by
  refine fn_D T.F_least_bottom sc_least_bottom len_least_bottom (fun cdv A outer s H E hr => ?_) pure_least_bottom
  exact (dss_cons (ds_set (i := 1) sc_least_bottom.nd rfl (by first | exact Or.inl rfl | exact Or.inr rfl) de_int)
  (dss_cons (ds_for (passes_of rfl) rfl (di_seq (de_var 0 (pv 0))) (dg_tup (is := [2, 3]) rfl (pg_tup rfl (pgs_cons (pg_name (i := 2) sc_least_bottom.nd rfl (by first | exact Or.inl rfl | exact Or.inr rfl)) (pgs_cons (pg_name (i := 3) sc_least_bottom.nd rfl (by first | exact Or.inl rfl | exact Or.inr rfl)) pgs_nil)))) (dss_one (ds_set (i := 1) sc_least_bottom.nd rfl (by first | exact Or.inl rfl | exact Or.inr rfl) (de_div (de_mul (de_var 1 (pv 1)) (de_var 3 (pv 3))) (de_call (ok_common T) (hr.mono (by decide)) (by rfl) T.m_common T.F_common.kp (b_common T) .nil (fun _ _ => .nil) (da_cons (de_lst (da_cons (de_var 1 (pv 1)) (da_cons (de_var 3 (pv 3)) da_nil))) da_nil))))))
  (dss_one (ds_ret (de_var 1 (pv 1))))))
theorem ok_law_box (T : Tx K mg B) : FnD P w K mg base 2 (He.ga K "_law_box") B.law_box ["_law_script", "_law_k"] sp_law_box := by
  refine fn_D T.F_law_box sc_law_box len_law_box (fun cdv A outer s H E hr => ?_) pure_law_box
  exact (dss_cons (ds_set (i := 2) sc_law_box.nd rfl (by first | exact Or.inl rfl | exact Or.inr rfl) (de_call (ok_law_cell_at T) (hr.mono (by decide)) (by rfl) T.m_law_cell_at T.F_law_cell_at.kp (b_law_cell_at T) .nil (fun _ _ => .nil) (da_cons (de_var 0 (pv 0)) (da_cons (de_var 1 (pv 1)) da_nil))))
  (dss_one (ds_ret (de_box (da_cons (de_mul (de_callB call_abs sim_abs (by rfl) T.n_abs PyProof.Rows.boot_abs (da_cons (de_var 2 (pv 2)) da_nil)) (de_callTy call_int1 sim_int (by rfl) T.n_int PyProof.Rows.boot_int (da_cons (de_ge (de_callB call_abs sim_abs (by rfl) T.n_abs PyProof.Rows.boot_abs (da_cons (de_var 2 (pv 2)) da_nil)) (de_pow de_int de_int)) da_nil))) (da_cons (de_add (de_add (de_mod (de_var 2 (pv 2)) de_int) (de_mul de_int (de_var 1 (pv 1)))) de_int) (da_cons de_int da_nil)))))))
theorem ok_law_of (T : Tx K mg B) : FnD P w K mg base 2 (He.ga K "_law_of") B.law_of ["_law_box_here", "_law_some"] sp_law_of := by
  refine fn_D T.F_law_of sc_law_of len_law_of (fun cdv A outer s H E hr => ?_) pure_law_of
  exact (dss_one (ds_ret (de_ixE (de_var 1 (pv 1)) (de_call (ok_law_take T) (hr.mono (by decide)) (by rfl) T.m_law_take T.F_law_take.kp (b_law_take T) .nil (fun _ _ => .nil) (da_cons (de_var 0 (pv 0)) (da_cons (de_callB call_len sim_lenE (by rfl) T.n_len PySem.boot_len (da_cons (de_var 1 (pv 1)) da_nil)) da_nil))) (fun _ _ => rfl))))
theorem ok_law_marked (T : Tx K mg B) : FnD P w K mg base 2 (He.ga K "_law_marked") B.law_marked ["_law_mark", "_law_spot"] sp_law_marked := by
  refine fn_D T.F_law_marked sc_law_marked len_law_marked (fun cdv A outer s H E hr => ?_) pure_law_marked
  exact (dss_cons (ds_if (dt_eqS (de_ix (de_var 0 (pv 0)) de_int (fun _ _ => rfl)) de_str) (dss_one (ds_ret (de_eq hr.units (de_var 1 (pv 1)) (de_tup (da_cons (de_div (de_ix (de_ix (de_ix (de_var 0 (pv 0)) de_int (fun _ _ => rfl)) de_int (fun _ _ => rfl)) de_int (fun _ _ => rfl)) (de_ix (de_ix (de_ix (de_var 0 (pv 0)) de_int (fun _ _ => rfl)) de_int (fun _ _ => rfl)) de_int (fun _ _ => rfl))) (da_cons (de_div (de_ix (de_ix (de_ix (de_var 0 (pv 0)) de_int (fun _ _ => rfl)) de_int (fun _ _ => rfl)) de_int (fun _ _ => rfl)) (de_ix (de_ix (de_ix (de_var 0 (pv 0)) de_int (fun _ _ => rfl)) de_int (fun _ _ => rfl)) de_int (fun _ _ => rfl))) da_nil)))))) dss_nil)
  (dss_one (ds_ret (de_if (dt_eqS (de_ix (de_var 0 (pv 0)) de_int (fun _ _ => rfl)) de_str) de_never (de_call (ok_law_round T) (hr.mono (by decide)) (by rfl) T.m_law_round T.F_law_round.kp (b_law_round T) .nil (fun _ _ => .nil) (da_cons (de_ix (de_var 0 (pv 0)) de_int (fun _ _ => rfl)) (da_cons (de_ix (de_var 0 (pv 0)) de_int (fun _ _ => rfl)) (da_cons (de_var 1 (pv 1)) da_nil))))))))
theorem ok_scaled (T : Tx K mg B) : FnD P w K mg base 3 (He.ga K "scaled") B.scaled ["fracs"] sp_scaled := by
  refine fn_D T.F_scaled sc_scaled len_scaled (fun cdv A outer s H E hr => ?_) pure_scaled
  exact (dss_cons (ds_set (i := 1) sc_scaled.nd rfl (by first | exact Or.inl rfl | exact Or.inr rfl) (de_call (ok_least_bottom T) (hr.mono (by decide)) (by rfl) T.m_least_bottom T.F_least_bottom.kp (b_least_bottom T) .nil (fun _ _ => .nil) (da_cons (de_var 0 (pv 0)) da_nil)))
  (dss_one (ds_ret (de_tup (da_cons (de_lc (own := [("top", 2), ("bottom", 3)]) rfl sc_scaled.nd (di_seq (de_var 0 (pv 0))) (blkOk_by (own := [("top", 2), ("bottom", 3)]) (N := N_scaled) (sc := defScope s_scaled) (by decide +kernel)) (tg_tup (is := [2, 3]) rfl (by decide)) (fun _ _ _ _ _ => pg_tup rfl (pgs_cons (pg_name (i := 2) sc_scaled.nd rfl (Or.inl rfl)) (pgs_cons (pg_name (i := 3) sc_scaled.nd rfl (Or.inl rfl)) pgs_nil))) (fun _ _ _ _ _ => (de_mul (de_var 2 (pv 2)) (de_div (de_var 1 (pv 1)) (de_var 3 (pv 3)))))) (da_cons (de_var 1 (pv 1)) da_nil))))))
theorem ok_law_same (T : Tx K mg B) : ∀ n : Nat, FnD P w K mg base n (He.ga K "_law_same") B.law_same ["_law_found", "_law_due"] (sp_law_same n)
  | 0 => ⟨fun vs H Q E h => by obtain ⟨_, _, _, _, _, _, _, z, _⟩ := h; exact (no_law_same z).elim, fun A outer s H args us vs Q E _ _ _ _ h => by obtain ⟨_, _, _, _, _, _, _, z, _⟩ := h; exact (no_law_same z).elim⟩
  | n + 1 => by
    have G : FnD P w K mg base n (He.ga K "_law_same") B.law_same ["_law_found", "_law_due"] (sp_law_same n) := ok_law_same T n
    refine fn_D T.F_law_same sc_law_same (len_law_same (n + 1)) (fun cdv A outer s H E hr => ?_) (pure_law_same n)
    exact (dss_cons (ds_if (dt_val (de_isi2 .list .tuple (by rfl) T.n_isinstance (de_var 1 (pv 1)) (pe_bltn (v := .ty (Ky.name Ky.list)) (by rfl) T.n_list PyProof.Rows.boot_list rfl) (pe_bltn (v := .ty (Ky.name Ky.tuple)) (by rfl) T.n_tuple PyProof.Rows.boot_tuple rfl))) (dss_cons (ds_if (dw_pt (dw_or (dt_ne hr.units (de_callB call_isi sim_isi (by rfl) T.n_isinstance PyProof.Rows.boot_isinstance (da_cons (de_var 0 (pv 0)) (da_cons (de_ty .list (by rfl) T.n_list PyProof.Rows.boot_list) da_nil))) (de_callB call_isi sim_isi (by rfl) T.n_isinstance PyProof.Rows.boot_isinstance (da_cons (de_var 1 (pv 1)) (da_cons (de_ty .list (by rfl) T.n_list PyProof.Rows.boot_list) da_nil)))) (dw_or1 (dt_ne hr.units (de_callB call_isi sim_isi (by rfl) T.n_isinstance PyProof.Rows.boot_isinstance (da_cons (de_var 0 (pv 0)) (da_cons (de_ty .tuple (by rfl) T.n_tuple PyProof.Rows.boot_tuple) da_nil))) (de_callB call_isi sim_isi (by rfl) T.n_isinstance PyProof.Rows.boot_isinstance (da_cons (de_var 1 (pv 1)) (da_cons (de_ty .tuple (by rfl) T.n_tuple PyProof.Rows.boot_tuple) da_nil))))))) (dss_one (ds_ret de_bl)) dss_nil)
  (dss_one (ds_ret (de_and (de_eq hr.units (de_callB call_len sim_len (by rfl) T.n_len PySem.boot_len (da_cons (de_var 0 (pv 0)) da_nil)) (de_callB call_len sim_len (by rfl) T.n_len PySem.boot_len (da_cons (de_var 1 (pv 1)) da_nil))) (de_one (de_callB (cr_all rfl) sim_all (by rfl) T.n_all PyProof.Rows.boot_all (da_cons (de_lc (own := [("_law_here", 2), ("_law_there", 3)]) rfl sc_law_same.nd (di_zip (by rfl) T.n_zip (da_cons (de_var 0 (pv 0)) (da_cons (de_var 1 (pv 1)) da_nil))) (blkOk_by (own := [("_law_here", 2), ("_law_there", 3)]) (N := N_law_same) (sc := defScope s_law_same) (by decide +kernel)) (tg_tup (is := [2, 3]) rfl (by decide)) (fun _ _ _ _ _ => pg_tup rfl (pgs_cons (pg_name (i := 2) sc_law_same.nd rfl (Or.inl rfl)) (pgs_cons (pg_name (i := 3) sc_law_same.nd rfl (Or.inl rfl)) pgs_nil))) (fun _ _ _ _ _ => (de_call G hr (by rfl) T.m_law_same T.F_law_same.kp (b_law_same T) .nil (fun _ _ => .nil) (da_cons (de_var 2 (pv 2)) (da_cons (de_var 3 (pv 3)) da_nil))))) da_nil))))))) dss_nil)
  (dss_cons (ds_if (dw_pt (dw_or (dt_ne hr.units (de_callB call_isi sim_isi (by rfl) T.n_isinstance PyProof.Rows.boot_isinstance (da_cons (de_var 0 (pv 0)) (da_cons (de_ty .bool (by rfl) T.n_bool PyProof.Rows.boot_bool) da_nil))) (de_callB call_isi sim_isi (by rfl) T.n_isinstance PyProof.Rows.boot_isinstance (da_cons (de_var 1 (pv 1)) (da_cons (de_ty .bool (by rfl) T.n_bool PyProof.Rows.boot_bool) da_nil)))) (dw_or1 (dt_ne hr.units (de_callB call_isi sim_isi (by rfl) T.n_isinstance PyProof.Rows.boot_isinstance (da_cons (de_var 0 (pv 0)) (da_cons (de_ty .int (by rfl) T.n_int PyProof.Rows.boot_int) da_nil))) (de_callB call_isi sim_isi (by rfl) T.n_isinstance PyProof.Rows.boot_isinstance (da_cons (de_var 1 (pv 1)) (da_cons (de_ty .int (by rfl) T.n_int PyProof.Rows.boot_int) da_nil))))))) (dss_one (ds_ret de_bl)) dss_nil)
  (dss_one (ds_ret (de_eq hr.units (de_var 0 (pv 0)) (de_var 1 (pv 1)))))))
theorem ok_law_draw (T : Tx K mg B) : FnD P w K mg base 3 (He.ga K "_law_draw") B.law_draw ["_law_box_here", "_law_top"] sp_law_draw := by
  refine fn_D T.F_law_draw sc_law_draw len_law_draw (fun cdv A outer s H E hr => ?_) pure_law_draw
  exact (dss_one (ds_ret (de_call (ok_law_frac T) (hr.mono (by decide)) (by rfl) T.m_law_frac T.F_law_frac.kp (b_law_frac T) .nil (fun _ _ => .nil) (da_cons (de_sub (de_call (ok_law_take T) (hr.mono (by decide)) (by rfl) T.m_law_take T.F_law_take.kp (b_law_take T) .nil (fun _ _ => .nil) (da_cons (de_var 0 (pv 0)) (da_cons (de_add (de_mul de_int (de_var 1 (pv 1))) de_int) da_nil))) (de_var 1 (pv 1))) (da_cons (de_call (ok_law_of T) (hr.mono (by decide)) (by rfl) T.m_law_of T.F_law_of.kp (b_law_of T) .nil (fun _ _ => .nil) (da_cons (de_var 0 (pv 0)) (da_cons (de_lst (da_cons de_int (da_cons de_int (da_cons de_int (da_cons de_int (da_cons de_int (da_cons de_int da_nil))))))) da_nil))) da_nil)))))
theorem ok_hoop_marks (T : Tx K mg B) : FnD P w K mg base 4 (He.ga K "hoop_marks") B.hoop_marks ["stroke", "cell"] sp_hoop_marks := by
  refine fn_D T.F_hoop_marks sc_hoop_marks len_hoop_marks (fun cdv A outer s H E hr => ?_) pure_hoop_marks
  exact (dss_cons (ds_asg (de_call (ok_scaled T) (hr.mono (by decide)) (by rfl) T.m_scaled T.F_scaled.kp (b_scaled T) .nil (fun _ _ => .nil) (da_cons (de_cat (de_callTy call_list_of sim_listOf (by rfl) T.n_list PyProof.Rows.boot_list (da_cons (de_ix (de_var 0 (pv 0)) de_int (fun _ _ => rfl)) da_nil)) (de_lst (da_cons (de_ix (de_var 0 (pv 0)) de_int (fun _ _ => rfl)) da_nil))) da_nil)) (dg_tupG rfl (dgs_cons (dg_lstG rfl (dgs_cons (dg_name (i := 2) sc_hoop_marks.nd rfl (by first | exact Or.inl rfl | exact Or.inr rfl)) (dgs_cons (dg_name (i := 3) sc_hoop_marks.nd rfl (by first | exact Or.inl rfl | exact Or.inr rfl)) (dgs_cons (dg_name (i := 4) sc_hoop_marks.nd rfl (by first | exact Or.inl rfl | exact Or.inr rfl)) dgs_nil)))) (dgs_cons (dg_name (i := 5) sc_hoop_marks.nd rfl (by first | exact Or.inl rfl | exact Or.inr rfl)) dgs_nil))))
  (dss_cons (ds_setLc2 (i := 6) (own := [("right", 9), ("up", 10)]) (vs1 := [10]) rfl sc_hoop_marks.nd rfl rfl (sw_true rfl rfl rfl (by decide +kernel)) (di_seq (de_tup (da_cons de_int (da_cons de_int da_nil)))) (blkOk_by (own := [("right", 9), ("up", 10)]) (N := N_hoop_marks) (sc := defScope s_hoop_marks) (by decide +kernel)) (by decide) (tg_name (by decide)) (tg_name (by decide)) (fun _ _ _ _ _ => pg_name (i := 9) sc_hoop_marks.nd rfl (Or.inl rfl)) (fun _ _ _ _ _ => (di_seq (de_tup (da_cons de_int (da_cons de_int da_nil))))) (fun _ _ _ _ _ => pg_name (i := 10) sc_hoop_marks.nd rfl (Or.inl rfl)) (fun _ _ _ _ _ => (de_tup (da_cons (de_add (de_ix (de_var 1 (pv 1)) de_int (fun _ _ => rfl)) (de_var 9 (pv 9))) (da_cons (de_add (de_ix (de_var 1 (pv 1)) de_int (fun _ _ => rfl)) (de_var 10 (pv 10))) da_nil)))))
  (dss_cons (ds_setLc (i := 7) (own := [("one", 11), ("two", 12)]) rfl sc_hoop_marks.nd rfl rfl (sw_true rfl rfl rfl (by decide +kernel)) (di_seq (de_var 6 (pv 6))) (blkOk_by (own := [("one", 11), ("two", 12)]) (N := N_hoop_marks) (sc := defScope s_hoop_marks) (by decide +kernel)) (tg_tup (is := [11, 12]) rfl (by decide)) (fun _ _ _ _ _ => pg_tup rfl (pgs_cons (pg_name (i := 11) sc_hoop_marks.nd rfl (Or.inl rfl)) (pgs_cons (pg_name (i := 12) sc_hoop_marks.nd rfl (Or.inl rfl)) pgs_nil))) (fun _ _ _ _ _ => (de_tup (da_cons (de_sub (de_mul (de_var 11 (pv 11)) (de_var 5 (pv 5))) (de_var 2 (pv 2))) (da_cons (de_sub (de_mul (de_var 12 (pv 12)) (de_var 5 (pv 5))) (de_var 3 (pv 3))) da_nil)))))
  (dss_cons (ds_setLc (i := 8) (own := [("first", 13), ("second", 14)]) rfl sc_hoop_marks.nd rfl rfl (sw_true rfl rfl rfl (by decide +kernel)) (di_seq (de_var 7 (pv 7))) (blkOk_by (own := [("first", 13), ("second", 14)]) (N := N_hoop_marks) (sc := defScope s_hoop_marks) (by decide +kernel)) (tg_tup (is := [13, 14]) rfl (by decide)) (fun _ _ _ _ _ => pg_tup rfl (pgs_cons (pg_name (i := 13) sc_hoop_marks.nd rfl (Or.inl rfl)) (pgs_cons (pg_name (i := 14) sc_hoop_marks.nd rfl (Or.inl rfl)) pgs_nil))) (fun _ _ _ _ _ => (de_le (de_add (de_mul (de_var 13 (pv 13)) (de_var 13 (pv 13))) (de_mul (de_var 14 (pv 14)) (de_var 14 (pv 14)))) (de_mul (de_var 4 (pv 4)) (de_var 4 (pv 4))))))
  (dss_one (ds_ret (de_and (de_callB (cr_any rfl) sim_all (by rfl) T.n_any PyProof.Rows.boot_any (da_cons (de_var 8 (pv 8)) da_nil)) (de_one (de_not (de_callB (cr_all rfl) sim_all (by rfl) T.n_all PyProof.Rows.boot_all (da_cons (de_var 8 (pv 8)) da_nil)))))))))))
theorem ok_marks (T : Tx K mg B) : FnD P w K mg base 5 (He.ga K "marks") B.marks ["stroke", "cell"] sp_marks := by
  refine fn_D T.F_marks sc_marks len_marks (fun cdv A outer s H E hr => ?_) pure_marks
  exact (dss_cons (ds_if (dt_eqS (de_ix (de_var 0 (pv 0)) de_int (fun _ _ => rfl)) de_str) (dss_one (ds_ret (de_eq hr.units (de_callTy call_tuple_of sim_tupOf (by rfl) T.n_tuple PyProof.Rows.boot_tuple (da_cons (de_lc (own := [("number", 2)]) rfl sc_marks.nd (di_seq (de_ix (de_var 0 (pv 0)) de_int (fun _ _ => rfl))) (blkOk_by (own := [("number", 2)]) (N := N_marks) (sc := defScope s_marks) (by decide +kernel)) (tg_name (by decide)) (fun _ _ _ _ _ => pg_name (i := 2) sc_marks.nd rfl (Or.inl rfl)) (fun _ _ _ _ _ => (de_call (ok_floor_of T) (hr.mono (by decide)) (by rfl) T.m_floor_of T.F_floor_of.kp (b_floor_of T) .nil (fun _ _ => .nil) (da_cons (de_var 2 (pv 2)) da_nil)))) da_nil)) (de_callTy call_tuple_of sim_tupOf (by rfl) T.n_tuple PyProof.Rows.boot_tuple (da_cons (de_var 1 (pv 1)) da_nil))))) dss_nil)
  (dss_one (ds_ret (de_if (dt_eqS (de_ix (de_var 0 (pv 0)) de_int (fun _ _ => rfl)) de_str) (de_call (ok_string_marks T) (hr.mono (by decide)) (by rfl) T.m_string_marks T.F_string_marks.kp (b_string_marks T) .nil (fun _ _ => .nil) (da_cons (de_var 0 (pv 0)) (da_cons (de_var 1 (pv 1)) da_nil))) (de_call (ok_hoop_marks T) (hr.mono (by decide)) (by rfl) T.m_hoop_marks T.F_hoop_marks.kp (b_hoop_marks T) .nil (fun _ _ => .nil) (da_cons (de_var 0 (pv 0)) (da_cons (de_var 1 (pv 1)) da_nil)))))))
theorem body_law (T : Tx K mg B) (base : Heap) (cdv : Value) (s : Shared) (H : Hp) (E : XK) :
    DSs (cxOf (L2.CX P w) P w K mg base N_law "law" (defScope s_law) (He.ga K "law") cdv callerA [] s H E) (defBody s_law) g_law := by
  have hr : Room 5 (callerA.deeper (PyProof.Rows.envOfC "law" (defScope s_law) s.heap.objs.size (He.ga K "law") cdv)) := (show Room (5 + 1) callerA from ⟨rfl, by decide, by decide⟩).deeper _
  exact (dss_cons (ds_for (passes_of rfl) rfl (di_range1 (by rfl) T.n_range (da_cons (de_callB (call_max2 rfl) sim_max (by rfl) T.n_max PyProof.Rows.boot_max (da_cons de_int (da_cons (de_callB (call_min2 rfl) sim_min (by rfl) T.n_min PyProof.Rows.boot_min (da_cons (de_callB call_len sim_lenE (by rfl) T.n_len PySem.boot_len (da_cons (de_var 0 (pv 0)) da_nil)) (da_cons de_int da_nil))) da_nil))) da_nil)) (dg_name (i := 1) sc_law.nd rfl (by first | exact Or.inl rfl | exact Or.inr rfl)) (dss_cons (ds_set (i := 2) sc_law.nd rfl (by first | exact Or.inl rfl | exact Or.inr rfl) (de_call (ok_law_box T) (hr.mono (by decide)) (by rfl) T.m_law_box T.F_law_box.kp (b_law_box T) .nil (fun _ _ => .nil) (da_cons (de_var 0 (pv 0)) (da_cons (de_var 1 (pv 1)) da_nil))))
  (dss_one (ds_for (passes_of rfl) rfl (di_range1 (by rfl) T.n_range (da_cons de_int da_nil)) (dg_name (i := 3) sc_law.nd rfl (by first | exact Or.inl rfl | exact Or.inr rfl)) (dss_cons (ds_set (i := 4) sc_law.nd rfl (by first | exact Or.inl rfl | exact Or.inr rfl) (de_tup (da_cons (de_call (ok_law_draw T) (hr.mono (by decide)) (by rfl) T.m_law_draw T.F_law_draw.kp (b_law_draw T) .nil (fun _ _ => .nil) (da_cons (de_var 2 (pv 2)) (da_cons de_int da_nil))) (da_cons (de_call (ok_law_draw T) (hr.mono (by decide)) (by rfl) T.m_law_draw T.F_law_draw.kp (b_law_draw T) .nil (fun _ _ => .nil) (da_cons (de_var 2 (pv 2)) (da_cons de_int da_nil))) da_nil))))
  (dss_cons (ds_set (i := 5) sc_law.nd rfl (by first | exact Or.inl rfl | exact Or.inr rfl) (de_call (ok_law_of T) (hr.mono (by decide)) (by rfl) T.m_law_of T.F_law_of.kp (b_law_of T) .nil (fun _ _ => .nil) (da_cons (de_var 2 (pv 2)) (da_cons (de_lst (da_cons (de_call (ok_law_draw T) (hr.mono (by decide)) (by rfl) T.m_law_draw T.F_law_draw.kp (b_law_draw T) .nil (fun _ _ => .nil) (da_cons (de_var 2 (pv 2)) (da_cons de_int da_nil))) (da_cons (de_call (ok_law_draw T) (hr.mono (by decide)) (by rfl) T.m_law_draw T.F_law_draw.kp (b_law_draw T) .nil (fun _ _ => .nil) (da_cons (de_var 2 (pv 2)) (da_cons de_int da_nil))) (da_cons (de_tup (da_cons de_int (da_cons de_int da_nil))) (da_cons (de_tup (da_cons de_int (da_cons de_int da_nil))) (da_cons (de_tup (da_cons de_int (da_cons de_int da_nil))) da_nil)))))) da_nil))))
  (dss_cons (ds_if (dt_eq hr.units (de_call (ok_law_take T) (hr.mono (by decide)) (by rfl) T.m_law_take T.F_law_take.kp (b_law_take T) .nil (fun _ _ => .nil) (da_cons (de_var 2 (pv 2)) (da_cons de_int da_nil))) de_int) (dss_one (ds_par (i := 4) (j := 5) rfl sc_law.nd rfl rfl (by decide) rfl rfl (da_cons (de_tup (da_cons (de_tup (da_cons de_int (da_cons de_int da_nil))) (da_cons (de_tup (da_cons (de_neg de_int) (da_cons de_int da_nil))) da_nil))) (da_cons (de_call (ok_law_of T) (hr.mono (by decide)) (by rfl) T.m_law_of T.F_law_of.kp (b_law_of T) .nil (fun _ _ => .nil) (da_cons (de_var 2 (pv 2)) (da_cons (de_lst (da_cons (de_tup (da_cons de_int (da_cons de_int da_nil))) (da_cons (de_tup (da_cons (de_neg de_int) (da_cons de_int da_nil))) (da_cons (de_tup (da_cons de_int (da_cons de_int da_nil))) (da_cons (de_tup (da_cons de_int (da_cons de_int da_nil))) da_nil))))) da_nil))) da_nil)) (by rfl))) dss_nil)
  (dss_cons (ds_set (i := 6) sc_law.nd rfl (by first | exact Or.inl rfl | exact Or.inr rfl) (de_lst (da_cons (de_tup (da_cons de_str (da_cons de_str (da_cons de_str (da_cons (de_var 4 (pv 4)) (da_cons (de_var 5 (pv 5)) da_nil)))))) (da_cons (de_tup (da_cons de_str (da_cons de_str (da_cons de_str (da_cons (de_var 4 (pv 4)) da_nil))))) da_nil))))
  (dss_one (ds_for (passes_of rfl) rfl (di_range1 (by rfl) T.n_range (da_cons de_int da_nil)) (dg_name (i := 7) sc_law.nd rfl (by first | exact Or.inl rfl | exact Or.inr rfl)) (dss_cons (ds_par (i := 8) (j := 9) rfl sc_law.nd rfl rfl (by decide) rfl rfl (da_cons (de_div (de_ix (de_ix (de_var 4 (pv 4)) de_int (fun _ _ => rfl)) de_int (fun _ _ => rfl)) (de_ix (de_ix (de_var 4 (pv 4)) de_int (fun _ _ => rfl)) de_int (fun _ _ => rfl))) (da_cons (de_div (de_ix (de_ix (de_var 4 (pv 4)) de_int (fun _ _ => rfl)) de_int (fun _ _ => rfl)) (de_ix (de_ix (de_var 4 (pv 4)) de_int (fun _ _ => rfl)) de_int (fun _ _ => rfl))) da_nil)) (by rfl))
  (dss_cons (ds_set (i := 10) sc_law.nd rfl (by first | exact Or.inl rfl | exact Or.inr rfl) (de_tup (da_cons (de_sub (de_add (de_var 8 (pv 8)) (de_call (ok_law_take T) (hr.mono (by decide)) (by rfl) T.m_law_take T.F_law_take.kp (b_law_take T) .nil (fun _ _ => .nil) (da_cons (de_var 2 (pv 2)) (da_cons de_int da_nil)))) de_int) (da_cons (de_sub (de_add (de_var 9 (pv 9)) (de_call (ok_law_take T) (hr.mono (by decide)) (by rfl) T.m_law_take T.F_law_take.kp (b_law_take T) .nil (fun _ _ => .nil) (da_cons (de_var 2 (pv 2)) (da_cons de_int da_nil)))) de_int) da_nil))))
  (dss_cons (ds_set (i := 10) sc_law.nd rfl (by first | exact Or.inl rfl | exact Or.inr rfl) (de_call (ok_law_of T) (hr.mono (by decide)) (by rfl) T.m_law_of T.F_law_of.kp (b_law_of T) .nil (fun _ _ => .nil) (da_cons (de_var 2 (pv 2)) (da_cons (de_lst (da_cons (de_var 10 (pv 10)) (da_cons (de_var 10 (pv 10)) (da_cons (de_tup (da_cons (de_var 8 (pv 8)) (da_cons (de_var 9 (pv 9)) da_nil))) (da_cons (de_tup (da_cons (de_sub (de_var 8 (pv 8)) de_int) (da_cons (de_var 9 (pv 9)) da_nil))) (da_cons (de_tup (da_cons (de_var 8 (pv 8)) (da_cons (de_sub (de_var 9 (pv 9)) de_int) da_nil))) (da_cons (de_tup (da_cons (de_add (de_var 8 (pv 8)) de_int) (da_cons (de_var 9 (pv 9)) da_nil))) (da_cons (de_tup (da_cons (de_add (de_var 8 (pv 8)) de_int) (da_cons (de_add (de_var 9 (pv 9)) de_int) da_nil))) da_nil)))))))) da_nil))))
  (dss_cons (ds_setLc (i := 11) (own := [("_law_mark", 12)]) rfl sc_law.nd rfl rfl (sw_true rfl rfl rfl (by decide +kernel)) (di_seq (de_var 6 (pv 6))) (blkOk_by (own := [("_law_mark", 12)]) (N := N_law) (sc := defScope s_law) (by decide +kernel)) (tg_name (by decide)) (fun _ _ _ _ _ => pg_name (i := 12) sc_law.nd rfl (Or.inl rfl)) (fun _ _ _ _ _ => (de_call (ok_law_marked T) (hr.mono (by decide)) (by rfl) T.m_law_marked T.F_law_marked.kp (b_law_marked T) .nil (fun _ _ => .nil) (da_cons (de_var 12 (pv 12)) (da_cons (de_var 10 (pv 10)) da_nil)))))
  (dss_cons (ds_if (dt_not (dt_val (de_call (ok_law_same T 3) (hr.mono (by decide)) (by rfl) T.m_law_same T.F_law_same.kp (b_law_same T) .nil (fun _ _ => .nil) (da_cons (de_lc (own := [("_law_mark", 12)]) rfl sc_law.nd (di_seq (de_var 6 (pv 6))) (blkOk_by (own := [("_law_mark", 12)]) (N := N_law) (sc := defScope s_law) (by decide +kernel)) (tg_name (by decide)) (fun _ _ _ _ _ => pg_name (i := 12) sc_law.nd rfl (Or.inl rfl)) (fun _ _ _ _ _ => (de_call (ok_marks T) (hr.mono (by decide)) (by rfl) T.m_marks T.F_marks.kp (b_marks T) .nil (fun _ _ => .nil) (da_cons (de_var 12 (pv 12)) (da_cons (de_var 10 (pv 10)) da_nil))))) (da_cons (de_var 11 (pv 11)) da_nil))))) (dss_one (ds_ret de_bl)) dss_nil)
  (dss_one (ds_if (dt_not (dt_val (de_call (ok_law_same T 3) (hr.mono (by decide)) (by rfl) T.m_law_same T.F_law_same.kp (b_law_same T) .nil (fun _ _ => .nil) (da_cons (de_callK0 (ok_marks T) (hr.mono (by decide)) (by rfl) T.m_marks T.F_marks.kp (kb_marks_cell_stroke T) kw21_d (dk_cons (de_var 10 (pv 10)) (dk_cons (de_ix (de_var 6 (pv 6)) (de_mod (de_var 7 (pv 7)) de_int) (fun _ _ => rfl)) dk_nil))) (da_cons (de_ix (de_var 11 (pv 11)) (de_mod (de_var 7 (pv 7)) de_int) (fun _ _ => rfl)) da_nil))))) (dss_one (ds_ret de_bl)) dss_nil)))))))))))))))))
  (dss_one (ds_ret de_bl)))
end
def dd_floor_of : He.DefD := ⟨("floor_of", none), "floor_of", "floor_of", defArgs s_floor_of, defBody s_floor_of, defScope s_floor_of, [], []⟩
def dd_common : He.DefD := ⟨("common", none), "common", "common", defArgs s_common, defBody s_common, defScope s_common, [], []⟩
def dd_string_marks : He.DefD := ⟨("string_marks", none), "string_marks", "string_marks", defArgs s_string_marks, defBody s_string_marks, defScope s_string_marks, [], []⟩
def dd_law_cell_at : He.DefD := ⟨("_law_cell_at", none), "_law_cell_at", "_law_cell_at", defArgs s_law_cell_at, defBody s_law_cell_at, defScope s_law_cell_at, [], []⟩
def dd_law_take : He.DefD := ⟨("_law_take", none), "_law_take", "_law_take", defArgs s_law_take, defBody s_law_take, defScope s_law_take, [], []⟩
def dd_law_frac : He.DefD := ⟨("_law_frac", none), "_law_frac", "_law_frac", defArgs s_law_frac, defBody s_law_frac, defScope s_law_frac, [], []⟩
def dd_law_round : He.DefD := ⟨("_law_round", none), "_law_round", "_law_round", defArgs s_law_round, defBody s_law_round, defScope s_law_round, [], []⟩
def dd_least_bottom : He.DefD := ⟨("least_bottom", none), "least_bottom", "least_bottom", defArgs s_least_bottom, defBody s_least_bottom, defScope s_least_bottom, [], []⟩
def dd_law_box : He.DefD := ⟨("_law_box", none), "_law_box", "_law_box", defArgs s_law_box, defBody s_law_box, defScope s_law_box, [], []⟩
def dd_law_of : He.DefD := ⟨("_law_of", none), "_law_of", "_law_of", defArgs s_law_of, defBody s_law_of, defScope s_law_of, [], []⟩
def dd_law_marked : He.DefD := ⟨("_law_marked", none), "_law_marked", "_law_marked", defArgs s_law_marked, defBody s_law_marked, defScope s_law_marked, [], []⟩
def dd_scaled : He.DefD := ⟨("scaled", none), "scaled", "scaled", defArgs s_scaled, defBody s_scaled, defScope s_scaled, [], []⟩
def dd_law_same : He.DefD := ⟨("_law_same", none), "_law_same", "_law_same", defArgs s_law_same, defBody s_law_same, defScope s_law_same, [], []⟩
def dd_law_draw : He.DefD := ⟨("_law_draw", none), "_law_draw", "_law_draw", defArgs s_law_draw, defBody s_law_draw, defScope s_law_draw, [], []⟩
def dd_hoop_marks : He.DefD := ⟨("hoop_marks", none), "hoop_marks", "hoop_marks", defArgs s_hoop_marks, defBody s_hoop_marks, defScope s_hoop_marks, [], []⟩
def dd_marks : He.DefD := ⟨("marks", none), "marks", "marks", defArgs s_marks, defBody s_marks, defScope s_marks, [], []⟩
def dd_law : He.DefD := ⟨("law", none), "law", "law", defArgs s_law, defBody s_law, defScope s_law, [], []⟩
def hfn : List He.DefD := [dd_floor_of, dd_common, dd_string_marks, dd_law_cell_at, dd_law_take, dd_law_frac, dd_law_round, dd_least_bottom, dd_law_box, dd_law_of, dd_law_marked, dd_scaled, dd_law_same, dd_law_draw, dd_hoop_marks, dd_marks, dd_law]
def hfa : List He.Fa := [.glo "floor_of", .glo "common", .glo "string_marks", .glo "_law_cell_at", .glo "_law_take", .glo "_law_frac", .glo "_law_round", .glo "least_bottom", .glo "_law_box", .glo "_law_of", .glo "_law_marked", .glo "scaled", .glo "_law_same", .glo "_law_draw", .glo "hoop_marks", .glo "marks", .glo "law", .free "abs", .free "all", .free "any", .free "bool", .free "int", .free "isinstance", .free "len", .free "list", .free "max", .free "min", .free "range", .free "tuple", .free "zip"]
abbrev Rr : PySem.W.OpenRow := PySem.W.OpenLaw.row PySem.Challenge.rw_pegwishes_k47_cells_of_hoops_and_pegs
abbrev hk : PySem.W.Hook := He.hookD 4 hfa hfn
def ob (s : PySem.W.SharedT) : He.AlD := He.obsDG 4 hfa hfn (HandSHeadRun.getT s)
theorem ob_eq (s : PySem.W.SharedT) : ob s = hk.obs s.abs := He.obsDG_eq (HandSHeadRun.getT_eq s)
def names : List PySem.Str := ["floor_of", "common", "least_bottom", "scaled", "Span", "is_above", "cut_span", "string_marks", "hoop_marks", "marks", "_law_cell_at", "_law_box", "_law_take", "_law_same", "_law_of", "_law_frac", "_law_draw", "_law_ends", "_law_round", "_law_marked"]
theorem run_top (w : World) : HandSHeadRun.RunEq Rr (PySem.W.view Rr.prog [24]) hk ob 3000 names w := by
  intro os
  kernel_rfl
theorem facts {K : PySem.W.Frag} {h : Heap} {mg : Str → Option Value} (X : K.In h) (G : h.Ns mainGlobals mg) (c : He.SaysD hfa hfn K) : ∃ B : Fds, Tx K mg B := by
  obtain ⟨fd_0, F_0⟩ := c.def_ 0 (d := dd_floor_of) rfl
  obtain ⟨fd_1, F_1⟩ := c.def_ 1 (d := dd_common) rfl
  obtain ⟨fd_2, F_2⟩ := c.def_ 2 (d := dd_string_marks) rfl
  obtain ⟨fd_3, F_3⟩ := c.def_ 3 (d := dd_law_cell_at) rfl
  obtain ⟨fd_4, F_4⟩ := c.def_ 4 (d := dd_law_take) rfl
  obtain ⟨fd_5, F_5⟩ := c.def_ 5 (d := dd_law_frac) rfl
  obtain ⟨fd_6, F_6⟩ := c.def_ 6 (d := dd_law_round) rfl
  obtain ⟨fd_7, F_7⟩ := c.def_ 7 (d := dd_least_bottom) rfl
  obtain ⟨fd_8, F_8⟩ := c.def_ 8 (d := dd_law_box) rfl
  obtain ⟨fd_9, F_9⟩ := c.def_ 9 (d := dd_law_of) rfl
  obtain ⟨fd_10, F_10⟩ := c.def_ 10 (d := dd_law_marked) rfl
  obtain ⟨fd_11, F_11⟩ := c.def_ 11 (d := dd_scaled) rfl
  obtain ⟨fd_12, F_12⟩ := c.def_ 12 (d := dd_law_same) rfl
  obtain ⟨fd_13, F_13⟩ := c.def_ 13 (d := dd_law_draw) rfl
  obtain ⟨fd_14, F_14⟩ := c.def_ 14 (d := dd_hoop_marks) rfl
  obtain ⟨fd_15, F_15⟩ := c.def_ 15 (d := dd_marks) rfl
  obtain ⟨fd_16, F_16⟩ := c.def_ 16 (d := dd_law) rfl
  exact ⟨⟨fd_0, fd_1, fd_2, fd_3, fd_4, fd_5, fd_6, fd_7, fd_8, fd_9, fd_10, fd_11, fd_12, fd_13, fd_14, fd_15, fd_16⟩, ⟨F_0,
    He.glo_ok X G (c.fact 0 (f := .glo "floor_of") rfl),
    F_1,
    He.glo_ok X G (c.fact 1 (f := .glo "common") rfl),
    F_2,
    He.glo_ok X G (c.fact 2 (f := .glo "string_marks") rfl),
    F_3,
    He.glo_ok X G (c.fact 3 (f := .glo "_law_cell_at") rfl),
    F_4,
    He.glo_ok X G (c.fact 4 (f := .glo "_law_take") rfl),
    F_5,
    He.glo_ok X G (c.fact 5 (f := .glo "_law_frac") rfl),
    F_6,
    He.glo_ok X G (c.fact 6 (f := .glo "_law_round") rfl),
    F_7,
    He.glo_ok X G (c.fact 7 (f := .glo "least_bottom") rfl),
    F_8,
    He.glo_ok X G (c.fact 8 (f := .glo "_law_box") rfl),
    F_9,
    He.glo_ok X G (c.fact 9 (f := .glo "_law_of") rfl),
    F_10,
    He.glo_ok X G (c.fact 10 (f := .glo "_law_marked") rfl),
    F_11,
    He.glo_ok X G (c.fact 11 (f := .glo "scaled") rfl),
    F_12,
    He.glo_ok X G (c.fact 12 (f := .glo "_law_same") rfl),
    F_13,
    He.glo_ok X G (c.fact 13 (f := .glo "_law_draw") rfl),
    F_14,
    He.glo_ok X G (c.fact 14 (f := .glo "hoop_marks") rfl),
    F_15,
    He.glo_ok X G (c.fact 15 (f := .glo "marks") rfl),
    F_16,
    He.glo_ok X G (c.fact 16 (f := .glo "law") rfl),
    He.free_ok X G (c.fact 17 (f := .free "abs") rfl),
    He.free_ok X G (c.fact 18 (f := .free "all") rfl),
    He.free_ok X G (c.fact 19 (f := .free "any") rfl),
    He.free_ok X G (c.fact 20 (f := .free "bool") rfl),
    He.free_ok X G (c.fact 21 (f := .free "int") rfl),
    He.free_ok X G (c.fact 22 (f := .free "isinstance") rfl),
    He.free_ok X G (c.fact 23 (f := .free "len") rfl),
    He.free_ok X G (c.fact 24 (f := .free "list") rfl),
    He.free_ok X G (c.fact 25 (f := .free "max") rfl),
    He.free_ok X G (c.fact 26 (f := .free "min") rfl),
    He.free_ok X G (c.fact 27 (f := .free "range") rfl),
    He.free_ok X G (c.fact 28 (f := .free "tuple") rfl),
    He.free_ok X G (c.fact 29 (f := .free "zip") rfl)⟩⟩
end K47
open PySem PySem.W PySem.Calls PyProof.Rows
theorem PySem.Challenge.cw_pegwishes_k47_cells_of_hoops_and_pegs_holds : PySem.Challenge.rw_pegwishes_k47_cells_of_hoops_and_pegs.Holds := by
  w_on; o_law
  refine HandSHeadRun.head_any (r := OpenLaw.row PySem.Challenge.rw_pegwishes_k47_cells_of_hoops_and_pegs) (q := view (OpenLaw.row PySem.Challenge.rw_pegwishes_k47_cells_of_hoops_and_pegs).prog [24]) (H := K47.hk) (ob := K47.ob) (M := 3000) (loose := K47.names) (d := HandSHeadRun.topDef (OpenLaw.row PySem.Challenge.rw_pegwishes_k47_cells_of_hoops_and_pegs).prog 24) (kwd := []) K47.ob_eq
    (by kernel_rfl) (fun s => by kernel_rfl) K47.run_top (by kernel_rfl) (by kernel_rfl) (by kernel_rfl) (by rfl) (by first | assumption | decide +kernel) (by decide +kernel) ⟨rfl, rfl, rfl, rfl, rfl, by decide +kernel⟩ ?hw ?hc
  case hw => w_witness2
  case hc =>
    refine DL.walk_D (l := PySem.Challenge.rw_pegwishes_k47_cells_of_hoops_and_pegs) (n := 63) (k := 5) (x := "_law_script") rfl (by decide) (by kernel_rfl) ⟨rfl, by decide, by decide⟩ ?F
    intro w mg fa h Y G hmg0
    obtain ⟨K, KX, c⟩ := Y
    have hmg : mg ("law" : PySem.Str) = some (.ref fa) := by
      have e : (HandSHeadRun.topDef (OpenLaw.row PySem.Challenge.rw_pegwishes_k47_cells_of_hoops_and_pegs).prog 24).name = ("law" : PySem.Str) := by kernel_rfl
      rw [← e]
      exact hmg0
    obtain ⟨B, T⟩ := K47.facts KX G c
    have e := hmg.symm.trans T.m_law
    cases e
    have b := L2.FunD.bindsA (ps := ["_law_script"]) T.F_law fun _ _ _ _ _ _ us hl => match us, hl with | [_], _ => rfl
    exact ⟨K, B.law, _, _, _, _, _, _, _, K47.N_law, K47.g_law, KX, T.F_law, K47.sc_law, fun s v => b s [v] rfl, fun base _ _ cdv s H E => K47.body_law T base cdv s H E, K47.law_ok⟩
#print axioms PySem.Challenge.cw_pegwishes_k47_cells_of_hoops_and_pegs_holds

