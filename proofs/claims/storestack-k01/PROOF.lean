import PyProof.Rows.All
import Wide.All
import OpenK.AllK
import Wide.FinOn
import KE.KStateDown
import HandS.ForMost
import HandS.More
import HandS.WordsExc
import HandS.Defaults
import HandS.Exc
import HandS.Lambda
import HandS.EndBits
import HandS.EndTab
import HandS.HeadWalk
import HandS.Head0
import HandS.Head1
import HandS.Head2
import HandS.HeadEnd
import HandS.HeadHook1
import HandS.HeadHook2
import HandS.TupLe
import HandS.TupAny
import HandS.TupMul
import HandS.Style
import HandS.Wide
import HandS.SortKw
import HandS.CallSlots
import HandS.Replace
import HandS.Deep
import HandS.Zip
import HandS.Rev
import HandS.RevRange
import HandS.Dict
import HandS.Iter
import HandS.Text
import KE.GoesEnum
import KE.DataCmp
import KE.DataMinMax
import KE.SortData
import HandS.GenList
import HandS.AnyAll
import PyProof.ConsumeS
import PyProof.TupleOfGen
import HandS.HeadHook4
import HandS.WideMore
import KE.GoesMore
import PyProof.EnumMake
import PyProof.ListStr
import PyProof.CollectStr
import HandS.NestedK
import Lean
import PySem.Challenge.RW_storestack_k01_codes_of_rows
set_option Elab.async false
set_option linter.all false
set_option maxRecDepth 100000
set_option maxHeartbeats 4000000
namespace Mi
open PySem PySem.Spec PyProof.Rows L2

/-! ## values, cells, outcomes -/
inductive PV where
  | d (x : PyData)
  | r (n : Nat)
  | ls (xs : List PV)
  | tp (xs : List PV)
  | cl (k : Nat)
  | sc (ns : List Int)

inductive AO where
  | lst (xs : List PV)
  | dk (kvs : List (Key × PV))
  | dt (kvs : List (List Key × PV))
  | ins (c : Str) (fs : List (Str × PV))

abbrev Cells := List AO
abbrev Sl := List (Option PV)
inductive Out (α : Type) where
  | ok (a : α) (h : Cells)
  | ex (c : Str) (h : Cells)
  | bad
abbrev ME (α : Type) := Sl → Cells → Out α
inductive OS where
  | nx (e : Sl) (h : Cells)
  | rt (v : PV) (h : Cells)
  | bk (e : Sl) (h : Cells)
  | ct (e : Sl) (h : Cells)
  | ex (c : Str) (h : Cells)
  | bad
abbrev MS := Sl → Cells → OS

/-! ## how they lie in the abstract heap -/
def fz (m z : List Addr) (H : Hp) : Hp := fun a => if a ∈ m ∨ a ∈ z then none else H a
def NoTb (o : HO) : Prop := ∀ ps, o ≠ .tbl ps
theorem fz_some {m z : List Addr} {H : Hp} {a : Addr} {o : HO} (h : fz m z H a = some o) : a ∉ m ∧ a ∉ z ∧ H a = some o := by
  unfold fz at h
  split at h
  · cases h
  · rename_i q
    exact ⟨fun x => q (.inl x), fun x => q (.inr x), h⟩
theorem fz_of {m z : List Addr} {H : Hp} {a : Addr} {o : HO} (h1 : a ∉ m) (h2 : a ∉ z) (h : H a = some o) : fz m z H a = some o := by
  unfold fz
  rw [if_neg (fun q => q.elim h1 h2)]
  exact h

/-! data: lists that are tracked or locked, tuples -/
mutual
inductive DD (K : PySem.W.Frag) (F : Hp) : V → PyData → Prop
  | non : DD K F .non .none
  | bl (b : Bool) : DD K F (.bl b) (.bool b)
  | int (i : Int) : DD K F (.int i) (.int i)
  | str (x : Str) : DD K F (.str x) (.str x)
  | lst {a : Addr} {vs : List V} {ds : List PyData} : F a = some (.lst vs) → DDAll K F vs ds → DD K F (.ref a) (.list ds)
  | tup {a : Addr} {vs : List V} {ds : List PyData} : SqT K F a vs → DDAll K F vs ds → DD K F (.ref a) (.tuple ds)
inductive DDAll (K : PySem.W.Frag) (F : Hp) : List V → List PyData → Prop
  | nil : DDAll K F [] []
  | cons {v : V} {vs : List V} {d : PyData} {ds : List PyData} : DD K F v d → DDAll K F vs ds → DDAll K F (v :: vs) (d :: ds)
end
mutual
theorem DD.dp {K : PySem.W.Frag} {F : Hp} : ∀ {v : V} {x : PyData}, DD K F v x → Dp K F v x
  | _, _, .non => .non
  | _, _, .bl b => .bl b
  | _, _, .int i => .int i
  | _, _, .str x => .str x
  | _, _, .lst h t => .lst (.inl (.inl h)) (DD.dpAll t)
  | _, _, .tup h t => .tup h (DD.dpAll t)
theorem DD.dpAll {K : PySem.W.Frag} {F : Hp} : ∀ {vs : List V} {xs : List PyData}, DDAll K F vs xs → DpAll K F vs xs
  | _, _, .nil => .nil
  | _, _, .cons h t => .cons (DD.dp h) (DD.dpAll t)
end
mutual
inductive Rep (K : PySem.W.Frag) (m z : List Addr) (H : Hp) : PV → V → Prop
  | d {x : PyData} {v : V} : DD K (fz m z H) v x → x.canLay0 = true → Rep K m z H (.d x) v
  | r {n : Nat} {a : Addr} : m[n]? = some a → Rep K m z H (.r n) (.ref a)
  | ls {xs : List PV} {a : Addr} {vs : List V} : fz m z H a = some (.lst vs) → RepAll K m z H xs vs → Rep K m z H (.ls xs) (.ref a)
  | tp {xs : List PV} {a : Addr} {vs : List V} : SqT K (fz m z H) a vs → RepAll K m z H xs vs → Rep K m z H (.tp xs) (.ref a)
  | sc {ns : List Int} {a : Addr} : SqL K (fz m z H) a (ns.map V.int) → Rep K m z H (.sc ns) (.ref a)
inductive RepAll (K : PySem.W.Frag) (m z : List Addr) (H : Hp) : List PV → List V → Prop
  | nil : RepAll K m z H [] []
  | cons {x : PV} {v : V} {xs : List PV} {vs : List V} : Rep K m z H x v → RepAll K m z H xs vs → RepAll K m z H (x :: xs) (v :: vs)
end

/-- what is seen stays seen -/
def Vw (F F' : Hp) : Prop := ∀ a o, F a = some o → NoTb o → F' a = some o
theorem Vw.refl (F : Hp) : Vw F F := fun _ _ h _ => h
theorem Vw.trans {F G J : Hp} (a : Vw F G) (b : Vw G J) : Vw F J := fun c o h n => b c o (a c o h n) n
theorem Vw.fz (m z : List Addr) (H : Hp) : Vw (fz m z H) H := fun _ _ h _ => (fz_some h).2.2
theorem noTb_lst {xs : List V} : NoTb (.lst xs) := fun _ h => by cases h
theorem noTb_tup {xs : List V} : NoTb (.tup xs) := fun _ h => by cases h
theorem noTb_frz {o : Obj} {u : HO} : NoTb (.frz o u) := fun _ h => by cases h
theorem Rd.vw {F F' : Hp} {a : Addr} {xs : List V} (h : Rd F a (.lst xs)) (v : Vw F F') : Rd F' a (.lst xs) := by
  rcases h with h | ⟨o, h⟩
  · exact .inl (v _ _ h noTb_lst)
  · exact .inr ⟨o, v _ _ h noTb_frz⟩
theorem SqL.vw {K : PySem.W.Frag} {F F' : Hp} {a : Addr} {xs : List V} (h : SqL K F a xs) (v : Vw F F') : SqL K F' a xs := h.imp_left fun q => Rd.vw q v
theorem SqT.vw {K : PySem.W.Frag} {F F' : Hp} {a : Addr} {xs : List V} (h : SqT K F a xs) (v : Vw F F') : SqT K F' a xs := by
  rcases h with (h | ⟨o, h⟩) | h
  · exact .inl (.inl (v _ _ h noTb_tup))
  · exact .inl (.inr ⟨o, v _ _ h noTb_frz⟩)
  · exact .inr h
mutual
theorem DD.vw {K : PySem.W.Frag} {F F' : Hp} (w : Vw F F') : ∀ {v : V} {x : PyData}, DD K F v x → DD K F' v x
  | _, _, .non => .non
  | _, _, .bl b => .bl b
  | _, _, .int i => .int i
  | _, _, .str x => .str x
  | _, _, .lst h t => .lst (w _ _ h noTb_lst) (DD.vwAll w t)
  | _, _, .tup h t => .tup (SqT.vw h w) (DD.vwAll w t)
theorem DD.vwAll {K : PySem.W.Frag} {F F' : Hp} (w : Vw F F') : ∀ {vs : List V} {xs : List PyData}, DDAll K F vs xs → DDAll K F' vs xs
  | _, _, .nil => .nil
  | _, _, .cons h t => .cons (DD.vw w h) (DD.vwAll w t)
end

/-- from one state to a later one: cells come, what is not a cell stays -/
structure Nx (m z : List Addr) (H : Hp) (m' : List Addr) (H' : Hp) : Prop where
  pre : ∃ l, m' = m ++ l ∧ ∀ a ∈ l, H a = none
  kp : ∀ a o, a ∉ m → H a = some o → NoTb o → H' a = some o
  lv : ∀ a, H a ≠ none → H' a ≠ none
theorem Nx.refl (m z : List Addr) (H : Hp) : Nx m z H m H := ⟨⟨[], by simp, fun _ h => absurd h (by simp)⟩, fun _ _ _ h _ => h, fun _ h => h⟩
theorem Nx.trans {m z m1 m2 : List Addr} {H H1 H2 : Hp} (a : Nx m z H m1 H1) (b : Nx m1 z H1 m2 H2) : Nx m z H m2 H2 := by
  obtain ⟨l1, e1, n1⟩ := a.pre
  obtain ⟨l2, e2, n2⟩ := b.pre
  have no : ∀ c, H1 c = none → H c = none := fun c h => by
    cases q : H c with
    | none => rfl
    | some o => exact absurd h (a.lv c (by rw [q]; simp))
  refine ⟨⟨l1 ++ l2, by rw [e2, e1, List.append_assoc], fun c hc => ?_⟩, fun c o hc h n => ?_, fun c h => b.lv c (a.lv c h)⟩
  · rcases List.mem_append.mp hc with h | h
    · exact n1 c h
    · exact no c (n2 c h)
  · refine b.kp c o (fun q => ?_) (a.kp c o hc h n) n
    rw [e1] at q
    rcases List.mem_append.mp q with q | q
    · exact hc q
    · rw [n1 c q] at h; cases h
theorem Nx.vw {m z m' : List Addr} {H H' : Hp} (n : Nx m z H m' H') : Vw (fz m z H) (fz m' z H') := fun a o h nt => by
  obtain ⟨h1, h2, h3⟩ := fz_some h
  obtain ⟨l, e, nl⟩ := n.pre
  refine fz_of (fun q => ?_) h2 (n.kp a o h1 h3 nt)
  rw [e] at q
  rcases List.mem_append.mp q with q | q
  · exact h1 q
  · rw [nl a q] at h3; cases h3
theorem Nx.get {m z m' : List Addr} {H H' : Hp} (n : Nx m z H m' H') {i : Nat} {a : Addr} (h : m[i]? = some a) : m'[i]? = some a := by
  obtain ⟨l, e, _⟩ := n.pre
  rw [e, List.getElem?_append_left (List.getElem?_eq_some_iff.mp h).1]
  exact h
mutual
theorem Rep.vw {K : PySem.W.Frag} {m z m' z' : List Addr} {H H' : Hp} (w : Vw (fz m z H) (fz m' z' H')) (g : ∀ (i : Nat) (a : Addr), m[i]? = some a → m'[i]? = some a) : ∀ {x : PV} {v : V}, Rep K m z H x v → Rep K m' z' H' x v
  | _, _, .d h c => .d (DD.vw w h) c
  | _, _, .r h => .r (g _ _ h)
  | _, _, .ls h t => .ls (w _ _ h noTb_lst) (Rep.vwAll w g t)
  | _, _, .sc h => .sc (SqL.vw h w)
  | _, _, .tp h t => .tp (SqT.vw h w) (Rep.vwAll w g t)
theorem Rep.vwAll {K : PySem.W.Frag} {m z m' z' : List Addr} {H H' : Hp} (w : Vw (fz m z H) (fz m' z' H')) (g : ∀ (i : Nat) (a : Addr), m[i]? = some a → m'[i]? = some a) : ∀ {x : List PV} {v : List V}, RepAll K m z H x v → RepAll K m' z' H' x v
  | _, _, .nil => .nil
  | _, _, .cons h t => .cons (Rep.vw w g h) (Rep.vwAll w g t)
end
theorem Rep.nx {K : PySem.W.Frag} {m z m' : List Addr} {H H' : Hp} {x : PV} {v : V} (h : Rep K m z H x v) (n : Nx m z H m' H') : Rep K m' z H' x v := Rep.vw n.vw (fun _ _ q => n.get q) h
theorem RepAll.nx {K : PySem.W.Frag} {m z m' : List Addr} {H H' : Hp} {x : List PV} {v : List V} (h : RepAll K m z H x v) (n : Nx m z H m' H') : RepAll K m' z H' x v := Rep.vwAll n.vw (fun _ _ q => n.get q) h
theorem RepAll.length {K : PySem.W.Frag} {m z : List Addr} {H : Hp} : ∀ {xs : List PV} {vs : List V}, RepAll K m z H xs vs → xs.length = vs.length
  | _, _, .nil => rfl
  | _, _, .cons _ t => by simp [RepAll.length t]
theorem RepAll.append {K : PySem.W.Frag} {m z : List Addr} {H : Hp} : ∀ {xs ys : List PV} {vs ws : List V}, RepAll K m z H xs vs → RepAll K m z H ys ws → RepAll K m z H (xs ++ ys) (vs ++ ws)
  | _, _, _, _, .nil, s => s
  | _, _, _, _, .cons h t, s => .cons h (RepAll.append t s)
theorem RepAll.get {K : PySem.W.Frag} {m z : List Addr} {H : Hp} : ∀ {xs : List PV} {vs : List V} {i : Nat} {x : PV}, RepAll K m z H xs vs → xs[i]? = some x → ∃ v, vs[i]? = some v ∧ Rep K m z H x v
  | _, _, _, _, .nil, e => by simp at e
  | _, _, 0, _, .cons h _, e => by simp at e; subst e; exact ⟨_, rfl, h⟩
  | _, _, i + 1, x, .cons _ t, e => by
    obtain ⟨v, h1, h2⟩ := RepAll.get (i := i) (x := x) t (by simpa using e)
    exact ⟨v, by simpa using h1, h2⟩
theorem RepAll.get' {K : PySem.W.Frag} {m z : List Addr} {H : Hp} : ∀ {xs : List PV} {vs : List V} {i : Nat} {v : V}, RepAll K m z H xs vs → vs[i]? = some v → ∃ x, xs[i]? = some x ∧ Rep K m z H x v
  | _, _, _, _, .nil, e => by simp at e
  | _, _, 0, _, .cons h _, e => by simp at e; subst e; exact ⟨_, rfl, h⟩
  | _, _, i + 1, v, .cons _ t, e => by
    obtain ⟨x, h1, h2⟩ := RepAll.get' (i := i) (v := v) t (by simpa using e)
    exact ⟨x, by simpa using h1, h2⟩
theorem RepAll.set {K : PySem.W.Frag} {m z : List Addr} {H : Hp} {x : PV} {v : V} (r : Rep K m z H x v) : ∀ {xs : List PV} {vs : List V} (i : Nat), RepAll K m z H xs vs → RepAll K m z H (xs.set i x) (vs.set i v)
  | _, _, _, .nil => .nil
  | _, _, 0, .cons _ t => .cons r t
  | _, _, i + 1, .cons q t => .cons q (RepAll.set r i t)
theorem RepAll.take {K : PySem.W.Frag} {m z : List Addr} {H : Hp} : ∀ {xs : List PV} {vs : List V} (n : Nat), RepAll K m z H xs vs → RepAll K m z H (xs.take n) (vs.take n)
  | _, _, 0, _ => .nil
  | _, _, _ + 1, .nil => .nil
  | _, _, n + 1, .cons r t => .cons r (RepAll.take n t)
theorem RepAll.drop {K : PySem.W.Frag} {m z : List Addr} {H : Hp} : ∀ {xs : List PV} {vs : List V} (n : Nat), RepAll K m z H xs vs → RepAll K m z H (xs.drop n) (vs.drop n)
  | _, _, 0, r => r
  | _, _, _ + 1, .nil => .nil
  | _, _, n + 1, .cons _ t => RepAll.drop n t
/-- data all through -/
theorem RepAll.dp {K : PySem.W.Frag} {m z : List Addr} {H : Hp} : ∀ {xs : List PyData} {vs : List V}, RepAll K m z H (xs.map .d) vs → DDAll K (fz m z H) vs xs ∧ PyData.canLayAll0 xs = true
  | [], _, h => by cases h; exact ⟨.nil, by simp [PyData.canLayAll0]⟩
  | x :: xs, _, h => by
    cases h with
    | cons h t =>
      cases h with
      | d h c =>
        obtain ⟨t1, t2⟩ := RepAll.dp t
        exact ⟨.cons h t1, by simp [PyData.canLayAll0, c, t2]⟩
theorem RepAll.of_dp {K : PySem.W.Frag} {m z : List Addr} {H : Hp} : ∀ {xs : List PyData} {vs : List V}, DDAll K (fz m z H) vs xs → PyData.canLayAll0 xs = true → RepAll K m z H (xs.map .d) vs
  | [], _, h, _ => by cases h; exact .nil
  | x :: xs, _, h, c => by
    cases h with
    | cons h t =>
      simp only [PyData.canLayAll0, Bool.and_eq_true] at c
      exact .cons (.d h c.1) (RepAll.of_dp t c.2)

/-! ## the cells -/
def ORep (K : PySem.W.Frag) (m z : List Addr) (H : Hp) (a : Addr) : AO → Prop
  | .lst xs => ∃ vs, H a = some (.lst vs) ∧ RepAll K m z H xs vs
  | .dk kvs => ∃ ws, H a = some (.dK ws) ∧ kvs.map (·.1) = ws.map (·.1) ∧ RepAll K m z H (kvs.map (·.2)) (ws.map (·.2))
  | .dt kvs => ∃ ws, H a = some (.dT ws) ∧ kvs.map (·.1) = ws.map (·.1) ∧ RepAll K m z H (kvs.map (·.2)) (ws.map (·.2))
  | .ins c fs => ∃ dx ws, H a = some (.ins (He.ga K c) dx ws) ∧ fs.map (·.1) = ws.map (·.1) ∧ RepAll K m z H (fs.map (·.2)) (ws.map (·.2))
/-- the tables of code objects: c's table at P; lambdas' code objects bear the name q -/
structure Tb where
  c : Addr
  P : Addr
  q : Str
  lam : List (Nat × Nat)
def TbOk (H : Hp) (t : Tb) : Prop := ∃ ps : Array Value, H t.P = some (.tbl ps) ∧ TriplesOk ps.toList ∧
  ∀ (pos : Pos) (cv : Value), (pos.line, pos.col) ∈ t.lam → codeAmong pos ps.toList = some cv → ∃ c, cv = .ref c ∧ H c = some (LamX.CodeO c t.q)
theorem noTb_code {c : Addr} {q : Str} : NoTb (LamX.CodeO c q) := LamX.codeO_ne
structure HRel (K : PySem.W.Frag) (cs : List Tb) (m z : List Addr) (h : Cells) (H : Hp) : Prop where
  len : h.length = m.length
  nd : m.Nodup
  dz : ∀ a ∈ m, a ∉ z
  lv : ∀ a, a ∈ m ∨ a ∈ z → H a ≠ none
  obj : ∀ (n : Nat) (o : AO) (a : Addr), h[n]? = some o → m[n]? = some a → ORep K m z H a o
  tb : ∀ t ∈ cs, TbOk H t
  tm : ∀ t ∈ cs, t.P ∉ m
theorem ORep.nx {K : PySem.W.Frag} {m z m' : List Addr} {H H' : Hp} {a : Addr} {o : AO} (h : ORep K m z H a o) (n : Nx m z H m' H') (e : H' a = H a) : ORep K m' z H' a o := by
  cases o with
  | lst xs => obtain ⟨vs, h1, h2⟩ := h; exact ⟨vs, e.trans h1, h2.nx n⟩
  | dk kvs => obtain ⟨vs, h1, h2, h3⟩ := h; exact ⟨vs, e.trans h1, h2, h3.nx n⟩
  | dt kvs => obtain ⟨vs, h1, h2, h3⟩ := h; exact ⟨vs, e.trans h1, h2, h3.nx n⟩
  | ins c fs => obtain ⟨dx, vs, h1, h2, h3⟩ := h; exact ⟨dx, vs, e.trans h1, h2, h3.nx n⟩
theorem upd_of {H : Hp} {a b : Addr} {o u : HO} (hn : H b = none) (h : H a = some o) : upd H b u a = some o := by
  rw [upd_ne (ne_of_none h hn)]; exact h
theorem HRel.nm {K : PySem.W.Frag} {cs : List Tb} {m z : List Addr} {h : Cells} {H : Hp} (r : HRel K cs m z h H) {p : Addr} (hn : H p = none) : p ∉ m ∧ p ∉ z := ⟨fun q => r.lv p (.inl q) hn, fun q => r.lv p (.inr q) hn⟩
theorem TbOk.new {H : Hp} {p : Addr} {o : HO} {t : Tb} (h : TbOk H t) (hn : H p = none) : TbOk (upd H p o) t := by
  obtain ⟨ps, h1, h2, h3⟩ := h
  refine ⟨ps, upd_of hn h1, h2, fun pos cv hp hc => ?_⟩
  obtain ⟨c, e1, e2⟩ := h3 pos cv hp hc
  exact ⟨c, e1, upd_of hn e2⟩
/-- a new object that is no cell -/
theorem Nx.new {m z : List Addr} {H : Hp} {p : Addr} {o : HO} (hn : H p = none) : Nx m z H m (upd H p o) :=
  ⟨⟨[], by simp, fun _ h => absurd h (by simp)⟩, fun a u _ h _ => upd_of hn h, fun a h q => by
    cases e : H a with
    | none => exact h e
    | some u => rw [upd_of hn e] at q; cases q⟩
theorem HRel.new {K : PySem.W.Frag} {cs : List Tb} {m z : List Addr} {h : Cells} {H : Hp} {p : Addr} {o : HO} (r : HRel K cs m z h H) (hn : H p = none) : HRel K cs m z h (upd H p o) where
  len := r.len
  nd := r.nd
  dz := r.dz
  lv := fun a q => (Nx.new (m := m) (z := z) hn).lv a (r.lv a q)
  obj := fun n u a h1 h2 => (r.obj n u a h1 h2).nx (Nx.new hn) (upd_ne (fun e => (r.nm hn).1 (e ▸ List.mem_of_getElem? h2)))
  tb := fun t ht => (r.tb t ht).new hn
  tm := r.tm
/-- a new cell -/
theorem Nx.cell {m z : List Addr} {H : Hp} {p : Addr} {o : HO} (hn : H p = none) : Nx m z H (m ++ [p]) (upd H p o) :=
  ⟨⟨[p], rfl, fun a h => by rw [List.mem_singleton.mp h]; exact hn⟩, fun a u _ h _ => upd_of hn h, (Nx.new (m := m) (z := z) hn).lv⟩
theorem HRel.cell {K : PySem.W.Frag} {cs : List Tb} {m z : List Addr} {h : Cells} {H : Hp} {p : Addr} {o : HO} {u : AO} (r : HRel K cs m z h H) (hn : H p = none) (ho : ORep K (m ++ [p]) z (upd H p o) p u) : HRel K cs (m ++ [p]) z (h ++ [u]) (upd H p o) where
  len := by simp [r.len]
  nd := by
    refine List.nodup_append.mpr ⟨r.nd, List.pairwise_singleton _ _, fun a ha b hb e => ?_⟩
    rw [List.mem_singleton.mp hb] at e
    exact (r.nm hn).1 (e ▸ ha)
  dz := fun a ha => by
    rcases List.mem_append.mp ha with q | q
    · exact r.dz a q
    · rw [List.mem_singleton.mp q]; exact (r.nm hn).2
  lv := fun a q => by
    by_cases e : a = p
    · rw [e, upd_same]; simp
    · rw [upd_ne e]
      refine r.lv a (q.imp_left fun q => ?_)
      rcases List.mem_append.mp q with q | q
      · exact q
      · exact absurd (List.mem_singleton.mp q) e
  obj := fun n w a h1 h2 => by
    by_cases hl : n < h.length
    · rw [List.getElem?_append_left hl] at h1
      rw [List.getElem?_append_left (by rw [← r.len]; exact hl)] at h2
      exact (r.obj n w a h1 h2).nx (Nx.cell hn) (upd_ne (fun e => (r.nm hn).1 (e ▸ List.mem_of_getElem? h2)))
    · have e : n = h.length := by
        have := (List.getElem?_eq_some_iff.mp h1).1
        simp at this
        omega
      subst e
      rw [List.getElem?_append_right (Nat.le_refl _), Nat.sub_self] at h1
      rw [r.len, List.getElem?_append_right (Nat.le_refl _), Nat.sub_self] at h2
      obtain rfl : u = w := by simpa using h1
      obtain rfl : p = a := by simpa using h2
      exact ho
  tb := fun t ht => (r.tb t ht).new hn
  tm := fun t ht q => by
    rcases List.mem_append.mp q with q | q
    · exact r.tm t ht q
    · obtain ⟨ps, h1, _⟩ := r.tb t ht
      rw [List.mem_singleton.mp q, hn] at h1
      cases h1
/-- a cell written -/
theorem Nx.wr {m z : List Addr} {H : Hp} {n : Nat} {a : Addr} {o : HO} (ha : m[n]? = some a) : Nx m z H m (upd H a o) :=
  ⟨⟨[], by simp, fun _ h => absurd h (by simp)⟩, fun b u hb h _ => by rw [upd_ne (fun (e : b = a) => hb (e ▸ List.mem_of_getElem? ha))]; exact h, fun b h => by
    by_cases e : b = a
    · rw [e, upd_same]; simp
    · rw [upd_ne e]; exact h⟩
theorem getElem?_inj_nodup {α : Type} {l : List α} (hN : l.Nodup) {i j : Nat} {x : α} (a : l[i]? = some x) (b : l[j]? = some x) : i = j := by
  obtain ⟨h1, e1⟩ := List.getElem?_eq_some_iff.mp a
  obtain ⟨h2, e2⟩ := List.getElem?_eq_some_iff.mp b
  exact (List.getElem_inj hN).mp (e1.trans e2.symm)
theorem HRel.wr {K : PySem.W.Frag} {cs : List Tb} {m z : List Addr} {h : Cells} {H : Hp} {n : Nat} {a : Addr} {o : HO} {u : AO} (r : HRel K cs m z h H) (ha : m[n]? = some a) (hc : ∀ c q, H a ≠ some (LamX.CodeO c q)) (ho : ORep K m z (upd H a o) a u) : HRel K cs m z (h.set n u) (upd H a o) where
  len := by simp [r.len]
  nd := r.nd
  dz := r.dz
  lv := fun b q => (Nx.wr (z := z) ha).lv b (r.lv b q)
  obj := fun i w b h1 h2 => by
    by_cases e : i = n
    · subst e
      rw [ha] at h2
      obtain rfl : a = b := Option.some.inj h2
      have hl : i < h.length := by rw [r.len]; exact (List.getElem?_eq_some_iff.mp ha).1
      rw [List.getElem?_set_self hl] at h1
      obtain rfl : u = w := Option.some.inj h1
      exact ho
    · rw [List.getElem?_set_ne (Ne.symm e)] at h1
      exact (r.obj i w b h1 h2).nx (Nx.wr ha) (upd_ne (fun q => e (getElem?_inj_nodup r.nd h2 (q ▸ ha))))
  tb := fun t ht => by
    obtain ⟨ps, h1, h2, h3⟩ := r.tb t ht
    refine ⟨ps, ?_, h2, fun pos cv hp hcv => ?_⟩
    · rw [upd_ne (fun (e : t.P = a) => r.tm t ht (e ▸ List.mem_of_getElem? ha))]; exact h1
    · obtain ⟨c, e1, e2⟩ := h3 pos cv hp hcv
      refine ⟨c, e1, ?_⟩
      rw [upd_ne (fun (e : c = a) => hc c t.q (e ▸ e2))]; exact e2
  tm := r.tm
theorem codeO_lst {c : Addr} {q : Str} {xs : List V} : LamX.CodeO c q ≠ .lst xs := fun e => by unfold LamX.CodeO at e; cases e
end Mi

set_option Elab.async false
set_option linter.all false
set_option maxRecDepth 100000
set_option maxHeartbeats 4000000
namespace Mi
open PySem PySem.Spec PyProof.Rows L2

/-! ## readings by outcomes -/
structure SRel (K : PySem.W.Frag) (m z : List Addr) (H : Hp) (e : Sl) (σ : L2.St) : Prop where
  len : e.length = σ.length
  at_ : ∀ (i : Nat) (p : PV), e[i]? = some (some p) → ∃ v, σ[i]? = some (some v) ∧ Rep K m z H p v
theorem SRel.nx {K : PySem.W.Frag} {m z m' : List Addr} {H H' : Hp} {e : Sl} {σ : L2.St} (s : SRel K m z H e σ) (n : Nx m z H m' H') : SRel K m' z H' e σ :=
  ⟨s.len, fun i p h => let ⟨v, h1, h2⟩ := s.at_ i p h; ⟨v, h1, h2.nx n⟩⟩
theorem SRel.put {K : PySem.W.Frag} {m z : List Addr} {H : Hp} {e : Sl} {σ : L2.St} {p : PV} {v : V} (s : SRel K m z H e σ) (i : Nat) (r : Rep K m z H p v) : SRel K m z H (e.set i (some p)) (σ.set i (some v)) := by
  refine ⟨by simp [s.len], fun j q h => ?_⟩
  by_cases hj : j = i
  · subst hj
    by_cases hl : j < e.length
    · rw [List.getElem?_set_self hl] at h
      obtain rfl : p = q := by simpa using h
      exact ⟨v, List.getElem?_set_self (by rw [← s.len]; exact hl), r⟩
    · rw [List.getElem?_eq_none (by simpa using hl)] at h
      cases h
  · rw [List.getElem?_set_ne (Ne.symm hj)] at h
    rw [List.getElem?_set_ne (Ne.symm hj)]
    exact s.at_ j q h

def Out.bind {α β : Type} (o : Out α) (g : α → Cells → Out β) : Out β := match o with
  | .ok a h => g a h
  | .ex c h => .ex c h
  | .bad => .bad
/-- what is wanted of an outcome -/
def Po {α : Type} (K : PySem.W.Frag) (cs : List Tb) (z : List Addr) (m : List Addr) (H : Hp) (R : α → Cells → List Addr → Hp → Prop) (Wx : Str → Hp → Prop) : Out α → Prop
  | .ok a h' => ∀ m' H', Nx m z H m' H' → HRel K cs m' z h' H' → R a h' m' H'
  | .ex c h' => ∀ m' H', Nx m z H m' H' → HRel K cs m' z h' H' → Wx c H'
  | .bad => False
section
variable {α β : Type} {K : PySem.W.Frag} {cs : List Tb} {z m m1 : List Addr} {H H1 : Hp} {R R' : α → Cells → List Addr → Hp → Prop} {Wx Wx' : Str → Hp → Prop}
theorem Po.step {o : Out α} (p : Po K cs z m H R Wx o) (n : Nx m z H m1 H1) : Po K cs z m1 H1 R Wx o := by
  cases o with
  | ok a h => exact fun m' H' n' r => p m' H' (n.trans n') r
  | ex c h => exact fun m' H' n' r => p m' H' (n.trans n') r
  | bad => exact p
theorem Po.imp {o : Out α} (p : Po K cs z m H R Wx o) (h : ∀ a h' m' H', Nx m z H m' H' → HRel K cs m' z h' H' → R a h' m' H' → R' a h' m' H') (hx : ∀ c H', Wx c H' → Wx' c H') : Po K cs z m H R' Wx' o := by
  cases o with
  | ok a h1 => exact fun m' H' n' r => h _ _ _ _ n' r (p m' H' n' r)
  | ex c h1 => exact fun m' H' n' r => hx _ _ (p m' H' n' r)
  | bad => exact p
theorem Po.bind {R2 : β → Cells → List Addr → Hp → Prop} {o : Out α} {g : α → Cells → Out β} (p : Po K cs z m H R2 Wx (o.bind g)) : Po K cs z m H (fun a h' m' H' => Po K cs z m' H' R2 Wx (g a h')) Wx o := by
  cases o with
  | ok a h1 => exact fun m' H' n' r => Po.step (o := g a h1) p n'
  | ex c h1 => exact p
  | bad => exact p
theorem Po.here {a : α} {h : Cells} (p : Po K cs z m H R Wx (.ok a h)) (r : HRel K cs m z h H) : R a h m H := p m H (Nx.refl _ _ _) r
end

/-- where a def's body stands: what is raised is wished for by W -/
abbrev WxE (K : PySem.W.Frag) (W : WX) (σ : L2.St) : Str → Hp → Prop := fun c H' => W (.ref (He.ga K c)) none σ H'
abbrev RxE (K : PySem.W.Frag) (z : List Addr) (Q : VK) : PV → Cells → List Addr → Hp → Prop := fun v _ m' H' => ∀ u, Rep K m' z H' v u → Q u H'
def tE (K : PySem.W.Frag) (cs : List Tb) (W : WX) (f : ME PV) : TE := fun σ H Q => ∃ m z e h, SRel K m z H e σ ∧ HRel K cs m z h H ∧ Po K cs z m H (RxE K z Q) (WxE K W σ) (f e h)
def tA (K : PySem.W.Frag) (cs : List Tb) (W : WX) (f : ME (List PV)) : TA := fun σ H Q => ∃ m z e h, SRel K m z H e σ ∧ HRel K cs m z h H ∧ Po K cs z m H (fun v _ m' H' => ∀ u, RepAll K m' z H' v u → Q u H') (WxE K W σ) (f e h)
def tT (K : PySem.W.Frag) (cs : List Tb) (W : WX) (f : ME Bool) : TT := fun σ H Q => ∃ m z e h, SRel K m z H e σ ∧ HRel K cs m z h H ∧ Po K cs z m H (fun b _ _ H' => Q b H') (WxE K W σ) (f e h)
def PoS (K : PySem.W.Frag) (cs : List Tb) (z : List Addr) (W : WX) (m : List Addr) (H : Hp) (D : Ends) : OS → Prop
  | .nx e' h' => ∀ m' σ' H', Nx m z H m' H' → HRel K cs m' z h' H' → SRel K m' z H' e' σ' → D.nx σ' H'
  | .bk e' h' => ∀ m' σ' H', Nx m z H m' H' → HRel K cs m' z h' H' → SRel K m' z H' e' σ' → D.bk σ' H'
  | .ct e' h' => ∀ m' σ' H', Nx m z H m' H' → HRel K cs m' z h' H' → SRel K m' z H' e' σ' → D.ct σ' H'
  | .rt v h' => ∀ m' u H', Nx m z H m' H' → HRel K cs m' z h' H' → Rep K m' z H' v u → D.rt u H'
  | .ex c h' => ∀ m' σ' H', Nx m z H m' H' → HRel K cs m' z h' H' → W (.ref (He.ga K c)) none σ' H'
  | .bad => False
def tS (K : PySem.W.Frag) (cs : List Tb) (W : WX) (f : MS) : TS := fun D σ H => ∃ m z e h, SRel K m z H e σ ∧ HRel K cs m z h H ∧ PoS K cs z W m H D (f e h)

/-- the judgements: a piece of syntax, what it does -/
abbrev SE (X : Cx) (cs : List Tb) (W : WX) (e : Expr) (f : ME PV) : Prop := PE X e (tE X.K cs W f)
abbrev SA (X : Cx) (cs : List Tb) (W : WX) (es : List Expr) (f : ME (List PV)) : Prop := PA X es (tA X.K cs W f)
abbrev ST (X : Cx) (cs : List Tb) (W : WX) (e : Expr) (f : ME Bool) : Prop := PT X e (tT X.K cs W f)
abbrev SS (X : Cx) (cs : List Tb) (W : WX) (st : Stmt) (f : MS) : Prop := PS X st (tS X.K cs W f)
abbrev SB (X : Cx) (cs : List Tb) (W : WX) (sts : List Stmt) (f : MS) : Prop := PSs X sts (tS X.K cs W f)

theorem pe_imp {X : Cx} {e : Expr} {t t' : TE} (h : PE X e t) (i : ∀ σ H Q, t' σ H Q → t σ H Q) : PE X e t' := ⟨fun pins s σ H Q I q => h.run pins s σ H Q I (i σ H Q q)⟩
theorem pt_imp {X : Cx} {e : Expr} {t t' : TT} (h : PT X e t) (i : ∀ σ H Q, t' σ H Q → t σ H Q) : PT X e t' := ⟨fun pins s σ H Q I q => h.run pins s σ H Q I (i σ H Q q)⟩
theorem pw_imp {X : Cx} {e : Expr} {t t' : TT} (h : PW X e t) (i : ∀ σ H Q, t' σ H Q → t σ H Q) : PW X e t' := ⟨fun wh pins s σ H Q I q => h.run wh pins s σ H Q I (i σ H Q q)⟩
theorem pa_imp {X : Cx} {e : List Expr} {t t' : TA} (h : PA X e t) (i : ∀ σ H Q, t' σ H Q → t σ H Q) : PA X e t' := ⟨fun pos pins s σ H Q I q => h.run pos pins s σ H Q I (i σ H Q q)⟩
theorem ps_imp {X : Cx} {e : Stmt} {t t' : TS} (h : PS X e t) (i : ∀ D σ H, t' D σ H → t D σ H) : PS X e t' := ⟨fun pins s σ H D I q => h.run pins s σ H D I (i D σ H q)⟩
theorem pss_imp {X : Cx} {e : List Stmt} {t t' : TS} (h : PSs X e t) (i : ∀ D σ H, t' D σ H → t D σ H) : PSs X e t' := ⟨fun pins s σ H D I q => h.run pins s σ H D I (i D σ H q)⟩

section
variable {X : Cx} {cs : List Tb} {W : WX}
/-- go on behind a first expression -/
theorem tE_then {f : ME PV} {β : Type} {g : PV → Cells → Out β} {σ : L2.St} {H : Hp} {m z : List Addr} {e : Sl} {h : Cells} {R : β → Cells → List Addr → Hp → Prop} {K : PySem.W.Frag} {Q : VK}
    (hs : SRel K m z H e σ) (hh : HRel K cs m z h H) (p : Po K cs z m H R (WxE K W σ) ((f e h).bind g))
    (k : ∀ v h1 m1 H1 u, SRel K m1 z H1 e σ → HRel K cs m1 z h1 H1 → Rep K m1 z H1 v u → Nx m z H m1 H1 → Po K cs z m1 H1 R (WxE K W σ) (g v h1) → Q u H1) : tE K cs W f σ H Q :=
  ⟨m, z, e, h, hs, hh, p.bind.imp (fun v h1 m1 H1 n r q u ru => k v h1 m1 H1 u (hs.nx n) r ru n q) fun _ _ q => q⟩
theorem tA_then {f : ME (List PV)} {β : Type} {g : List PV → Cells → Out β} {σ : L2.St} {H : Hp} {m z : List Addr} {e : Sl} {h : Cells} {R : β → Cells → List Addr → Hp → Prop} {K : PySem.W.Frag} {Q : List V → Hp → Prop}
    (hs : SRel K m z H e σ) (hh : HRel K cs m z h H) (p : Po K cs z m H R (WxE K W σ) ((f e h).bind g))
    (k : ∀ v h1 m1 H1 u, SRel K m1 z H1 e σ → HRel K cs m1 z h1 H1 → RepAll K m1 z H1 v u → Nx m z H m1 H1 → Po K cs z m1 H1 R (WxE K W σ) (g v h1) → Q u H1) : tA K cs W f σ H Q :=
  ⟨m, z, e, h, hs, hh, p.bind.imp (fun v h1 m1 H1 n r q u ru => k v h1 m1 H1 u (hs.nx n) r ru n q) fun _ _ q => q⟩
theorem tT_then {f : ME Bool} {β : Type} {g : Bool → Cells → Out β} {σ : L2.St} {H : Hp} {m z : List Addr} {e : Sl} {h : Cells} {R : β → Cells → List Addr → Hp → Prop} {K : PySem.W.Frag} {Q : Bool → Hp → Prop}
    (hs : SRel K m z H e σ) (hh : HRel K cs m z h H) (p : Po K cs z m H R (WxE K W σ) ((f e h).bind g))
    (k : ∀ v h1 m1 H1, SRel K m1 z H1 e σ → HRel K cs m1 z h1 H1 → Nx m z H m1 H1 → Po K cs z m1 H1 R (WxE K W σ) (g v h1) → Q v H1) : tT K cs W f σ H Q :=
  ⟨m, z, e, h, hs, hh, p.bind.imp (fun v h1 m1 H1 n r q => k v h1 m1 H1 (hs.nx n) r n q) fun _ _ q => q⟩

/-! ### names, constants -/
def mV (i : Nat) : ME PV := fun e h => match e[i]? with
  | some (some p) => .ok p h
  | _ => .bad
def mK (p : PV) : ME PV := fun _ h => .ok p h
theorem s_var {i : Nat} {x : Str} {pos : Pos} (hN : X.N[i]? = some x) (hv : Vis X.env.scope x) (hd : (x == ("__debug__" : Str)) = false := by decide) (hcd : (x == ("__classdict__" : Str)) = false := by decide) : SE X cs W (.Name x pos) (mV i) :=
  pe_imp (pe_var hN hv hd hcd) fun σ H Q ⟨m, z, e, h, hs, hh, p⟩ => by
    unfold mV at p
    split at p
    · rename_i q eq
      obtain ⟨v, e1, r⟩ := hs.at_ i q eq
      exact ⟨v, e1, p.here hh v r⟩
    · exact p.elim
theorem tC_of {v : V} {x : PyData} (hd : ∀ K F, DD K F v x) (hc : x.canLay0 = true) {σ : L2.St} {H : Hp} {Q : VK} {K : PySem.W.Frag} (t : tE K cs W (mK (.d x)) σ H Q) : tC v σ H Q := by
  obtain ⟨m, z, e, h, hs, hh, p⟩ := t
  exact p.here hh v (.d (hd _ _) hc)
theorem s_int {i : Int} {j : Nat} {pos : Pos} : SE X cs W (.Constant (.int i) j pos) (mK (.d (.int i))) := pe_imp pe_int fun _ _ _ => tC_of (fun _ _ => .int i) rfl
theorem s_bl {b : Bool} {j : Nat} {pos : Pos} : SE X cs W (.Constant (.bool b) j pos) (mK (.d (.bool b))) := pe_imp pe_bl fun _ _ _ => tC_of (fun _ _ => .bl b) rfl
theorem s_non {j : Nat} {pos : Pos} : SE X cs W (.Constant .none j pos) (mK (.d .none)) := pe_imp pe_non fun _ _ _ => tC_of (fun _ _ => .non) rfl
theorem s_str {x : Str} {j : Nat} {pos : Pos} (hx : PyData.strOk x = true := by decide) : SE X cs W (.Constant (.str x) j pos) (mK (.d (.str x))) := pe_imp pe_str fun _ _ _ => tC_of (fun _ _ => .str x) (by simpa [PyData.canLay0] using hx)
theorem s_gint {x : Str} {i : Int} {pos : Pos} (hg : Gl X x) (hm : ∃ t, X.mg x = some (.int i t)) (hd : (x == ("__debug__" : Str)) = false := by decide) : SE X cs W (.Name x pos) (mK (.d (.int i))) := by
  obtain ⟨t, hm⟩ := hm
  exact pe_imp (pe_glob (v := .int i) hg hm ⟨t, rfl⟩ hd) fun _ _ _ => tC_of (fun _ _ => .int i) rfl
theorem s_gstr {x y : Str} {pos : Pos} (hg : Gl X x) (hm : ∃ t, X.mg x = some (.str y t)) (hy : PyData.strOk y = true) (hd : (x == ("__debug__" : Str)) = false := by decide) : SE X cs W (.Name x pos) (mK (.d (.str y))) := by
  obtain ⟨t, hm⟩ := hm
  exact pe_imp (pe_glob (v := .str y) hg hm ⟨t, rfl⟩ hd) fun _ _ _ => tC_of (fun _ _ => .str y) (by simpa [PyData.canLay0] using hy)

/-! ### two values, an operation -/
/-- the operation's rule by values asks no more than its outcome says -/
def Br (K : PySem.W.Frag) (cs : List Tb) (r : R2) (g : PV → PV → Cells → Out PV) : Prop :=
  ∀ m z H h v w u1 u2 Q Wx, HRel K cs m z h H → Rep K m z H v u1 → Rep K m z H w u2 → Po K cs z m H (RxE K z Q) Wx (g v w h) → r u1 u2 H Q
def mBin (g : PV → PV → Cells → Out PV) (f1 f2 : ME PV) : ME PV := fun e h => (f1 e h).bind fun v h1 => (f2 e h1).bind fun w h2 => g v w h2
theorem tE_bin {r : R2} {g : PV → PV → Cells → Out PV} {f1 f2 : ME PV} {K : PySem.W.Frag} (b : Br K cs r g) {σ : L2.St} {H : Hp} {Q : VK} (t : tE K cs W (mBin g f1 f2) σ H Q) : tOp r (tE K cs W f1) (tE K cs W f2) σ H Q := by
  obtain ⟨m, z, e, h, hs, hh, p⟩ := t
  refine tE_then hs hh p fun v h1 m1 H1 u hs1 hh1 r1 n1 p1 => ?_
  refine tE_then hs1 hh1 p1 fun w h2 m2 H2 u2 hs2 hh2 r2 n2 p2 => ?_
  exact b m2 z H2 h2 v w u u2 Q _ hh2 (r1.nx n2) r2 p2
theorem s_op {op : Operator} {a b : Expr} {pos : Pos} {r : R2} {g : PV → PV → Cells → Out PV} {f1 f2 : ME PV} (ho : OpR X (binaryOp op) r) (hb : Br X.K cs r g) (ha : SE X cs W a f1) (hc : SE X cs W b f2) : SE X cs W (.BinOp a op b pos) (mBin g f1 f2) :=
  pe_imp (pe_op ho ha hc) fun _ _ _ => tE_bin hb
theorem s_cmp {op : CmpOp} {a b : Expr} {pos : Pos} {r : R2} {g : PV → PV → Cells → Out PV} {f1 f2 : ME PV} (ho : OpR X (compareOp op) r) (hb : Br X.K cs r g) (ha : SE X cs W a f1) (hc : SE X cs W b f2) (hm : behindInMarks op b = false) : SE X cs W (.Compare a [op] [b] pos) (mBin g f1 f2) :=
  pe_imp (pe_cmpR ho ha hc hm) fun _ _ _ => tE_bin hb
/-! ### tests -/
/-- a value as a test, where it is True or False -/
def mTb (f : ME PV) : ME Bool := fun e h => (f e h).bind fun v h1 => match v with
  | .d (.bool b) => .ok b h1
  | _ => .bad
theorem tT_val {f : ME PV} {K : PySem.W.Frag} {σ : L2.St} {H : Hp} {Q : Bool → Hp → Prop} (t : tT K cs W (mTb f) σ H Q) : tB (tE K cs W f) σ H Q := by
  obtain ⟨m, z, e, h, hs, hh, p⟩ := t
  refine tE_then hs hh p fun v h1 m1 H1 u hs1 hh1 r1 n1 p1 => ?_
  split at p1
  · rename_i b
    cases r1 with
    | d hd _ =>
      cases hd
      exact ⟨b, rfl, p1.here hh1⟩
  · exact p1.elim
theorem s_val {e : Expr} {f : ME PV} (h : SE X cs W e f) (he : ∀ whole, isTrue e X.env whole = (do let v ← whole; standAt e.pos; holding [v] (truthy v)) := by intro _; rfl) : ST X cs W e (mTb f) := pt_imp (pt_val h he) fun _ _ _ => tT_val
/-- a comparison as a test -/
theorem s_tcmp {op : CmpOp} {a b : Expr} {pos : Pos} {r : R2} {g : PV → PV → Cells → Out PV} {f1 f2 : ME PV} (ho : OpR X (compareOp op) r) (hb : Br X.K cs r g) (ha : SE X cs W a f1) (hc : SE X cs W b f2) (hm : behindInMarks op b = false) : ST X cs W (.Compare a [op] [b] pos) (mTb (mBin g f1 f2)) :=
  pt_imp (pt_cmpR ho ha hc hm) fun σ H Q t => by
    obtain ⟨m, z, e, h, hs, hh, p⟩ := t
    refine tE_bin hb (g := g) (W := W) ⟨m, z, e, h, hs, hh, p.bind.imp (fun v h1 m1 H1 n r1 q u ru => ?_) fun _ _ q => q⟩
    split at q
    · rename_i b
      cases ru with
      | d hd _ =>
        cases hd
        exact ⟨b, rfl, q.here r1⟩
    · exact q.elim
def mNot (f : ME Bool) : ME Bool := fun e h => (f e h).bind fun b h1 => .ok (!b) h1
theorem s_not {a : Expr} {pos : Pos} {f : ME Bool} (ha : ST X cs W a f) : ST X cs W (.UnaryOp .Not a pos) (mNot f) := pt_imp (pt_not ha) fun σ H Q ⟨m, z, e, h, hs, hh, p⟩ =>
  tT_then hs hh p fun v h1 m1 H1 hs1 hh1 n1 p1 => p1.here hh1
def mAnd (f g : ME Bool) : ME Bool := fun e h => (f e h).bind fun b h1 => if b then g e h1 else .ok false h1
def mOr (f g : ME Bool) : ME Bool := fun e h => (f e h).bind fun b h1 => if b then .ok true h1 else g e h1
abbrev SW (X : Cx) (cs : List Tb) (W : WX) (e : Expr) (f : ME Bool) : Prop := PW X e (tT X.K cs W f)
theorem w_and1 {a : Expr} {pos : Pos} {f : ME Bool} (ha : ST X cs W a f) : SW X cs W (.BoolOp .And [a] pos) f := pw_and1 ha
theorem w_or1 {a : Expr} {pos : Pos} {f : ME Bool} (ha : ST X cs W a f) : SW X cs W (.BoolOp .Or [a] pos) f := pw_or1 ha
theorem w_and {a b : Expr} {rest : List Expr} {pos : Pos} {f g : ME Bool} (ha : ST X cs W a f) (hb : SW X cs W (.BoolOp .And (b :: rest) pos) g) : SW X cs W (.BoolOp .And (a :: b :: rest) pos) (mAnd f g) :=
  pw_imp (pw_and ha hb) fun σ H Q ⟨m, z, e, h, hs, hh, p⟩ => tT_then hs hh p fun v h1 m1 H1 hs1 hh1 n1 p1 => by
    cases v with
    | true => rw [if_pos rfl] at p1 ⊢; exact ⟨m1, z, e, h1, hs1, hh1, p1⟩
    | false => rw [if_neg (by decide)] at p1 ⊢; exact p1.here hh1
theorem w_or {a b : Expr} {rest : List Expr} {pos : Pos} {f g : ME Bool} (ha : ST X cs W a f) (hb : SW X cs W (.BoolOp .Or (b :: rest) pos) g) : SW X cs W (.BoolOp .Or (a :: b :: rest) pos) (mOr f g) :=
  pw_imp (pw_or ha hb) fun σ H Q ⟨m, z, e, h, hs, hh, p⟩ => tT_then hs hh p fun v h1 m1 H1 hs1 hh1 n1 p1 => by
    cases v with
    | true => rw [if_pos rfl] at p1 ⊢; exact p1.here hh1
    | false => rw [if_neg (by decide)] at p1 ⊢; exact ⟨m1, z, e, h1, hs1, hh1, p1⟩
theorem s_w {e : Expr} {f : ME Bool} (h : SW X cs W e f) : ST X cs W e f := h.pt
/-! as values: all but the last are True or False -/
def mAndV (f g : ME PV) : ME PV := fun e h => (mTb f e h).bind fun b h1 => if b then g e h1 else .ok (.d (.bool false)) h1
def mOrV (f g : ME PV) : ME PV := fun e h => (mTb f e h).bind fun b h1 => if b then .ok (.d (.bool true)) h1 else g e h1
def mNotV (f : ME PV) : ME PV := fun e h => (mTb f e h).bind fun b h1 => .ok (.d (.bool !b)) h1
theorem tE_tb {f : ME PV} {β : Type} {g : Bool → Cells → Out β} {σ : L2.St} {H : Hp} {m z : List Addr} {e : Sl} {h : Cells} {R : β → Cells → List Addr → Hp → Prop} {K : PySem.W.Frag} {Q : VK}
    (hs : SRel K m z H e σ) (hh : HRel K cs m z h H) (p : Po K cs z m H R (WxE K W σ) ((mTb f e h).bind g))
    (k : ∀ b h1 m1 H1, SRel K m1 z H1 e σ → HRel K cs m1 z h1 H1 → Nx m z H m1 H1 → Po K cs z m1 H1 R (WxE K W σ) (g b h1) → Q (.bl b) H1) : tE K cs W f σ H Q := by
  refine ⟨m, z, e, h, hs, hh, p.bind.bind.imp (fun v h1 m1 H1 n r q u ru => ?_) fun _ _ q => q⟩
  split at q
  · rename_i b
    cases ru with
    | d hd _ =>
      cases hd
      exact k b h1 m1 H1 (hs.nx n) r n (q.here r)
  · exact q.elim
theorem s_one {op : BoolOp} {a : Expr} {pos : Pos} {f : ME PV} (h : SE X cs W a f) : SE X cs W (.BoolOp op [a] pos) f := pe_one h
theorem s_andV {a b : Expr} {rest : List Expr} {pos : Pos} {f g : ME PV} (ha : SE X cs W a f) (hb : SE X cs W (.BoolOp .And (b :: rest) pos) g) : SE X cs W (.BoolOp .And (a :: b :: rest) pos) (mAndV f g) :=
  pe_imp (pe_and ha hb) fun σ H Q ⟨m, z, e, h, hs, hh, p⟩ => tE_tb hs hh p fun v h1 m1 H1 hs1 hh1 n1 p1 => by
    refine ⟨v, rfl, ?_⟩
    cases v with
    | true => rw [if_pos rfl] at p1 ⊢; exact ⟨m1, z, e, h1, hs1, hh1, p1⟩
    | false => rw [if_neg (by decide)] at p1 ⊢; exact p1.here hh1 _ (.d (.bl false) rfl)
theorem s_orV {a b : Expr} {rest : List Expr} {pos : Pos} {f g : ME PV} (ha : SE X cs W a f) (hb : SE X cs W (.BoolOp .Or (b :: rest) pos) g) : SE X cs W (.BoolOp .Or (a :: b :: rest) pos) (mOrV f g) :=
  pe_imp (pe_or ha hb) fun σ H Q ⟨m, z, e, h, hs, hh, p⟩ => tE_tb hs hh p fun v h1 m1 H1 hs1 hh1 n1 p1 => by
    refine ⟨v, rfl, ?_⟩
    cases v with
    | true => rw [if_pos rfl] at p1 ⊢; exact p1.here hh1 _ (.d (.bl true) rfl)
    | false => rw [if_neg (by decide)] at p1 ⊢; exact ⟨m1, z, e, h1, hs1, hh1, p1⟩
theorem s_notV {a : Expr} {pos : Pos} {f : ME PV} (ha : SE X cs W a f) : SE X cs W (.UnaryOp .Not a pos) (mNotV f) :=
  pe_imp (pe_not ha) fun σ H Q ⟨m, z, e, h, hs, hh, p⟩ => tE_tb hs hh p fun v h1 m1 H1 hs1 hh1 n1 p1 => ⟨v, rfl, p1.here hh1 _ (.d (.bl _) rfl)⟩
def mIfE (c : ME Bool) (f g : ME PV) : ME PV := fun e h => (c e h).bind fun b h1 => if b then f e h1 else g e h1
theorem s_ifE {c a b : Expr} {pos : Pos} {fc : ME Bool} {f g : ME PV} (hc : ST X cs W c fc) (ha : SE X cs W a f) (hb : SE X cs W b g) : SE X cs W (.IfExp c a b pos) (mIfE fc f g) :=
  pe_imp (pe_ifExp hc ha hb) fun σ H Q ⟨m, z, e, h, hs, hh, p⟩ => tT_then hs hh p fun v h1 m1 H1 hs1 hh1 n1 p1 => by
    cases v with
    | true => rw [if_pos rfl] at p1 ⊢; exact ⟨m1, z, e, h1, hs1, hh1, p1⟩
    | false => rw [if_neg (by decide)] at p1 ⊢; exact ⟨m1, z, e, h1, hs1, hh1, p1⟩
/-! ### argument lists -/
def aNil : ME (List PV) := fun _ h => .ok [] h
def aCons (f : ME PV) (g : ME (List PV)) : ME (List PV) := fun e h => (f e h).bind fun v h1 => (g e h1).bind fun vs h2 => .ok (v :: vs) h2
theorem s_nil : SA X cs W [] aNil := pa_imp pa_nil fun σ H Q ⟨m, z, e, h, hs, hh, p⟩ => p.here hh _ .nil
theorem s_cons {a : Expr} {es : List Expr} {f : ME PV} {g : ME (List PV)} (ha : SE X cs W a f) (hr : SA X cs W es g) (hs : starEach (a :: es) X.env = (false, eval a X.env) :: starEach es X.env := by rfl) : SA X cs W (a :: es) (aCons f g) :=
  pa_imp (pa_cons ha hr hs) fun σ H Q ⟨m, z, e, h, hs, hh, p⟩ => tE_then hs hh p fun v h1 m1 H1 u hs1 hh1 r1 n1 p1 =>
    tA_then hs1 hh1 p1 fun vs h2 m2 H2 us hs2 hh2 r2 n2 p2 => p2.here hh2 _ (.cons (r1.nx n2) r2)
end
end Mi

set_option Elab.async false
set_option linter.all false
set_option maxRecDepth 100000
set_option maxHeartbeats 4000000
namespace Mi
open PySem PySem.Spec PyProof.Rows L2

/-! ## lists and tuples by what they hold -/
def allD : List PV → Option (List PyData)
  | [] => some []
  | .d x :: r => (allD r).map (x :: ·)
  | _ :: _ => none
def mkL (xs : List PV) : PV := match allD xs with
  | some ds => .d (.list ds)
  | none => .ls xs
def mkT (xs : List PV) : PV := match allD xs with
  | some ds => .d (.tuple ds)
  | none => .tp xs
theorem allD_map (ds : List PyData) : allD (ds.map .d) = some ds := by
  induction ds with
  | nil => rfl
  | cons x r ih => simp [allD, ih]
theorem of_allD : ∀ {xs : List PV} {ds : List PyData}, allD xs = some ds → xs = ds.map .d
  | [], ds, h => by simp [allD] at h; simp [h]
  | .d x :: r, ds, h => by
    cases e : allD r with
    | none => simp [allD, e] at h
    | some es => simp [allD, e] at h; rw [← h, of_allD e]; rfl
  | .r _ :: _, _, h => by simp [allD] at h
  | .ls _ :: _, _, h => by simp [allD] at h
  | .tp _ :: _, _, h => by simp [allD] at h
  | .cl _ :: _, _, h => by simp [allD] at h
  | .sc _ :: _, _, h => by simp [allD] at h
theorem mkL_map (ds : List PyData) : mkL (ds.map .d) = .d (.list ds) := by unfold mkL; rw [allD_map]
theorem mkT_map (ds : List PyData) : mkT (ds.map .d) = .d (.tuple ds) := by unfold mkT; rw [allD_map]
def asL : PV → Cells → Option (List PV)
  | .d (.list ds), _ => some (ds.map .d)
  | .ls xs, _ => some xs
  | .r n, h => match h[n]? with
    | some (.lst xs) => some xs
    | _ => none
  | _, _ => none
def asT : PV → Option (List PV)
  | .d (.tuple ds) => some (ds.map .d)
  | .tp xs => some xs
  | _ => none
def asX : PV → Cells → Option PyData
  | .d x, _ => some x
  | .r n, h => match h[n]? with
    | some (.lst xs) => (allD xs).map .list
    | _ => none
  | _, _ => none
section
variable {K : PySem.W.Frag} {cs : List Tb} {m z : List Addr} {h : Cells} {H : Hp}
theorem HRel.get (hh : HRel K cs m z h H) {n : Nat} {o : AO} (e : h[n]? = some o) : ∃ a, m[n]? = some a ∧ ORep K m z H a o := by
  have hl : n < m.length := by rw [← hh.len]; exact (List.getElem?_eq_some_iff.mp e).1
  exact ⟨m[n], List.getElem?_eq_getElem hl, hh.obj n o _ e (List.getElem?_eq_getElem hl)⟩
theorem asL_rep (hh : HRel K cs m z h H) {v : PV} {u : V} {xs : List PV} (r : Rep K m z H v u) (e : asL v h = some xs) : ∃ a vs, u = .ref a ∧ H a = some (.lst vs) ∧ RepAll K m z H xs vs := by
  cases r with
  | d hd c =>
    cases hd with
    | lst hq ha =>
      obtain rfl : _ = xs := Option.some.inj e
      exact ⟨_, _, rfl, (fz_some hq).2.2, RepAll.of_dp ha (by simpa [PyData.canLay0] using c)⟩
    | _ => simp [asL] at e
  | r hn =>
    unfold asL at e
    simp only at e
    split at e
    · rename_i ys eq
      obtain rfl : ys = xs := Option.some.inj e
      obtain ⟨a, h1, vs, h2, h3⟩ := hh.get eq
      rw [hn] at h1
      obtain rfl := Option.some.inj h1
      exact ⟨_, vs, rfl, h2, h3⟩
    · cases e
  | ls hq ha =>
    obtain rfl : _ = xs := Option.some.inj e
    exact ⟨_, _, rfl, (fz_some hq).2.2, ha⟩
  | tp hq ha => simp [asL] at e
  | sc hq => simp [asL] at e
theorem asT_rep {v : PV} {u : V} {xs : List PV} (r : Rep K m z H v u) (e : asT v = some xs) : ∃ a vs, u = .ref a ∧ SqT K (fz m z H) a vs ∧ RepAll K m z H xs vs := by
  cases r with
  | d hd c =>
    cases hd with
    | tup hq ha =>
      obtain rfl : _ = xs := Option.some.inj e
      exact ⟨_, _, rfl, hq, RepAll.of_dp ha (by simpa [PyData.canLay0] using c)⟩
    | _ => simp [asT] at e
  | r hn => simp [asT] at e
  | ls hq ha => simp [asT] at e
  | tp hq ha =>
    obtain rfl : _ = xs := Option.some.inj e
    exact ⟨_, _, rfl, hq, ha⟩
  | sc hq => simp [asT] at e
theorem SqT.top {a : Addr} {vs : List V} (h : SqT K (fz m z H) a vs) : SqT K H a vs := SqT.vw h (Vw.fz m z H)
theorem asX_rep (hh : HRel K cs m z h H) {v : PV} {u : V} {x : PyData} (r : Rep K m z H v u) (e : asX v h = some x) : Dp K H u x ∧ x.canLay0 = true := by
  cases r with
  | d hd c =>
    obtain rfl : _ = x := Option.some.inj e
    exact ⟨(hd.vw (Vw.fz m z H)).dp, c⟩
  | r hn =>
    unfold asX at e
    simp only at e
    split at e
    · rename_i ys eq
      cases e2 : allD ys with
      | none => rw [e2] at e; cases e
      | some ds =>
        rw [e2] at e
        obtain rfl : PyData.list ds = x := Option.some.inj e
        obtain ⟨a, h1, vs, h2, h3⟩ := hh.get eq
        rw [hn] at h1
        obtain rfl := Option.some.inj h1
        rw [of_allD e2] at h3
        obtain ⟨h4, h5⟩ := h3.dp
        exact ⟨.lst (.inl (.inl h2)) (DD.dpAll (DD.vwAll (Vw.fz m z H) h4)), by simpa [PyData.canLay0] using h5⟩
    · cases e
  | ls hq ha => simp [asX] at e
  | tp hq ha => simp [asX] at e
  | sc hq => simp [asX] at e
/-- a new list, a new tuple that is no cell -/
theorem rep_newL (hh : HRel K cs m z h H) {xs : List PV} {vs : List V} {p : Addr} (r : RepAll K m z H xs vs) (hn : H p = none) : Rep K m z (upd H p (.lst vs)) (mkL xs) (.ref p) := by
  have n : Nx m z H m (upd H p (.lst vs)) := Nx.new hn
  have r' := r.nx n
  obtain ⟨h1, h2⟩ := hh.nm hn
  have hf : fz m z (upd H p (.lst vs)) p = some (.lst vs) := fz_of h1 h2 upd_same
  unfold mkL
  cases e : allD xs with
  | none => exact .ls hf r'
  | some ds =>
    rw [of_allD e] at r'
    obtain ⟨h3, h4⟩ := r'.dp
    exact .d (.lst hf h3) (by simpa [PyData.canLay0] using h4)
theorem rep_newT (hh : HRel K cs m z h H) {xs : List PV} {vs : List V} {p : Addr} (r : RepAll K m z H xs vs) (hn : H p = none) : Rep K m z (upd H p (.tup vs)) (mkT xs) (.ref p) := by
  have n : Nx m z H m (upd H p (.tup vs)) := Nx.new hn
  have r' := r.nx n
  obtain ⟨h1, h2⟩ := hh.nm hn
  have hf : fz m z (upd H p (.tup vs)) p = some (.tup vs) := fz_of h1 h2 upd_same
  unfold mkT
  cases e : allD xs with
  | none => exact .tp (.inl (.inl hf)) r'
  | some ds =>
    rw [of_allD e] at r'
    obtain ⟨h3, h4⟩ := r'.dp
    exact .d (.tup (.inl (.inl hf)) h3) (by simpa [PyData.canLay0] using h4)
theorem rep_tup {xs : List PV} {vs : List V} {p : Addr} (q : SqT K (fz m z H) p vs) (r : RepAll K m z H xs vs) : Rep K m z H (mkT xs) (.ref p) := by
  unfold mkT
  cases e : allD xs with
  | none => exact .tp q r
  | some ds =>
    rw [of_allD e] at r
    obtain ⟨h3, h4⟩ := r.dp
    exact .d (.tup q h3) (by simpa [PyData.canLay0] using h4)
/-- the end where a new object came -/
theorem Po.new {α : Type} {R : α → Cells → List Addr → Hp → Prop} {Wx : Str → Hp → Prop} {a : α} {p : Addr} {o : HO} (q : Po K cs z m H R Wx (.ok a h)) (hh : HRel K cs m z h H) (hn : H p = none) : R a h m (upd H p o) := q m _ (Nx.new hn) (hh.new hn)
end

/-! ## operations by values -/
theorem strOk_app {x y : Str} (a : PyData.strOk x = true) (b : PyData.strOk y = true) : PyData.strOk (x ++ y) = true := by
  unfold PyData.strOk at *
  show (x.cps ++ y.cps).all _ = true
  rw [Array.all_append, a, b]; rfl
theorem rep_int {K : PySem.W.Frag} {m z : List Addr} {H : Hp} {i : Int} {u : V} (r : Rep K m z H (.d (.int i)) u) : u = .int i := by
  cases r with
  | d h _ => cases h; rfl
theorem rep_bool {K : PySem.W.Frag} {m z : List Addr} {H : Hp} {i : Bool} {u : V} (r : Rep K m z H (.d (.bool i)) u) : u = .bl i := by
  cases r with
  | d h _ => cases h; rfl
theorem rep_none {K : PySem.W.Frag} {m z : List Addr} {H : Hp} {u : V} (r : Rep K m z H (.d .none) u) : u = .non := by
  cases r with
  | d h _ => cases h; rfl
theorem rep_str {K : PySem.W.Frag} {m z : List Addr} {H : Hp} {x : Str} {u : V} (r : Rep K m z H (.d (.str x)) u) : u = .str x ∧ PyData.strOk x = true := by
  cases r with
  | d h c => cases h; exact ⟨rfl, by simpa [PyData.canLay0] using c⟩
theorem rI_ {K : PySem.W.Frag} {m z : List Addr} {H : Hp} (i : Int) : Rep K m z H (.d (.int i)) (.int i) := .d (.int i) rfl
theorem rB_ {K : PySem.W.Frag} {m z : List Addr} {H : Hp} (i : Bool) : Rep K m z H (.d (.bool i)) (.bl i) := .d (.bl i) rfl
theorem rN_ {K : PySem.W.Frag} {m z : List Addr} {H : Hp} : Rep K m z H (.d .none) .non := .d .non rfl
theorem rS_ {K : PySem.W.Frag} {m z : List Addr} {H : Hp} {x : Str} (h : PyData.strOk x = true) : Rep K m z H (.d (.str x)) (.str x) := .d (.str x) (by simpa [PyData.canLay0] using h)

/-! ### + - -/
def opAdd (v w : PV) (h : Cells) : Out PV := match v, w with
  | .d (.int i), .d (.int j) => .ok (.d (.int (i + j))) h
  | .d (.str x), .d (.str y) => if x.length + y.length ≤ sizeLine then .ok (.d (.str (x ++ y))) h else .bad
  | v, w => match asL v h, asL w h with
    | some xs, some ys => if xs.length + ys.length ≤ sizeLine then .ok (mkL (xs ++ ys)) h else .bad
    | _, _ => match asT v, asT w with
      | some xs, some ys => if xs.length + ys.length ≤ sizeLine then .ok (mkT (xs ++ ys)) h else .bad
      | _, _ => .bad
def rAddM (K : PySem.W.Frag) : R2 := fun x y H Q => (rI0 fun i j => .int (i + j)) x y H Q ∨ (fun x y H Q => ∃ i j, x = V.str i ∧ y = V.str j ∧ i.length + j.length ≤ sizeLine ∧ Q (.str (i ++ j)) H) x y H Q ∨ rCat x y H Q ∨ rCatA K x y H Q
theorem op_addM {X : Cx} : OpR X (binaryOp .Add) (rAddM X.K) := op_add.or (op_add_str.or (op_cat.or op_catA))
theorem br_add {K : PySem.W.Frag} {cs : List Tb} : Br K cs (rAddM K) opAdd := by
  intro m z H h v w u1 u2 Q Wx hh r1 r2 p
  unfold opAdd at p
  split at p
  · rw [rep_int r1, rep_int r2]
    exact .inl ⟨_, _, rfl, rfl, p.here hh _ (rI_ _)⟩
  · split at p
    · rename_i hz
      obtain ⟨e1, o1⟩ := rep_str r1
      obtain ⟨e2, o2⟩ := rep_str r2
      rw [e1, e2]
      exact .inr (.inl ⟨_, _, rfl, rfl, hz, p.here hh _ (rS_ (strOk_app o1 o2))⟩)
    · exact p.elim
  · split at p
    · rename_i xs ys ex ey
      obtain ⟨a, vs, rfl, q1, t1⟩ := asL_rep hh r1 ex
      obtain ⟨b, ws, rfl, q2, t2⟩ := asL_rep hh r2 ey
      split at p
      · rename_i hz
        rw [t1.length, t2.length] at hz
        exact .inr (.inr (.inl ⟨a, b, vs, ws, rfl, rfl, q1, q2, hz, fun pp hn => Po.new p hh hn _ (rep_newL hh (t1.append t2) hn)⟩))
      · exact p.elim
    · split at p
      · rename_i xs ys ex ey
        obtain ⟨a, vs, rfl, q1, t1⟩ := asT_rep r1 ex
        obtain ⟨b, ws, rfl, q2, t2⟩ := asT_rep r2 ey
        split at p
        · rename_i hz
          rw [t1.length, t2.length] at hz
          refine .inr (.inr (.inr ⟨a, b, vs, ws, rfl, rfl, SqT.top q1, SqT.top q2, hz, fun e => ?_, fun _ e => ?_, fun _ _ pp hn => Po.new p hh hn _ (rep_newT hh (t1.append t2) hn)⟩))
          · subst e
            cases t1
            exact p.here hh _ (rep_tup q2 t2)
          · subst e
            cases t2
            rw [List.append_nil] at p
            exact p.here hh _ (rep_tup q1 t1)
        · exact p.elim
      · exact p.elim
def opSub (v w : PV) (h : Cells) : Out PV := match v, w with
  | .d (.int i), .d (.int j) => .ok (.d (.int (i - j))) h
  | _, _ => .bad
theorem br_sub {K : PySem.W.Frag} {cs : List Tb} : Br K cs (rI0 fun i j => .int (i - j)) opSub := by
  intro m z H h v w u1 u2 Q Wx hh r1 r2 p
  unfold opSub at p
  split at p
  · rw [rep_int r1, rep_int r2]
    exact ⟨_, _, rfl, rfl, p.here hh _ (rI_ _)⟩
  · exact p.elim
/-- a product that the model makes -/
def mulOk (i j : Int) : Bool := (decide (-(2 ^ 64) < i) && decide (i < 2 ^ 64)) || (decide (-(2 ^ 64) < j) && decide (j < 2 ^ 64))
def opMul (v w : PV) (h : Cells) : Out PV := match v, w with
  | .d (.int i), .d (.int j) => if mulOk i j then .ok (.d (.int (i * j))) h else .bad
  | .d (.tuple ds), .d (.int k) => if !ds.isEmpty && decide (2 ≤ k) && decide (k ≤ 1000) && decide (ds.length ≤ 1000) then .ok (.d (.tuple (List.replicate k.toNat ds).flatten)) h else .bad
  | .d (.list ds), .d (.int k) => if decide (-(2 ^ 63) ≤ k) && decide (k < 2 ^ 63) && decide (ds.length * k.toNat ≤ sizeLine) then .ok (.d (.list (List.replicate k.toNat ds).flatten)) h else .bad
  | _, _ => .bad
theorem DDAll.append {K : PySem.W.Frag} {F : Hp} : ∀ {vs ws : List V} {xs ys : List PyData}, DDAll K F vs xs → DDAll K F ws ys → DDAll K F (vs ++ ws) (xs ++ ys)
  | _, _, _, _, .nil, h => h
  | _, _, _, _, .cons a t, h => .cons a (DDAll.append t h)
theorem DDAll.rep {K : PySem.W.Frag} {F : Hp} {vs : List V} {xs : List PyData} (h : DDAll K F vs xs) : ∀ k : Nat, DDAll K F (List.replicate k vs).flatten (List.replicate k xs).flatten
  | 0 => .nil
  | k + 1 => by
    rw [List.replicate_succ, List.replicate_succ, List.flatten_cons, List.flatten_cons]
    exact h.append (DDAll.rep h k)
theorem DDAll.length {K : PySem.W.Frag} {F : Hp} : ∀ {vs : List V} {xs : List PyData}, DDAll K F vs xs → vs.length = xs.length
  | _, _, .nil => rfl
  | _, _, .cons _ t => by simp [DDAll.length t]
theorem canAll_append {xs ys : List PyData} : PyData.canLayAll0 (xs ++ ys) = (PyData.canLayAll0 xs && PyData.canLayAll0 ys) := by
  induction xs with
  | nil => simp [PyData.canLayAll0]
  | cons x r ih => simp [PyData.canLayAll0, ih, Bool.and_assoc]
theorem canAll_rep {xs : List PyData} (h : PyData.canLayAll0 xs = true) : ∀ k : Nat, PyData.canLayAll0 (List.replicate k xs).flatten = true
  | 0 => by simp [PyData.canLayAll0]
  | k + 1 => by rw [List.replicate_succ, List.flatten_cons, canAll_append, h, canAll_rep h k]; rfl
theorem mulOk_ok {i j : Int} (h : mulOk i j = true) : IntMulOk i j := by
  unfold mulOk at h
  simp only [Bool.or_eq_true, Bool.and_eq_true, decide_eq_true_eq] at h
  exact CMul.ok h
def rMulM (K : PySem.W.Frag) : R2 := fun x y H Q => (rI IntMulOk fun i j => .int (i * j)) x y H Q ∨ rRepT K x y H Q ∨ rRep x y H Q
theorem op_mulM {X : Cx} : OpR X (binaryOp .Mult) (rMulM X.K) := OpR.or (opI fun _ _ _ _ _ _ _ hc q => mul_int q hc) (op_repT.or op_rep)
theorem br_mul {K : PySem.W.Frag} {cs : List Tb} : Br K cs (rMulM K) opMul := by
  intro m z H h v w u1 u2 Q Wx hh r1 r2 p
  unfold opMul at p
  split at p
  · split at p
    · rename_i hz
      rw [rep_int r1, rep_int r2]
      exact .inl ⟨_, _, rfl, rfl, mulOk_ok hz, p.here hh _ (rI_ _)⟩
    · exact p.elim
  · rename_i ds k
    split at p
    · rename_i hz
      simp only [Bool.and_eq_true, decide_eq_true_eq, Bool.not_eq_true'] at hz
      obtain ⟨⟨⟨z1, z2⟩, z3⟩, z4⟩ := hz
      rw [rep_int r2]
      cases r1 with
      | d hd c =>
        cases hd with
        | tup hq ha =>
          rename_i a vs
          have hl := ha.length
          have hne : vs ≠ [] := fun e => by
            subst e
            cases ds with
            | nil => simp at z1
            | cons _ _ => simp at hl
          refine .inr (.inl ⟨a, k, vs, rfl, rfl, SqT.top hq, hne, z2, z3, by omega, fun pp hn => Po.new p hh hn _ ?_⟩)
          have c' : PyData.canLayAll0 ds = true := by simpa [PyData.canLay0] using c
          have t := RepAll.of_dp (K := K) (m := m) (z := z) (H := H) (ha.rep k.toNat) (canAll_rep c' k.toNat)
          have q := rep_newT hh t hn
          rw [mkT_map] at q
          exact q
    · exact p.elim
  · rename_i ds k
    split at p
    · rename_i hz
      simp only [Bool.and_eq_true, decide_eq_true_eq] at hz
      obtain ⟨⟨z1, z2⟩, z3⟩ := hz
      rw [rep_int r2]
      cases r1 with
      | d hd c =>
        cases hd with
        | lst hq ha =>
          rename_i a vs
          have hl := ha.length
          refine .inr (.inr ⟨a, k, vs, rfl, rfl, (fz_some hq).2.2, z1, z2, by rw [hl]; exact z3, fun pp hn => Po.new p hh hn _ ?_⟩)
          have c' : PyData.canLayAll0 ds = true := by simpa [PyData.canLay0] using c
          have t := RepAll.of_dp (K := K) (m := m) (z := z) (H := H) (ha.rep k.toNat) (canAll_rep c' k.toNat)
          have q := rep_newL hh t hn
          rw [mkL_map] at q
          exact q
    · exact p.elim
  · exact p.elim
def opDiv (v w : PV) (h : Cells) : Out PV := match v, w with
  | .d (.int i), .d (.int j) => if decide (0 < j) && decide (j < 2 ^ 64) then .ok (.d (.int (i / j))) h else .bad
  | _, _ => .bad
theorem cdivW_of {i j : Int} (h1 : 0 < j) (h2 : j < 2 ^ 64) : CDivW i j := wide_div (b := 64) h1 (by omega) (by decide) (by decide)
theorem br_div {K : PySem.W.Frag} {cs : List Tb} : Br K cs (rI CDivW fun i j => .int (i / j)) opDiv := by
  intro m z H h v w u1 u2 Q Wx hh r1 r2 p
  unfold opDiv at p
  split at p
  · split at p
    · rename_i hz
      simp only [Bool.and_eq_true, decide_eq_true_eq] at hz
      rw [rep_int r1, rep_int r2]
      exact ⟨_, _, rfl, rfl, cdivW_of hz.1 hz.2, p.here hh _ (rI_ _)⟩
    · exact p.elim
  · exact p.elim
def opMod (v w : PV) (h : Cells) : Out PV := match v, w with
  | .d (.int i), .d (.int j) => if 0 < j then .ok (.d (.int (i % j))) h else .bad
  | _, _ => .bad
theorem br_mod {K : PySem.W.Frag} {cs : List Tb} : Br K cs (rI (fun _ j => 0 < j) fun i j => .int (i % j)) opMod := by
  intro m z H h v w u1 u2 Q Wx hh r1 r2 p
  unfold opMod at p
  split at p
  · split at p
    · rename_i hz
      rw [rep_int r1, rep_int r2]
      exact ⟨_, _, rfl, rfl, hz, p.here hh _ (rI_ _)⟩
    · exact p.elim
  · exact p.elim
def opPow (v w : PV) (h : Cells) : Out PV := match v, w with
  | .d (.int i), .d (.int j) => if decide (0 ≤ j) && decide (j ≤ 1000000) && decide (i.natAbs < 2 ^ 64) then .ok (.d (.int (i ^ j.toNat))) h else .bad
  | _, _ => .bad
theorem br_pow {K : PySem.W.Frag} {cs : List Tb} : Br K cs (rI CPow fun i j => .int (i ^ j.toNat)) opPow := by
  intro m z H h v w u1 u2 Q Wx hh r1 r2 p
  unfold opPow at p
  split at p
  · split at p
    · rename_i hz
      simp only [Bool.and_eq_true, decide_eq_true_eq] at hz
      rw [rep_int r1, rep_int r2]
      exact ⟨_, _, rfl, rfl, ⟨hz.1.1, hz.1.2, hz.2⟩, p.here hh _ (rI_ _)⟩
    · exact p.elim
  · exact p.elim
/-! ### comparisons -/
def rEqM (K : PySem.W.Frag) (k : Bool) : R2 := fun x y H Q => ∃ d e, Dp K H x d ∧ Dp K H y e ∧ d.canLay0 = true ∧ e.canLay0 = true ∧ min d.depth e.depth ≤ 64 ∧ Q (.bl (if k then PyData.eqv d e else !PyData.eqv d e)) H
theorem op_eqM {X : Cx} (hu : X.A.units + 64 < cLine) : OpR X (compareOp .Eq) (rEqM X.K true) := fun pins s σ H x y v u Q I rx ry ⟨d, e, hd, he, cd, ce, hm, q⟩ => by
  obtain ⟨as, r1⟩ := Dp.reads I d x v hd rx
  obtain ⟨bs, r2⟩ := Dp.reads I e y u he ry
  exact SeqAt.compareEq_reads r1 r2 cd ce (by omega) ⟨.bl _, H, I, rfl, q⟩
theorem op_neM {X : Cx} (hu : X.A.units + 64 < cLine) : OpR X (compareOp .NotEq) (rEqM X.K false) := fun pins s σ H x y v u Q I rx ry ⟨d, e, hd, he, cd, ce, hm, q⟩ => by
  obtain ⟨as, r1⟩ := Dp.reads I d x v hd rx
  obtain ⟨bs, r2⟩ := Dp.reads I e y u he ry
  exact SeqAt.compareNe_reads r1 r2 cd ce (by omega) ⟨.bl _, H, I, rfl, q⟩
def opEq (k : Bool) (v w : PV) (h : Cells) : Out PV := match asX v h, asX w h with
  | some d, some e => if min d.depth e.depth ≤ 64 then .ok (.d (.bool (if k then PyData.eqv d e else !PyData.eqv d e))) h else .bad
  | _, _ => .bad
theorem br_eq {K : PySem.W.Frag} {cs : List Tb} {k : Bool} : Br K cs (rEqM K k) (opEq k) := by
  intro m z H h v w u1 u2 Q Wx hh r1 r2 p
  unfold opEq at p
  split at p
  · rename_i d e ed ee
    split at p
    · rename_i hz
      obtain ⟨d1, c1⟩ := asX_rep hh r1 ed
      obtain ⟨d2, c2⟩ := asX_rep hh r2 ee
      exact ⟨d, e, d1, d2, c1, c2, hz, p.here hh _ (rB_ _)⟩
    · exact p.elim
  · exact p.elim
def ltS (x y : Str) : Bool := decide (x.cps.toList < y.cps.toList)
def opLt (v w : PV) (h : Cells) : Out PV := match v, w with
  | .d (.int i), .d (.int j) => .ok (.d (.bool (decide (i < j)))) h
  | .d (.str x), .d (.str y) => .ok (.d (.bool (ltS x y))) h
  | _, _ => .bad
def opLe (v w : PV) (h : Cells) : Out PV := match v, w with
  | .d (.int i), .d (.int j) => .ok (.d (.bool (decide (i ≤ j)))) h
  | .d (.str x), .d (.str y) => .ok (.d (.bool (!ltS y x))) h
  | _, _ => .bad
def opGt (v w : PV) (h : Cells) : Out PV := match v, w with
  | .d (.int i), .d (.int j) => .ok (.d (.bool (decide (j < i)))) h
  | .d (.str x), .d (.str y) => .ok (.d (.bool (ltS y x))) h
  | _, _ => .bad
def opGe (v w : PV) (h : Cells) : Out PV := match v, w with
  | .d (.int i), .d (.int j) => .ok (.d (.bool (decide (j ≤ i)))) h
  | .d (.str x), .d (.str y) => .ok (.d (.bool (!ltS x y))) h
  | _, _ => .bad
def rOrd (f : Int → Int → Bool) (g : Str → Str → Bool) : R2 := fun x y H Q => (∃ i j, x = .int i ∧ y = .int j ∧ Q (.bl (f i j)) H) ∨ ∃ i j, x = .str i ∧ y = .str j ∧ Q (.bl (g i j)) H
theorem op_ltM {X : Cx} : OpR X (compareOp .Lt) (rOrd (fun i j => decide (i < j)) ltS) := op_lt.or op_lt_str
theorem op_leM {X : Cx} : OpR X (compareOp .LtE) (rOrd (fun i j => decide (i ≤ j)) fun x y => !ltS y x) := op_le.or op_le_str
theorem op_gtM {X : Cx} : OpR X (compareOp .Gt) (rOrd (fun i j => decide (j < i)) fun x y => ltS y x) := op_gt.or op_gt_str
theorem op_geM {X : Cx} : OpR X (compareOp .GtE) (rOrd (fun i j => decide (j ≤ i)) fun x y => !ltS x y) := op_ge.or op_ge_str
theorem br_ord {K : PySem.W.Frag} {cs : List Tb} {f : Int → Int → Bool} {g : Str → Str → Bool} {op : PV → PV → Cells → Out PV}
    (ho : ∀ v w h, op v w h = match v, w with
      | .d (.int i), .d (.int j) => .ok (.d (.bool (f i j))) h
      | .d (.str x), .d (.str y) => .ok (.d (.bool (g x y))) h
      | _, _ => .bad) : Br K cs (rOrd f g) op := by
  intro m z H h v w u1 u2 Q Wx hh r1 r2 p
  rw [ho] at p
  split at p
  · rw [rep_int r1, rep_int r2]
    exact .inl ⟨_, _, rfl, rfl, p.here hh _ (rB_ _)⟩
  · rw [(rep_str r1).1, (rep_str r2).1]
    exact .inr ⟨_, _, rfl, rfl, p.here hh _ (rB_ _)⟩
  · exact p.elim
theorem br_lt {K : PySem.W.Frag} {cs : List Tb} : Br K cs (rOrd (fun i j => decide (i < j)) ltS) opLt := br_ord fun _ _ _ => rfl
theorem br_le {K : PySem.W.Frag} {cs : List Tb} : Br K cs (rOrd (fun i j => decide (i ≤ j)) fun x y => !ltS y x) opLe := br_ord fun _ _ _ => rfl
theorem br_gt {K : PySem.W.Frag} {cs : List Tb} : Br K cs (rOrd (fun i j => decide (j < i)) fun x y => ltS y x) opGt := br_ord fun _ _ _ => rfl
theorem br_ge {K : PySem.W.Frag} {cs : List Tb} : Br K cs (rOrd (fun i j => decide (j ≤ i)) fun x y => !ltS x y) opGe := br_ord fun _ _ _ => rfl
/-! ### is None -/
def isNone : PV → Bool
  | .d .none => true
  | _ => false
def mIsN (k : Bool) (f : ME PV) : ME PV := fun e h => (f e h).bind fun v h1 => .ok (.d (.bool (if k then isNone v else !isNone v))) h1
theorem isNone_rep {K : PySem.W.Frag} {m z : List Addr} {H : Hp} {v : PV} {u : V} (r : Rep K m z H v u) : decide (u = .non) = isNone v := by
  cases r with
  | d h _ => cases h <;> rfl
  | _ => rfl
section
variable {X : Cx} {cs : List Tb} {W : WX}
theorem s_isN {a : Expr} {j : Nat} {pos pos' : Pos} {f : ME PV} (ha : SE X cs W a f) : SE X cs W (.Compare a [.Is] [.Constant .none j pos'] pos) (mIsN true f) :=
  pe_imp (pe_cmp (pc_isN ha)) fun σ H Q ⟨m, z, e, h, hs, hh, p⟩ => tE_then hs hh p fun v h1 m1 H1 u hs1 hh1 r1 n1 p1 => by
    rw [isNone_rep r1]
    exact p1.here hh1 _ (rB_ _)
theorem s_notN {a : Expr} {j : Nat} {pos pos' : Pos} {f : ME PV} (ha : SE X cs W a f) : SE X cs W (.Compare a [.IsNot] [.Constant .none j pos'] pos) (mIsN false f) :=
  pe_imp (pe_cmp (pc_notN ha)) fun σ H Q ⟨m, z, e, h, hs, hh, p⟩ => tE_then hs hh p fun v h1 m1 H1 u hs1 hh1 r1 n1 p1 => by
    rw [isNone_rep r1]
    exact p1.here hh1 _ (rB_ _)
/-! ### a < b <= c -/
def mChain (g1 g2 : PV → PV → Cells → Out PV) (f1 f2 f3 : ME PV) : ME PV := fun e h => (f1 e h).bind fun v h1 => (f2 e h1).bind fun w h2 => (g1 v w h2).bind fun b h3 => match b with
  | .d (.bool true) => (f3 e h3).bind fun x h4 => g2 w x h4
  | .d (.bool false) => .ok b h3
  | _ => .bad
theorem tE_chain {r r' : R2} {g1 g2 : PV → PV → Cells → Out PV} {f1 f2 f3 : ME PV} {K : PySem.W.Frag} (b1 : Br K cs r g1) (b2 : Br K cs r' g2) {σ : L2.St} {H : Hp} {Q : VK} (t : tE K cs W (mChain g1 g2 f1 f2 f3) σ H Q) : tChain r r' (tE K cs W f1) (tE K cs W f2) (tE K cs W f3) σ H Q := by
  obtain ⟨m, z, e, h, hs, hh, p⟩ := t
  refine tE_then hs hh p fun v h1 m1 H1 u1 hs1 hh1 r1 n1 p1 => ?_
  refine tE_then hs1 hh1 p1 fun w h2 m2 H2 u2 hs2 hh2 r2 n2 p2 => ?_
  refine b1 m2 z H2 h2 v w u1 u2 _ _ hh2 (r1.nx n2) r2 (p2.bind.imp (fun x h3 m3 H3 n3 hh3 q u ru => ?_) fun _ _ q => q)
  split at q
  · rw [rep_bool ru]
    refine ⟨true, rfl, ?_⟩
    rw [if_pos rfl]
    refine tE_then (hs2.nx n3) hh3 q fun x h4 m4 H4 u4 hs4 hh4 r4 n4 p4 => ?_
    exact b2 m4 z H4 h4 w x u2 u4 Q _ hh4 ((r2.nx n3).nx n4) r4 p4
  · rw [rep_bool ru]
    refine ⟨false, rfl, ?_⟩
    rw [if_neg (by decide)]
    exact q.here hh3 _ (rB_ _)
  · exact q.elim
theorem s_chain {op op' : CmpOp} {r r' : R2} {g1 g2 : PV → PV → Cells → Out PV} {a b c : Expr} {pos : Pos} {f1 f2 f3 : ME PV} (ho : OpR X (compareOp op) r) (ho' : OpR X (compareOp op') r') (b1 : Br X.K cs r g1) (b2 : Br X.K cs r' g2) (ha : SE X cs W a f1) (hb : SE X cs W b f2) (hc : SE X cs W c f3)
    (hm : lastMarks [op, op'] [b, c] = false := by with_unfolding_all rfl) : SE X cs W (.Compare a [op, op'] [b, c] pos) (mChain g1 g2 f1 f2 f3) := pe_imp (pe_chain ho ho' ha hb hc hm) fun _ _ _ => tE_chain b1 b2
theorem s_tchain {op op' : CmpOp} {r r' : R2} {g1 g2 : PV → PV → Cells → Out PV} {a b c : Expr} {pos : Pos} {f1 f2 f3 : ME PV} (ho : OpR X (compareOp op) r) (ho' : OpR X (compareOp op') r') (b1 : Br X.K cs r g1) (b2 : Br X.K cs r' g2) (ha : SE X cs W a f1) (hb : SE X cs W b f2) (hc : SE X cs W c f3)
    (hm : lastMarks [op, op'] [b, c] = false := by with_unfolding_all rfl) : ST X cs W (.Compare a [op, op'] [b, c] pos) (mTb (mChain g1 g2 f1 f2 f3)) := pt_imp (pt_chain ho ho' ha hb hc hm) fun σ H Q t => by
  obtain ⟨m, z, e, h, hs, hh, p⟩ := t
  refine tE_chain b1 b2 (W := W) ⟨m, z, e, h, hs, hh, p.bind.imp (fun v h1 m1 H1 n r1 q u ru => ?_) fun _ _ q => q⟩
  split at q
  · rw [rep_bool ru]
    exact ⟨_, rfl, q.here r1⟩
  · exact q.elim
/-! ### -a -/
def mNeg (f : ME PV) : ME PV := fun e h => (f e h).bind fun v h1 => match v with
  | .d (.int i) => .ok (.d (.int (-i))) h1
  | _ => .bad
theorem s_neg {a : Expr} {pos : Pos} {f : ME PV} (ha : SE X cs W a f) : SE X cs W (.UnaryOp .USub a pos) (mNeg f) :=
  pe_imp (pe_un un_neg ha) fun σ H Q ⟨m, z, e, h, hs, hh, p⟩ => tE_then hs hh p fun v h1 m1 H1 u hs1 hh1 r1 n1 p1 => by
    split at p1
    · rw [rep_int r1]
      exact ⟨_, rfl, p1.here hh1 _ (rI_ _)⟩
    · exact p1.elim
/-! ### displays -/
def mTup (g : ME (List PV)) : ME PV := fun e h => (g e h).bind fun vs h1 => if vs.length ≤ sizeLine then .ok (mkT vs) h1 else .bad
theorem s_tup {es : List Expr} {x1 : Nat} {pos : Pos} {g : ME (List PV)} (hg : SA X cs W es g) : SE X cs W (.Tuple es x1 pos) (mTup g) :=
  pe_imp (pe_tup hg) fun σ H Q ⟨m, z, e, h, hs, hh, p⟩ => tA_then hs hh p fun vs h1 m1 H1 us hs1 hh1 r1 n1 p1 => by
    split at p1
    · rename_i hz
      exact ⟨by rw [← r1.length]; exact hz, fun q hn => Po.new p1 hh1 hn _ (rep_newT hh1 r1 hn)⟩
    · exact p1.elim
/-- a list that never changes -/
def mLst (g : ME (List PV)) : ME PV := fun e h => (g e h).bind fun vs h1 => if vs.length ≤ sizeLine then .ok (mkL vs) h1 else .bad
theorem s_lst {es : List Expr} {pos : Pos} {g : ME (List PV)} (hg : SA X cs W es g) : SE X cs W (.List es pos) (mLst g) :=
  pe_imp (pe_lst hg) fun σ H Q ⟨m, z, e, h, hs, hh, p⟩ => tA_then hs hh p fun vs h1 m1 H1 us hs1 hh1 r1 n1 p1 => by
    split at p1
    · rename_i hz
      exact ⟨by rw [← r1.length]; exact hz, fun q hn => Po.new p1 hh1 hn _ (rep_newL hh1 r1 hn)⟩
    · exact p1.elim
/-- a list that is a cell -/
def mCell (g : ME (List PV)) : ME PV := fun e h => (g e h).bind fun vs h1 => if vs.length ≤ sizeLine then .ok (.r h1.length) (h1 ++ [.lst vs]) else .bad
theorem rep_cell {K : PySem.W.Frag} {m z : List Addr} {H : Hp} {h : Cells} {p : Addr} (hh : HRel K cs m z h H) : Rep K (m ++ [p]) z H (.r h.length) (.ref p) := .r (by rw [hh.len, List.getElem?_append_right (Nat.le_refl _), Nat.sub_self]; rfl)
theorem s_cell {es : List Expr} {pos : Pos} {g : ME (List PV)} (hg : SA X cs W es g) : SE X cs W (.List es pos) (mCell g) :=
  pe_imp (pe_lst hg) fun σ H Q ⟨m, z, e, h, hs, hh, p⟩ => tA_then hs hh p fun vs h1 m1 H1 us hs1 hh1 r1 n1 p1 => by
    split at p1
    · rename_i hz
      refine ⟨by rw [← r1.length]; exact hz, fun q hn => ?_⟩
      have hc := hh1.cell (u := .lst vs) hn ⟨us, upd_same, r1.nx (Nx.cell hn)⟩
      exact p1 _ _ (Nx.cell hn) hc _ (.r (by rw [hh1.len, List.getElem?_append_right (Nat.le_refl _), Nat.sub_self]; rfl))
    · exact p1.elim
/-! ### len, int, abs -/
def asLen : PV → Cells → Option Nat
  | .d (.str x), _ => if x.length ≤ sizeLine then some x.length else none
  | .d (.tuple ds), _ => some ds.length
  | .tp xs, _ => some xs.length
  | v, h => (asL v h).map (·.length)
end
end Mi

set_option Elab.async false
set_option linter.all false
set_option maxRecDepth 100000
set_option maxHeartbeats 4000000
namespace Mi
open PySem PySem.Spec PyProof.Rows L2

/-! ## built-ins called -/
def Bc (K : PySem.W.Frag) (cs : List Tb) (r : List V → Hp → VK → Prop) (g : List PV → Cells → Out PV) : Prop :=
  ∀ m z H h vs us Q Wx, HRel K cs m z h H → RepAll K m z H vs us → Po K cs z m H (RxE K z Q) Wx (g vs h) → r us H Q
def mCall (g : List PV → Cells → Out PV) (fa : ME (List PV)) : ME PV := fun e h => (fa e h).bind g
section
variable {X : Cx} {cs : List Tb} {W : WX}
theorem tE_call {r : List V → Hp → VK → Prop} {g : List PV → Cells → Out PV} {fa : ME (List PV)} {K : PySem.W.Frag} (b : Bc K cs r g) {σ : L2.St} {H : Hp} {Q : VK} (t : tE K cs W (mCall g fa) σ H Q) : tCB r (tA K cs W fa) σ H Q := by
  obtain ⟨m, z, e, h, hs, hh, p⟩ := t
  exact tA_then hs hh p fun vs h1 m1 H1 us hs1 hh1 r1 n1 p1 => b m1 z H1 h1 vs us Q _ hh1 r1 p1
theorem s_callB {id : String} {x : Str} {p pos : Pos} {a : Expr} {es : List Expr} {r : List V → Hp → VK → Prop} {g : List PV → Cells → Out PV} {fa : ME (List PV)} (hc : CallR X (.builtin id) r) (hb : Bc X.K cs r g) (hg : Gl X x) (hm : X.mg x = none) (hv : bootBuiltins x = some (.builtin id)) (ha : SA X cs W (a :: es) fa)
    (hn : x ≠ "__name__" := by decide) (hdb : (x == ("__debug__" : Str)) = false := by decide) (he : starEach (a :: es) X.env = (false, eval a X.env) :: starEach es X.env := by rfl) (hpl : (backTo pos (starEach es X.env)).any (·.1) = false := by rfl) :
    SE X cs W (.Call (.Name x p) (a :: es) [] pos) (mCall g fa) := pe_imp (pe_callB hc hg hm hv ha hn hdb he hpl) fun _ _ _ => tE_call hb
theorem s_callT {id : String} {x : Str} {p pos : Pos} {a : Expr} {es : List Expr} {r : List V → Hp → VK → Prop} {g : List PV → Cells → Out PV} {fa : ME (List PV)} (hc : CallR X (.type id) r) (hb : Bc X.K cs r g) (hg : Gl X x) (hm : X.mg x = none) (hv : bootBuiltins x = some (.type id)) (ha : SA X cs W (a :: es) fa)
    (hn : x ≠ "__name__" := by decide) (hdb : (x == ("__debug__" : Str)) = false := by decide) (he : starEach (a :: es) X.env = (false, eval a X.env) :: starEach es X.env := by rfl) (hpl : (backTo pos (starEach es X.env)).any (·.1) = false := by rfl) :
    SE X cs W (.Call (.Name x p) (a :: es) [] pos) (mCall g fa) := pe_imp (pe_callTy hc hg hm hv ha hn hdb he hpl) fun _ _ _ => tE_call hb
end
theorem rep1 {K : PySem.W.Frag} {m z : List Addr} {H : Hp} {v : PV} {us : List V} (r : RepAll K m z H [v] us) : ∃ u, us = [u] ∧ Rep K m z H v u := by
  cases r with
  | cons a t => cases t; exact ⟨_, rfl, a⟩
theorem rep2 {K : PySem.W.Frag} {m z : List Addr} {H : Hp} {v w : PV} {us : List V} (r : RepAll K m z H [v, w] us) : ∃ a b, us = [a, b] ∧ Rep K m z H v a ∧ Rep K m z H w b := by
  cases r with
  | cons a t =>
    obtain ⟨b, rfl, h⟩ := rep1 t
    exact ⟨_, _, rfl, a, h⟩
theorem asX_rep2 {K : PySem.W.Frag} {m z : List Addr} {H : Hp} {x : PyData} {u : V} (r : Rep K m z H (.d x) u) : DD K H u x ∧ x.canLay0 = true := by
  cases r with
  | d h c => exact ⟨h.vw (Vw.fz m z H), c⟩
/-! ### len -/
def asDict : PV → Cells → Option (List (Key × PV))
  | .r n, h => match h[n]? with
    | some (.dk kvs) => some kvs
    | _ => none
  | _, _ => none
def biLen (vs : List PV) (h : Cells) : Out PV := match vs with
  | [.d (.str x)] => if x.length ≤ sizeLine then .ok (.d (.int x.length)) h else .bad
  | [v] => match asL v h with
    | some xs => .ok (.d (.int xs.length)) h
    | none => match asT v with
      | some xs => .ok (.d (.int xs.length)) h
      | none => match asDict v h with
        | some kvs => .ok (.d (.int kvs.length)) h
        | none => .bad
  | _ => .bad
def rLenM (K : PySem.W.Frag) : List V → Hp → VK → Prop := fun xs H Q => (fun xs H Q => ∃ x n, xs = [x] ∧ LenV K x H n ∧ Q (.int (n : Nat)) H) xs H Q ∨ ∃ a kvs, xs = [.ref a] ∧ Rd H a (.dK kvs) ∧ Q (.int kvs.length) H
theorem call_lenDk {X : Cx} : CallR X (.builtin "len") (fun xs H Q => ∃ a kvs, xs = [.ref a] ∧ Rd H a (.dK kvs) ∧ Q (.int kvs.length) H) := fun pins s σ H xs us Q I r h => by
  obtain ⟨a, kvs, rfl, hd, q⟩ := h
  cases r with
  | cons r t =>
    cases t
    cases r
    exact d_len I hd fun t s' I' => ⟨.int _, H, I', ⟨t, rfl⟩, q⟩
theorem call_lenM {X : Cx} : CallR X (.builtin "len") (rLenM X.K) := CallR.or call_len call_lenDk
theorem bc_len {K : PySem.W.Frag} {cs : List Tb} : Bc K cs (rLenM K) biLen := by
  intro m z H h vs us Q Wx hh r p
  unfold biLen at p
  split at p
  · obtain ⟨u, rfl, r1⟩ := rep1 r
    split at p
    · rename_i hz
      rw [(rep_str r1).1]
      exact .inl ⟨_, _, rfl, ⟨hz, rfl⟩, p.here hh _ (rI_ _)⟩
    · exact p.elim
  · obtain ⟨u, rfl, r1⟩ := rep1 r
    split at p
    · rename_i xs ex
      obtain ⟨a, ws, rfl, q1, t1⟩ := asL_rep hh r1 ex
      refine .inl ⟨_, _, rfl, .inl ⟨_, .inl (.inl q1), rfl⟩, ?_⟩
      rw [← t1.length]
      exact p.here hh _ (rI_ _)
    · split at p
      · rename_i xs ex
        obtain ⟨a, ws, rfl, q1, t1⟩ := asT_rep r1 ex
        refine .inl ⟨_, _, rfl, .inr ⟨_, SqT.top q1, rfl⟩, ?_⟩
        rw [← t1.length]
        exact p.here hh _ (rI_ _)
      · split at p
        · rename_i kvs ex
          unfold asDict at ex
          split at ex
          · split at ex
            · rename_i kvs' eq
              obtain rfl := Option.some.inj ex
              cases r1 with
              | r hn =>
                obtain ⟨a, h1, ws, h2, h3, h4⟩ := hh.get eq
                rw [hn] at h1
                obtain rfl := Option.some.inj h1
                refine .inr ⟨_, ws, rfl, .inl h2, ?_⟩
                have e : kvs'.length = ws.length := by simpa using congrArg List.length h3
                rw [← e]
                exact p.here hh _ (rI_ _)
            · cases ex
          · cases ex
        · exact p.elim
  · exact p.elim
/-! ### int, abs, str, tuple, list, min, max, sum -/
def biInt (vs : List PV) (h : Cells) : Out PV := match vs with
  | [.d (.int i)] => .ok (.d (.int i)) h
  | [.d (.bool b)] => .ok (.d (.int (if b then 1 else 0))) h
  | _ => .bad
theorem bc_int {K : PySem.W.Frag} {cs : List Tb} : Bc K cs (fun xs H Q => (∃ i, xs = [V.int i] ∧ Q (.int i) H) ∨ ∃ k, xs = [V.bl k] ∧ Q (.int (if k then 1 else 0)) H) biInt := by
  intro m z H h vs us Q Wx hh r p
  unfold biInt at p
  split at p
  · obtain ⟨u, rfl, r1⟩ := rep1 r
    rw [rep_int r1]
    exact .inl ⟨_, rfl, p.here hh _ (rI_ _)⟩
  · obtain ⟨u, rfl, r1⟩ := rep1 r
    rw [rep_bool r1]
    exact .inr ⟨_, rfl, p.here hh _ (rI_ _)⟩
  · exact p.elim
def biAbs (vs : List PV) (h : Cells) : Out PV := match vs with
  | [.d (.int i)] => .ok (.d (.int (if i < 0 then -i else i))) h
  | _ => .bad
theorem bc_abs {K : PySem.W.Frag} {cs : List Tb} : Bc K cs (fun xs H Q => ∃ i, xs = [V.int i] ∧ Q (.int (if i < 0 then -i else i)) H) biAbs := by
  intro m z H h vs us Q Wx hh r p
  unfold biAbs at p
  split at p
  · obtain ⟨u, rfl, r1⟩ := rep1 r
    rw [rep_int r1]
    exact ⟨_, rfl, p.here hh _ (rI_ _)⟩
  · exact p.elim
/-- tuple(x), x a list or a tuple -/
def biTuple (vs : List PV) (h : Cells) : Out PV := match vs with
  | [v] => match asL v h with
    | some xs => .ok (mkT xs) h
    | none => match asT v with
      | some xs => .ok (mkT xs) h
      | none => .bad
  | _ => .bad
theorem bc_tuple {K : PySem.W.Frag} {cs : List Tb} : Bc K cs (fun xs H Q => ∃ p ys, xs = [V.ref p] ∧ ((SqL K H p ys ∧ ∀ l, H l = none → Q (.ref l) (upd H l (.tup ys))) ∨ (SqT K H p ys ∧ Q (.ref p) H))) biTuple := by
  intro m z H h vs us Q Wx hh r p
  unfold biTuple at p
  split at p
  · obtain ⟨u, rfl, r1⟩ := rep1 r
    split at p
    · rename_i xs ex
      obtain ⟨a, ws, rfl, q1, t1⟩ := asL_rep hh r1 ex
      exact ⟨_, _, rfl, .inl ⟨.inl (.inl q1), fun l hn => Po.new p hh hn _ (rep_newT hh t1 hn)⟩⟩
    · split at p
      · rename_i xs ex
        obtain ⟨a, ws, rfl, q1, t1⟩ := asT_rep r1 ex
        exact ⟨_, _, rfl, .inr ⟨SqT.top q1, p.here hh _ (rep_tup q1 t1)⟩⟩
      · exact p.elim
  · exact p.elim
/-- list(x), x a list or a tuple: one that never changes -/
def biList (vs : List PV) (h : Cells) : Out PV := match vs with
  | [v] => match asL v h with
    | some xs => .ok (mkL xs) h
    | none => match asT v with
      | some xs => .ok (mkL xs) h
      | none => .bad
  | _ => .bad
/-- .. a cell -/
def biListC (vs : List PV) (h : Cells) : Out PV := match vs with
  | [v] => match asL v h with
    | some xs => .ok (.r h.length) (h ++ [.lst xs])
    | none => match asT v with
      | some xs => .ok (.r h.length) (h ++ [.lst xs])
      | none => .bad
  | _ => .bad
theorem Po.cell {α : Type} {K : PySem.W.Frag} {cs : List Tb} {m z : List Addr} {h : Cells} {H : Hp} {R : α → Cells → List Addr → Hp → Prop} {Wx : Str → Hp → Prop} {a : α} {xs : List PV} {vs : List V} {p : Addr} (q : Po K cs z m H R Wx (.ok a (h ++ [.lst xs]))) (hh : HRel K cs m z h H) (r : RepAll K m z H xs vs) (hn : H p = none) :
    R a (h ++ [.lst xs]) (m ++ [p]) (upd H p (.lst vs)) := q _ _ (Nx.cell hn) (hh.cell hn ⟨vs, upd_same, r.nx (Nx.cell hn)⟩)
theorem rep_len {K : PySem.W.Frag} {cs : List Tb} {m z : List Addr} {h : Cells} {H H' : Hp} {p : Addr} (hh : HRel K cs m z h H) : Rep K (m ++ [p]) z H' (.r h.length) (.ref p) := .r (by rw [hh.len, List.getElem?_append_right (Nat.le_refl _), Nat.sub_self]; rfl)
theorem bc_list {K : PySem.W.Frag} {cs : List Tb} : Bc K cs (fun xs H Q => ∃ p ys, xs = [V.ref p] ∧ (SqL K H p ys ∨ SqT K H p ys) ∧ ∀ l, H l = none → Q (.ref l) (upd H l (.lst ys))) biList := by
  intro m z H h vs us Q Wx hh r p
  unfold biList at p
  split at p
  · obtain ⟨u, rfl, r1⟩ := rep1 r
    split at p
    · rename_i xs ex
      obtain ⟨a, ws, rfl, q1, t1⟩ := asL_rep hh r1 ex
      exact ⟨_, _, rfl, .inl (.inl (.inl q1)), fun l hn => Po.new p hh hn _ (rep_newL hh t1 hn)⟩
    · split at p
      · rename_i xs ex
        obtain ⟨a, ws, rfl, q1, t1⟩ := asT_rep r1 ex
        exact ⟨_, _, rfl, .inr (SqT.top q1), fun l hn => Po.new p hh hn _ (rep_newL hh t1 hn)⟩
      · exact p.elim
  · exact p.elim
theorem bc_listC {K : PySem.W.Frag} {cs : List Tb} : Bc K cs (fun xs H Q => ∃ p ys, xs = [V.ref p] ∧ (SqL K H p ys ∨ SqT K H p ys) ∧ ∀ l, H l = none → Q (.ref l) (upd H l (.lst ys))) biListC := by
  intro m z H h vs us Q Wx hh r p
  unfold biListC at p
  split at p
  · obtain ⟨u, rfl, r1⟩ := rep1 r
    split at p
    · rename_i xs ex
      obtain ⟨a, ws, rfl, q1, t1⟩ := asL_rep hh r1 ex
      exact ⟨_, _, rfl, .inl (.inl (.inl q1)), fun l hn => Po.cell p hh t1 hn _ (rep_len hh)⟩
    · split at p
      · rename_i xs ex
        obtain ⟨a, ws, rfl, q1, t1⟩ := asT_rep r1 ex
        exact ⟨_, _, rfl, .inr (SqT.top q1), fun l hn => Po.cell p hh t1 hn _ (rep_len hh)⟩
      · exact p.elim
  · exact p.elim
def biMin2 (vs : List PV) (h : Cells) : Out PV := match vs with
  | [.d (.int i), .d (.int j)] => .ok (.d (.int (if j < i then j else i))) h
  | _ => .bad
def biMax2 (vs : List PV) (h : Cells) : Out PV := match vs with
  | [.d (.int i), .d (.int j)] => .ok (.d (.int (if j > i then j else i))) h
  | _ => .bad
theorem bc_min2 {K : PySem.W.Frag} {cs : List Tb} : Bc K cs (fun xs H Q => ∃ i j, xs = [V.int i, V.int j] ∧ Q (.int (if j < i then j else i)) H) biMin2 := by
  intro m z H h vs us Q Wx hh r p
  unfold biMin2 at p
  split at p
  · obtain ⟨a, b, rfl, r1, r2⟩ := rep2 r
    rw [rep_int r1, rep_int r2]
    exact ⟨_, _, rfl, p.here hh _ (rI_ _)⟩
  · exact p.elim
theorem bc_max2 {K : PySem.W.Frag} {cs : List Tb} : Bc K cs (fun xs H Q => ∃ i j, xs = [V.int i, V.int j] ∧ Q (.int (if j > i then j else i)) H) biMax2 := by
  intro m z H h vs us Q Wx hh r p
  unfold biMax2 at p
  split at p
  · obtain ⟨a, b, rfl, r1, r2⟩ := rep2 r
    rw [rep_int r1, rep_int r2]
    exact ⟨_, _, rfl, p.here hh _ (rI_ _)⟩
  · exact p.elim
def asInts : List PV → Option (List Int)
  | [] => some []
  | .d (.int i) :: r => (asInts r).map (i :: ·)
  | _ :: _ => none
theorem asInts_map (ns : List Int) : asInts (ns.map fun i => .d (.int i)) = some ns := by
  induction ns with
  | nil => rfl
  | cons x r ih => simp [asInts, ih]
theorem asInts_rep {K : PySem.W.Frag} {m z : List Addr} {H : Hp} : ∀ {xs : List PV} {vs : List V} {ns : List Int}, RepAll K m z H xs vs → asInts xs = some ns → vs = ns.map V.int
  | [], _, _, h, e => by
    cases h
    obtain rfl := Option.some.inj e
    rfl
  | .d (.int i) :: r, _, ns, h, e => by
    cases h with
    | cons h1 h2 =>
      have e' : (asInts r).map (i :: ·) = some ns := e
      cases e2 : asInts r with
      | none => rw [e2] at e'; cases e'
      | some ms =>
        rw [e2] at e'
        obtain rfl := Option.some.inj e'
        rw [rep_int h1, asInts_rep h2 e2]
        rfl
  | .d .none :: _, _, _, _, e => by simp [asInts] at e
  | .d (.bool _) :: _, _, _, _, e => by simp [asInts] at e
  | .d (.str _) :: _, _, _, _, e => by simp [asInts] at e
  | .d (.list _) :: _, _, _, _, e => by simp [asInts] at e
  | .d (.tuple _) :: _, _, _, _, e => by simp [asInts] at e
  | .d (.dict _) :: _, _, _, _, e => by simp [asInts] at e
  | .r _ :: _, _, _, _, e => by simp [asInts] at e
  | .ls _ :: _, _, _, _, e => by simp [asInts] at e
  | .tp _ :: _, _, _, _, e => by simp [asInts] at e
  | .cl _ :: _, _, _, _, e => by simp [asInts] at e
  | .sc _ :: _, _, _, _, e => by simp [asInts] at e
def biSum (vs : List PV) (h : Cells) : Out PV := match vs with
  | [v] => match asL v h with
    | some xs => match asInts xs with
      | some ns => .ok (.d (.int ns.sum)) h
      | none => .bad
    | none => .bad
  | _ => .bad
theorem bc_sum {K : PySem.W.Frag} {cs : List Tb} : Bc K cs (rSum K) biSum := by
  intro m z H h vs us Q Wx hh r p
  unfold biSum at p
  split at p
  · obtain ⟨u, rfl, r1⟩ := rep1 r
    split at p
    · rename_i xs ex
      obtain ⟨a, ws, rfl, q1, t1⟩ := asL_rep hh r1 ex
      split at p
      · rename_i ns en
        rw [asInts_rep t1 en] at q1
        exact ⟨a, ns, rfl, .inl (.inl q1), p.here hh _ (rI_ _)⟩
      · exact p.elim
    · exact p.elim
  · exact p.elim
def maxI : List Int → Int
  | [] => 0
  | [x] => x
  | x :: r => max x (maxI r)
def minI : List Int → Int
  | [] => 0
  | [x] => x
  | x :: r => min x (minI r)
theorem maxI_mem : ∀ {ns : List Int}, ns ≠ [] → maxI ns ∈ ns ∧ ∀ y ∈ ns, y ≤ maxI ns
  | [], h => absurd rfl h
  | [x], _ => by simp [maxI]
  | x :: y :: r, _ => by
    obtain ⟨h1, h2⟩ := maxI_mem (ns := y :: r) (by simp)
    show max x (maxI (y :: r)) ∈ x :: y :: r ∧ ∀ w ∈ x :: y :: r, w ≤ max x (maxI (y :: r))
    refine ⟨?_, fun w hw => ?_⟩
    · by_cases h : x ≤ maxI (y :: r)
      · rw [show max x (maxI (y :: r)) = maxI (y :: r) by omega]
        exact List.mem_cons_of_mem _ h1
      · rw [show max x (maxI (y :: r)) = x by omega]
        exact List.mem_cons_self
    · rcases List.mem_cons.mp hw with e | e
      · omega
      · have := h2 w e
        omega
theorem minI_mem : ∀ {ns : List Int}, ns ≠ [] → minI ns ∈ ns ∧ ∀ y ∈ ns, minI ns ≤ y
  | [], h => absurd rfl h
  | [x], _ => by simp [minI]
  | x :: y :: r, _ => by
    obtain ⟨h1, h2⟩ := minI_mem (ns := y :: r) (by simp)
    show min x (minI (y :: r)) ∈ x :: y :: r ∧ ∀ w ∈ x :: y :: r, min x (minI (y :: r)) ≤ w
    refine ⟨?_, fun w hw => ?_⟩
    · by_cases h : minI (y :: r) ≤ x
      · rw [show min x (minI (y :: r)) = minI (y :: r) by omega]
        exact List.mem_cons_of_mem _ h1
      · rw [show min x (minI (y :: r)) = x by omega]
        exact List.mem_cons_self
    · rcases List.mem_cons.mp hw with e | e
      · omega
      · have := h2 w e
        omega
def biMax (vs : List PV) (h : Cells) : Out PV := match vs with
  | [v] => match asL v h with
    | some xs => match asInts xs with
      | some (x :: ns) => .ok (.d (.int (maxI (x :: ns)))) h
      | _ => .bad
    | none => .bad
  | _ => .bad
def biMin (vs : List PV) (h : Cells) : Out PV := match vs with
  | [v] => match asL v h with
    | some xs => match asInts xs with
      | some (x :: ns) => .ok (.d (.int (minI (x :: ns)))) h
      | _ => .bad
    | none => .bad
  | _ => .bad
theorem bc_max {K : PySem.W.Frag} {cs : List Tb} : Bc K cs (rMax K) biMax := by
  intro m z H h vs us Q Wx hh r p
  unfold biMax at p
  split at p
  · obtain ⟨u, rfl, r1⟩ := rep1 r
    split at p
    · rename_i xs ex
      obtain ⟨a, ws, rfl, q1, t1⟩ := asL_rep hh r1 ex
      split at p
      · rename_i x ns en
        rw [asInts_rep t1 en] at q1
        refine ⟨a, _, rfl, .inl (.inl q1), by simp, fun k hk hle => ?_⟩
        obtain ⟨h1, h2⟩ := maxI_mem (ns := x :: ns) (by simp)
        rw [show k = maxI (x :: ns) from Int.le_antisymm (h2 k hk) (hle _ h1)]
        exact p.here hh _ (rI_ _)
      · exact p.elim
    · exact p.elim
  · exact p.elim
theorem bc_min {K : PySem.W.Frag} {cs : List Tb} : Bc K cs (rMin K) biMin := by
  intro m z H h vs us Q Wx hh r p
  unfold biMin at p
  split at p
  · obtain ⟨u, rfl, r1⟩ := rep1 r
    split at p
    · rename_i xs ex
      obtain ⟨a, ws, rfl, q1, t1⟩ := asL_rep hh r1 ex
      split at p
      · rename_i x ns en
        rw [asInts_rep t1 en] at q1
        refine ⟨a, _, rfl, .inl (.inl q1), by simp, fun k hk hle => ?_⟩
        obtain ⟨h1, h2⟩ := minI_mem (ns := x :: ns) (by simp)
        rw [show k = minI (x :: ns) from Int.le_antisymm (hle _ h1) (h2 k hk)]
        exact p.here hh _ (rI_ _)
      · exact p.elim
    · exact p.elim
  · exact p.elim
/-! ## items and slices -/
def asS (v : PV) (h : Cells) : Option (List PV) := match asL v h with
  | some xs => some xs
  | none => asT v
def opIx (v w : PV) (h : Cells) : Out PV := match v, w with
  | .d (.str z), .d (.int i) => if z.length ≤ sizeLine then (match atI z.cps.toList i with
      | some c => .ok (.d (.str ⟨#[c]⟩)) h
      | none => .bad) else .bad
  | v, .d (.int i) => match asS v h with
    | some xs => match atI xs i with
      | some x => .ok x h
      | none => .bad
    | none => .bad
  | _, _ => .bad
theorem atI_some {α : Type} {xs : List α} {i : Int} {v : α} (h : atI xs i = some v) : ∃ j, ixN xs.length i = some j ∧ xs[j]? = some v := by
  unfold atI at h
  cases e : ixN xs.length i with
  | none => rw [e] at h; cases h
  | some j => rw [e] at h; exact ⟨j, rfl, h⟩
theorem atI_rep {K : PySem.W.Frag} {m z : List Addr} {H : Hp} {xs : List PV} {vs : List V} {i : Int} {x : PV} (t : RepAll K m z H xs vs) (h : atI xs i = some x) : ∃ v, atI vs i = some v ∧ Rep K m z H x v := by
  obtain ⟨j, h1, h2⟩ := atI_some h
  obtain ⟨v, h3, h4⟩ := t.get h2
  refine ⟨v, ?_, h4⟩
  unfold atI
  rw [← t.length, h1]
  exact h3
theorem br_ix {K : PySem.W.Frag} {cs : List Tb} : Br K cs (rIx K) opIx := by
  intro m z H h v w u1 u2 Q Wx hh r1 r2 p
  unfold opIx at p
  split at p
  · rename_i zz i
    split at p
    · rename_i hz
      split at p
      · rename_i c ec
        obtain ⟨e1, o1⟩ := rep_str r1
        rw [e1, rep_int r2]
        refine .inr (.inr ⟨_, _, c, rfl, rfl, hz, ec, p.here hh _ (rS_ ?_)⟩)
        obtain ⟨j, _, h2⟩ := atI_some ec
        unfold PyData.strOk at *
        rw [← Array.all_toList] at o1
        have := List.all_eq_true.mp o1 c (List.mem_of_getElem? h2)
        simpa using this
      · exact p.elim
    · exact p.elim
  · rename_i i _
    rw [rep_int r2]
    split at p
    · rename_i xs ex
      split at p
      · rename_i x et
        unfold asS at ex
        split at ex
        · rename_i ys ey
          obtain rfl := Option.some.inj ex
          obtain ⟨a, ws, rfl, q1, t1⟩ := asL_rep hh r1 ey
          obtain ⟨u, h1, h2⟩ := atI_rep t1 et
          exact .inl ⟨_, _, _, u, rfl, rfl, .inl (.inl q1), h1, p.here hh _ h2⟩
        · obtain ⟨a, ws, rfl, q1, t1⟩ := asT_rep r1 ex
          obtain ⟨u, h1, h2⟩ := atI_rep t1 et
          exact .inr (.inl ⟨_, _, _, u, rfl, rfl, SqT.top q1, h1, p.here hh _ h2⟩)
      · exact p.elim
    · exact p.elim
  · exact p.elim
section
variable {X : Cx} {cs : List Tb} {W : WX}
theorem s_ix {a b : Expr} {pos : Pos} {f1 f2 : ME PV} (ha : SE X cs W a f1) (hb : SE X cs W b f2) (hs : PlainIx b := by exact fun _ _ => rfl) : SE X cs W (.Subscript a b pos) (mBin opIx f1 f2) := pe_imp (pe_ix ix_seq ha hb hs) fun _ _ _ => tE_bin br_ix
/-! a part of a slice -/
def tO (K : PySem.W.Frag) (cs : List Tb) (W : WX) (f : ME (Option Int)) : TO := fun σ H Q => ∃ m z e h, SRel K m z H e σ ∧ HRel K cs m z h H ∧ Po K cs z m H (fun b _ _ H' => Q b H') (WxE K W σ) (f e h)
abbrev SO (X : Cx) (cs : List Tb) (W : WX) (o : Option Expr) (f : ME (Option Int)) : Prop := PO X o (tO X.K cs W f)
theorem po_imp {o : Option Expr} {t t' : TO} (h : PO X o t) (i : ∀ σ H Q, t' σ H Q → t σ H Q) : PO X o t' := ⟨fun pins s σ H Q I q => h.run pins s σ H Q I (i σ H Q q)⟩
def oNo : ME (Option Int) := fun _ h => .ok none h
def oSo (f : ME PV) : ME (Option Int) := fun e h => (f e h).bind fun v h1 => match v with
  | .d (.int i) => .ok (some i) h1
  | _ => .bad
theorem s_no : SO X cs W none oNo := po_imp po_none fun σ H Q ⟨m, z, e, h, hs, hh, p⟩ => p.here hh
theorem s_so {a : Expr} {f : ME PV} (ha : SE X cs W a f) : SO X cs W (some a) (oSo f) := po_imp (po_some ha) fun σ H Q ⟨m, z, e, h, hs, hh, p⟩ => tE_then hs hh p fun v h1 m1 H1 u hs1 hh1 r1 n1 p1 => by
  split at p1
  · rw [rep_int r1]
    exact ⟨_, rfl, p1.here hh1⟩
  · exact p1.elim
def cutL {α : Type} (xs : List α) (lo hi : Option Int) : List α := (xs.drop (HT.sIx xs.length 0 lo)).take (HT.sIx xs.length xs.length hi - HT.sIx xs.length 0 lo)
def opSl (v : PV) (lo hi : Option Int) (h : Cells) : Out PV := match v with
  | .d (.str z) => if z.length ≤ sizeLine then .ok (.d (.str (cutS z lo hi))) h else .bad
  | .sc ns => .ok (.d (.list ((cutL ns lo hi).map .int))) h
  | v => match asL v h with
    | some xs => .ok (mkL (cutL xs lo hi)) h
    | none => match asT v with
      | some xs => .ok (mkT (cutL xs lo hi)) h
      | none => .bad
def mSl (f : ME PV) (g1 g2 : ME (Option Int)) : ME PV := fun e h => (f e h).bind fun v h1 => (g1 e h1).bind fun lo h2 => (g2 e h2).bind fun hi h3 => opSl v lo hi h3
def rSlM (K : PySem.W.Frag) : V → Option Int → Option Int → Hp → VK → Prop := fun x lo hi H Q => rSlL K x lo hi H Q ∨ rSlA K x lo hi H Q ∨ rSlS x lo hi H Q
theorem sl_M : SlR X (rSlM X.K) := sl_list.or (sl_tupA.or sl_str)
theorem tO_then {f : ME (Option Int)} {β : Type} {g : Option Int → Cells → Out β} {σ : L2.St} {H : Hp} {m z : List Addr} {e : Sl} {h : Cells} {R : β → Cells → List Addr → Hp → Prop} {K : PySem.W.Frag} {Q : Option Int → Hp → Prop}
    (hs : SRel K m z H e σ) (hh : HRel K cs m z h H) (p : Po K cs z m H R (WxE K W σ) ((f e h).bind g))
    (k : ∀ v h1 m1 H1, SRel K m1 z H1 e σ → HRel K cs m1 z h1 H1 → Nx m z H m1 H1 → Po K cs z m1 H1 R (WxE K W σ) (g v h1) → Q v H1) : tO K cs W f σ H Q :=
  ⟨m, z, e, h, hs, hh, p.bind.imp (fun v h1 m1 H1 n r q => k v h1 m1 H1 (hs.nx n) r n q) fun _ _ q => q⟩
theorem RepAll.cut {K : PySem.W.Frag} {m z : List Addr} {H : Hp} {xs : List PV} {vs : List V} (t : RepAll K m z H xs vs) (lo hi : Option Int) : RepAll K m z H (cutL xs lo hi) (cutV vs lo hi) := by
  unfold cutL cutV
  rw [t.length]
  exact (t.drop _).take _
theorem strOk_cut {z : Str} {lo hi : Option Int} (o : PyData.strOk z = true) : PyData.strOk (cutS z lo hi) = true := by
  unfold PyData.strOk cutS at *
  rw [← Array.all_toList] at o ⊢
  refine List.all_eq_true.mpr fun x hx => List.all_eq_true.mp o x ?_
  exact List.drop_subset _ _ (List.take_subset _ _ hx)
theorem cut_ints (ns : List Int) (lo hi : Option Int) : cutV (ns.map V.int) lo hi = (cutL ns lo hi).map V.int := by
  unfold cutV cutL
  rw [List.length_map, ← List.map_drop, ← List.map_take]
theorem dd_ints {K : PySem.W.Frag} {F : Hp} : ∀ ns : List Int, DDAll K F (ns.map V.int) (ns.map .int)
  | [] => .nil
  | _ :: r => .cons (.int _) (dd_ints r)
theorem can_ints : ∀ ns : List Int, PyData.canLayAll0 (ns.map .int) = true
  | [] => by simp [PyData.canLayAll0]
  | _ :: r => by simp [PyData.canLayAll0, PyData.canLay0, can_ints r]
theorem br_sl {K : PySem.W.Frag} {m z : List Addr} {h : Cells} {H : Hp} {v : PV} {u : V} {lo hi : Option Int} {Q : VK} {Wx : Str → Hp → Prop} (hh : HRel K cs m z h H) (r : Rep K m z H v u) (p : Po K cs z m H (RxE K z Q) Wx (opSl v lo hi h)) : rSlM K u lo hi H Q := by
  unfold opSl at p
  split at p
  · split at p
    · rename_i hz
      obtain ⟨e1, o1⟩ := rep_str r
      rw [e1]
      exact .inr (.inr ⟨_, rfl, hz, p.here hh _ (rS_ (strOk_cut o1))⟩)
    · exact p.elim
  · cases r with
    | sc hq =>
      rename_i ns a
      have hq' : SqL K H a (ns.map V.int) := SqL.vw hq (Vw.fz m z H)
      refine .inl ⟨_, _, rfl, hq', fun pp hn => ?_⟩
      rw [cut_ints]
      have t := RepAll.of_dp (K := K) (m := m) (z := z) (H := H) (dd_ints (cutL ns lo hi)) (can_ints _)
      have q := rep_newL hh t hn
      rw [mkL_map] at q
      exact Po.new p hh hn _ q
  · split at p
    · rename_i xs ex
      obtain ⟨a, ws, rfl, q1, t1⟩ := asL_rep hh r ex
      exact .inl ⟨_, _, rfl, .inl (.inl q1), fun pp hn => Po.new p hh hn _ (rep_newL hh (t1.cut lo hi) hn)⟩
    · split at p
      · rename_i xs ex
        obtain ⟨a, ws, rfl, q1, t1⟩ := asT_rep r ex
        refine .inr (.inl ⟨_, _, rfl, SqT.top q1, fun ⟨e1, e2⟩ => ?_, fun _ pp hn => Po.new p hh hn _ (rep_newT hh (t1.cut lo hi) hn)⟩)
        have e3 : cutL xs lo hi = xs := by
          unfold cutL
          rw [t1.length, e1, e2, ← t1.length]
          simp
        rw [e3] at p
        exact p.here hh _ (rep_tup q1 t1)
      · exact p.elim
theorem s_sl {a : Expr} {lo hi : Option Expr} {p2 pos : Pos} {f : ME PV} {g1 g2 : ME (Option Int)} (ha : SE X cs W a f) (h1 : SO X cs W lo g1) (h2 : SO X cs W hi g2) : SE X cs W (.Subscript a (.Slice lo hi none p2) pos) (mSl f g1 g2) :=
  pe_imp (pe_slice sl_M ha h1 h2) fun σ H Q ⟨m, z, e, h, hs, hh, p⟩ => by
    refine tE_then hs hh p fun v h1 m1 H1 u hs1 hh1 r1 n1 p1 => ?_
    refine tO_then hs1 hh1 p1 fun lo h2 m2 H2 hs2 hh2 n2 p2 => ?_
    refine tO_then hs2 hh2 p2 fun hi h3 m3 H3 hs3 hh3 n3 p3 => ?_
    exact br_sl hh3 ((r1.nx n2).nx n3) p3
end
end Mi

set_option Elab.async false
set_option linter.all false
set_option maxRecDepth 100000
set_option maxHeartbeats 4000000
namespace Mi
open PySem PySem.Spec PyProof.Rows L2

/-! ## statements -/
def Out.toS {α : Type} (o : Out α) (g : α → Cells → OS) : OS := match o with
  | .ok a h => g a h
  | .ex c h => .ex c h
  | .bad => .bad
section
variable {K : PySem.W.Frag} {cs : List Tb} {z m m1 : List Addr} {W : WX} {H H1 : Hp} {D D' : Ends}
theorem PoS.step {o : OS} (p : PoS K cs z W m H D o) (n : Nx m z H m1 H1) : PoS K cs z W m1 H1 D o := by
  cases o with
  | nx e h => exact fun m' σ' H' n' => p m' σ' H' (n.trans n')
  | bk e h => exact fun m' σ' H' n' => p m' σ' H' (n.trans n')
  | ct e h => exact fun m' σ' H' n' => p m' σ' H' (n.trans n')
  | rt e h => exact fun m' σ' H' n' => p m' σ' H' (n.trans n')
  | ex e h => exact fun m' σ' H' n' => p m' σ' H' (n.trans n')
  | bad => exact p
theorem PoS.of {α : Type} {o : Out α} {g : α → Cells → OS} {σ : L2.St} (p : PoS K cs z W m H D (o.toS g)) : Po K cs z m H (fun a h' m' H' => PoS K cs z W m' H' D (g a h')) (WxE K W σ) o := by
  cases o with
  | ok a h1 => exact fun m' H' n' r => PoS.step (o := g a h1) p n'
  | ex c h1 => exact fun m' H' n' r => p m' σ H' n' r
  | bad => exact p
end
section
variable {X : Cx} {cs : List Tb} {W : WX}
theorem tE_S {f : ME PV} {g : PV → Cells → OS} {σ : L2.St} {H : Hp} {m z : List Addr} {e : Sl} {h : Cells} {D : Ends} {K : PySem.W.Frag} {Q : VK}
    (hs : SRel K m z H e σ) (hh : HRel K cs m z h H) (p : PoS K cs z W m H D ((f e h).toS g))
    (k : ∀ v h1 m1 H1 u, SRel K m1 z H1 e σ → HRel K cs m1 z h1 H1 → Rep K m1 z H1 v u → Nx m z H m1 H1 → PoS K cs z W m1 H1 D (g v h1) → Q u H1) : tE K cs W f σ H Q :=
  ⟨m, z, e, h, hs, hh, (PoS.of (σ := σ) p).imp (fun v h1 m1 H1 n r q u ru => k v h1 m1 H1 u (hs.nx n) r ru n q) fun _ _ q => q⟩
theorem tT_S {f : ME Bool} {g : Bool → Cells → OS} {σ : L2.St} {H : Hp} {m z : List Addr} {e : Sl} {h : Cells} {D : Ends} {K : PySem.W.Frag} {Q : Bool → Hp → Prop}
    (hs : SRel K m z H e σ) (hh : HRel K cs m z h H) (p : PoS K cs z W m H D ((f e h).toS g))
    (k : ∀ v h1 m1 H1, SRel K m1 z H1 e σ → HRel K cs m1 z h1 H1 → Nx m z H m1 H1 → PoS K cs z W m1 H1 D (g v h1) → Q v H1) : tT K cs W f σ H Q :=
  ⟨m, z, e, h, hs, hh, (PoS.of (σ := σ) p).imp (fun v h1 m1 H1 n r q => k v h1 m1 H1 (hs.nx n) r n q) fun _ _ q => q⟩
theorem tA_S {f : ME (List PV)} {g : List PV → Cells → OS} {σ : L2.St} {H : Hp} {m z : List Addr} {e : Sl} {h : Cells} {D : Ends} {K : PySem.W.Frag} {Q : List V → Hp → Prop}
    (hs : SRel K m z H e σ) (hh : HRel K cs m z h H) (p : PoS K cs z W m H D ((f e h).toS g))
    (k : ∀ v h1 m1 H1 u, SRel K m1 z H1 e σ → HRel K cs m1 z h1 H1 → RepAll K m1 z H1 v u → Nx m z H m1 H1 → PoS K cs z W m1 H1 D (g v h1) → Q u H1) : tA K cs W f σ H Q :=
  ⟨m, z, e, h, hs, hh, (PoS.of (σ := σ) p).imp (fun v h1 m1 H1 n r q u ru => k v h1 m1 H1 u (hs.nx n) r ru n q) fun _ _ q => q⟩
/-- at once -/
theorem PoS.nx_ {K : PySem.W.Frag} {z m : List Addr} {H : Hp} {D : Ends} {e : Sl} {h : Cells} {σ : L2.St} (p : PoS K cs z W m H D (.nx e h)) (hh : HRel K cs m z h H) (hs : SRel K m z H e σ) : D.nx σ H := p m σ H (Nx.refl _ _ _) hh hs
theorem PoS.rt_ {K : PySem.W.Frag} {z m : List Addr} {H : Hp} {D : Ends} {v : PV} {h : Cells} {u : V} (p : PoS K cs z W m H D (.rt v h)) (hh : HRel K cs m z h H) (r : Rep K m z H v u) : D.rt u H := p m u H (Nx.refl _ _ _) hh r
def mSkip : MS := fun e h => .nx e h
def mSeq (f g : MS) : MS := fun e h => match f e h with
  | .nx e1 h1 => g e1 h1
  | o => o
theorem b_nil : SB X cs W [] mSkip := pss_imp pss_nil fun D σ H ⟨m, z, e, h, hs, hh, p⟩ => p.nx_ hh hs
theorem b_cons {s : Stmt} {rest : List Stmt} {f g : MS} (hf : SS X cs W s f) (hg : SB X cs W rest g) : SB X cs W (s :: rest) (mSeq f g) :=
  pss_imp (pss_cons hf hg) fun D σ H ⟨m, z, e, h, hs, hh, p⟩ => by
    refine ⟨m, z, e, h, hs, hh, ?_⟩
    unfold mSeq at p
    cases q : f e h with
    | nx e1 h1 =>
      rw [q] at p
      exact fun m' σ' H' n hh' hs' => ⟨m', z, e1, h1, hs', hh', PoS.step p n⟩
    | bk e1 h1 => rw [q] at p; exact p
    | ct e1 h1 => rw [q] at p; exact p
    | rt e1 h1 => rw [q] at p; exact p
    | ex e1 h1 => rw [q] at p; exact p
    | bad => rw [q] at p; exact p
theorem b_one {s : Stmt} {f : MS} (hf : SS X cs W s f) : SB X cs W [s] f := pss_one hf
theorem s_pass {pos : Pos} : SS X cs W (.Pass pos) mSkip := ps_imp ps_pass fun D σ H ⟨m, z, e, h, hs, hh, p⟩ => p.nx_ hh hs
def mBreak : MS := fun e h => .bk e h
def mCont : MS := fun e h => .ct e h
theorem s_break {pos : Pos} : SS X cs W (.Break pos) mBreak := ps_imp ps_break fun D σ H ⟨m, z, e, h, hs, hh, p⟩ => p m σ H (Nx.refl _ _ _) hh hs
theorem s_cont {pos : Pos} : SS X cs W (.Continue pos) mCont := ps_imp ps_continue fun D σ H ⟨m, z, e, h, hs, hh, p⟩ => p m σ H (Nx.refl _ _ _) hh hs
def mExp (f : ME PV) : MS := fun e h => (f e h).toS fun _ h1 => .nx e h1
theorem s_exp {a : Expr} {pos : Pos} {f : ME PV} (ha : SE X cs W a f) (hs : swapsWith a none pos.line X.env = pure false := by rfl) : SS X cs W (.Expr a pos) (mExp f) :=
  ps_imp (ps_expr ha hs) fun D σ H ⟨m, z, e, h, hs, hh, p⟩ => tE_S hs hh p fun v h1 m1 H1 u hs1 hh1 r1 n1 p1 => p1.nx_ hh1 hs1
def mRet (f : ME PV) : MS := fun e h => (f e h).toS fun v h1 => .rt v h1
def mRetN : MS := fun _ h => .rt (.d .none) h
theorem s_ret {a : Expr} {pos : Pos} {f : ME PV} (ha : SE X cs W a f) : SS X cs W (.Return (some a) pos) (mRet f) :=
  ps_imp (ps_ret ha) fun D σ H ⟨m, z, e, h, hs, hh, p⟩ => tE_S hs hh p fun v h1 m1 H1 u hs1 hh1 r1 n1 p1 => p1.rt_ hh1 r1
theorem s_retN {pos : Pos} : SS X cs W (.Return none pos) mRetN := ps_imp ps_retN fun D σ H ⟨m, z, e, h, hs, hh, p⟩ => p.rt_ hh rN_
def mIf (c : ME Bool) (f g : MS) : MS := fun e h => (c e h).toS fun b h1 => if b then f e h1 else g e h1
theorem s_if {c : Expr} {a b : List Stmt} {pos : Pos} {fc : ME Bool} {f g : MS} (hc : ST X cs W c fc) (ha : SB X cs W a f) (hb : SB X cs W b g) : SS X cs W (.If c a b pos) (mIf fc f g) :=
  ps_imp (ps_if hc ha hb) fun D σ H ⟨m, z, e, h, hs, hh, p⟩ => tT_S hs hh p fun v h1 m1 H1 hs1 hh1 n1 p1 => by
    cases v with
    | true => rw [if_pos rfl] at p1 ⊢; exact ⟨m1, z, e, h1, hs1, hh1, p1⟩
    | false => rw [if_neg (by decide)] at p1 ⊢; exact ⟨m1, z, e, h1, hs1, hh1, p1⟩
/-! ### targets: vs, the slots that may be stored -/
abbrev MG := PV → Sl → Cells → Option (Sl × Cells)
def tG (K : PySem.W.Frag) (cs : List Tb) (vs : List Nat) (ft : MG) : TG := fun u σ H Q => ∃ m z e h v, SRel K m z H e σ ∧ HRel K cs m z h H ∧ Rep K m z H v u ∧ match ft v e h with
  | some (e', h') => ∀ m' σ' H', Nx m z H m' H' → HRel K cs m' z h' H' → SRel K m' z H' e' σ' → wipe σ' vs = wipe σ vs → Q σ' H'
  | none => False
abbrev SG (X : Cx) (cs : List Tb) (vs : List Nat) (tg : Expr) (ft : MG) : Prop := PG X tg (tG X.K cs vs ft)
theorem pg_imp {X : Cx} {e : Expr} {t t' : TG} (h : PG X e t) (i : ∀ v σ H Q, t' v σ H Q → t v σ H Q) : PG X e t' := ⟨fun pins s σ H v u Q I r q => h.run pins s σ H v u Q I r (i v σ H Q q)⟩
def gN (i : Nat) : MG := fun v e h => some (e.set i (some v), h)
theorem wipe_at : ∀ (vs : List Nat) (σ : L2.St) (j : Nat), (wipe σ vs)[j]? = if j ∈ vs then (σ[j]?).map (fun _ => none) else σ[j]?
  | [], σ, j => by simp [wipe]
  | v :: vs, σ, j => by
    unfold wipe
    by_cases hj : v = j
    · subst hj
      by_cases hl : v < σ.length
      · rw [List.getElem?_set_self (by rw [wipe_length]; exact hl), if_pos (by simp), List.getElem?_eq_getElem hl]; rfl
      · rw [List.getElem?_eq_none (by rw [List.length_set, wipe_length]; omega), List.getElem?_eq_none (by omega)]; simp
    · rw [List.getElem?_set_ne hj, wipe_at vs σ j]
      have e : (j ∈ v :: vs) ↔ j ∈ vs := by simp [Ne.symm hj]
      by_cases hm : j ∈ vs
      · rw [if_pos hm, if_pos (e.mpr hm)]
      · rw [if_neg hm, if_neg (fun q => hm (e.mp q))]
theorem wipe_set {vs : List Nat} {σ : L2.St} {i : Nat} {x : Option V} (hi : i ∈ vs) : wipe (σ.set i x) vs = wipe σ vs := by
  refine List.ext_getElem? fun j => ?_
  rw [wipe_at, wipe_at]
  by_cases hm : j ∈ vs
  · rw [if_pos hm, if_pos hm]
    by_cases e : i = j
    · subst e
      by_cases hl : i < σ.length
      · rw [List.getElem?_set_self hl, List.getElem?_eq_getElem hl]; rfl
      · rw [List.getElem?_eq_none (by simpa using hl), List.getElem?_eq_none (by omega)]
    · rw [List.getElem?_set_ne e]
  · rw [if_neg hm, if_neg hm, List.getElem?_set_ne (fun (e : i = j) => hm (e ▸ hi))]
theorem g_name {vs : List Nat} {i : Nat} {x : Str} {pos : Pos} (hN : X.N.Nodup) (hi : X.N[i]? = some x) (hx : Loc X.env.scope x) (hf : X.fn x = true ∨ X.env.scope.names.lookup x = some .local) (hv : i ∈ vs := by simp) : SG X cs vs (.Name x pos) (gN i) :=
  pg_imp (pg_name hN hi hx hf) fun u σ H Q ⟨m, z, e, h, v, hs, hh, r, p⟩ => p m _ H (Nx.refl _ _ _) hh (hs.put i r) (wipe_set hv)
abbrev MGs := List PV → Sl → Cells → Option (Sl × Cells)
def tGs (K : PySem.W.Frag) (cs : List Tb) (vs : List Nat) (ft : MGs) : TGs := fun u σ H Q => ∃ m z e h v, SRel K m z H e σ ∧ HRel K cs m z h H ∧ RepAll K m z H v u ∧ match ft v e h with
  | some (e', h') => ∀ m' σ' H', Nx m z H m' H' → HRel K cs m' z h' H' → SRel K m' z H' e' σ' → wipe σ' vs = wipe σ vs → Q σ' H'
  | none => False
abbrev SGs (X : Cx) (cs : List Tb) (vs : List Nat) (tg : List Expr) (ft : MGs) : Prop := PGs X tg (tGs X.K cs vs ft)
theorem pgs_imp {X : Cx} {e : List Expr} {t t' : TGs} (h : PGs X e t) (i : ∀ v σ H Q, t' v σ H Q → t v σ H Q) : PGs X e t' := ⟨fun pins s σ H v u Q I r q => h.run pins s σ H v u Q I r (i v σ H Q q)⟩
def gsNil : MGs := fun vs e h => match vs with
  | [] => some (e, h)
  | _ => none
def gsCons (f : MG) (g : MGs) : MGs := fun vs e h => match vs with
  | v :: r => match f v e h with
    | some (e1, h1) => g r e1 h1
    | none => none
  | [] => none
theorem gs_nil {vs : List Nat} : SGs X cs vs [] gsNil := pgs_imp pgs_nil fun u σ H Q ⟨m, z, e, h, v, hs, hh, r, p⟩ => by
  cases v with
  | nil => cases r; exact ⟨rfl, p m σ H (Nx.refl _ _ _) hh hs rfl⟩
  | cons _ _ => exact p.elim
theorem gs_cons {vs : List Nat} {a : Expr} {es : List Expr} {f : MG} {g : MGs} (h1 : SG X cs vs a f) (h2 : SGs X cs vs es g) (hs : (assignEach (a :: es) X.env).map (·.2) = assign a X.env :: (assignEach es X.env).map (·.2) := by rfl) : SGs X cs vs (a :: es) (gsCons f g) :=
  pgs_imp (pgs_cons h1 h2 hs) fun u σ H Q ⟨m, z, e, h, v, hs, hh, r, p⟩ => by
    cases v with
    | nil => exact p.elim
    | cons v vs =>
      cases r with
      | cons r1 rr =>
        refine ⟨_, _, rfl, m, z, e, h, v, hs, hh, r1, ?_⟩
        unfold gsCons at p
        simp only at p
        cases q : f v e h with
        | none => rw [q] at p; exact p.elim
        | some q' =>
          obtain ⟨e1, h1⟩ := q'
          rw [q] at p
          simp only at p ⊢
          intro m' σ' H' n hh' hs' hw
          refine ⟨m', z, e1, h1, vs, hs', hh', rr.nx n, ?_⟩
          cases q2 : g vs e1 h1 with
          | none => rw [q2] at p; exact p.elim
          | some q' =>
            obtain ⟨e2, h2⟩ := q'
            rw [q2] at p
            exact fun m2 σ2 H2 n2 hh2 hs2 hw2 => p m2 σ2 H2 (n.trans n2) hh2 hs2 (hw2.trans hw)
/-- a, b, .. = a tuple -/
def gTp (n : Nat) (g : MGs) : MG := fun v e h => match asT v with
  | some xs => if xs.length = n then g xs e h else none
  | none => none
theorem g_tup {vs : List Nat} {es : List Expr} {k : Nat} {pos : Pos} {n : Nat} {g : MGs} (hc : X.calm = true) (hg : SGs X cs vs es g) (hn : (assignEach es X.env).length = n := by rfl) (hst : (assignEach es X.env).findIdx? (·.1) = none := by rfl) : SG X cs vs (.Tuple es k pos) (gTp n g) :=
  pg_imp (pg_tup hc hg hn hst) fun u σ H Q ⟨m, z, e, h, v, hs, hh, r, p⟩ => by
    unfold gTp at p
    split at p
    · rename_i q
      split at q
      · rename_i xs ex
        split at q
        · rename_i hl
          obtain ⟨a, ws, rfl, q1, t1⟩ := asT_rep r ex
          refine ⟨a, ws, rfl, SqT.top q1, by rw [← t1.length]; exact hl, m, z, e, h, xs, hs, hh, t1, ?_⟩
          rw [q]
          exact p
        · cases q
      · cases q
    · exact p.elim
/-- target = value -/
def mAsg (f : ME PV) (g : MG) : MS := fun e h => (f e h).toS fun v h1 => match g v e h1 with
  | some (e2, h2) => .nx e2 h2
  | none => .bad
theorem tS_asg {vs : List Nat} {f : ME PV} {g : MG} {K : PySem.W.Frag} {D : Ends} {σ : L2.St} {H : Hp} (t : tS K cs W (mAsg f g) D σ H) : tAsg (tE K cs W f) (tG K cs vs g) D σ H := by
  obtain ⟨m, z, e, h, hs, hh, p⟩ := t
  refine tE_S hs hh p fun v h1 m1 H1 u hs1 hh1 r1 n1 p1 => ⟨m1, z, e, h1, v, hs1, hh1, r1, ?_⟩
  split at p1
  · exact fun m' σ' H' n' hh' hs' _ => p1 m' σ' H' n' hh' hs'
  · exact p1.elim
theorem s_asg {vs : List Nat} {tg a : Expr} {pos : Pos} {f : ME PV} {g : MG} (ha : SE X cs W a f) (hg : SG X cs vs tg g) (hs : swapsWithSole [tg] a pos.line X.env = pure false := by rfl) (hw : swappedStores [tg] a X.env = pure none := by rfl)
    (h1 : (assignEach [tg] X.env).map (·.2) = [assign tg X.env] := by rfl) : SS X cs W (.Assign [tg] a pos) (mAsg f g) := ps_imp (ps_asg ha hg hs hw h1) fun _ _ _ => tS_asg
theorem tG_name {i : Nat} {K : PySem.W.Frag} {u : V} {σ : L2.St} {H : Hp} {Q : L2.St → Hp → Prop} (t : tG K cs [i] (gN i) u σ H Q) : gName i u σ H Q := by
  obtain ⟨m, z, e, h, v, hs, hh, r, p⟩ := t
  exact p m _ H (Nx.refl _ _ _) hh (hs.put i r) (wipe_set (by simp))
theorem tAsg_imp {te : TE} {g g' : TG} (i : ∀ v σ H Q, g' v σ H Q → g v σ H Q) (mono : ∀ σ H Q Q', (∀ v H', Q v H' → Q' v H') → te σ H Q → te σ H Q') {D : Ends} {σ : L2.St} {H : Hp} (t : tAsg te g' D σ H) : tAsg te g D σ H := mono _ _ _ _ (fun _ _ q => i _ _ _ _ q) t
theorem tE_mono {f : ME PV} {K : PySem.W.Frag} {σ : L2.St} {H : Hp} {Q Q' : VK} (i : ∀ v H', Q v H' → Q' v H') (t : tE K cs W f σ H Q) : tE K cs W f σ H Q' := by
  obtain ⟨m, z, e, h, hs, hh, p⟩ := t
  exact ⟨m, z, e, h, hs, hh, p.imp (fun _ _ _ _ _ _ q u ru => i _ _ (q u ru)) fun _ _ q => q⟩
theorem s_set {i : Nat} {x : Str} {a : Expr} {pos pos' : Pos} {f : ME PV} (hN : X.N.Nodup) (hi : X.N[i]? = some x) (hx : Loc X.env.scope x) (hf : X.fn x = true ∨ X.env.scope.names.lookup x = some .local) (ha : SE X cs W a f)
    (hs : swapsWith a (some (.Name x pos')) pos.line X.env = pure false := by rfl) : SS X cs W (.Assign [.Name x pos'] a pos) (mAsg f (gN i)) :=
  ps_imp (ps_set hN hi hx ha hs hf) fun D σ H t => tE_mono (fun _ _ q => tG_name q) (tS_asg t)
/-- a, b = x, y: local names -/
def mPar (i j : Nat) (fa : ME (List PV)) : MS := fun e h => (fa e h).toS fun vs h1 => match vs with
  | [v, w] => .nx ((e.set i (some v)).set j (some w)) h1
  | _ => .bad
theorem s_par {i j : Nat} {x y : Str} {a b : Expr} {fa : ME (List PV)} {px py pt pos : Pos} {kt k2 pt2} (hc : X.calm = true) (hN : X.N.Nodup) (hi : X.N[i]? = some x) (hj : X.N[j]? = some y) (hij : i ≠ j)
    (hx : X.env.scope.names.lookup x = some .local) (hy : X.env.scope.names.lookup y = some .local) (ha : SA X cs W [a, b] fa)
    (hw : swappedStores [.Tuple [.Name x px, .Name y py] kt pt] (.Tuple [a, b] k2 pt2) X.env = pure (some [x, y]))
    (hs : swapsWithSole [.Tuple [.Name x px, .Name y py] kt pt] (.Tuple [a, b] k2 pt2) pos.line X.env = pure false := by rfl) :
    SS X cs W (.Assign [.Tuple [.Name x px, .Name y py] kt pt] (.Tuple [a, b] k2 pt2) pos) (mPar i j fa) :=
  ps_imp (ps_par hc hN hi hj hij hx hy ha hw hs) fun D σ H ⟨m, z, e, h, hs, hh, p⟩ => tA_S hs hh p fun vs h1 m1 H1 us hs1 hh1 r1 n1 p1 => by
    split at p1
    · obtain ⟨a, b, rfl, r2, r3⟩ := rep2 r1
      exact ⟨_, _, rfl, p1.nx_ hh1 ((hs1.put i r2).put j r3)⟩
    · exact p1.elim
def mPar3 (i j l : Nat) (fa : ME (List PV)) : MS := fun e h => (fa e h).toS fun vs h1 => match vs with
  | [v, w, x] => .nx (((e.set i (some v)).set j (some w)).set l (some x)) h1
  | _ => .bad
theorem s_par3 {i j l : Nat} {x y t : Str} {a b c : Expr} {fa : ME (List PV)} {px py pz pt pos : Pos} {kt k2 pt2} (hp : ∀ ta, PA X [a, b, c] ta → PS X (.Assign [.Tuple [.Name x px, .Name y py, .Name t pz] kt pt] (.Tuple [a, b, c] k2 pt2) pos) (tPar3 i j l ta)) (ha : SA X cs W [a, b, c] fa) :
    SS X cs W (.Assign [.Tuple [.Name x px, .Name y py, .Name t pz] kt pt] (.Tuple [a, b, c] k2 pt2) pos) (mPar3 i j l fa) :=
  ps_imp (hp _ ha) fun D σ H ⟨m, z, e, h, hs, hh, p⟩ => tA_S hs hh p fun vs h1 m1 H1 us hs1 hh1 r1 n1 p1 => by
    split at p1
    · cases r1 with
      | cons q1 t1 =>
        obtain ⟨a, b, rfl, r2, r3⟩ := rep2 t1
        exact ⟨_, _, _, rfl, p1.nx_ hh1 (((hs1.put i q1).put j r2).put l r3)⟩
    · exact p1.elim
/-! ### while -/
def mWh (c : ME Bool) (b : MS) : Nat → MS
  | 0 => fun _ _ => .bad
  | n + 1 => fun e h => (c e h).toS fun k h1 => if k then (match b e h1 with
      | .nx e2 h2 => mWh c b n e2 h2
      | .ct e2 h2 => mWh c b n e2 h2
      | .bk e2 h2 => .nx e2 h2
      | o => o) else .nx e h1
theorem s_while {c : Expr} {body : List Stmt} {pos : Pos} {fc : ME Bool} {fb : MS} {n : Nat} (hp : PassesOwn (model X.prog X.w) X.A X.env X.xe) (hc : ST X cs W c fc) (hb : SB X cs W body fb) : SS X cs W (.While c body [] pos) (mWh fc fb n) :=
  ps_imp (ps_while hp hc hb) fun D σ H ⟨m, z, e, h, hs, hh, p⟩ => by
    refine ⟨fun k σ H => ∃ m e h, SRel X.K m z H e σ ∧ HRel X.K cs m z h H ∧ PoS X.K cs z W m H D (mWh fc fb k e h), ⟨n, m, e, h, hs, hh, p⟩, ?_⟩
    rintro k σ1 H1 ⟨m1, e1, h1, hs1, hh1, p1⟩
    cases k with
    | zero => exact p1.elim
    | succ k =>
      refine tT_S hs1 hh1 p1 fun b h2 m2 H2 hs2 hh2 n2 p2 => ?_
      cases b with
      | false =>
        rw [if_neg (by decide)] at p2 ⊢
        exact p2.nx_ hh2 hs2
      | true =>
        rw [if_pos rfl] at p2 ⊢
        refine ⟨fun σ' H' => ∃ m e h, SRel X.K m z H' e σ' ∧ HRel X.K cs m z h H' ∧ PoS X.K cs z W m H' D (mWh fc fb k e h), fun σ' H' w => ⟨k, Nat.lt_succ_self k, w⟩, m2, z, e1, h2, hs2, hh2, ?_⟩
        cases q : fb e1 h2 with
        | nx e3 h3 => rw [q] at p2; exact fun m' σ' H' n' hh' hs' => ⟨m', e3, h3, hs', hh', PoS.step p2 n'⟩
        | ct e3 h3 => rw [q] at p2; exact fun m' σ' H' n' hh' hs' => ⟨m', e3, h3, hs', hh', PoS.step p2 n'⟩
        | bk e3 h3 => rw [q] at p2; exact p2
        | rt e3 h3 => rw [q] at p2; exact p2
        | ex e3 h3 => rw [q] at p2; exact p2
        | bad => rw [q] at p2; exact p2
end
/-! ### x op= e -/
def mAug (i : Nat) (g : PV → PV → Cells → Out PV) (f : ME PV) : MS := fun e h => match e[i]? with
  | some (some v) => (f e h).toS fun w h1 => (g v w h1).toS fun x h2 => .nx (e.set i (some x)) h2
  | _ => .bad
section
variable {X : Cx} {cs : List Tb} {W : WX}
theorem s_aug {i : Nat} {x : Str} {a : Expr} {op : Operator} {r : R2} {g : PV → PV → Cells → Out PV} {f : ME PV} {pos pos' : Pos} (hN : X.N.Nodup) (hi : X.N[i]? = some x) (hx : Loc X.env.scope x) (hf : X.fn x = true ∨ X.env.scope.names.lookup x = some .local) (ha : SE X cs W a f)
    (ho : OpR X (inplaceOp op) r) (hb : Br X.K cs r g) : SS X cs W (.AugAssign (.Name x pos') op a pos) (mAug i g f) :=
  ps_imp (ps_aug hN hi hx ha ho hf) fun D σ H ⟨m, z, e, h, hs, hh, p⟩ => by
    unfold mAug at p
    split at p
    · rename_i v ev
      obtain ⟨u, h1, h2⟩ := hs.at_ i v ev
      refine ⟨u, h1, tE_S hs hh p fun w h1 m1 H1 u1 hs1 hh1 r1 n1 p1 => ?_⟩
      exact hb m1 z H1 h1 v w u u1 _ _ hh1 (h2.nx n1) r1 ((PoS.of (σ := σ) p1).imp (fun x h2 m2 H2 n2 hh2 q u2 ru => q.nx_ hh2 ((hs1.nx n2).put i ru)) fun _ _ q => q)
    · exact p.elim
end
end Mi

set_option Elab.async false
set_option linter.all false
set_option maxRecDepth 100000
set_option maxHeartbeats 4000000
namespace Mi
open PySem PySem.Spec PyProof.Rows L2

/-! ## equality of values, decided -/
mutual
def dbeq : PyData → PyData → Bool
  | .none, .none => true
  | .bool a, .bool b => a == b
  | .int a, .int b => a == b
  | .str a, .str b => decide (a = b)
  | .list a, .list b => dbeqs a b
  | .tuple a, .tuple b => dbeqs a b
  | _, _ => false
def dbeqs : List PyData → List PyData → Bool
  | [], [] => true
  | a :: r, b :: t => dbeq a b && dbeqs r t
  | _, _ => false
end
mutual
theorem dbeq_eq : ∀ {a b : PyData}, dbeq a b = true → a = b
  | .none, .none, _ => rfl
  | .bool a, .bool b, h => by simp [dbeq] at h; rw [h]
  | .int a, .int b, h => by simp [dbeq] at h; rw [h]
  | .str a, .str b, h => by simp [dbeq] at h; rw [h]
  | .list a, .list b, h => by simp [dbeq] at h; rw [dbeqs_eq h]
  | .tuple a, .tuple b, h => by simp [dbeq] at h; rw [dbeqs_eq h]
  | .dict _, .dict _, h => by simp [dbeq] at h
  | .none, .bool _, h | .none, .int _, h | .none, .str _, h | .none, .list _, h | .none, .tuple _, h | .none, .dict _, h => by simp [dbeq] at h
  | .bool _, .none, h | .bool _, .int _, h | .bool _, .str _, h | .bool _, .list _, h | .bool _, .tuple _, h | .bool _, .dict _, h => by simp [dbeq] at h
  | .int _, .none, h | .int _, .bool _, h | .int _, .str _, h | .int _, .list _, h | .int _, .tuple _, h | .int _, .dict _, h => by simp [dbeq] at h
  | .str _, .none, h | .str _, .bool _, h | .str _, .int _, h | .str _, .list _, h | .str _, .tuple _, h | .str _, .dict _, h => by simp [dbeq] at h
  | .list _, .none, h | .list _, .bool _, h | .list _, .int _, h | .list _, .str _, h | .list _, .tuple _, h | .list _, .dict _, h => by simp [dbeq] at h
  | .tuple _, .none, h | .tuple _, .bool _, h | .tuple _, .int _, h | .tuple _, .str _, h | .tuple _, .list _, h | .tuple _, .dict _, h => by simp [dbeq] at h
  | .dict _, .none, h | .dict _, .bool _, h | .dict _, .int _, h | .dict _, .str _, h | .dict _, .list _, h | .dict _, .tuple _, h => by simp [dbeq] at h
theorem dbeqs_eq : ∀ {a b : List PyData}, dbeqs a b = true → a = b
  | [], [], _ => rfl
  | a :: r, b :: t, h => by
    simp [dbeqs] at h
    rw [dbeq_eq h.1, dbeqs_eq h.2]
  | [], _ :: _, h => by simp [dbeqs] at h
  | _ :: _, [], h => by simp [dbeqs] at h
end
mutual
def pbeq : PV → PV → Bool
  | .d a, .d b => dbeq a b
  | .r a, .r b => a == b
  | .ls a, .ls b => pbeqs a b
  | .tp a, .tp b => pbeqs a b
  | .cl a, .cl b => a == b
  | .sc a, .sc b => decide (a = b)
  | _, _ => false
def pbeqs : List PV → List PV → Bool
  | [], [] => true
  | a :: r, b :: t => pbeq a b && pbeqs r t
  | _, _ => false
end
mutual
theorem pbeq_eq : ∀ {a b : PV}, pbeq a b = true → a = b
  | .d a, .d b, h => by simp [pbeq] at h; rw [dbeq_eq h]
  | .r a, .r b, h => by simp [pbeq] at h; rw [h]
  | .ls a, .ls b, h => by simp [pbeq] at h; rw [pbeqs_eq h]
  | .tp a, .tp b, h => by simp [pbeq] at h; rw [pbeqs_eq h]
  | .cl a, .cl b, h => by simp [pbeq] at h; rw [h]
  | .sc a, .sc b, h => by simp [pbeq] at h; rw [h]
  | .d _, .r _, h | .d _, .ls _, h | .d _, .tp _, h | .d _, .cl _, h | .d _, .sc _, h => by simp [pbeq] at h
  | .r _, .d _, h | .r _, .ls _, h | .r _, .tp _, h | .r _, .cl _, h | .r _, .sc _, h => by simp [pbeq] at h
  | .ls _, .d _, h | .ls _, .r _, h | .ls _, .tp _, h | .ls _, .cl _, h | .ls _, .sc _, h => by simp [pbeq] at h
  | .tp _, .d _, h | .tp _, .r _, h | .tp _, .ls _, h | .tp _, .cl _, h | .tp _, .sc _, h => by simp [pbeq] at h
  | .cl _, .d _, h | .cl _, .r _, h | .cl _, .ls _, h | .cl _, .tp _, h | .cl _, .sc _, h => by simp [pbeq] at h
  | .sc _, .d _, h | .sc _, .r _, h | .sc _, .ls _, h | .sc _, .tp _, h | .sc _, .cl _, h => by simp [pbeq] at h
theorem pbeqs_eq : ∀ {a b : List PV}, pbeqs a b = true → a = b
  | [], [], _ => rfl
  | a :: r, b :: t, h => by
    simp [pbeqs] at h
    rw [pbeq_eq h.1, pbeqs_eq h.2]
  | [], _ :: _, h => by simp [pbeqs] at h
  | _ :: _, [], h => by simp [pbeqs] at h
end
mutual
theorem dbeq_refl : ∀ {a : PyData}, a.canLay0 = true → dbeq a a = true
  | .none, _ => rfl
  | .bool a, _ => by simp [dbeq]
  | .int a, _ => by simp [dbeq]
  | .str a, _ => by simp [dbeq]
  | .list a, h => by simp [dbeq]; exact dbeqs_refl (by simpa [PyData.canLay0] using h)
  | .tuple a, h => by simp [dbeq]; exact dbeqs_refl (by simpa [PyData.canLay0] using h)
  | .dict a, h => by simp [PyData.canLay0] at h
theorem dbeqs_refl : ∀ {a : List PyData}, PyData.canLayAll0 a = true → dbeqs a a = true
  | [], _ => rfl
  | x :: r, h => by
    simp [PyData.canLayAll0] at h
    simp [dbeqs, dbeq_refl h.1, dbeqs_refl h.2]
end

/-! ## what is walked -/
/-- the cell that the items come from is as it was -/
def gd (src : Option Nat) (all : List PV) (h : Cells) : Bool := match src with
  | none => true
  | some n => match h[n]? with
    | some (.lst xs) => pbeqs xs all
    | _ => false
theorem gd_some {n : Nat} {all : List PV} {h : Cells} (e : gd (some n) all h = true) : h[n]? = some (.lst all) := by
  unfold gd at e
  simp only at e
  split at e
  · rename_i xs q
    rw [q, pbeqs_eq e]
  · cases e
def FrZ (H : Hp) (z z' : List Addr) : Prop := ∃ l, z' = l ++ z ∧ ∀ a ∈ l, H a = none
theorem FrZ.refl (H : Hp) (z : List Addr) : FrZ H z z := ⟨[], rfl, fun _ h => absurd h (by simp)⟩
theorem Nx.vwz {m z m' z' : List Addr} {H H' : Hp} (n : Nx m z H m' H') (f : FrZ H z z') : Vw (fz m z H) (fz m' z' H') := fun a o h nt => by
  obtain ⟨h1, h2, h3⟩ := fz_some h
  obtain ⟨l, e, nl⟩ := n.pre
  obtain ⟨k, e2, nk⟩ := f
  refine fz_of (fun q => ?_) (fun q => ?_) (n.kp a o h1 h3 nt)
  · rw [e] at q
    rcases List.mem_append.mp q with q | q
    · exact h1 q
    · rw [nl a q] at h3; cases h3
  · rw [e2] at q
    rcases List.mem_append.mp q with q | q
    · rw [nk a q] at h3; cases h3
    · exact h2 q
/-- J walks these items -/
def JOk (K : PySem.W.Frag) (cs : List Tb) (z m : List Addr) (H : Hp) (xs : List PV) (src : Option Nat) (J : It) : Prop :=
  ∀ z' m' h' H', FrZ H z z' → Nx m z H m' H' → HRel K cs m' z' h' H' → gd src xs h' = true →
    (∀ i x, xs[i]? = some x → J.go i H' ∧ ∀ u H'', J.yld i H' u H'' → Nx m' z' H' m' H'' ∧ HRel K cs m' z' h' H'' ∧ Rep K m' z' H'' x u) ∧ J.stop xs.length H'
def tI (K : PySem.W.Frag) (cs : List Tb) (W : WX) (f : ME (List PV × Option Nat)) : TI := fun σ H R => ∃ m z e h, SRel K m z H e σ ∧ HRel K cs m z h H ∧
  Po K cs z m H (fun p h1 m1 H1 => ∀ J, JOk K cs z m1 H1 p.1 p.2 J → R J H1) (WxE K W σ) (f e h)
abbrev SI (X : Cx) (cs : List Tb) (W : WX) (tg iter : Expr) (f : ME (List PV × Option Nat)) : Prop := PI X tg iter (tI X.K cs W f)
theorem pi_imp {X : Cx} {tg e : Expr} {t t' : TI} (h : PI X tg e t) (i : ∀ σ H Q, t' σ H Q → t σ H Q) : PI X tg e t' := ⟨fun pins s σ H Q I q => h.run pins s σ H Q I (i σ H Q q)⟩
theorem pi_or {X : Cx} {tg e : Expr} {t t' : TI} (h : PI X tg e t) (h' : PI X tg e t') : PI X tg e (fun σ H R => t σ H R ∨ t' σ H R) := ⟨fun pins s σ H Q I q => q.elim (h.run pins s σ H Q I) (h'.run pins s σ H Q I)⟩
/-- a list or a tuple -/
def iSeq (f : ME PV) : ME (List PV × Option Nat) := fun e h => (f e h).bind fun v h1 => match v with
  | .r n => match h1[n]? with
    | some (.lst xs) => .ok (xs, some n) h1
    | _ => .bad
  | v => match asL v h1 with
    | some xs => .ok (xs, none) h1
    | none => .bad
def iTp (f : ME PV) : ME (List PV × Option Nat) := fun e h => (f e h).bind fun v h1 => match asT v with
  | some xs => .ok (xs, none) h1
  | none => .bad
section
variable {K : PySem.W.Frag} {cs : List Tb} {z m : List Addr} {H : Hp} {xs : List PV} {vs : List V} {a : Addr}
theorem jok_fz (hq : fz m z H a = some (.lst vs)) (t : RepAll K m z H xs vs) : JOk K cs z m H xs none (Itl K a) := fun z' m' h' H' f n hh _ => by
  have hv := n.vwz f
  have h1 := hv _ _ hq noTb_lst
  have h2 : SqL K H' a vs := .inl (.inl (fz_some h1).2.2)
  have t' := Rep.vwAll hv (fun _ _ q => n.get q) t
  refine ⟨fun i x hx => ?_, vs, h2, by rw [t.length]; exact Nat.le_refl _⟩
  obtain ⟨u, e1, r1⟩ := t'.get hx
  refine ⟨⟨vs, u, h2, e1⟩, fun w H'' ⟨e, hw⟩ => ?_⟩
  subst e
  have e3 := hw vs h2
  rw [e1] at e3
  obtain rfl := Option.some.inj e3
  exact ⟨Nx.refl _ _ _, hh, r1⟩
theorem jok_tup (hq : SqT K (fz m z H) a vs) (t : RepAll K m z H xs vs) : JOk K cs z m H xs none (Itt K a) := fun z' m' h' H' f n hh _ => by
  have hv := n.vwz f
  have h2 : SqT K H' a vs := SqT.top (SqT.vw hq hv)
  have t' := Rep.vwAll hv (fun _ _ q => n.get q) t
  refine ⟨fun i x hx => ?_, vs, h2, by rw [t.length]; exact Nat.le_refl _⟩
  obtain ⟨u, e1, r1⟩ := t'.get hx
  refine ⟨⟨vs, u, h2, e1⟩, fun w H'' ⟨e, hw⟩ => ?_⟩
  subst e
  have e3 := hw vs h2
  rw [e1] at e3
  obtain rfl := Option.some.inj e3
  exact ⟨Nx.refl _ _ _, hh, r1⟩
theorem jok_cell {n : Nat} (hn : m[n]? = some a) : JOk K cs z m H xs (some n) (Itl K a) := fun z' m' h' H' f nx hh g => by
  have e := gd_some g
  obtain ⟨b, h1, ws, h2, t⟩ := hh.get e
  rw [nx.get hn] at h1
  obtain rfl := Option.some.inj h1
  have h3 : SqL K H' a ws := .inl (.inl h2)
  refine ⟨fun i x hx => ?_, ws, h3, by rw [t.length]; exact Nat.le_refl _⟩
  obtain ⟨u, e1, r1⟩ := t.get hx
  refine ⟨⟨ws, u, h3, e1⟩, fun w H'' ⟨e, hw⟩ => ?_⟩
  subst e
  have e3 := hw ws h3
  rw [e1] at e3
  obtain rfl := Option.some.inj e3
  exact ⟨Nx.refl _ _ _, hh, r1⟩
theorem jok_range {lo : Int} {n : Nat} : JOk K cs z m H ((List.range n).map fun (i : Nat) => PV.d (.int (lo + (i : Int)))) none (Itr lo n) := fun z' m' h' H' f nx hh g => by
  refine ⟨fun i x hx => ?_, by show n ≤ _; simp⟩
  rw [List.getElem?_map] at hx
  cases e : (List.range n)[i]? with
  | none => rw [e] at hx; cases hx
  | some j =>
    obtain ⟨hl, ej⟩ := List.getElem?_eq_some_iff.mp e
    rw [List.getElem_range] at ej
    subst ej
    rw [e] at hx
    obtain rfl := Option.some.inj hx
    refine ⟨by show i < n; simpa using hl, fun u H'' ⟨e1, e2⟩ => ?_⟩
    subst e1 e2
    exact ⟨Nx.refl _ _ _, hh, rI_ _⟩
end
section
variable {X : Cx} {cs : List Tb} {W : WX} {tg : Expr}
theorem i_list {l : Expr} {f : ME PV} (hl : SE X cs W l f) : SI X cs W tg l (iSeq f) := pi_imp (pi_list hl) fun σ H R ⟨m, z, e, h, hs, hh, p⟩ => tE_then hs hh p fun v h1 m1 H1 u hs1 hh1 r1 n1 p1 => by
  split at p1
  · rename_i n
    split at p1
    · rename_i xs ex
      cases r1 with
      | r hn =>
        rename_i a
        obtain ⟨b, h2, ws, h3, t⟩ := hh1.get ex
        rw [hn] at h2
        obtain rfl := Option.some.inj h2
        exact ⟨a, rfl, ⟨ws, .inl (.inl h3)⟩, p1.here hh1 _ (jok_cell hn)⟩
    · exact p1.elim
  · split at p1
    · rename_i hnr _ xs ex
      cases r1 with
      | d hd c =>
        cases hd with
        | lst hq ha =>
          obtain rfl := Option.some.inj ex
          exact ⟨_, rfl, ⟨_, .inl (.inl (fz_some hq).2.2)⟩, p1.here hh1 _ (jok_fz hq (RepAll.of_dp ha (by simpa [PyData.canLay0] using c)))⟩
        | _ => simp [asL] at ex
      | r hn => exact absurd rfl (hnr _)
      | ls hq t =>
        obtain rfl := Option.some.inj ex
        exact ⟨_, rfl, ⟨_, .inl (.inl (fz_some hq).2.2)⟩, p1.here hh1 _ (jok_fz hq t)⟩
      | tp hq t => simp [asL] at ex
      | sc hq => simp [asL] at ex
    · exact p1.elim
theorem i_tup {l : Expr} {f : ME PV} (hl : SE X cs W l f) : SI X cs W tg l (iTp f) := pi_imp (pi_tup hl) fun σ H R ⟨m, z, e, h, hs, hh, p⟩ => tE_then hs hh p fun v h1 m1 H1 u hs1 hh1 r1 n1 p1 => by
  split at p1
  · rename_i xs ex
    obtain ⟨a, ws, rfl, q1, t1⟩ := asT_rep r1 ex
    exact ⟨_, rfl, ⟨_, SqT.top q1⟩, p1.here hh1 _ (jok_tup q1 t1)⟩
  · exact p1.elim
/-- whichever it is -/
def iBoth (f g : ME (List PV × Option Nat)) : ME (List PV × Option Nat) := fun e h => match f e h with
  | .bad => g e h
  | o => o
theorem i_or {l : Expr} {f g : ME (List PV × Option Nat)} (h1 : SI X cs W tg l f) (h2 : SI X cs W tg l g) : SI X cs W tg l (iBoth f g) := pi_imp (pi_or h1 h2) fun σ H R ⟨m, z, e, h, hs, hh, p⟩ => by
  unfold iBoth at p
  split at p
  · exact .inr ⟨m, z, e, h, hs, hh, p⟩
  · exact .inl ⟨m, z, e, h, hs, hh, p⟩
/-- range(n), range(a, b) -/
def smallR (i : Int) : Bool := decide (-(2 ^ 62) ≤ i) && decide (i < 2 ^ 62)
def rngL (lo : Int) (n : Nat) : List PV := (List.range n).map fun (i : Nat) => PV.d (.int (lo + (i : Int)))
def iRange1 (g : ME (List PV)) : ME (List PV × Option Nat) := fun e h => (g e h).bind fun vs h1 => match vs with
  | [.d (.int j)] => if smallR j then .ok (rngL 0 j.toNat, none) h1 else .bad
  | _ => .bad
def iRange2 (g : ME (List PV)) : ME (List PV × Option Nat) := fun e h => (g e h).bind fun vs h1 => match vs with
  | [.d (.int i), .d (.int j)] => if smallR i && smallR j then .ok (rngL i (j - i).toNat, none) h1 else .bad
  | _ => .bad
theorem i_range1 {a : Expr} {g : ME (List PV)} {p pos : Pos} (hg : Gl X "range") (hm : X.mg "range" = none) (ha : SA X cs W [a] g) (hs : starEach [a] X.env = [(false, eval a X.env)] := by rfl) : SI X cs W tg (.Call (.Name "range" p) [a] [] pos) (iRange1 g) :=
  pi_imp (pi_range1 hg hm ha hs) fun σ H R ⟨m, z, e, h, hs, hh, p⟩ => tA_then hs hh p fun vs h1 m1 H1 us hs1 hh1 r1 n1 p1 => by
    split at p1
    · obtain ⟨u, rfl, r2⟩ := rep1 r1
      split at p1
      · rename_i j hz
        unfold smallR at hz
        simp only [Bool.and_eq_true, decide_eq_true_eq] at hz
        rw [rep_int r2]
        exact ⟨_, rfl, hz.1, hz.2, p1.here hh1 _ jok_range⟩
      · exact p1.elim
    · exact p1.elim
theorem i_range2 {a b : Expr} {g : ME (List PV)} {p pos : Pos} (hg : Gl X "range") (hm : X.mg "range" = none) (ha : SA X cs W [a, b] g) (hs : starEach [a, b] X.env = [(false, eval a X.env), (false, eval b X.env)] := by rfl) (hs2 : starEach [b] X.env = [(false, eval b X.env)] := by rfl) : SI X cs W tg (.Call (.Name "range" p) [a, b] [] pos) (iRange2 g) :=
  pi_imp (pi_range2 hg hm ha hs hs2) fun σ H R ⟨m, z, e, h, hs, hh, p⟩ => tA_then hs hh p fun vs h1 m1 H1 us hs1 hh1 r1 n1 p1 => by
    split at p1
    · obtain ⟨u, u2, rfl, r2, r3⟩ := rep2 r1
      split at p1
      · rename_i hz
        unfold smallR at hz
        simp only [Bool.and_eq_true, decide_eq_true_eq] at hz
        rw [rep_int r2, rep_int r3]
        exact ⟨_, _, rfl, ⟨hz.1.1, hz.1.2, hz.2.1, hz.2.2⟩, p1.here hh1 _ jok_range⟩
      · exact p1.elim
    · exact p1.elim
/-! ### for -/
def forL (g : MG) (b : MS) (src : Option Nat) (all : List PV) : List PV → MS
  | [] => fun e h => if gd src all h then .nx e h else .bad
  | x :: r => fun e h => if gd src all h then (match g x e h with
      | some (e1, h1) => match b e1 h1 with
        | .nx e2 h2 => forL g b src all r e2 h2
        | .ct e2 h2 => forL g b src all r e2 h2
        | .bk e2 h2 => .nx e2 h2
        | o => o
      | none => .bad) else .bad
def mFor (fi : ME (List PV × Option Nat)) (g : MG) (b : MS) : MS := fun e h => (fi e h).toS fun p h1 => forL g b p.2 p.1 p.1 e h1
theorem s_for {vs : List Nat} {iter : Expr} {body : List Stmt} {pos : Pos} {fi : ME (List PV × Option Nat)} {g : MG} {fb : MS} (hp : PassesOwn (model X.prog X.w) X.A X.env X.xe) (hc : X.calm = true) (hi : SI X cs W tg iter fi) (hg : SG X cs vs tg g) (hb : SB X cs W body fb)
    (hs : ∀ x, foldedSetIterable iter X.env x = pure x := by intro _; rfl) : SS X cs W (.For tg iter body [] pos) (mFor fi g fb) :=
  ps_imp (ps_for hp hc hi hg hb hs) fun D σ H ⟨m, z, e, h, hs, hh, p⟩ => by
    refine ⟨m, z, e, h, hs, hh, (PoS.of (σ := σ) p).imp (fun p1 h1 m1 H1 n1 hh1 q J hJ => ?_) fun _ _ q => q⟩
    obtain ⟨xs, src⟩ := p1
    refine ⟨fun i k σ' H' => k = xs.length - i ∧ i ≤ xs.length ∧ ∃ m2 e2 h2, SRel X.K m2 z H' e2 σ' ∧ HRel X.K cs m2 z h2 H' ∧ Nx m1 z H1 m2 H' ∧ PoS X.K cs z W m2 H' D (forL g fb src xs (xs.drop i) e2 h2), ⟨xs.length, by omega, Nat.zero_le _, m1, e, h1, hs.nx n1, hh1, Nx.refl _ _ _, by simpa using q⟩, ?_⟩
    rintro i k σ2 H2 ⟨rfl, hle, m2, e2, h2, hs2, hh2, n2, p2⟩
    by_cases hlt : i < xs.length
    · have ex : xs[i]? = some xs[i] := List.getElem?_eq_getElem hlt
      rw [List.drop_eq_getElem_cons hlt] at p2
      unfold forL at p2
      split at p2
      · rename_i hgd
        obtain ⟨hJ1, hJ2⟩ := hJ z m2 h2 H2 (FrZ.refl _ _) n2 hh2 hgd
        obtain ⟨go, yl⟩ := hJ1 i _ ex
        refine .inr ⟨go, fun σ' H' => ∃ m3 e3 h3, SRel X.K m3 z H' e3 σ' ∧ HRel X.K cs m3 z h3 H' ∧ Nx m1 z H1 m3 H' ∧ PoS X.K cs z W m3 H' D (forL g fb src xs (xs.drop (i + 1)) e3 h3), fun σ' H' w => ⟨xs.length - (i + 1), by omega, rfl, hlt, w⟩, fun u H3 hy => ?_⟩
        obtain ⟨n3, hh3, r3⟩ := yl u H3 hy
        refine ⟨m2, z, e2, h2, xs[i], hs2.nx n3, hh3, r3, ?_⟩
        cases q : g xs[i] e2 h2 with
        | none => rw [q] at p2; exact p2.elim
        | some q' =>
          obtain ⟨e4, h4⟩ := q'
          rw [q] at p2
          simp only at p2 ⊢
          intro m4 σ4 H4 n4 hh4 hs4 _
          refine ⟨m4, z, e4, h4, hs4, hh4, ?_⟩
          have n14 := n2.trans (n3.trans n4)
          have n24 := n3.trans n4
          cases q2 : fb e4 h4 with
          | nx e5 h5 => rw [q2] at p2; exact fun m' σ' H' n' hh' hs' => ⟨m', e5, h5, hs', hh', n14.trans n', PoS.step p2 (n24.trans n')⟩
          | ct e5 h5 => rw [q2] at p2; exact fun m' σ' H' n' hh' hs' => ⟨m', e5, h5, hs', hh', n14.trans n', PoS.step p2 (n24.trans n')⟩
          | bk e5 h5 => rw [q2] at p2; exact PoS.step (o := .nx e5 h5) p2 n24
          | rt e5 h5 => rw [q2] at p2; exact PoS.step (o := .rt e5 h5) p2 n24
          | ex e5 h5 => rw [q2] at p2; exact PoS.step (o := .ex e5 h5) p2 n24
          | bad => rw [q2] at p2; exact p2
      · exact p2.elim
    · have ei : i = xs.length := by omega
      subst ei
      rw [List.drop_length] at p2
      unfold forL at p2
      split at p2
      · rename_i hgd
        exact .inl ⟨(hJ z m2 h2 H2 (FrZ.refl _ _) n2 hh2 hgd).2, p2.nx_ hh2 hs2⟩
      · exact p2.elim
end
end Mi

set_option Elab.async false
set_option linter.all false
set_option maxRecDepth 100000
set_option maxHeartbeats 4000000
namespace Mi
open PySem PySem.Spec PyProof.Rows L2

/-! ## comprehensions -/
/-- no exception is looked for -/
def Out.calm {α β : Type} (o : Out α) (g : α → Cells → Out β) : Out β := match o with
  | .ok a h => g a h
  | _ => .bad
abbrev W0 : WX := fun _ _ _ _ => False
def wipeE (e : Sl) : List Nat → Sl
  | [] => e
  | v :: vs => (wipeE e vs).set v none
theorem wipeE_length (e : Sl) : ∀ vs : List Nat, (wipeE e vs).length = e.length
  | [] => rfl
  | v :: vs => by unfold wipeE; rw [List.length_set, wipeE_length e vs]
theorem wipeE_some {e : Sl} {i : Nat} {x : PV} : ∀ {vs : List Nat}, (wipeE e vs)[i]? = some (some x) → e[i]? = some (some x) ∧ i ∉ vs
  | [], h => ⟨h, by simp⟩
  | v :: vs, h => by
    unfold wipeE at h
    by_cases hi : v = i
    · subst hi
      by_cases hv : v < (wipeE e vs).length
      · rw [List.getElem?_set_self hv] at h; cases h
      · rw [List.getElem?_eq_none (by simpa using hv)] at h; cases h
    · rw [List.getElem?_set_ne hi] at h
      obtain ⟨h1, h2⟩ := wipeE_some h
      exact ⟨h1, by simp only [List.mem_cons, not_or]; exact ⟨fun q => hi q.symm, h2⟩⟩
theorem SRel.wipe {K : PySem.W.Frag} {m z : List Addr} {H : Hp} {e : Sl} {σ : L2.St} (s : SRel K m z H e σ) (vs : List Nat) : SRel K m z H (wipeE e vs) (wipe σ vs) := by
  refine ⟨by rw [wipeE_length, wipe_length, s.len], fun i p h => ?_⟩
  obtain ⟨h1, h2⟩ := wipeE_some h
  obtain ⟨v, h3, h4⟩ := s.at_ i p h1
  exact ⟨v, by rw [wipe_at, if_neg h2]; exact h3, h4⟩
theorem wipe_wipe (σ : L2.St) (vs : List Nat) : wipe (wipe σ vs) vs = wipe σ vs := by
  refine List.ext_getElem? fun j => ?_
  rw [wipe_at, wipe_at]
  by_cases hm : j ∈ vs
  · rw [if_pos hm, if_pos hm]
    cases σ[j]? <;> rfl
  · rw [if_neg hm, if_neg hm]
theorem SRel.vw {K : PySem.W.Frag} {m z m' z' : List Addr} {H H' : Hp} {e : Sl} {σ : L2.St} (s : SRel K m z H e σ) (w : Vw (fz m z H) (fz m' z' H')) (g : ∀ (i : Nat) (a : Addr), m[i]? = some a → m'[i]? = some a) : SRel K m' z' H' e σ :=
  ⟨s.len, fun i p h => let ⟨v, h1, h2⟩ := s.at_ i p h; ⟨v, h1, Rep.vw w g h2⟩⟩
theorem ORep.vw {K : PySem.W.Frag} {m z m' z' : List Addr} {H H' : Hp} {a : Addr} {o : AO} (h : ORep K m z H a o) (w : Vw (fz m z H) (fz m' z' H')) (g : ∀ (i : Nat) (a : Addr), m[i]? = some a → m'[i]? = some a) (e : H' a = H a) : ORep K m' z' H' a o := by
  cases o with
  | lst xs => obtain ⟨vs, h1, h2⟩ := h; exact ⟨vs, e.trans h1, Rep.vwAll w g h2⟩
  | dk kvs => obtain ⟨vs, h1, h2, h3⟩ := h; exact ⟨vs, e.trans h1, h2, Rep.vwAll w g h3⟩
  | dt kvs => obtain ⟨vs, h1, h2, h3⟩ := h; exact ⟨vs, e.trans h1, h2, Rep.vwAll w g h3⟩
  | ins c fs => obtain ⟨dx, vs, h1, h2, h3⟩ := h; exact ⟨dx, vs, e.trans h1, h2, Rep.vwAll w g h3⟩
section
variable {K : PySem.W.Frag} {cs : List Tb} {m z : List Addr} {h : Cells} {H : Hp} {D : Addr} {o : HO}
/-- a new object that is not to be seen -/
theorem vw_hide (hn : H D = none) : Vw (fz m z H) (fz m (D :: z) (upd H D o)) := fun a u q _ => by
  obtain ⟨h1, h2, h3⟩ := fz_some q
  have ne : a ≠ D := ne_of_none h3 hn
  exact fz_of h1 (by simp [ne, h2]) (by rw [upd_ne ne]; exact h3)
theorem HRel.hide (r : HRel K cs m z h H) (hn : H D = none) : HRel K cs m (D :: z) h (upd H D o) where
  len := r.len
  nd := r.nd
  dz := fun a ha q => by
    rcases List.mem_cons.mp q with e | q
    · exact (r.nm hn).1 (e ▸ ha)
    · exact r.dz a ha q
  lv := fun a q => by
    by_cases e : a = D
    · rw [e, upd_same]; simp
    · rw [upd_ne e]
      refine r.lv a (q.imp_right fun q => ?_)
      rcases List.mem_cons.mp q with q | q
      · exact absurd q e
      · exact q
  obj := fun n u a h1 h2 => (r.obj n u a h1 h2).vw (vw_hide hn) (fun _ _ q => q) (upd_ne (fun e => (r.nm hn).1 (e ▸ List.mem_of_getElem? h2)))
  tb := fun t ht => (r.tb t ht).new hn
  tm := r.tm
/-- it changes -/
theorem vw_hid : Vw (fz m (D :: z) H) (fz m (D :: z) (upd H D o)) := fun a u q _ => by
  obtain ⟨h1, h2, h3⟩ := fz_some q
  have ne : a ≠ D := fun e => h2 (by simp [e])
  exact fz_of h1 h2 (by rw [upd_ne ne]; exact h3)
theorem HRel.hid (r : HRel K cs m (D :: z) h H) {xs : List V} (hD : H D = some (.lst xs)) : HRel K cs m (D :: z) h (upd H D o) where
  len := r.len
  nd := r.nd
  dz := r.dz
  lv := fun a q => by
    by_cases e : a = D
    · rw [e, upd_same]; simp
    · rw [upd_ne e]; exact r.lv a q
  obj := fun n u a h1 h2 => (r.obj n u a h1 h2).vw vw_hid (fun _ _ q => q) (upd_ne (fun e => r.dz a (List.mem_of_getElem? h2) (by simp [e])))
  tb := fun t ht => by
    obtain ⟨ps, h1, h2, h3⟩ := r.tb t ht
    refine ⟨ps, ?_, h2, fun pos cv hp hc => ?_⟩
    · rw [upd_ne (fun (e : t.P = D) => by rw [e, hD] at h1; cases h1)]; exact h1
    · obtain ⟨c, e1, e2⟩ := h3 pos cv hp hc
      refine ⟨c, e1, ?_⟩
      rw [upd_ne (fun (e : c = D) => by rw [e, hD] at e2; exact codeO_lst (Option.some.inj e2).symm)]; exact e2
  tm := r.tm
/-- it is seen -/
theorem vw_show : Vw (fz m (D :: z) H) (fz m z H) := fun a u q _ => by
  obtain ⟨h1, h2, h3⟩ := fz_some q
  exact fz_of h1 (fun x => h2 (by simp [x])) h3
theorem HRel.show (r : HRel K cs m (D :: z) h H) : HRel K cs m z h H where
  len := r.len
  nd := r.nd
  dz := fun a ha q => r.dz a ha (by simp [q])
  lv := fun a q => r.lv a (q.imp_right fun q => by simp [q])
  obj := fun n u a h1 h2 => (r.obj n u a h1 h2).vw vw_show (fun _ _ q => q) rfl
  tb := r.tb
  tm := r.tm
theorem Nx.hid {m' : List Addr} {H' : Hp} (n : Nx m z H m' H') (hD : H D = none) : Nx m z H m' (upd H' D o) :=
  ⟨n.pre, fun a u ha q nt => by rw [upd_ne (ne_of_none q hD)]; exact n.kp a u ha q nt, fun a q => by
    by_cases e : a = D
    · rw [e, upd_same]; simp
    · rw [upd_ne e]; exact n.lv a q⟩
end
theorem Nx.zz {m z z' m' : List Addr} {H H' : Hp} (n : Nx m z H m' H') : Nx m z' H m' H' := ⟨n.pre, n.kp, n.lv⟩
def lcL (g : MG) (t : ME Bool) (fe : ME PV) (src : Option Nat) (all : List PV) (e : Sl) : List PV → Cells → List PV → Out PV
  | [], h, acc => if gd src all h then .ok (mkL acc) h else .bad
  | x :: r, h, acc => if gd src all h then (match g x e h with
      | some (e1, h1) => (t e1 h1).calm fun b h2 => if b then ((fe e1 h2).calm fun y h3 => if acc.length < sizeLine then lcL g t fe src all e r h3 (acc ++ [y]) else .bad) else lcL g t fe src all e r h2 acc
      | none => .bad) else .bad
def mLc (fi : ME (List PV × Option Nat)) (g : MG) (t : ME Bool) (fe : ME PV) (vs : List Nat) : ME PV := fun e h => (fi e h).bind fun p h1 => lcL g t fe p.2 p.1 (wipeE e vs) p.1 h1 []
def mYes : ME Bool := fun _ h => .ok true h
section
variable {X : Cx} {cs : List Tb} {W : WX} {tg : Expr}
abbrev STs (X : Cx) (cs : List Tb) (W : WX) (es : List Expr) (f : ME Bool) : Prop := PTs X es (tT X.K cs W f)
theorem pts_imp {es : List Expr} {t t' : TT} (h : PTs X es t) (i : ∀ σ H Q, t' σ H Q → t σ H Q) : PTs X es t' := ⟨fun pins s σ H Q I q => h.run pins s σ H Q I (i σ H Q q)⟩
theorem ts_nil : STs X cs W [] mYes := pts_imp pts_nil fun σ H Q ⟨m, z, e, h, hs, hh, p⟩ => p.here hh
theorem ts_one {c : Expr} {f : ME Bool} (h : ST X cs W c f) : STs X cs W [c] f := pts_one h
theorem tE_lc {K : PySem.W.Frag} {fi : ME (List PV × Option Nat)} {g : MG} {t : ME Bool} {fe : ME PV} {vs : List Nat} {σ : L2.St} {H : Hp} {Q : VK} (tt : tE K cs W (mLc fi g t fe vs) σ H Q) :
    tLc (tI K cs W fi) (tG K cs vs g) (tT K cs W0 t) (tE K cs W0 fe) vs σ H Q := by
  obtain ⟨m, z, e, h, hs, hh, p⟩ := tt
  refine ⟨m, z, e, h, hs, hh, p.bind.imp (fun pp h1 m1 H1 n1 hh1 q J hJ D hD => ?_) fun _ _ q => q⟩
  obtain ⟨xs, src⟩ := pp
  have hs1 := hs.nx n1
  refine ⟨fun i k H' => k = xs.length - i ∧ i ≤ xs.length ∧ ∃ m2 h2 acc ws, HRel K cs m2 (D :: z) h2 H' ∧ H' D = some (.lst ws) ∧ RepAll K m2 (D :: z) H' acc ws ∧ Nx m1 z H1 m2 H' ∧
      Po K cs z m1 H1 (RxE K z Q) (WxE K W σ) (lcL g t fe src xs (wipeE e vs) (xs.drop i) h2 acc), ⟨xs.length, by omega, Nat.zero_le _, m1, h1, [], [], hh1.hide hD, upd_same, .nil, Nx.new hD, by simpa using q⟩, ?_⟩
  rintro i k H2 ⟨rfl, hle, m2, h2, acc, ws, hh2, hDw, ra, n2, p2⟩
  have fz2 : FrZ H1 z (D :: z) := ⟨[D], rfl, fun a ha => by rw [List.mem_singleton.mp ha]; exact hD⟩
  have hs2 : SRel K m2 (D :: z) H2 (wipeE e vs) (wipe σ vs) := (hs1.wipe vs).vw (n2.vwz fz2) (fun _ _ q => n2.get q)
  by_cases hlt : i < xs.length
  · have ex : xs[i]? = some xs[i] := List.getElem?_eq_getElem hlt
    rw [List.drop_eq_getElem_cons hlt] at p2
    unfold lcL at p2
    split at p2
    · rename_i hgd
      obtain ⟨hJ1, hJ2⟩ := hJ (D :: z) m2 h2 H2 fz2 n2 hh2 hgd
      obtain ⟨go, yl⟩ := hJ1 i _ ex
      refine .inr ⟨go, fun H' => ∃ m3 h3 acc3 ws3, HRel K cs m3 (D :: z) h3 H' ∧ H' D = some (.lst ws3) ∧ RepAll K m3 (D :: z) H' acc3 ws3 ∧ Nx m1 z H1 m3 H' ∧
        Po K cs z m1 H1 (RxE K z Q) (WxE K W σ) (lcL g t fe src xs (wipeE e vs) (xs.drop (i + 1)) h3 acc3), fun H' w => ⟨xs.length - (i + 1), by omega, rfl, hlt, w⟩, fun u H3 hy => ?_⟩
      obtain ⟨n3, hh3, r3⟩ := yl u H3 hy
      have hDm : ∀ {m' : List Addr} {h' : Cells} {H' : Hp}, HRel K cs m' (D :: z) h' H' → D ∉ m' := fun r q => r.dz D q (by simp)
      have hD3 : H3 D = some (.lst ws) := n3.kp D _ (hDm hh2) hDw noTb_lst
      refine ⟨m2, D :: z, wipeE e vs, h2, xs[i], hs2.nx n3, hh3, r3, ?_⟩
      cases qg : g xs[i] (wipeE e vs) h2 with
      | none => rw [qg] at p2; exact p2.elim
      | some q' =>
        obtain ⟨e4, h4⟩ := q'
        rw [qg] at p2
        simp only at p2 ⊢
        intro m4 σ4 H4 n4 hh4 hs4 hw
        refine ⟨hw.trans (wipe_wipe σ vs), m4, D :: z, e4, h4, hs4, hh4, ?_⟩
        have n24 := n3.trans n4
        cases qt : t e4 h4 with
        | bad => rw [qt] at p2; exact p2.elim
        | ex c h5 => rw [qt] at p2; exact p2.elim
        | ok b h5 =>
          rw [qt] at p2
          intro m5 H5 n5 hh5
          have n25 := n24.trans n5
          cases b with
          | false =>
            simp only [Out.calm, Bool.false_eq_true, if_false] at p2 ⊢
            exact ⟨m5, h5, acc, ws, hh5, n25.kp D _ (hDm hh2) hDw noTb_lst, ra.nx n25, n2.trans n25.zz, p2⟩
          | true =>
            simp only [Out.calm, if_true] at p2 ⊢
            refine ⟨m5, D :: z, e4, h5, hs4.nx n5, hh5, ?_⟩
            cases qe : fe e4 h5 with
            | bad => rw [qe] at p2; exact p2.elim
            | ex c h6 => rw [qe] at p2; exact p2.elim
            | ok y h6 =>
              rw [qe] at p2
              simp only at p2
              split at p2
              · rename_i hz
                intro m6 H6 n6 hh6 u6 r6
                have n26 := n25.trans n6
                have hD6 : H6 D = some (.lst ws) := n26.kp D _ (hDm hh2) hDw noTb_lst
                rw [ra.length] at hz
                refine ⟨ws, hD6, hz, m6, h6, acc ++ [y], ws ++ [u6], hh6.hid hD6, upd_same, ?_, (n2.trans n26.zz).hid hD, p2⟩
                exact Rep.vwAll vw_hid (fun _ _ q => q) ((ra.nx n26).append (.cons r6 .nil))
              · exact p2.elim
    · exact p2.elim
  · have ei : i = xs.length := by omega
    subst ei
    rw [List.drop_length] at p2
    unfold lcL at p2
    split at p2
    · rename_i hgd
      refine .inl ⟨(hJ (D :: z) m2 h2 H2 fz2 n2 hh2 hgd).2, p2 m2 H2 n2 hh2.show _ ?_⟩
      have hf : fz m2 z H2 D = some (.lst ws) := fz_of (fun q => hh2.dz D q (by simp)) (fun q => hh1.lv D (.inr q) hD) hDw
      have ra' := Rep.vwAll (vw_show (D := D)) (fun _ _ q => q) ra
      unfold mkL
      cases ea : allD acc with
      | none => exact .ls hf ra'
      | some ds =>
        rw [of_allD ea] at ra'
        obtain ⟨h3, h4⟩ := ra'.dp
        exact .d (.lst hf h3) (by simpa [PyData.canLay0] using h4)
    · exact p2.elim
theorem s_lc {elt iter : Expr} {ifs : List Expr} {scope : Scope} {own : List (Str × Nat)} {pos : Pos} {fi : ME (List PV × Option Nat)} {g : MG} {t : ME Bool} {fe : ME PV} (hc : X.calm = true) (hN : X.N.Nodup) (hi : SI X cs W tg iter fi) (ok : BlkOk X.N X.env.scope scope own)
    (hg : ∀ (s : Shared) (H : Hp) (C : Addr) (cl : List (Str × Addr)) (fp : List Addr), SG (X.blk s H scope (compEnvC scope cl C X.env) fp) cs (own.map (·.2)) tg g) (ht : ∀ (s : Shared) (H : Hp) (C : Addr) (cl : List (Str × Addr)) (fp : List Addr), STs (X.blk s H scope (compEnvC scope cl C X.env) fp) cs W0 ifs t)
    (he : ∀ (s : Shared) (H : Hp) (C : Addr) (cl : List (Str × Addr)) (fp : List Addr), SE (X.blk s H scope (compEnvC scope cl C X.env) fp) cs W0 elt fe) (hs : ∀ x, foldedSetIterable iter X.env x = pure x := by intro _; rfl) :
    SE X cs W (.ListComp elt [⟨tg, iter, ifs, 0⟩] scope pos) (mLc fi g t fe (own.map (·.2))) := pe_imp (pe_lc hc hN hi ok hg ht he hs) fun _ _ _ => tE_lc
theorem s_setLc {i : Nat} {y : Str} {py : Pos} {elt iter : Expr} {ifs : List Expr} {scope : Scope} {own : List (Str × Nat)} {pos spos : Pos} {fi : ME (List PV × Option Nat)} {g : MG} {t : ME Bool} {fe : ME PV} (hc : X.calm = true) (hN : X.N.Nodup) (hy : X.N[i]? = some y) (hyl : X.env.scope.names.lookup y = some .local)
    (hsw : swapsWith (.ListComp elt [⟨tg, iter, ifs, 0⟩] scope pos) (some (.Name y py)) spos.line X.env = pure true) (hi : SI X cs W tg iter fi) (ok : BlkOk X.N X.env.scope scope own)
    (hg : ∀ (s : Shared) (H : Hp) (C : Addr) (cl : List (Str × Addr)) (fp : List Addr), SG (X.blk s H scope (compEnvC scope cl C X.env) fp) cs (own.map (·.2)) tg g) (ht : ∀ (s : Shared) (H : Hp) (C : Addr) (cl : List (Str × Addr)) (fp : List Addr), STs (X.blk s H scope (compEnvC scope cl C X.env) fp) cs W0 ifs t)
    (he : ∀ (s : Shared) (H : Hp) (C : Addr) (cl : List (Str × Addr)) (fp : List Addr), SE (X.blk s H scope (compEnvC scope cl C X.env) fp) cs W0 elt fe) (hs : ∀ x, foldedSetIterable iter X.env x = pure x := by intro _; rfl) :
    SS X cs W (.Assign [.Name y py] (.ListComp elt [⟨tg, iter, ifs, 0⟩] scope pos) spos) (mAsg (mLc fi g t fe (own.map (·.2))) (gN i)) :=
  ps_imp (ps_setLc hc hN hy hyl hsw hi ok hg ht he hs) fun D σ H tt => by
    have h1 := tE_mono (Q' := fun x H1 => gName i x σ H1 D.nx) (fun _ _ q => tG_name q) (tS_asg tt)
    exact tE_lc h1
end
end Mi

set_option Elab.async false
set_option linter.all false
set_option maxRecDepth 100000
set_option maxHeartbeats 4000000
namespace Mi
open PySem PySem.Spec PyProof.Rows L2

/-! ## defs -/
abbrev MF := List PV → Cells → Out PV
def spF (K : PySem.W.Frag) (cs : List Tb) (np : Nat) (f : MF) : Sp := fun vs H Q E => vs.length = np ∧ ∃ m z h ps, RepAll K m z H ps vs ∧ HRel K cs m z h H ∧ Po K cs z m H (RxE K z Q) (fun c H' => E (.ref (He.ga K c)) none H') (f ps h)
/-- a body as a function: n slots -/
def runF (n : Nat) (b : MS) : MF := fun ps h => match b (ps.map some ++ List.replicate (n - ps.length) none) h with
  | .nx _ h1 => .ok (.d .none) h1
  | .rt v h1 => .ok v h1
  | .ex c h1 => .ex c h1
  | _ => .bad
theorem srel_start {K : PySem.W.Frag} {m z : List Addr} {H : Hp} {ps : List PV} {vs : List V} {N : List Str} (r : RepAll K m z H ps vs) : SRel K m z H (ps.map some ++ List.replicate (N.length - ps.length) none) (L2.start N vs) := by
  refine ⟨by simp [L2.start, r.length], fun i p h => ?_⟩
  by_cases hl : i < ps.length
  · rw [List.getElem?_append_left (by simpa using hl), List.getElem?_map] at h
    obtain ⟨p', h1, h2⟩ := Option.map_eq_some_iff.mp h
    obtain rfl := Option.some.inj h2
    obtain ⟨v, e1, r1⟩ := r.get h1
    refine ⟨v, ?_, r1⟩
    unfold L2.start
    rw [List.getElem?_append_left (by rw [List.length_map, ← r.length]; exact hl), List.getElem?_map, e1]
    rfl
  · rw [List.getElem?_append_right (by simpa using Nat.le_of_not_lt hl)] at h
    obtain ⟨h1, h2⟩ := List.getElem?_eq_some_iff.mp h
    rw [List.getElem_replicate] at h2
    cases h2
/-- what a body may let out -/
abbrev WB (E : XK) : WX := fun cls d _ H' => E cls d H'
section
variable {P : Program} {w : World} {K : PySem.W.Frag} {mg : Str → Option Value} {base : Heap} {x qual : Str} {params : Arguments} {body : List Stmt} {scope : Scope} {dvs : List V} {kws : List (Str × V)} {f : Addr} {fd : FuncData} {cs : List Tb}
theorem fn_mk {N ps : List Str} {k : Nat} {fb : MS} (F : FunD K x qual params body scope dvs kws f fd) (S : FnScope N ps scope)
    (hb : ∀ (cdv : Value) (A : Around) (outer : List Env) (s : Shared) (H : Hp) (E : XK), Room k (A.deeper (envOfC qual scope s.heap.objs.size f cdv)) → SB (cxOf (L2.CX P w) P w K mg base N qual scope f cdv A outer s H E) cs (WB E) body fb) :
    FnOk P w K mg base (L2.CX P w) (k + 1) f fd ps (spF K cs ps.length (runF N.length fb)) := by
  refine F.ok S (fun vs H Q E h => h.1) fun cdv A outer s H vs Q E hr h => ⟨_, hb cdv A outer s H E hr, ?_⟩
  obtain ⟨hl, m, z, hc, pvs, r, hh, p⟩ := h
  refine ⟨m, z, _, hc, srel_start (N := N) r, hh, ?_⟩
  unfold runF at p
  cases q : fb (pvs.map some ++ List.replicate (N.length - pvs.length) none) hc with
  | nx e1 h1 => rw [q] at p; exact fun m' σ' H' n hh' hs' => p m' H' n hh' .non rN_
  | rt v h1 => rw [q] at p; exact fun m' u H' n hh' hr' => p m' H' n hh' u hr'
  | ex c h1 => rw [q] at p; exact fun m' σ' H' n hh' => p m' H' n hh'
  | bk e1 h1 => rw [q] at p; exact p.elim
  | ct e1 h1 => rw [q] at p; exact p.elim
  | bad => rw [q] at p; exact p.elim
end
/-! ### forgetting what a def has made -/
mutual
def PV.bd (n : Nat) : PV → Bool
  | .d _ => true
  | .r k => decide (k < n)
  | .ls xs => bds n xs
  | .tp xs => bds n xs
  | .cl _ => true
  | .sc _ => true
def bds (n : Nat) : List PV → Bool
  | [] => true
  | x :: r => PV.bd n x && bds n r
end
def AO.bd (n : Nat) : AO → Bool
  | .lst xs => bds n xs
  | .dk kvs => bds n (kvs.map (·.2))
  | .dt kvs => bds n (kvs.map (·.2))
  | .ins _ fs => bds n (fs.map (·.2))
theorem bds_map (n : Nat) (ds : List PyData) : bds n (ds.map .d) = true := by
  induction ds with
  | nil => rfl
  | cons x r ih => simp [bds, PV.bd, ih]
def WfH (h : Cells) : Prop := ∀ o ∈ h, AO.bd h.length o = true
theorem vw_take {m z : List Addr} {H : Hp} {n : Nat} : Vw (fz m z H) (fz (m.take n) z H) := fun a u q _ => by
  obtain ⟨h1, h2, h3⟩ := fz_some q
  exact fz_of (fun x => h1 (List.take_subset _ _ x)) h2 h3
mutual
theorem Rep.take {K : PySem.W.Frag} {m z : List Addr} {H : Hp} {n : Nat} : ∀ {x : PV} {v : V}, Rep K m z H x v → x.bd n = true → Rep K (m.take n) z H x v
  | _, _, .d h c, _ => .d (DD.vw vw_take h) c
  | _, _, .r h, b => .r (by rw [List.getElem?_take_of_lt (by simpa [PV.bd] using b)]; exact h)
  | _, _, .ls h t, b => .ls (vw_take _ _ h noTb_lst) (Rep.takeAll t (by simpa [PV.bd] using b))
  | _, _, .tp h t, b => .tp (SqT.vw h vw_take) (Rep.takeAll t (by simpa [PV.bd] using b))
  | _, _, .sc h, _ => .sc (SqL.vw h vw_take)
theorem Rep.takeAll {K : PySem.W.Frag} {m z : List Addr} {H : Hp} {n : Nat} : ∀ {x : List PV} {v : List V}, RepAll K m z H x v → bds n x = true → RepAll K (m.take n) z H x v
  | _, _, .nil, _ => .nil
  | _, _, .cons h t, b => by
    simp only [bds, Bool.and_eq_true] at b
    exact .cons (Rep.take h b.1) (Rep.takeAll t b.2)
end
section
variable {K : PySem.W.Frag} {cs : List Tb} {m z m' : List Addr} {h g : Cells} {H H' : Hp}
mutual
theorem Rep.bd : ∀ {x : PV} {v : V}, Rep K m z H x v → x.bd m.length = true
  | _, _, .d _ _ => rfl
  | _, _, .r h => by simpa [PV.bd] using (List.getElem?_eq_some_iff.mp h).1
  | _, _, .ls _ t => by simpa [PV.bd] using Rep.bdAll t
  | _, _, .tp _ t => by simpa [PV.bd] using Rep.bdAll t
  | _, _, .sc _ => rfl
theorem Rep.bdAll : ∀ {x : List PV} {v : List V}, RepAll K m z H x v → bds m.length x = true
  | _, _, .nil => rfl
  | _, _, .cons h t => by simp [bds, Rep.bd h, Rep.bdAll t]
end
theorem HRel.wf (r : HRel K cs m z h H) : WfH h := fun o ho => by
  obtain ⟨n, hn, e⟩ := List.getElem_of_mem ho
  obtain ⟨a, h1, h2⟩ := r.get (n := n) (o := o) (by rw [List.getElem?_eq_getElem hn, e])
  rw [r.len]
  cases o with
  | lst xs => obtain ⟨vs, _, t⟩ := h2; exact Rep.bdAll t
  | dk xs => obtain ⟨vs, _, _, t⟩ := h2; exact Rep.bdAll t
  | dt xs => obtain ⟨vs, _, _, t⟩ := h2; exact Rep.bdAll t
  | ins c xs => obtain ⟨_, vs, _, _, t⟩ := h2; exact Rep.bdAll t
theorem ORep.take {a : Addr} {o : AO} {n : Nat} (r : ORep K m z H a o) (b : AO.bd n o = true) : ORep K (m.take n) z H a o := by
  cases o with
  | lst xs => obtain ⟨vs, h1, t⟩ := r; exact ⟨vs, h1, Rep.takeAll t b⟩
  | dk xs => obtain ⟨vs, h1, h2, t⟩ := r; exact ⟨vs, h1, h2, Rep.takeAll t b⟩
  | dt xs => obtain ⟨vs, h1, h2, t⟩ := r; exact ⟨vs, h1, h2, Rep.takeAll t b⟩
  | ins c xs => obtain ⟨dx, vs, h1, h2, t⟩ := r; exact ⟨dx, vs, h1, h2, Rep.takeAll t b⟩
theorem HRel.take (r : HRel K cs m z (h ++ g) H) (b : ∀ o ∈ h, AO.bd h.length o = true) : HRel K cs (m.take h.length) z h H where
  len := by
    have := r.len
    rw [List.length_append] at this
    rw [List.length_take]
    omega
  nd := r.nd.sublist (List.take_sublist _ _)
  dz := fun a ha => r.dz a (List.take_subset _ _ ha)
  lv := fun a q => r.lv a (q.imp_left fun q => List.take_subset _ _ q)
  obj := fun n o a h1 h2 => by
    have hl := (List.getElem?_eq_some_iff.mp h1).1
    rw [List.getElem?_take_of_lt hl] at h2
    exact (r.obj n o a (by rw [List.getElem?_append_left hl]; exact h1) h2).take (b o (List.mem_of_getElem? h1))
  tb := r.tb
  tm := fun t ht q => r.tm t ht (List.take_subset _ _ q)
theorem Nx.take (n : Nx m z H m' H') {k : Nat} (hk : m.length ≤ k) : Nx m z H (m'.take k) H' := by
  obtain ⟨l, e, nl⟩ := n.pre
  refine ⟨⟨l.take (k - m.length), ?_, fun a ha => nl a (List.take_subset _ _ ha)⟩, n.kp, n.lv⟩
  rw [e, List.take_append, List.take_of_length_le hk]
end
/-- the outcome of a body (left), what is told of it (right): what it made may be left out -/
inductive Sim (n0 : Nat) : Out PV → Out PV → Prop
  | bad {o : Out PV} : Sim n0 o .bad
  | same {o : Out PV} : Sim n0 o o
  | drop {v : PV} {h g : Cells} : n0 ≤ h.length → (∀ o ∈ h, AO.bd h.length o = true) → v.bd h.length = true → Sim n0 (.ok v (h ++ g)) (.ok v h)
  | exd {c : Str} {h g : Cells} : n0 ≤ h.length → (∀ o ∈ h, AO.bd h.length o = true) → Sim n0 (.ex c (h ++ g)) (.ex c h)
  | frz {n : Nat} {ds : List PyData} {h g : Cells} : n0 ≤ h.length → (∀ o ∈ h, AO.bd h.length o = true) → h.length ≤ n → (h ++ g)[n]? = some (.lst (ds.map .d)) → Sim n0 (.ok (.r n) (h ++ g)) (.ok (.d (.list ds)) h)
theorem Sim.po {K : PySem.W.Frag} {cs : List Tb} {m z : List Addr} {H : Hp} {Q : VK} {Wx : Str → Hp → Prop} {o1 o2 : Out PV} (s : Sim m.length o1 o2) (p : Po K cs z m H (RxE K z Q) Wx o2) : Po K cs z m H (RxE K z Q) Wx o1 := by
  cases s with
  | bad => exact p.elim
  | same => exact p
  | drop h1 h2 h3 => exact fun m' H' n r u ru => p _ H' (n.take h1) (r.take h2) u (ru.take h3)
  | exd h1 h2 => exact fun m' H' n r => p _ H' (n.take h1) (r.take h2)
  | frz h1 h2 h3 h4 =>
    rename_i k ds h g
    refine fun m' H' n r u ru => p _ H' (n.take h1) (r.take h2) u ?_
    cases ru with
    | r hn =>
      rename_i a
      obtain ⟨b, e1, ws, e2, t⟩ := r.get h4
      rw [hn] at e1
      obtain rfl := Option.some.inj e1
      have hz : a ∉ z := r.dz a (List.mem_of_getElem? hn)
      have hm : a ∉ m'.take h.length := fun q => by
        obtain ⟨i, hi, e⟩ := List.getElem_of_mem q
        rw [List.length_take] at hi
        have e3 : m'[i]? = some a := by
          rw [List.getElem_take] at e
          rw [List.getElem?_eq_getElem (by omega), e]
        have := getElem?_inj_nodup r.nd e3 hn
        omega
      have t' := Rep.takeAll (n := h.length) t (bds_map _ _)
      obtain ⟨t1, t2⟩ := t'.dp
      exact .d (.lst (fz_of hm hz e2) t1) (by simpa [PyData.canLay0] using t2)
theorem fn_sim {P : Program} {w : World} {K : PySem.W.Frag} {mg : Str → Option Value} {base : Heap} {CX : CXT} {k : Nat} {f : Addr} {fd : FuncData} {ps : List Str} {cs : List Tb} {np : Nat} {g sp : MF} (F : FnOk P w K mg base CX k f fd ps (spF K cs np g))
    (h : ∀ pvs hc, pvs.length = np → WfH hc → bds hc.length pvs = true → Sim hc.length (g pvs hc) (sp pvs hc)) : FnOk P w K mg base CX k f fd ps (spF K cs np sp) :=
  F.imp fun vs H Q E ⟨hl, m, z, hc, pvs, r, hh, p⟩ => ⟨hl, m, z, hc, pvs, r, hh, by
    have s := h pvs hc (by rw [r.length, hl]) hh.wf (by rw [hh.len]; exact Rep.bdAll r)
    rw [hh.len] at s
    exact s.po p⟩
/-! ### calls -/
section
variable {X : Cx} {cs : List Tb} {W : WX} {k np : Nat} {f : Addr} {fd : FuncData} {ps : List Str} {g : MF} {x : Str} {p pos : Pos}
/-- constants that fill up -/
def mCallD (g : MF) (dp : List PV) (fa : ME (List PV)) : ME PV := fun e h => (fa e h).bind fun vs h1 => g (vs ++ dp) h1
def DRep (K : PySem.W.Frag) (dp : List PV) (dvs : List V) : Prop := ∀ m z H, RepAll K m z H dp dvs
theorem dr_nil {K : PySem.W.Frag} : DRep K [] [] := fun _ _ _ => .nil
theorem s_call {a : Expr} {es : List Expr} {fa : ME (List PV)} {dvs : List V} {ds : List Value} {dp : List PV} (tk : Takes X W) (F : FnOk X.prog X.w X.K X.mg X.base (L2.CX X.prog X.w) k f fd ps (spF X.K cs np g)) (hr : Room k X.A) (hg : Gl X x) (hm : X.mg x = some (.ref f)) (hk : PySem.W.keepIn X.K (.ref f) = true)
    (hb : Binds X.K fd ps ds) (hd : Vals dvs ds) (hdr : DRep X.K dp dvs) (hnp : ps.length = np) (hl : ∀ e h vs h1, fa e h = .ok vs h1 → (vs ++ dp).length = np) (ha : SA X cs W (a :: es) fa)
    (hdb : (x == ("__debug__" : Str)) = false := by decide) (he : starEach (a :: es) X.env = (false, eval a X.env) :: starEach es X.env := by rfl) (hpl : (backTo pos (starEach es X.env)).any (·.1) = false := by rfl) :
    SE X cs W (.Call (.Name x p) (a :: es) [] pos) (mCallD g dp fa) :=
  pe_imp (pe_callSD (E := WE W) F hr hg hm hk hb hd (fun σ => passAt tk σ) ha hdb he hpl) fun σ H Q ⟨m, z, e, h, hs, hh, p⟩ => by
    refine ⟨m, z, e, h, hs, hh, ?_⟩
    have pb := p.bind
    cases q : fa e h with
    | ok vs h1 =>
      rw [q] at pb
      have hlen := hl e h vs h1 q
      intro m1 H1 n1 hh1 us r1
      refine ⟨?_, m1, z, h1, vs ++ dp, r1.append (hdr _ _ _), hh1, pb m1 H1 n1 hh1⟩
      rw [← (r1.append (hdr m1 z H1)).length]
      exact hlen
    | ex c h1 => rw [q] at pb; exact pb
    | bad => rw [q] at pb; exact pb
theorem pe_callSD0 {CX : CXT} {sp : Sp} {dvs : List V} {ds : List Value} {E : L2.St → XK} (F : FnOk X.prog X.w X.K X.mg X.base CX k f fd ps sp) (hr : Room k X.A) (hg : Gl X x) (hm : X.mg x = some (.ref f)) (hk : PySem.W.keepIn X.K (.ref f) = true) (hb : Binds X.K fd ps ds) (hd : Vals dvs ds) (hx : ∀ σ, PassesAt CX X σ (E σ))
    (hdb : (x == ("__debug__" : Str)) = false := by decide) : PE X (.Call (.Name x p) [] [] pos) (fun σ H Q => sp dvs H Q (E σ)) :=
  ⟨fun pins s σ H Q I h => wpAny_Call_Name_kw (ld_glob I hg hm (PySem.W.callWith_K0 I.kIn hk (run_fnSD (us := []) (vs := []) F hr hb hd (hx σ) I .nil h)) hdb)⟩
def mCall0 (g : MF) (dp : List PV) : ME PV := fun _ h => g dp h
theorem s_call0 {dvs : List V} {ds : List Value} {dp : List PV} (tk : Takes X W) (F : FnOk X.prog X.w X.K X.mg X.base (L2.CX X.prog X.w) k f fd ps (spF X.K cs np g)) (hr : Room k X.A) (hg : Gl X x) (hm : X.mg x = some (.ref f)) (hk : PySem.W.keepIn X.K (.ref f) = true)
    (hb : Binds X.K fd ps ds) (hd : Vals dvs ds) (hdr : DRep X.K dp dvs) (hl : dp.length = np) (hdb : (x == ("__debug__" : Str)) = false := by decide) : SE X cs W (.Call (.Name x p) [] [] pos) (mCall0 g dp) :=
  pe_imp (pe_callSD0 (E := WE W) F hr hg hm hk hb hd (fun σ => passAt tk σ) hdb) fun σ H Q ⟨m, z, e, h, hs, hh, p⟩ => ⟨by rw [← (hdr m z H).length]; exact hl, m, z, h, dp, hdr _ _ _, hh, p⟩
/-! ### raise -/
def mRaise (c : Str) : MS := fun _ h => .ex c h
theorem s_raise {c m : Str} {j : Nat} {p1 p2 p3 pos : Pos} (hc : X.calm = true) (tk : Takes X W) (hg : Gl X c) (gC : X.mg c = some (.ref (He.ga X.K c))) (q : PySem.W.excIn X.K (He.ga X.K c) He.veBase "ValueError.__new__" = true) (kC : PySem.W.keepIn X.K (.ref (He.ga X.K c)) = true)
    (h1 : PySem.W.subIn X.K (.ref (He.ga X.K c)) (.type "BaseException") = some true) (h2 : PySem.W.typeIn X.K (.ref (He.ga X.K c)) = some (.type "type")) (hdb : (c == ("__debug__" : Str)) = false := by decide) :
    SS X cs W (.Raise (some (.Call (.Name c p1) [.Constant (.str m) j p2] [] p3)) none pos) (mRaise c) :=
  ps_imp (ps_raise hc tk (pmk_own PySem.F.excBase_ValueError q gC kC (raises_own h1 h2) hg hdb)) fun D σ H ⟨m, z, e, h, hs, hh, p⟩ => p m σ H (Nx.refl _ _ _) hh
end
end Mi

set_option Elab.async false
set_option linter.all false
set_option maxRecDepth 100000
set_option maxHeartbeats 4000000
namespace Mi
open PySem PySem.Spec PyProof.Rows L2

/-! ## a cell is written -/
section
variable {K : PySem.W.Frag} {cs : List Tb} {m z : List Addr} {h : Cells} {H : Hp}
theorem cellL (hh : HRel K cs m z h H) {n : Nat} {a : Addr} {xs : List PV} (hn : m[n]? = some a) (e : h[n]? = some (.lst xs)) : ∃ vs, H a = some (.lst vs) ∧ RepAll K m z H xs vs := by
  obtain ⟨b, h1, h2⟩ := hh.get e
  rw [hn] at h1
  obtain rfl := Option.some.inj h1
  exact h2
theorem HRel.wrL (hh : HRel K cs m z h H) {n : Nat} {a : Addr} {xs ys : List PV} {vs ws : List V} (hn : m[n]? = some a) (e : H a = some (.lst vs)) (r : RepAll K m z H ys ws) : HRel K cs m z (h.set n (.lst ys)) (upd H a (.lst ws)) :=
  hh.wr hn (fun c q => by rw [e]; exact fun z => codeO_lst (Option.some.inj z).symm) ⟨ws, upd_same, r.nx (Nx.wr hn)⟩
end
/-! ## tables of keys -/
section
variable {κ : Type} [DecidableEq κ]
def getP (kvs : List (κ × PV)) (k : κ) : Option PV := (kvs.find? fun kv => decide (kv.1 = k)).map (·.2)
def putP (kvs : List (κ × PV)) (k : κ) (v : PV) : List (κ × PV) :=
  if (kvs.any fun kv => decide (kv.1 = k)) = true then kvs.map (fun kv => if kv.1 = k then (kv.1, v) else kv) else kvs ++ [(k, v)]
def dropP (kvs : List (κ × PV)) (k : κ) : List (κ × PV) := kvs.filter fun kv => decide (kv.1 ≠ k)
inductive KVR (K : PySem.W.Frag) (m z : List Addr) (H : Hp) : List (κ × PV) → List (κ × V) → Prop
  | nil : KVR K m z H [] []
  | cons {k : κ} {x : PV} {v : V} {xs : List (κ × PV)} {vs : List (κ × V)} : Rep K m z H x v → KVR K m z H xs vs → KVR K m z H ((k, x) :: xs) ((k, v) :: vs)
variable {K : PySem.W.Frag} {m z : List Addr} {H : Hp}
theorem kvr_of : ∀ {kvs : List (κ × PV)} {ws : List (κ × V)}, kvs.map (·.1) = ws.map (·.1) → RepAll K m z H (kvs.map (·.2)) (ws.map (·.2)) → KVR K m z H kvs ws
  | [], [], _, _ => .nil
  | [], _ :: _, e, _ => by simp at e
  | _ :: _, [], e, _ => by simp at e
  | (k, x) :: r, (j, v) :: t, e, h => by
    simp only [List.map_cons, List.cons.injEq] at e
    obtain ⟨rfl, e⟩ := e
    cases h with
    | cons h1 h2 => exact .cons h1 (kvr_of e h2)
theorem KVR.keys : ∀ {kvs : List (κ × PV)} {ws : List (κ × V)}, KVR K m z H kvs ws → kvs.map (·.1) = ws.map (·.1)
  | _, _, .nil => rfl
  | _, _, .cons _ t => by simp [KVR.keys t]
theorem KVR.vals : ∀ {kvs : List (κ × PV)} {ws : List (κ × V)}, KVR K m z H kvs ws → RepAll K m z H (kvs.map (·.2)) (ws.map (·.2))
  | _, _, .nil => .nil
  | _, _, .cons r t => .cons r (KVR.vals t)
theorem KVR.any {k : κ} : ∀ {kvs : List (κ × PV)} {ws : List (κ × V)}, KVR K m z H kvs ws → (kvs.any fun kv => decide (kv.1 = k)) = (ws.any fun kv => decide (kv.1 = k))
  | _, _, .nil => rfl
  | _, _, .cons _ t => by rw [List.any_cons, List.any_cons, KVR.any t]
theorem KVR.app {xs ys : List (κ × PV)} {vs ws : List (κ × V)} (a : KVR K m z H xs vs) (b : KVR K m z H ys ws) : KVR K m z H (xs ++ ys) (vs ++ ws) := by
  induction a with
  | nil => exact b
  | cons r _ ih => exact .cons r ih
theorem KVR.put {k : κ} {x : PV} {v : V} {kvs : List (κ × PV)} {ws : List (κ × V)} (h : KVR K m z H kvs ws) (r : Rep K m z H x v) : KVR K m z H (putP kvs k x) (putK ws k v) := by
  unfold putP putK
  rw [h.any]
  split
  · rename_i hq
    clear hq
    induction h with
    | nil => exact .nil
    | @cons j y w xs vs r1 t ih =>
      rw [List.map_cons, List.map_cons]
      by_cases e : j = k
      · simp only [e, if_true]; exact .cons r ih
      · simp only [e, if_false]; exact .cons r1 ih
  · exact h.app (.cons r .nil)
theorem KVR.drop {k : κ} {kvs : List (κ × PV)} {ws : List (κ × V)} (h : KVR K m z H kvs ws) : KVR K m z H (dropP kvs k) (dropK ws k) := by
  unfold dropP dropK
  induction h with
  | nil => exact .nil
  | @cons j y w xs vs r1 t ih =>
    by_cases e : j = k
    · rw [List.filter_cons_of_neg (by simp [e]), List.filter_cons_of_neg (by simp [e])]; exact ih
    · rw [List.filter_cons_of_pos (by simp [e]), List.filter_cons_of_pos (by simp [e])]; exact .cons r1 ih
theorem KVR.get {k : κ} {kvs : List (κ × PV)} {ws : List (κ × V)} (h : KVR K m z H kvs ws) : match getP kvs k with
    | some x => ∃ v, valV ws k = some v ∧ Rep K m z H x v
    | none => valV ws k = none := by
  unfold getP valV
  induction h with
  | nil => exact rfl
  | @cons j y w xs vs r1 t ih =>
    by_cases e : j = k
    · rw [List.find?_cons_of_pos (by simp [e]), List.find?_cons_of_pos (by simp [e])]; exact ⟨w, rfl, r1⟩
    · rw [List.find?_cons_of_neg (by simp [e]), List.find?_cons_of_neg (by simp [e])]; exact ih
theorem KVR.nx {m' : List Addr} {H' : Hp} {kvs : List (κ × PV)} {ws : List (κ × V)} (h : KVR K m z H kvs ws) (n : Nx m z H m' H') : KVR K m' z H' kvs ws := by
  induction h with
  | nil => exact .nil
  | cons r _ ih => exact .cons (r.nx n) ih
theorem KVR.length {kvs : List (κ × PV)} {ws : List (κ × V)} (h : KVR K m z H kvs ws) : kvs.length = ws.length := by
  induction h with
  | nil => rfl
  | cons _ _ ih => simp [ih]
end
theorem codeO_dK {c : Addr} {q : Str} {xs : List (Key × V)} : LamX.CodeO c q ≠ .dK xs := fun e => by unfold LamX.CodeO at e; cases e
section
variable {K : PySem.W.Frag} {cs : List Tb} {m z : List Addr} {h : Cells} {H : Hp}
theorem cellD (hh : HRel K cs m z h H) {n : Nat} {a : Addr} {kvs : List (Key × PV)} (hn : m[n]? = some a) (e : h[n]? = some (.dk kvs)) : ∃ ws, H a = some (.dK ws) ∧ KVR K m z H kvs ws := by
  obtain ⟨b, h1, ws, h2, h3, h4⟩ := hh.get e
  rw [hn] at h1
  obtain rfl := Option.some.inj h1
  exact ⟨ws, h2, kvr_of h3 h4⟩
theorem HRel.wrD (hh : HRel K cs m z h H) {n : Nat} {a : Addr} {ys : List (Key × PV)} {vs ws : List (Key × V)} (hn : m[n]? = some a) (e : H a = some (.dK vs)) (r : KVR K m z H ys ws) : HRel K cs m z (h.set n (.dk ys)) (upd H a (.dK ws)) := by
  have r' : KVR K m z (upd H a (.dK ws)) ys ws := r.nx (Nx.wr hn)
  exact hh.wr hn (fun c q => by rw [e]; exact fun z => codeO_dK (Option.some.inj z).symm) ⟨ws, upd_same, r'.keys, r'.vals⟩
end
/-! ## o[i] = v -/
def keyOf : PV → Option Key
  | .d (.int i) => some (.inl i)
  | .d (.str x) => some (.inr x)
  | _ => none
theorem keyOf_rep {K : PySem.W.Frag} {m z : List Addr} {H : Hp} {v : PV} {u : V} {k : Key} (r : Rep K m z H v u) (e : keyOf v = some k) : u = kV k := by
  unfold keyOf at e
  split at e
  · obtain rfl := Option.some.inj e; exact rep_int r
  · obtain rfl := Option.some.inj e; exact (rep_str r).1
  · cases e
def opSet (o i v : PV) (h : Cells) : Option Cells := match o with
  | .r n => match h[n]? with
    | some (.lst xs) => match i with
      | .d (.int k) => match ixN xs.length k with
        | some j => some (h.set n (.lst (xs.set j v)))
        | none => none
      | _ => none
    | some (.dk kvs) => match keyOf i with
      | some k => if kvs.length < sizeLine then some (h.set n (.dk (putP kvs k v))) else none
      | none => none
    | _ => none
  | _ => none
theorem opSet_some {o i v : PV} {h h' : Cells} (e : opSet o i v h = some h') : ∃ n, o = .r n ∧ ((∃ xs k j, h[n]? = some (.lst xs) ∧ i = .d (.int k) ∧ ixN xs.length k = some j ∧ h' = h.set n (.lst (xs.set j v))) ∨
    ∃ kvs k, h[n]? = some (.dk kvs) ∧ keyOf i = some k ∧ kvs.length < sizeLine ∧ h' = h.set n (.dk (putP kvs k v))) := by
  unfold opSet at e
  split at e
  · rename_i n
    refine ⟨n, rfl, ?_⟩
    split at e
    · rename_i xs ex
      split at e
      · rename_i k
        split at e
        · rename_i j ej
          exact .inl ⟨xs, k, j, ex, rfl, ej, (Option.some.inj e).symm⟩
        · cases e
      · cases e
    · rename_i kvs ex
      split at e
      · rename_i k ek
        split at e
        · rename_i hz
          exact .inr ⟨kvs, k, ex, ek, hz, (Option.some.inj e).symm⟩
        · cases e
      · cases e
    · cases e
  · cases e
def rSetM : V → V → V → Hp → (Hp → Prop) → Prop := fun o i v H Q => rSetL o i v H Q ∨ ∃ a H', o = .ref a ∧ DPut H a i v H' ∧ Q H'
theorem set_M {X : Cx} (hu : X.A.units + 1 < cLine) : PSet X rSetM := by
  intro pins s σ H o i v ov iv u Q I ro ri rv h
  rcases h with h | ⟨a, H', rfl, g, q⟩
  · exact set_list pins s σ H o i v ov iv u Q I ro ri rv h
  · obtain rfl : ov = Value.ref a := ro
    exact d_setItem hu I g ri rv fun s' I' => ⟨H', I', q⟩
def gIx (fo fi : ME PV) : MG := fun v e h => match fo e h with
  | .ok o h1 => match fi e h1 with
    | .ok i h2 => match opSet o i v h2 with
      | some h3 => some (e, h3)
      | none => none
    | _ => none
  | _ => none
section
variable {X : Cx} {cs : List Tb} {W : WX}
theorem set_rep {K : PySem.W.Frag} {m z : List Addr} {H : Hp} {h h' : Cells} {o i v : PV} {uo ui u : V} {Q : Hp → Prop} (hh : HRel K cs m z h H) (ro : Rep K m z H o uo) (ri : Rep K m z H i ui) (rv : Rep K m z H v u) (e : opSet o i v h = some h')
    (q : ∀ H', Nx m z H m H' → HRel K cs m z h' H' → Q H') : rSetM uo ui u H Q := by
  obtain ⟨n, rfl, h1⟩ := opSet_some e
  cases ro with
  | r hn =>
    rename_i a
    rcases h1 with ⟨xs, k, j, ex, rfl, ej, rfl⟩ | ⟨kvs, k, ex, ek, hz, rfl⟩
    · obtain ⟨ws, e1, t1⟩ := cellL hh hn ex
      exact .inl ⟨a, ws, k, j, rfl, rep_int ri, e1, by rw [← t1.length]; exact ej, q _ (Nx.wr hn) (hh.wrL (xs := xs) hn e1 (t1.set rv j))⟩
    · obtain ⟨ws, e1, t1⟩ := cellD hh hn ex
      rw [keyOf_rep ri ek]
      exact .inr ⟨a, _, rfl, DPut.k e1 (by rw [← t1.length]; exact hz), q _ (Nx.wr hn) (hh.wrD hn e1 (t1.put rv))⟩
theorem g_ix {vs : List Nat} {o i : Expr} {pos : Pos} {fo fi : ME PV} (hu : X.A.units + 1 < cLine) (ho : SE X cs W o fo) (hi : SE X cs W i fi)
    (ha : ∀ v, assign (.Subscript o i pos) X.env v = (do
      let ov ← holding [v] (eval o X.env)
      let iv ← holding [v, ov] (eval i X.env)
      standAt pos
      holding [v, ov, iv] (setItem ov iv v)
      release [v, ov, iv] []) := by intro _; rfl) : SG X cs vs (.Subscript o i pos) (gIx fo fi) :=
  pg_imp (pg_sub ho hi (set_M hu) ha) fun u σ H Q ⟨m, z, e, h, v, hs, hh, r, p⟩ => by
    unfold gIx at p
    cases q1 : fo e h with
    | bad => rw [q1] at p; exact p.elim
    | ex c h1 => rw [q1] at p; exact p.elim
    | ok o h1 =>
      rw [q1] at p
      simp only at p
      refine ⟨m, z, e, h, hs, hh, ?_⟩
      rw [q1]
      intro m1 H1 n1 hh1 u1 r1
      cases q2 : fi e h1 with
      | bad => rw [q2] at p; exact p.elim
      | ex c h2 => rw [q2] at p; exact p.elim
      | ok i h2 =>
        rw [q2] at p
        simp only at p
        refine ⟨m1, z, e, h1, hs.nx n1, hh1, ?_⟩
        rw [q2]
        intro m2 H2 n2 hh2 u2 r2
        cases q3 : opSet o i v h2 with
        | none => rw [q3] at p; exact p.elim
        | some h3 =>
          rw [q3] at p
          exact set_rep hh2 (r1.nx n2) r2 ((r.nx n1).nx n2) q3 fun H' n3 hh3 => p m2 σ H' ((n1.trans n2).trans n3) hh3 (((hs.nx n1).nx n2).nx n3) rfl
end
/-! ## o.m(..) -/
def Bm (K : PySem.W.Frag) (cs : List Tb) (r : V → List V → Hp → VK → Prop) (g : PV → List PV → Cells → Out PV) : Prop :=
  ∀ m z H h v u vs us Q Wx, HRel K cs m z h H → Rep K m z H v u → RepAll K m z H vs us → Po K cs z m H (RxE K z Q) Wx (g v vs h) → r u us H Q
def Ty (K : PySem.W.Frag) (cs : List Tb) (T : String) (ty : PV → Cells → Bool) : Prop :=
  ∀ m z H h v u, HRel K cs m z h H → Rep K m z H v u → ty v h = true → tyV K T u H
def mMeth (ty : PV → Cells → Bool) (g : PV → List PV → Cells → Out PV) (fo : ME PV) (fa : ME (List PV)) : ME PV := fun e h => (fo e h).bind fun v h1 => if ty v h1 then (fa e h1).bind fun vs h2 => g v vs h2 else .bad
def mMeth0 (ty : PV → Cells → Bool) (g : PV → List PV → Cells → Out PV) (fo : ME PV) : ME PV := fun e h => (fo e h).bind fun v h1 => if ty v h1 then g v [] h1 else .bad
section
variable {X : Cx} {cs : List Tb} {W : WX} {o a : Expr} {es : List Expr} {name : Str} {apos cpos : Pos} {T id : String} {r : V → List V → Hp → VK → Prop} {ty : PV → Cells → Bool} {g : PV → List PV → Cells → Out PV} {fo : ME PV} {fa : ME (List PV)}
theorem s_meth (pa : PlainAttrs T) (slot : Slot T name id) (hty : typeOf (.builtin id) = pure (.type "method_descriptor")) (hm : MtR X id r) (ht : Ty X.K cs T ty) (hb : Bm X.K cs r g) (ho : SE X cs W o fo) (ha : SA X cs W (a :: es) fa)
    (hbase : attributeBase o name X.env (eval o X.env) = eval o X.env := by rfl)
    (hfew : ((backTo cpos (starEach (a :: es) X.env)).all (fun x => !x.1) && (backToKw cpos (keywordEach [] X.env)).all (fun x => x.1.isSome)
      && decide ((a :: es).length + ([] : List Keyword).length + (if ([] : List Keyword).isEmpty then 0 else 1) < 30)) = true := by rfl)
    (hline : (apos.endLine == cpos.line) = true := by rfl) (hs : starEach (a :: es) X.env = (false, eval a X.env) :: starEach es X.env := by rfl) (hplain : (backTo cpos (starEach es X.env)).any (·.1) = false := by rfl) :
    SE X cs W (.Call (.Attribute o name apos) (a :: es) [] cpos) (mMeth ty g fo fa) :=
  pe_imp (pe_bm pa slot hty hm ho ha hbase hfew hline hs hplain) fun σ H Q ⟨m, z, e, h, hs, hh, p⟩ => tE_then hs hh p fun v h1 m1 H1 u hs1 hh1 r1 n1 p1 => by
    split at p1
    · rename_i hty
      exact ⟨ht _ _ _ _ _ _ hh1 r1 hty, tA_then hs1 hh1 p1 fun vs h2 m2 H2 us hs2 hh2 r2 n2 p2 => hb m2 z H2 h2 v u vs us Q _ hh2 (r1.nx n2) r2 p2⟩
    · exact p1.elim
theorem s_meth0 (pa : PlainAttrs T) (slot : Slot T name id) (hty : typeOf (.builtin id) = pure (.type "method_descriptor")) (hm : MtR X id r) (ht : Ty X.K cs T ty) (hb : Bm X.K cs r g) (ho : SE X cs W o fo)
    (hbase : attributeBase o name X.env (eval o X.env) = eval o X.env := by rfl) (hline : (apos.endLine == cpos.line) = true := by rfl) :
    SE X cs W (.Call (.Attribute o name apos) [] [] cpos) (mMeth0 ty g fo) :=
  pe_imp (pe_bm0 pa slot hty hm ho hbase hline) fun σ H Q ⟨m, z, e, h, hs, hh, p⟩ => tE_then hs hh p fun v h1 m1 H1 u hs1 hh1 r1 n1 p1 => by
    split at p1
    · rename_i hty
      exact ⟨ht _ _ _ _ _ _ hh1 r1 hty, hb m1 z H1 h1 v u [] [] Q _ hh1 r1 .nil p1⟩
    · exact p1.elim
end
def tyL (v : PV) (h : Cells) : Bool := (asL v h).isSome
def tyS (v : PV) (_ : Cells) : Bool := match v with
  | .d (.str _) => true
  | _ => false
theorem ty_list {K : PySem.W.Frag} {cs : List Tb} : Ty K cs "list" tyL := by
  intro m z H h v u hh r e
  unfold tyL at e
  cases q : asL v h with
  | none => rw [q] at e; cases e
  | some xs =>
    obtain ⟨a, ws, rfl, q1, t1⟩ := asL_rep hh r q
    exact .inl ⟨rfl, _, .inl (.inl q1)⟩
theorem ty_str {K : PySem.W.Frag} {cs : List Tb} : Ty K cs "str" tyS := by
  intro m z H h v u hh r e
  unfold tyS at e
  split at e
  · rw [(rep_str r).1]; rfl
  · cases e
def meAppend (v : PV) (vs : List PV) (h : Cells) : Out PV := match v, vs with
  | .r n, [x] => match h[n]? with
    | some (.lst xs) => if xs.length < sizeLine then .ok (.d .none) (h.set n (.lst (xs ++ [x]))) else .bad
    | _ => .bad
  | _, _ => .bad
/-- the end where a cell was written -/
theorem Po.wr {α : Type} {K : PySem.W.Frag} {cs : List Tb} {m z : List Addr} {h : Cells} {H : Hp} {R : α → Cells → List Addr → Hp → Prop} {Wx : Str → Hp → Prop} {a : α} {n : Nat} {b : Addr} {ys : List PV} {vs ws : List V} (q : Po K cs z m H R Wx (.ok a (h.set n (.lst ys)))) (hh : HRel K cs m z h H) (hn : m[n]? = some b) (e : H b = some (.lst vs)) (r : RepAll K m z H ys ws) :
    R a (h.set n (.lst ys)) m (upd H b (.lst ws)) := q m _ (Nx.wr hn) (hh.wrL (xs := []) hn e r)
theorem bm_append {K : PySem.W.Frag} {cs : List Tb} : Bm K cs rAppend meAppend := by
  intro m z H h v u vs us Q Wx hh r rs p
  unfold meAppend at p
  split at p
  · obtain ⟨w, rfl, r2⟩ := rep1 rs
    split at p
    · rename_i xs ex
      split at p
      · rename_i hz
        cases r with
        | r hn =>
          obtain ⟨ws, e1, t1⟩ := cellL hh hn ex
          refine ⟨_, ws, w, rfl, rfl, e1, by rw [← t1.length]; exact hz, Po.wr p hh hn e1 (t1.append (.cons r2 .nil)) _ rN_⟩
      · exact p.elim
    · exact p.elim
  · exact p.elim
def mePop (v : PV) (vs : List PV) (h : Cells) : Out PV := match v, vs with
  | .r n, [] => match h[n]? with
    | some (.lst xs) => match xs[xs.length - 1]? with
      | some x => .ok x (h.set n (.lst xs.dropLast))
      | none => .bad
    | _ => .bad
  | _, _ => .bad
theorem RepAll.dropLast {K : PySem.W.Frag} {m z : List Addr} {H : Hp} {xs : List PV} {vs : List V} (t : RepAll K m z H xs vs) : RepAll K m z H xs.dropLast vs.dropLast := by
  rw [List.dropLast_eq_take, List.dropLast_eq_take, t.length]
  exact t.take _
theorem bm_pop {K : PySem.W.Frag} {cs : List Tb} : Bm K cs rPop mePop := by
  intro m z H h v u vs us Q Wx hh r rs p
  unfold mePop at p
  split at p
  · cases rs
    split at p
    · rename_i xs ex
      split at p
      · rename_i x ey
        cases r with
        | r hn =>
          obtain ⟨ws, e1, t1⟩ := cellL hh hn ex
          obtain ⟨w, h1, h2⟩ := t1.get ey
          refine ⟨_, ws, w, rfl, rfl, e1, by rw [← t1.length]; exact h1, Po.wr p hh hn e1 t1.dropLast _ (h2.nx (Nx.wr hn))⟩
      · exact p.elim
    · exact p.elim
  · exact p.elim
def asStrs : List PV → Option (List Str)
  | [] => some []
  | .d (.str x) :: r => (asStrs r).map (x :: ·)
  | _ :: _ => none
theorem asStrs_map (ns : List Str) : asStrs (ns.map fun i => .d (.str i)) = some ns := by
  induction ns with
  | nil => rfl
  | cons x r ih => simp [asStrs, ih]
theorem asStrs_eq : ∀ {xs : List PV} {ns : List Str}, asStrs xs = some ns → xs = ns.map fun i => .d (.str i)
  | [], _, e => by obtain rfl := Option.some.inj e; rfl
  | .d (.str i) :: r, ns, e => by
    have e' : (asStrs r).map (i :: ·) = some ns := e
    cases e2 : asStrs r with
    | none => rw [e2] at e'; cases e'
    | some ms =>
      rw [e2] at e'
      obtain rfl := Option.some.inj e'
      rw [asStrs_eq e2]; rfl
  | .d .none :: _, _, e => by simp [asStrs] at e
  | .d (.bool _) :: _, _, e => by simp [asStrs] at e
  | .d (.int _) :: _, _, e => by simp [asStrs] at e
  | .d (.list _) :: _, _, e => by simp [asStrs] at e
  | .d (.tuple _) :: _, _, e => by simp [asStrs] at e
  | .d (.dict _) :: _, _, e => by simp [asStrs] at e
  | .r _ :: _, _, e => by simp [asStrs] at e
  | .ls _ :: _, _, e => by simp [asStrs] at e
  | .tp _ :: _, _, e => by simp [asStrs] at e
  | .cl _ :: _, _, e => by simp [asStrs] at e
  | .sc _ :: _, _, e => by simp [asStrs] at e
theorem rep_strs {K : PySem.W.Frag} {m z : List Addr} {H : Hp} : ∀ {ns : List Str} {vs : List V}, RepAll K m z H (ns.map fun i => .d (.str i)) vs → vs = ns.map V.str ∧ ∀ x ∈ ns, PyData.strOk x = true
  | [], _, h => by cases h; exact ⟨rfl, fun _ h => absurd h (by simp)⟩
  | x :: r, _, h => by
    cases h with
    | cons h1 h2 =>
      obtain ⟨e1, o1⟩ := rep_str h1
      obtain ⟨e2, o2⟩ := rep_strs h2
      refine ⟨by rw [e1, e2]; rfl, fun y hy => ?_⟩
      rcases List.mem_cons.mp hy with e | e
      · rw [e]; exact o1
      · exact o2 y e
/-- sep.join(texts) -/
def meJoin (v : PV) (vs : List PV) (h : Cells) : Out PV := match v, vs with
  | .d (.str a), [w] => match asS w h with
    | some xs => match asStrs xs with
      | some ys => if (ys.map (·.length)).sum + ys.length * a.length ≤ 16777216 then .ok (.d (.str (Str.join a ys))) h else .bad
      | none => .bad
    | none => .bad
  | _, _ => .bad
def rJoin (K : PySem.W.Frag) : V → List V → Hp → VK → Prop := fun x xs H Q => ∃ a p, ∃ ys : List Str, x = .str a ∧ xs = [.ref p] ∧ (SqL K H p (ys.map V.str) ∨ SqT K H p (ys.map V.str)) ∧
    (ys.map (·.length)).sum + ys.length * a.length ≤ 16777216 ∧ Q (.str (Txt.join a ys)) H
theorem mt_joinM {X : Cx} : MtR X "str.join" (rJoin X.K) := mt_join

theorem strOk_join {a : Str} (o : PyData.strOk a = true) : ∀ {ys : List Str}, (∀ x ∈ ys, PyData.strOk x = true) → PyData.strOk (Str.join a ys) = true
  | [], _ => by
    show PyData.strOk Str.empty = true
    unfold PyData.strOk Str.empty
    simp
  | [x], h => h x (by simp)
  | x :: y :: r, h => strOk_app (strOk_app (h x (by simp)) o) (strOk_join o (ys := y :: r) fun z hz => h z (List.mem_cons_of_mem _ hz))
theorem asS_rep {K : PySem.W.Frag} {cs : List Tb} {m z : List Addr} {h : Cells} {H : Hp} (hh : HRel K cs m z h H) {v : PV} {u : V} {xs : List PV} (r : Rep K m z H v u) (e : asS v h = some xs) : ∃ a vs, u = .ref a ∧ (SqL K H a vs ∨ SqT K H a vs) ∧ RepAll K m z H xs vs := by
  unfold asS at e
  split at e
  · rename_i ys ey
    obtain rfl := Option.some.inj e
    obtain ⟨a, ws, rfl, q1, t1⟩ := asL_rep hh r ey
    exact ⟨a, ws, rfl, .inl (.inl (.inl q1)), t1⟩
  · obtain ⟨a, ws, rfl, q1, t1⟩ := asT_rep r e
    exact ⟨a, ws, rfl, .inr (SqT.top q1), t1⟩
theorem bm_join {K : PySem.W.Frag} {cs : List Tb} : Bm K cs (rJoin K) meJoin := by
  intro m z H h v u vs us Q Wx hh r rs p
  unfold meJoin at p
  split at p
  · rename_i a w
    obtain ⟨w', rfl, r2⟩ := rep1 rs
    split at p
    · rename_i xs ex
      split at p
      · rename_i ys ey
        split at p
        · rename_i hz
          obtain ⟨e1, o1⟩ := rep_str r
          obtain ⟨b, ws, rfl, q1, t1⟩ := asS_rep hh r2 ex
          rw [asStrs_eq ey] at t1
          obtain ⟨e2, o2⟩ := rep_strs t1
          rw [e2] at q1
          exact ⟨_, b, ys, e1, rfl, q1, hz, by rw [TL.join_eq]; exact p.here hh _ (rS_ (strOk_join o1 o2))⟩
        · exact p.elim
      · exact p.elim
    · exact p.elim
  · exact p.elim
/-- text.index(text) where it is found -/
def meIndexS (v : PV) (vs : List PV) (h : Cells) : Out PV := match v, vs with
  | .d (.str a), [.d (.str b)] => match Builtin.Str.occurrences a b 0 a.length 1 with
    | i :: _ => .ok (.d (.int (i : Nat))) h
    | [] => .bad
  | _, _ => .bad
def rIndexS : V → List V → Hp → VK → Prop := fun x xs H Q => ∃ a b i rest, x = .str a ∧ xs = [.str b] ∧ Builtin.Str.occurrences a b 0 a.length 1 = i :: rest ∧ Q (.int (i : Nat)) H
theorem mt_indexS {X : Cx} : MtR X "str.index" rIndexS := mt_sindex
theorem bm_indexS {K : PySem.W.Frag} {cs : List Tb} : Bm K cs rIndexS meIndexS := by
  intro m z H h v u vs us Q Wx hh r rs p
  unfold meIndexS at p
  split at p
  · rename_i a b
    obtain ⟨w', rfl, r2⟩ := rep1 rs
    split at p
    · rename_i i rest ei
      exact ⟨a, b, i, rest, (rep_str r).1, by rw [(rep_str r2).1], ei, p.here hh _ (rI_ _)⟩
    · exact p.elim
  · exact p.elim
/-! ## x in y -/
def memD (x : PyData) (xs : List PyData) : Bool := xs.any fun z => PyData.eqv z x
def allX : List PV → Cells → Option (List PyData)
  | [], _ => some []
  | x :: r, h => match asX x h, allX r h with
    | some d, some ds => some (d :: ds)
    | _, _ => none
/-- a sign in a text, a thing in a list or a tuple, a key in a dict -/
def opIn (k : Bool) (v w : PV) (h : Cells) : Out PV := match w with
  | .d (.str y) => match v with
    | .d (.str x) => match x.cps.toList with
      | [c] => .ok (.d (.bool (k == decide (c ∈ y.cps.toList)))) h
      | _ => .bad
    | _ => .bad
  | w => match asX w h, asX v h with
    | some (.list ds), some d => if SeqAt.shaped d && SeqAt.shaped (.list ds) then .ok (.d (.bool (k == memD d ds))) h else .bad
    | some (.tuple ds), some d => if SeqAt.shaped d && SeqAt.shaped (.tuple ds) then .ok (.d (.bool (k == memD d ds))) h else .bad
    | _, _ => match asDict w h, keyOf v with
      | some kvs, some j => .ok (.d (.bool (k == (getP kvs j).isSome))) h
      | _, _ => .bad

def rInM (K : PySem.W.Frag) (k : Bool) : R2 := fun x y H Q => (∃ (c : Nat) (z : Str), x = .str ⟨#[c]⟩ ∧ y = .str z ∧ Q (.bl (k == decide (c ∈ z.cps.toList))) H) ∨
  (∃ d ds, Dp K H x d ∧ (Dp K H y (.list ds) ∧ SeqAt.shaped (.list ds) = true ∨ Dp K H y (.tuple ds) ∧ SeqAt.shaped (.tuple ds) = true) ∧ SeqAt.shaped d = true ∧ Q (.bl (k == memD d ds)) H) ∨
  ∃ a o, y = .ref a ∧ DGet H a x o ∧ Q (.bl (k == o.isSome)) H
theorem beq_tt (b : Bool) : (true == b) = b := by cases b <;> rfl
theorem beq_ff (b : Bool) : (false == b) = !b := by cases b <;> rfl
theorem op_inM {X : Cx} (hu : X.A.units + 65 < cLine) : OpR X (compareOp .In) (rInM X.K true) := by
  intro pins s σ H x y v u Q I rx ry h
  rcases h with ⟨c, z, rfl, rfl, q⟩ | ⟨d, ds, hd, hy, sd, q⟩ | ⟨a, o, rfl, g, q⟩
  · rw [beq_tt] at q
    exact op_in_sign pins s σ H _ _ v u Q I rx ry ⟨c, z, rfl, rfl, q⟩
  · rw [beq_tt] at q
    obtain ⟨as, r1⟩ := Dp.reads I d x v hd rx
    rcases hy with ⟨hy, se⟩ | ⟨hy, se⟩
    · obtain ⟨bs, r2⟩ := Dp.reads I (.list ds) y u hy ry
      exact SeqAt.in_list_reads r2 r1 (SeqAt.canLay_of_shaped se) (SeqAt.canLay_of_shaped sd) (room_in_shaped sd hu) ⟨.bl _, H, I, rfl, q⟩
    · obtain ⟨bs, r2⟩ := Dp.reads I (.tuple ds) y u hy ry
      exact SeqAt.in_tuple_reads r2 r1 (SeqAt.canLay_of_shaped se) (SeqAt.canLay_of_shaped sd) (room_in_shaped sd hu) ⟨.bl _, H, I, rfl, q⟩
  · rw [beq_tt] at q
    obtain rfl : u = Value.ref a := ry
    exact d_in (by omega) I g rx fun s' I' => ⟨.bl _, H, I', rfl, q⟩
theorem op_notInM {X : Cx} (hu : X.A.units + 65 < cLine) : OpR X (compareOp .NotIn) (rInM X.K false) := by
  intro pins s σ H x y v u Q I rx ry h
  rcases h with ⟨c, z, rfl, rfl, q⟩ | ⟨d, ds, hd, hy, sd, q⟩ | ⟨a, o, rfl, g, q⟩
  · rw [beq_ff] at q
    exact op_notIn_sign pins s σ H _ _ v u Q I rx ry ⟨c, z, rfl, rfl, q⟩
  · rw [beq_ff] at q
    obtain ⟨as, r1⟩ := Dp.reads I d x v hd rx
    rcases hy with ⟨hy, se⟩ | ⟨hy, se⟩
    · obtain ⟨bs, r2⟩ := Dp.reads I (.list ds) y u hy ry
      exact SeqAt.notIn_list_reads r2 r1 (SeqAt.canLay_of_shaped se) (SeqAt.canLay_of_shaped sd) (room_in_shaped sd hu) ⟨.bl _, H, I, rfl, q⟩
    · obtain ⟨bs, r2⟩ := Dp.reads I (.tuple ds) y u hy ry
      exact SeqAt.notIn_tuple_reads r2 r1 (SeqAt.canLay_of_shaped se) (SeqAt.canLay_of_shaped sd) (room_in_shaped sd hu) ⟨.bl _, H, I, rfl, q⟩
  · rw [beq_ff] at q
    obtain rfl : u = Value.ref a := ry
    exact d_notIn (by omega) I g rx fun s' I' => ⟨.bl _, H, I', rfl, q⟩
theorem asDict_rep {K : PySem.W.Frag} {cs : List Tb} {m z : List Addr} {h : Cells} {H : Hp} (hh : HRel K cs m z h H) {v : PV} {u : V} {kvs : List (Key × PV)} (r : Rep K m z H v u) (e : asDict v h = some kvs) : ∃ a ws, u = .ref a ∧ H a = some (.dK ws) ∧ KVR K m z H kvs ws := by
  unfold asDict at e
  split at e
  · split at e
    · rename_i kvs' eq
      obtain rfl := Option.some.inj e
      cases r with
      | r hn =>
        obtain ⟨ws, h1, h2⟩ := cellD hh hn eq
        exact ⟨_, ws, rfl, h1, h2⟩
    · cases e
  · cases e
theorem br_in {K : PySem.W.Frag} {cs : List Tb} {k : Bool} : Br K cs (rInM K k) (opIn k) := by
  intro m z H h v w u1 u2 Q Wx hh r1 r2 p
  unfold opIn at p
  split at p
  · rename_i y
    split at p
    · rename_i x
      split at p
      · rename_i c ec
        obtain ⟨e1, o1⟩ := rep_str r1
        obtain ⟨e2, o2⟩ := rep_str r2
        have ex : x = ⟨#[c]⟩ := by
          cases x with
          | mk cps =>
            congr
            exact Array.toList_inj.mp (by simpa using ec)
        rw [e1, e2, ex]
        exact .inl ⟨c, y, rfl, rfl, p.here hh _ (rB_ _)⟩
      · exact p.elim
    · exact p.elim
  · split at p
    · rename_i ds d e2 e1
      split at p
      · rename_i hz
        rw [Bool.and_eq_true] at hz
        exact .inr (.inl ⟨d, ds, (asX_rep hh r1 e1).1, .inl ⟨(asX_rep hh r2 e2).1, hz.2⟩, hz.1, p.here hh _ (rB_ _)⟩)
      · exact p.elim
    · rename_i ds d e2 e1
      split at p
      · rename_i hz
        rw [Bool.and_eq_true] at hz
        exact .inr (.inl ⟨d, ds, (asX_rep hh r1 e1).1, .inr ⟨(asX_rep hh r2 e2).1, hz.2⟩, hz.1, p.here hh _ (rB_ _)⟩)
      · exact p.elim
    · split at p
      · rename_i kvs j ed ek
        obtain ⟨a, ws, rfl, h1, h2⟩ := asDict_rep hh r2 ed
        rw [keyOf_rep r1 ek]
        refine .inr (.inr ⟨a, _, rfl, DGet.k h1, ?_⟩)
        have hg := h2.get (k := j)
        cases q : getP kvs j with
        | none =>
          rw [q] at hg p
          rw [show valV ws j = none from hg]
          exact p.here hh _ (rB_ _)
        | some x =>
          rw [q] at hg p
          obtain ⟨v', h3, _⟩ := hg
          rw [h3]
          exact p.here hh _ (rB_ _)
      · exact p.elim
/-! ### x += y -/
section
variable {prog : Program} {w : World} {A : Around} {E : Value → Shared → Prop} {s : Shared}
theorem noI_tuple_add : typeLookup (.type "tuple") (dunderI "add") = pure none := by rw [typeLookup_type, builtinLookup_eq_fast]; kernel_rfl
theorem icat_tup {t b : Addr} {vs ws : List Value} {Q : Value → Shared → Prop} (ht : IsTup s.heap t vs.toArray) (hb : IsTup s.heap b ws.toArray) (h0 : vs = [] → Q (.ref b) s)
    (h1 : vs ≠ [] → ws = [] → Q (.ref t) s) (h2 : vs ≠ [] → ws ≠ [] → Q (.ref s.heap.objs.size) { s with heap := s.heap.push { cls := .type "tuple", data := .seq (vs ++ ws).toArray } })
    (hsz : vs.length + ws.length ≤ sizeLine) : wpAny (model prog w) A (inplaceOp .Add (.ref t) (.ref b)) Q E s := by
  obtain ⟨⟨cls, dd, data, sl⟩, ho, hc, n, hd⟩ := id ht
  obtain ⟨⟨cls2, dd2, data2, sl2⟩, ho2, hc2, n2, hd2⟩ := id hb
  simp only at hc hd hc2 hd2
  subst hc hd hc2 hd2
  have e : vs.toArray ++ ws.toArray = (vs ++ ws).toArray := by simp
  refine wpAny_inplaceOp_concat ⟨_, ho, rfl⟩ ⟨_, ho2, rfl⟩ noI_tuple_add noFill_tuple_add seq_tuple_add ?_
  by_cases hv : vs = []
  · subst hv
    exact call_meets PySem.F.slot_tuple_add ⟨_, ho, rfl⟩ PySem.F.entry_tuple_add (PySem.F.args_tuple_add_2 _ _) (tuple_addW0 t b ([] : List Value).toArray ws.toArray n n2 dd dd2 sl sl2 (by simp)) ⟨ho, ho2, h0 rfl⟩
  · by_cases hw : ws = []
    · exact call_meets PySem.F.slot_tuple_add ⟨_, ho, rfl⟩ PySem.F.entry_tuple_add (PySem.F.args_tuple_add_2 _ _)
        (tuple_addW1 t b vs.toArray ws.toArray n n2 dd dd2 sl sl2 (by simpa using hv) (by simp [hw])) ⟨ho, ho2, h1 hv hw⟩
    · refine call_meets PySem.F.slot_tuple_add ⟨_, ho, rfl⟩ PySem.F.entry_tuple_add (PySem.F.args_tuple_add_2 _ _)
        (tuple_addW2 t b vs.toArray ws.toArray n n2 dd dd2 sl sl2 (by simpa using hv) (by simpa using hw) (by rw [List.size_toArray, List.size_toArray]; exact hsz)) ⟨ho, ho2, ?_⟩
      rw [e]
      exact h2 hv hw
end
theorem iop_catA {X : Cx} : OpR X (inplaceOp .Add) (rCatA X.K) := by
  intro pins s σ H x y v u Q I rx ry h
  obtain ⟨a, b, xs, ys, rfl, rfl, ha, hb, hz, q0, q1, q2⟩ := h
  cases rx
  cases ry
  obtain ⟨its, r1, p1, _⟩ := I.tuple ha
  obtain ⟨its2, r2, p2, _⟩ := I.tuple hb
  refine icat_tup p1 p2 (fun z => ⟨.ref b, H, I, rfl, q0 (r1.nil_iff.mp z)⟩) (fun y z => ⟨.ref a, H, I, rfl, q1 (fun w => y (r1.nil_iff.mpr w)) (r2.nil_iff.mp z)⟩) (fun y z => ?_) (by rw [← r1.length, ← r2.length]; exact hz)
  refine ⟨.ref s.heap.objs.size, _, I.laid (t' := s.toks) (o := .tup (xs ++ ys)) (fun b ob q => Heap.get?_push_of_some _ q) (Nat.le_refl _) ?_, rfl, q2 (fun w => y (r1.nil_iff.mpr w)) (fun w => z (r2.nil_iff.mpr w)) _ (I.hok.fresh (Nat.le_refl _))⟩
  exact ⟨by rw [List.length_append]; exact hz, _, r1.append r2, IsTup.new _ _⟩
def iadd (v w : PV) (h : Cells) : Out PV := match v, w with
  | .d (.int i), .d (.int j) => .ok (.d (.int (i + j))) h
  | .d (.str x), .d (.str y) => if x.length + y.length ≤ sizeLine then .ok (.d (.str (x ++ y))) h else .bad
  | .r n, w => match h[n]?, asL w h with
    | some (.lst xs), some ys => if xs.length + ys.length ≤ sizeLine then .ok (.r n) (h.set n (.lst (xs ++ ys))) else .bad
    | _, _ => .bad
  | v, w => match asT v, asT w with
    | some xs, some ys => if xs.length + ys.length ≤ sizeLine then .ok (mkT (xs ++ ys)) h else .bad
    | _, _ => .bad
def rIaddM (K : PySem.W.Frag) : R2 := fun x y H Q => (rI0 fun i j => .int (i + j)) x y H Q ∨ (fun x y H Q => ∃ i j, x = V.str i ∧ y = V.str j ∧ i.length + j.length ≤ sizeLine ∧ Q (.str (i ++ j)) H) x y H Q ∨ rExt2 x y H Q ∨ rCatA K x y H Q
theorem iop_addM {X : Cx} : OpR X (inplaceOp .Add) (rIaddM X.K) := OpR.or iop_add (OpR.or iop_add_str (OpR.or iop_ext iop_catA))
theorem br_iadd {K : PySem.W.Frag} {cs : List Tb} : Br K cs (rIaddM K) iadd := by
  intro m z H h v w u1 u2 Q Wx hh r1 r2 p
  unfold iadd at p
  split at p
  · rw [rep_int r1, rep_int r2]
    exact .inl ⟨_, _, rfl, rfl, p.here hh _ (rI_ _)⟩
  · split at p
    · rename_i hz
      obtain ⟨e1, o1⟩ := rep_str r1
      obtain ⟨e2, o2⟩ := rep_str r2
      rw [e1, e2]
      exact .inr (.inl ⟨_, _, rfl, rfl, hz, p.here hh _ (rS_ (strOk_app o1 o2))⟩)
    · exact p.elim
  · split at p
    · rename_i xs ys ex ey
      split at p
      · rename_i hz
        cases r1 with
        | r hn =>
          obtain ⟨vs, e1, t1⟩ := cellL hh hn ex
          obtain ⟨b, ws, rfl, q2, t2⟩ := asL_rep hh r2 ey
          rw [t1.length, t2.length] at hz
          exact .inr (.inr (.inl ⟨_, b, vs, ws, rfl, rfl, e1, q2, hz, Po.wr p hh hn e1 (t1.append t2) _ (.r hn)⟩))
      · exact p.elim
    · exact p.elim
  · split at p
    · rename_i xs ys ex ey
      obtain ⟨a, vs, rfl, q1, t1⟩ := asT_rep r1 ex
      obtain ⟨b, ws, rfl, q2, t2⟩ := asT_rep r2 ey
      split at p
      · rename_i hz
        rw [t1.length, t2.length] at hz
        refine .inr (.inr (.inr ⟨a, b, vs, ws, rfl, rfl, SqT.top q1, SqT.top q2, hz, fun e => ?_, fun _ e => ?_, fun _ _ pp hn => Po.new p hh hn _ (rep_newT hh (t1.append t2) hn)⟩))
        · subst e
          cases t1
          exact p.here hh _ (rep_tup q2 t2)
        · subst e
          cases t2
          rw [List.append_nil] at p
          exact p.here hh _ (rep_tup q1 t1)
      · exact p.elim
    · exact p.elim
theorem iop_mulM {X : Cx} : OpR X (inplaceOp .Mult) (rI IntMulOk fun i j => .int (i * j)) := opI fun _ _ _ _ _ _ _ hc q => imul_int q hc
def imul (v w : PV) (h : Cells) : Out PV := match v, w with
  | .d (.int i), .d (.int j) => if mulOk i j then .ok (.d (.int (i * j))) h else .bad
  | _, _ => .bad
theorem br_imul {K : PySem.W.Frag} {cs : List Tb} : Br K cs (rI IntMulOk fun i j => .int (i * j)) imul := by
  intro m z H h v w u1 u2 Q Wx hh r1 r2 p
  unfold imul at p
  split at p
  · split at p
    · rename_i hz
      rw [rep_int r1, rep_int r2]
      exact ⟨_, _, rfl, rfl, mulOk_ok hz, p.here hh _ (rI_ _)⟩
    · exact p.elim
  · exact p.elim
/-! ### order of data -/
def rLtD (K : PySem.W.Frag) (f : PyData → PyData → Bool) : R2 := fun x y H Q => ∃ d e, Dp K H x d ∧ Dp K H y e ∧ PySem.W.alike d e = true ∧ d ≠ .none ∧ min d.depth e.depth ≤ 64 ∧ Q (.bl (f d e)) H
theorem op_ltD {X : Cx} (hu : X.A.units + 64 < cLine) : OpR X (compareOp .Lt) (rLtD X.K fun d e => PySem.W.dataLt d e) := fun pins s σ H x y v u Q I rx ry ⟨d, e, hd, he, ha, hn, hm, q⟩ => by
  obtain ⟨as, r1⟩ := Dp.reads I d x v hd rx
  obtain ⟨bs, r2⟩ := Dp.reads I e y u he ry
  exact PySem.W.lt_data r1 r2 ha hn (by omega) ⟨.bl _, H, I, rfl, q⟩
theorem op_gtD {X : Cx} (hu : X.A.units + 64 < cLine) : OpR X (compareOp .Gt) (rLtD X.K fun d e => PySem.W.dataLt e d) := fun pins s σ H x y v u Q I rx ry ⟨d, e, hd, he, ha, hn, hm, q⟩ => by
  obtain ⟨as, r1⟩ := Dp.reads I d x v hd rx
  obtain ⟨bs, r2⟩ := Dp.reads I e y u he ry
  exact PySem.W.gt_data r1 r2 ha hn (by omega) ⟨.bl _, H, I, rfl, q⟩
theorem op_leD {X : Cx} (hu : X.A.units + 64 < cLine) : OpR X (compareOp .LtE) (rLtD X.K fun d e => !PySem.W.dataLt e d) := fun pins s σ H x y v u Q I rx ry ⟨d, e, hd, he, ha, hn, hm, q⟩ => by
  obtain ⟨as, r1⟩ := Dp.reads I d x v hd rx
  obtain ⟨bs, r2⟩ := Dp.reads I e y u he ry
  exact PySem.W.le_data r1 r2 ha hn (by omega) ⟨.bl _, H, I, rfl, q⟩
theorem op_geD {X : Cx} (hu : X.A.units + 64 < cLine) : OpR X (compareOp .GtE) (rLtD X.K fun d e => !PySem.W.dataLt d e) := fun pins s σ H x y v u Q I rx ry ⟨d, e, hd, he, ha, hn, hm, q⟩ => by
  obtain ⟨as, r1⟩ := Dp.reads I d x v hd rx
  obtain ⟨bs, r2⟩ := Dp.reads I e y u he ry
  exact PySem.W.ge_data r1 r2 ha hn (by omega) ⟨.bl _, H, I, rfl, q⟩
def isNon : PyData → Bool
  | .none => true
  | _ => false
/-- whole numbers, texts; other data by their order -/
def opOrd (f : PyData → PyData → Bool) (g : PV → PV → Cells → Out PV) (v w : PV) (h : Cells) : Out PV := match g v w h with
  | .bad => match asX v h, asX w h with
    | some d, some e => if PySem.W.alike d e && !isNon d && decide (min d.depth e.depth ≤ 64) then .ok (.d (.bool (f d e))) h else .bad
    | _, _ => .bad
  | o => o
theorem br_ordD {K : PySem.W.Frag} {cs : List Tb} {f : PyData → PyData → Bool} {g : PV → PV → Cells → Out PV} {r : R2} (hb : Br K cs r g) : Br K cs (fun x y H Q => r x y H Q ∨ rLtD K f x y H Q) (opOrd f g) := by
  intro m z H h v w u1 u2 Q Wx hh r1 r2 p
  unfold opOrd at p
  split at p
  · split at p
    · rename_i d e ed ee
      split at p
      · rename_i hz
        simp only [Bool.and_eq_true, Bool.not_eq_true', decide_eq_true_eq] at hz
        refine .inr ⟨d, e, (asX_rep hh r1 ed).1, (asX_rep hh r2 ee).1, hz.1.1, fun q => ?_, hz.2, p.here hh _ (rB_ _)⟩
        rw [q] at hz
        exact absurd hz.1.2 (by decide)
      · exact p.elim
    · exact p.elim
  · exact .inl (hb m z H h v w u1 u2 Q Wx hh r1 r2 p)
/-! ### what is walked: texts, pairs -/
/-- items that need no list: made as they are walked -/
theorem jok_str {K : PySem.W.Frag} {cs : List Tb} {z m : List Addr} {H : Hp} {x : Str} (o : PyData.strOk x = true) : JOk K cs z m H (x.cps.toList.map fun c => PV.d (.str ⟨#[c]⟩)) none (Its x) := fun z' m' h' H' f nx hh g => by
  refine ⟨fun i y hy => ?_, by show x.cps.size ≤ _; simp⟩
  rw [List.getElem?_map] at hy
  cases e : x.cps.toList[i]? with
  | none => rw [e] at hy; cases hy
  | some c =>
    obtain ⟨hl, ej⟩ := List.getElem?_eq_some_iff.mp e
    rw [e] at hy
    obtain rfl := Option.some.inj hy
    refine ⟨by show i < x.cps.size; simpa using hl, fun u H'' ⟨e1, c', e2, e3⟩ => ?_⟩
    subst e1 e3
    have e4 : x.cps[i]? = some c := by rw [← Array.getElem?_toList]; exact e
    rw [e4] at e2
    obtain rfl := Option.some.inj e2
    refine ⟨Nx.refl _ _ _, hh, rS_ ?_⟩
    unfold PyData.strOk at *
    rw [← Array.all_toList] at o
    have := List.all_eq_true.mp o c (List.mem_of_getElem? e)
    simpa using this
def iText (f : ME PV) : ME (List PV × Option Nat) := fun e h => (f e h).bind fun v h1 => match v with
  | .d (.str x) => .ok (x.cps.toList.map fun c => PV.d (.str ⟨#[c]⟩), none) h1
  | _ => .bad
theorem i_text {X : Cx} {cs : List Tb} {W : WX} {tg l : Expr} {f : ME PV} (hl : SE X cs W l f) : SI X cs W tg l (iText f) := pi_imp (pi_str hl) fun σ H R ⟨m, z, e, h, hs, hh, p⟩ => tE_then hs hh p fun v h1 m1 H1 u hs1 hh1 r1 n1 p1 => by
  split at p1
  · obtain ⟨e1, o1⟩ := rep_str r1
    exact ⟨_, e1, p1.here hh1 _ (jok_str o1)⟩
  · exact p1.elim
/-- two items in a new pair -/
theorem rep_pair {K : PySem.W.Frag} {cs : List Tb} {m z : List Addr} {h : Cells} {H : Hp} {x y : PV} {u v : V} {p : Addr} (hh : HRel K cs m z h H) (r1 : Rep K m z H x u) (r2 : Rep K m z H y v) (hn : H p = none) : Rep K m z (upd H p (.tup [u, v])) (mkT [x, y]) (.ref p) := rep_newT hh (.cons r1 (.cons r2 .nil)) hn
theorem jok_enum {K : PySem.W.Frag} {cs : List Tb} {z m : List Addr} {H : Hp} {a : Addr} {xs : List PV} {vs : List V} (hq : fz m z H a = some (.lst vs)) (t : RepAll K m z H xs vs) :
    JOk K cs z m H (xs.mapIdx fun i x => mkT [.d (.int (i : Nat)), x]) none (Ite K a) := fun z' m' h' H' f n hh _ => by
  have hv := n.vwz f
  have h1 := hv _ _ hq noTb_lst
  have h2 : SqL K H' a vs := .inl (.inl (fz_some h1).2.2)
  have t' := Rep.vwAll hv (fun _ _ q => n.get q) t
  refine ⟨fun i x hx => ?_, vs, h2, by rw [List.length_mapIdx, t.length]; exact Nat.le_refl _⟩
  rw [List.getElem?_mapIdx] at hx
  obtain ⟨y, ey, ex⟩ := Option.map_eq_some_iff.mp hx
  subst ex
  obtain ⟨u, e1, r1⟩ := t'.get ey
  refine ⟨⟨vs, u, h2, e1⟩, fun w H'' ⟨T, u', e, hn, eH, hw⟩ => ?_⟩
  subst e eH
  have e3 := hw vs h2
  rw [e1] at e3
  obtain rfl := Option.some.inj e3
  exact ⟨Nx.new hn, hh.new hn, rep_pair hh (rI_ _) r1 hn⟩
theorem jok_enumC {K : PySem.W.Frag} {cs : List Tb} {z m : List Addr} {H : Hp} {a : Addr} {n : Nat} {xs : List PV} (hn : m[n]? = some a) :
    JOk K cs z m H (xs.mapIdx fun i x => mkT [.d (.int (i : Nat)), x]) none (Ite K a) → True := fun _ => trivial
/-- enumerate(a list that never changes) -/
def iEnumL (g : ME (List PV)) : ME (List PV × Option Nat) := fun e h => (g e h).bind fun vs h1 => match vs with
  | [.d (.list ds)] => .ok ((ds.map PV.d).mapIdx fun i x => mkT [.d (.int (i : Nat)), x], none) h1
  | [.ls xs] => .ok (xs.mapIdx fun i x => mkT [.d (.int (i : Nat)), x], none) h1
  | _ => .bad
theorem i_enum {X : Cx} {cs : List Tb} {W : WX} {e : Expr} {g : ME (List PV)} {p pos tpos : Pos} {elts : List Expr} {kk : Nat} (hg : Gl X "enumerate") (hm : X.mg "enumerate" = none) (ha : SA X cs W [e] g) (hs : starEach [e] X.env = [(false, eval e X.env)] := by rfl) :
    SI X cs W (.Tuple elts kk tpos) (.Call (.Name "enumerate" p) [e] [] pos) (iEnumL g) :=
  pi_imp (pi_enum hg hm ha hs) fun σ H R ⟨m, z, e, h, hs, hh, p⟩ => tA_then hs hh p fun vs h1 m1 H1 us hs1 hh1 r1 n1 p1 => by
    split at p1
    · obtain ⟨u, rfl, r2⟩ := rep1 r1
      cases r2 with
      | d hd c =>
        cases hd with
        | lst hq ha =>
          exact ⟨_, _, rfl, .inl (.inl (fz_some hq).2.2), p1.here hh1 _ (jok_enum hq (RepAll.of_dp ha (by simpa [PyData.canLay0] using c)))⟩
    · obtain ⟨u, rfl, r2⟩ := rep1 r1
      cases r2 with
      | ls hq t => exact ⟨_, _, rfl, .inl (.inl (fz_some hq).2.2), p1.here hh1 _ (jok_enum hq t)⟩
    · exact p1.elim
/-- zip of two lists, of two tuples, that never change -/
def asF : PV → Option (List PV)
  | .d (.list ds) => some (ds.map .d)
  | .ls xs => some xs
  | _ => none
theorem asF_rep {K : PySem.W.Frag} {m z : List Addr} {H : Hp} {v : PV} {u : V} {xs : List PV} (r : Rep K m z H v u) (e : asF v = some xs) : ∃ a vs, u = .ref a ∧ fz m z H a = some (.lst vs) ∧ RepAll K m z H xs vs := by
  cases r with
  | d hd c =>
    cases hd with
    | lst hq ha =>
      obtain rfl : _ = xs := Option.some.inj e
      exact ⟨_, _, rfl, hq, RepAll.of_dp ha (by simpa [PyData.canLay0] using c)⟩
    | _ => simp [asF] at e
  | r hn => simp [asF] at e
  | ls hq ha =>
    obtain rfl : _ = xs := Option.some.inj e
    exact ⟨_, _, rfl, hq, ha⟩
  | tp hq ha => simp [asF] at e
  | sc hq => simp [asF] at e
def zipP (xs ys : List PV) : List PV := (xs.zip ys).map fun p => mkT [p.1, p.2]
def iZipM (g : ME (List PV)) : ME (List PV × Option Nat) := fun e h => (g e h).bind fun vs h1 => match vs with
  | [v, w] => match asF v, asF w with
    | some xs, some ys => .ok (zipP xs ys, none) h1
    | _, _ => match asT v, asT w with
      | some xs, some ys => .ok (zipP xs ys, none) h1
      | _, _ => .bad
  | _ => .bad
theorem zipP_get {xs ys : List PV} {i : Nat} {x : PV} (e : (zipP xs ys)[i]? = some x) : ∃ a b, xs[i]? = some a ∧ ys[i]? = some b ∧ x = mkT [a, b] := by
  unfold zipP at e
  rw [List.getElem?_map] at e
  obtain ⟨p, h1, h2⟩ := Option.map_eq_some_iff.mp e
  obtain ⟨h3, h4⟩ := List.getElem?_zip_eq_some.mp h1
  exact ⟨p.1, p.2, h3, h4, h2.symm⟩
theorem jok_zip {K : PySem.W.Frag} {cs : List Tb} {z m : List Addr} {H : Hp} {a b : Addr} {xs ys : List PV} {vs ws : List V} (hq : fz m z H a = some (.lst vs)) (t : RepAll K m z H xs vs) (hq2 : fz m z H b = some (.lst ws)) (t2 : RepAll K m z H ys ws) :
    JOk K cs z m H (zipP xs ys) none (Itz K a b) := fun z' m' h' H' f n hh _ => by
  have hv := n.vwz f
  have h2 : SqL K H' a vs := .inl (.inl (fz_some (hv _ _ hq noTb_lst)).2.2)
  have h3 : SqL K H' b ws := .inl (.inl (fz_some (hv _ _ hq2 noTb_lst)).2.2)
  have t' := Rep.vwAll hv (fun _ _ q => n.get q) t
  have t2' := Rep.vwAll hv (fun _ _ q => n.get q) t2
  refine ⟨fun i x hx => ?_, vs, ws, h2, h3, by rw [← t.length, ← t2.length]; unfold zipP; rw [List.length_map, List.length_zip]; omega⟩
  obtain ⟨c, d, ec, ed, ex⟩ := zipP_get hx
  subst ex
  obtain ⟨u, e1, r1⟩ := t'.get ec
  obtain ⟨v, e2, r2⟩ := t2'.get ed
  refine ⟨⟨vs, ws, u, v, h2, h3, e1, e2⟩, fun w H'' ⟨T, u', v', e, hn, eH, hw1, hw2⟩ => ?_⟩
  subst e eH
  have e3 := hw1 vs h2
  have e4 := hw2 ws h3
  rw [e1] at e3
  rw [e2] at e4
  obtain rfl := Option.some.inj e3
  obtain rfl := Option.some.inj e4
  exact ⟨Nx.new hn, hh.new hn, rep_pair hh r1 r2 hn⟩
theorem jok_zipT {K : PySem.W.Frag} {cs : List Tb} {z m : List Addr} {H : Hp} {a b : Addr} {xs ys : List PV} {vs ws : List V} (hq : SqT K (fz m z H) a vs) (t : RepAll K m z H xs vs) (hq2 : SqT K (fz m z H) b ws) (t2 : RepAll K m z H ys ws) :
    JOk K cs z m H (zipP xs ys) none (RZ.ItzT K a b) := fun z' m' h' H' f n hh _ => by
  have hv := n.vwz f
  have h2 : SqT K H' a vs := SqT.top (SqT.vw hq hv)
  have h3 : SqT K H' b ws := SqT.top (SqT.vw hq2 hv)
  have t' := Rep.vwAll hv (fun _ _ q => n.get q) t
  have t2' := Rep.vwAll hv (fun _ _ q => n.get q) t2
  refine ⟨fun i x hx => ?_, vs, ws, h2, h3, by rw [← t.length, ← t2.length]; unfold zipP; rw [List.length_map, List.length_zip]; omega⟩
  obtain ⟨c, d, ec, ed, ex⟩ := zipP_get hx
  subst ex
  obtain ⟨u, e1, r1⟩ := t'.get ec
  obtain ⟨v, e2, r2⟩ := t2'.get ed
  refine ⟨⟨vs, ws, u, v, h2, h3, e1, e2⟩, fun w H'' ⟨T, u', v', e, hn, eH, hw1, hw2⟩ => ?_⟩
  subst e eH
  have e3 := hw1 vs h2
  have e4 := hw2 ws h3
  rw [e1] at e3
  rw [e2] at e4
  obtain rfl := Option.some.inj e3
  obtain rfl := Option.some.inj e4
  exact ⟨Nx.new hn, hh.new hn, rep_pair hh r1 r2 hn⟩
theorem i_zip {X : Cx} {cs : List Tb} {W : WX} {e e2 : Expr} {g : ME (List PV)} {p pos tpos : Pos} {elts : List Expr} {kk : Nat} (hg : Gl X "zip") (hm : X.mg "zip" = none) (ha : SA X cs W [e, e2] g)
    (hs : starEach [e, e2] X.env = (false, eval e X.env) :: starEach [e2] X.env := by rfl) (hpl : (backTo pos (starEach [e2] X.env)).any (·.1) = false := by rfl) :
    SI X cs W (.Tuple elts kk tpos) (.Call (.Name "zip" p) [e, e2] [] pos) (iZipM g) :=
  pi_imp (RZ.pi_zipA hg hm ha hs hpl) fun σ H R ⟨m, z, e, h, hs, hh, p⟩ => tA_then hs hh p fun vs h1 m1 H1 us hs1 hh1 r1 n1 p1 => by
    split at p1
    · obtain ⟨u, w, rfl, r2, r3⟩ := rep2 r1
      split at p1
      · rename_i xs ys ex ey
        obtain ⟨a, vs, rfl, q1, t1⟩ := asF_rep r2 ex
        obtain ⟨b, ws, rfl, q2, t2⟩ := asF_rep r3 ey
        exact ⟨a, b, vs, ws, rfl, .inl ⟨.inl (.inl (fz_some q1).2.2), .inl (.inl (fz_some q2).2.2), p1.here hh1 _ (jok_zip q1 t1 q2 t2)⟩⟩
      · split at p1
        · rename_i xs ys ex ey
          obtain ⟨a, vs, rfl, q1, t1⟩ := asT_rep r2 ex
          obtain ⟨b, ws, rfl, q2, t2⟩ := asT_rep r3 ey
          exact ⟨a, b, vs, ws, rfl, .inr ⟨SqT.top q1, SqT.top q2, p1.here hh1 _ (jok_zipT q1 t1 q2 t2)⟩⟩
        · exact p1.elim
    · exact p1.elim
end Mi

set_option Elab.async false
set_option linter.all false
set_option maxRecDepth 100000
set_option maxHeartbeats 4000000
namespace Mi
open PySem PySem.Spec PyProof.Rows L2 GenW

/-! ## generator expressions -/
theorem over_gen {A : Around} {elt : Expr} {gs : List Comprehension} {scope : Scope} {pos : Pos} {it acc : Value} {env : Env} : A.over (.compLoop (.GeneratorExp elt gs scope pos) 0 it acc env) [] = A.deeper env := by
  first
    | rfl
    | (obtain ⟨hd, d, fr, gs, u⟩ := A; simp [Around.over, Around.deeper, marksOver, frameCount, unitsOf, envsOf, guardsOf, pushEnvs, pushGuards, Code.envs, Code.env?, Code.isFrame, Code.guards, Code.isGuard, Code.weight, Code.frames, Code.isCreation, Code.isCaller, Code.cUnits])
theorem over_gen0 {A : Around} {elt : Expr} {gs : List Comprehension} {scope : Scope} {pos : Pos} {it acc : Value} {env : Env} : A.over (.compStart (.GeneratorExp elt gs scope pos) 0 it acc env) [] = A.deeper env := by
  first
    | rfl
    | (obtain ⟨hd, d, fr, gs, u⟩ := A; simp [Around.over, Around.deeper, marksOver, frameCount, unitsOf, envsOf, guardsOf, pushEnvs, pushGuards, Code.envs, Code.env?, Code.isFrame, Code.guards, Code.isGuard, Code.weight, Code.frames, Code.isCreation, Code.isCaller, Code.cUnits])
/-- the generator's own context -/
abbrev gCx (X : Cx) (s : Shared) (H : Hp) (cenv : Env) (fp : List Addr) (A : Around) : Cx :=
  { X with A := A, s_0 := s, H_0 := H, env := cenv, outer := X.stack, stack := cenv :: X.stack, ex := fp, fn := fun _ => false, pn := [], calm := true, xe := fun _ _ => False }
/-- what comes out, the cells as they stand then; the cells at the end -/
def gTr (g : MG) (t : ME Bool) (fe : ME PV) (src : Option Nat) (all : List PV) (e : Sl) : List PV → Cells → Option (List (PV × Cells) × Cells)
  | [], h => if gd src all h then some ([], h) else none
  | x :: r, h => if gd src all h then (match g x e h with
      | some (e1, h1) => match t e1 h1 with
        | .ok true h2 => match fe e1 h2 with
          | .ok y h3 => (gTr g t fe src all e r h3).map fun p => ((y, h3) :: p.1, p.2)
          | _ => none
        | .ok false h2 => gTr g t fe src all e r h2
        | _ => none
      | none => none) else none
structure GP where
  X : Cx
  cs : List Tb
  z : List Addr
  s4 : Shared
  H4 : Hp
  m4 : List Addr
  cenv : Env
  fp : List Addr
  it : Addr
  J : It
  tn : Nat → Heap → Prop
  g : MG
  t : ME Bool
  fe : ME PV
  e : Sl
  σ : L2.St
  src : Option Nat
  all : List PV
  T : List (PV × Cells)
  hf : Cells
  a : Addr
  ps : List Addr
  C : List V → Heap → Prop
  B : Around
abbrev GP.cx (G : GP) : Cx := gCx G.X G.s4 G.H4 G.cenv G.fp (G.B.deeper G.cenv)
/-- objects kept -/
def Kp (ps : List Addr) (s s' : Shared) : Prop := ∀ b ∈ ps, ∀ o, s.heap.get? b = some o → s'.heap.get? b = some o
theorem Kp.refl (ps : List Addr) (s : Shared) : Kp ps s s := fun _ _ _ h => h
theorem Kp.trans {ps : List Addr} {s s1 s2 : Shared} (a : Kp ps s s1) (b : Kp ps s1 s2) : Kp ps s s2 := fun c hc o h => b c hc o (a c hc o h)
/-- what the consumer may do while the generator sleeps -/
structure Mv (ps : List Addr) (s s' : Shared) : Prop where
  os : s'.os = s.os
  bare : AllBare s'.gens
  keep : ∀ b o, b ∉ ps → s.heap.get? b = some o → s'.heap.get? b = some o
  there : ∀ b ∈ ps, ∃ o, s'.heap.get? b = some o ∧ ∀ v, o.data ≠ .cell v
def Pk (G : GP) (H : Hp) (s : Shared) : Prop := ∀ b ∈ G.a :: G.ps, FpOk G.cx [] H b ∧ ∃ o, s.heap.get? b = some o ∧ ∀ v, o.data ≠ .cell v
structure GP.Ok (G : GP) (j i : Nat) (h : Cells) (m : List Addr) (H : Hp) (vs : List V) (s : Shared) : Prop where
  inv : Inv G.cx [] G.σ H s
  hr : HRel G.X.K G.cs m G.z h H
  nx : Nx G.m4 G.z G.H4 m H
  sr : SRel G.X.K m G.z H G.e G.σ
  st : G.tn i s.heap
  fz : ∀ b ∈ G.fp, H b = none
  pk : Pk G H s
  ile : i ≤ G.all.length
  tr : gTr G.g G.t G.fe G.src G.all G.e (G.all.drop i) h = some (G.T.drop j, G.hf)
  jle : j ≤ G.T.length
  rv : RepAll G.X.K m G.z H ((G.T.take j).map (·.1)) vs
  cv : G.C vs s.heap
structure GP.Fix (G : GP) (tg elt : Expr) (ifs : List Expr) (own : List Nat) : Prop where
  hd : G.B.handled = none
  tu : Turn G.X.prog G.X.w G.X.K tg G.J G.fp G.it G.tn
  jok : JOk G.X.K G.cs G.z G.m4 G.H4 G.all G.src G.J
  apart : ∀ b ∈ G.a :: G.ps, b ∉ G.fp
  ap : G.a ∉ G.ps
  cst : ∀ vs h h', (∀ b ∈ G.ps, ∀ o, h.get? b = some o → h'.get? b = some o) → G.C vs h → G.C vs h'
  hg : SG G.cx G.cs own tg G.g
  ht : STs G.cx G.cs W0 ifs G.t
  he : SE G.cx G.cs W0 elt G.fe
  hσ : wipe G.σ own = G.σ
  co : G.cenv.scope.isCoroutine = false
def GP.Y (G : GP) : Protocol := fun n s₀ v s kap => ∃ m H vs y h u, G.T[G.T.length - n]? = some (y, h) ∧ Inv G.cx [] G.σ H s ∧ HRel G.X.K G.cs m G.z h H ∧ Nx G.m4 G.z G.H4 m H ∧
  RepAll G.X.K m G.z H ((G.T.take (G.T.length - n)).map (·.1)) vs ∧ Rep G.X.K m G.z H y u ∧ RelV u v ∧ G.C vs s.heap ∧ Kp (G.a :: G.ps) s₀ s ∧ Pk G H s ∧
  ∀ s', Mv G.ps s s' → G.C (vs ++ [u]) s'.heap → kap (.send .none) s'
def GP.RP (G : GP) (n : Nat) (s₀ s₁ : Shared) : Prop := n = 1 ∧ ∃ m H vs, Inv G.cx [] G.σ H s₁ ∧ HRel G.X.K G.cs m G.z G.hf H ∧ Nx G.m4 G.z G.H4 m H ∧ RepAll G.X.K m G.z H (G.T.map (·.1)) vs ∧ G.C vs s₁.heap ∧ Kp (G.a :: G.ps) s₀ s₁ ∧ Pk G H s₁
def GP.R (G : GP) : GenEnd := fun n s₀ r s₁ => r = .ok .next ∧ G.RP n s₀ s₁
/-- the consumer has moved -/
theorem inv_mv {Y : Cx} {σ : L2.St} {H : Hp} {s s' : Shared} {ps : List Addr} (I : Inv Y [] σ H s) (hf : ∀ b ∈ ps, FpOk Y [] H b) (v : Mv ps s s') : Inv Y [] σ H s' := by
  obtain ⟨z1, z2, z3, z4⟩ := v
  obtain ⟨hh, g, d, t, o⟩ := s'
  have ho : o = s.os := z1
  subst ho
  have nt : ∀ b u, H b = some u → b ∉ ps := fun b u q hb => by rw [(hf b hb).1] at q; cases q
  refine I.step (g' := g) (t' := t) (d' := d) (ch := ps) (fun b hb => ⟨(hf b hb).2.2.2.1, (hf b hb).2.1, (hf b hb).2.2.2.2.1, (hf b hb).2.2.2.2.2⟩)
    (fun b ob _ _ hc q _ => z3 b ob hc q) (fun b ob _ _ hc q _ => ⟨ob.slots, z3 b ob hc q⟩) (fun _ _ _ _ n => n) (fun b ob hc q => ⟨ob, z3 b ob hc q⟩)
    (fun _ _ q => q) (fun _ _ _ q => q) (fun b ps q => ⟨#[], by rw [q]; simp⟩) (fun m hm => ?_) (fun b u q => ?_) z2
  · obtain ⟨ob, es, ep, ho, r⟩ := hm
    exact ⟨ob, es, ep, z3 _ ob (fun q => (hf _ q).2.1 rfl) ho, r⟩
  · refine (I.hok b u q).stay (fun c v hc y => z3 c v ?_ y) (fun _ y => y) fun _ _ y => y
    rcases hc with y | y
    · rw [y]; exact nt b u q
    · exact nt c _ y
theorem seg_loop (G : GP) {tg elt iter : Expr} {ifs : List Expr} {own : List Nat} {scope : Scope} {pos : Pos} (F : G.Fix tg elt ifs own) : ∀ (k i j : Nat) (h : Cells) (m : List Addr) (H : Hp) (vs : List V) (s₀ s : Shared), G.all.length - i = k → G.Ok j i h m H vs s → Kp (G.a :: G.ps) s₀ s →
    Seg (model G.X.prog G.X.w) G.B G.R G.Y (G.T.length - j + 1) s₀ (.compLoop (.GeneratorExp elt [⟨tg, iter, ifs, 0⟩] scope pos) 0 (.ref G.it) .none G.cenv)
      ((model G.X.prog G.X.w).den (.compLoop (.GeneratorExp elt [⟨tg, iter, ifs, 0⟩] scope pos) 0 (.ref G.it) .none G.cenv)) [] s := by
  intro k
  induction k with
  | zero =>
    intro i j h m H vs s₀ s hk ok hkp
    have hin : i = G.all.length := by have := ok.ile; omega
    subst hin
    have tr := ok.tr
    rw [List.drop_length] at tr
    unfold gTr at tr
    split at tr
    · rename_i hgd
      have tr' := Option.some.inj tr
      have e1 : [] = G.T.drop j := congrArg Prod.fst tr'
      have e2 : h = G.hf := congrArg Prod.snd tr'
      have ej : j = G.T.length := by
        have := congrArg List.length e1
        rw [List.length_drop] at this
        have := ok.jle
        simp at *
        omega
      obtain ⟨_, hstop⟩ := F.jok G.z m h H (FrZ.refl _ _) ok.nx ok.hr hgd
      have Iq := ok.inv.pinned (fp := G.a :: G.ps) (fun b hb => (ok.pk b hb).1) (fun b hb => (ok.pk b hb).2)
      have stat : ∀ b ∈ G.fp, FpOk G.cx ([] ++ pinsAt (G.a :: G.ps) s.heap) H b := fun b hb =>
        ⟨ok.fz b hb, (ok.inv.ok.exf b hb).1, ok.inv.ok.exfs b hb, .inl hb, fun x c e => (ok.inv.ok.exf b hb).2 x c e, fun p hp => fun e => by
          have hp' : p ∈ pinsAt (G.a :: G.ps) s.heap := hp
          exact F.apart p.1 (of_pinsAt hp').1 (e ▸ hb)⟩
      show Seg _ G.B _ _ _ s₀ _ ((compTurn (.GeneratorExp elt [⟨tg, iter, ifs, 0⟩] scope pos) 0 (.ref G.it) .none G.cenv).onRaise (leaving G.cenv)) [] s
      rw [compTurn_gen, Sem.onRaise_eq_wrap]
      refine seg_bind_wrap (wpAny_standAt ?_)
      have td := F.tu.done G.cx rfl rfl rfl rfl _ _ s G.σ H (fun _ _ => False) Iq stat ok.st hstop
      refine seg_bind_wrap ?_
      rw [over_gen]
      refine thnF td fun r s6 ⟨hr, I6⟩ => ?_
      subst hr
      have kp6 : Kp (G.a :: G.ps) s s6 := fun b hb o e => (I6.pin (b, o) (List.mem_append_right _ (mem_pinsAt hb e))).1
      refine seg_end (.ok .next) ⟨rfl, by omega, m, H, vs, I6.unpinned, e2 ▸ ok.hr, ok.nx, ?_, F.cst _ _ _ (fun b hb o e => kp6 b (List.mem_cons_of_mem _ hb) o e) ok.cv, hkp.trans kp6, fun b hb => ⟨(ok.pk b hb).1, ?_⟩⟩
      · have := ok.rv
        rw [ej, List.take_length] at this
        exact this
      · obtain ⟨o, ho, hc⟩ := (ok.pk b hb).2
        exact ⟨o, kp6 b hb o ho, hc⟩
    · cases tr
  | succ k ih =>
    intro i j h m H vs s₀ s hk ok hkp
    have hlt : i < G.all.length := by omega
    have ex : G.all[i]? = some G.all[i] := List.getElem?_eq_getElem hlt
    have tr := ok.tr
    rw [List.drop_eq_getElem_cons hlt] at tr
    unfold gTr at tr
    split at tr
    · rename_i hgd
      obtain ⟨hgo, _⟩ := F.jok G.z m h H (FrZ.refl _ _) ok.nx ok.hr hgd
      obtain ⟨go, yl⟩ := hgo i _ ex
      have Iq := ok.inv.pinned (fp := G.a :: G.ps) (fun b hb => (ok.pk b hb).1) (fun b hb => (ok.pk b hb).2)
      have stat : ∀ {H' : Hp}, (∀ b ∈ G.fp, H' b = none) → ∀ b ∈ G.fp, FpOk G.cx ([] ++ pinsAt (G.a :: G.ps) s.heap) H' b := fun hn b hb =>
        ⟨hn b hb, (ok.inv.ok.exf b hb).1, ok.inv.ok.exfs b hb, .inl hb, fun x c e => (ok.inv.ok.exf b hb).2 x c e, fun p hp => fun e => by
          have hp' : p ∈ pinsAt (G.a :: G.ps) s.heap := hp
          exact F.apart p.1 (of_pinsAt hp').1 (e ▸ hb)⟩
      show Seg _ G.B _ _ _ s₀ _ ((compTurn (.GeneratorExp elt [⟨tg, iter, ifs, 0⟩] scope pos) 0 (.ref G.it) .none G.cenv).onRaise (leaving G.cenv)) [] s
      rw [compTurn_gen, Sem.onRaise_eq_wrap]
      refine seg_bind_wrap (wpAny_standAt ?_)
      have ti := F.tu.item G.cx rfl rfl rfl rfl i _ s G.σ H (fun _ _ => False) Iq (stat ok.fz) ok.st go
      refine seg_bind_wrap ?_
      rw [over_gen]
      refine thnF ti fun r s6 ⟨u, hr, h6⟩ => ?_
      subst hr
      refine seg_bind_wrap ?_
      rw [over_gen]
      refine thnF h6 fun _ s7 ⟨x, H7, I7, r7, y7, st7, n7⟩ => ?_
      have I7' := I7.pinned (stat n7) (F.tu.obj _ _ st7)
      obtain ⟨nx7, hr7, rep7⟩ := yl x H7 y7
      cases qg : G.g G.all[i] G.e h with
      | none => rw [qg] at tr; cases tr
      | some q' =>
        obtain ⟨e4, h4⟩ := q'
        rw [qg] at tr
        simp only at tr
        refine seg_bind_wrap ?_
        rw [over_gen]
        refine thnF (F.hg.run _ s7 G.σ H7 x u (fun σ' H' => ∃ m', Nx m G.z H7 m' H' ∧ HRel G.X.K G.cs m' G.z h4 H' ∧ SRel G.X.K m' G.z H' e4 σ' ∧ wipe σ' own = wipe G.σ own) I7' r7 ?_) fun _ s8 ⟨σ8, H8, I8, m8, nx8, hr8, sr8, hw8⟩ => ?_
        · refine ⟨m, G.z, G.e, h, G.all[i], ok.sr.nx nx7, hr7, rep7, ?_⟩
          rw [qg]
          exact fun m' σ' H' n' hh' hs' hw' => ⟨m', n', hh', hs', hw'⟩
        have nx08 := nx7.trans nx8
        cases qt : G.t e4 h4 with
        | bad => rw [qt] at tr; cases tr
        | ex c h5 => rw [qt] at tr; cases tr
        | ok b h5 =>
          rw [qt] at tr
          refine seg_bind_wrap ?_
          rw [over_gen]
          refine thnF (F.ht.run _ s8 σ8 H8 (fun b' H' => b' = b ∧ ∃ m', Nx m8 G.z H8 m' H' ∧ HRel G.X.K G.cs m' G.z h5 H') I8 ?_) fun b' s9 ⟨H9, I9, eb, m9, nx9, hr9⟩ => ?_
          · refine ⟨m8, G.z, e4, h4, sr8, hr8, ?_⟩
            rw [qt]
            exact fun m' H' n' hh' => ⟨rfl, m', n', hh'⟩
          subst eb
          have nx09 := nx08.trans nx9
          -- the turn's end
          have fin : ∀ {s' : Shared} {H' : Hp} {σ' : L2.St}, Inv G.cx (([] ++ pinsAt (G.a :: G.ps) s.heap) ++ pinsAt G.fp s7.heap) σ8 H' s' →
              Inv G.cx [] G.σ H' s' ∧ G.tn (i + 1) s'.heap ∧ (∀ b ∈ G.fp, H' b = none) ∧ Pk G H' s' ∧ Kp (G.a :: G.ps) s s' ∧ G.C vs s'.heap := fun {s' H' σ'} I' => by
            have pin' : ∀ b ∈ G.fp, ∀ o, s7.heap.get? b = some o → s'.heap.get? b = some o ∧ H' b = none := fun b hb o e =>
              let z := I'.pin (b, o) (List.mem_append_right _ (List.mem_append_right _ (mem_pinsAt hb e)))
              ⟨z.1, z.2.1⟩
            have pinA : ∀ b ∈ G.a :: G.ps, ∀ o, s.heap.get? b = some o → s'.heap.get? b = some o ∧ H' b = none := fun b hb o e =>
              let z := I'.pin (b, o) (List.mem_append_right _ (List.mem_append_left _ (mem_pinsAt hb e)))
              ⟨z.1, z.2.1⟩
            have hl : G.σ.length = σ8.length := by
              have e1 : (wipe σ8 own).length = (wipe G.σ own).length := by rw [hw8]
              rw [wipe_length, wipe_length] at e1
              exact e1.symm
            have kp : Kp (G.a :: G.ps) s s' := fun b hb o e => (pinA b hb o e).1
            refine ⟨(I'.unpinned (pins := [] ++ pinsAt (G.a :: G.ps) s.heap)).unpinned.weak hl (fun jj v e => ?_), F.tu.keep _ _ _ st7 fun b hb o e => (pin' b hb o e).1, fun b hb => ?_, fun b hb => ?_, kp, F.cst _ _ _ (fun b hb o e => kp b (List.mem_cons_of_mem _ hb) o e) ok.cv⟩
            · rw [← F.hσ, ← hw8] at e
              exact (wipe_some e).1
            · obtain ⟨o, e, _⟩ := F.tu.obj _ _ st7 b hb
              exact (pin' b hb o e).2
            · obtain ⟨o, e, hc⟩ := (ok.pk b hb).2
              exact ⟨⟨(pinA b hb o e).2, (ok.pk b hb).1.2⟩, o, (pinA b hb o e).1, hc⟩
          cases b' with
          | false =>
            simp only [Bool.false_eq_true, if_false] at tr ⊢
            obtain ⟨f1, f2, f3, f4, f5, f6⟩ := fin (σ' := σ8) I9
            refine seg_again rfl (ih (i + 1) j h5 m9 H9 vs s₀ s9 (by omega) ⟨f1, hr9, ok.nx.trans nx09, ok.sr.nx nx09, f2, f3, f4, hlt, tr, ok.jle, ok.rv.nx nx09, f6⟩ (hkp.trans f5))
          | true =>
            simp only at tr
            cases qe : G.fe e4 h5 with
            | bad => rw [qe] at tr; cases tr
            | ex c h6 => rw [qe] at tr; cases tr
            | ok y h6 =>
              rw [qe] at tr
              simp only at tr
              cases qr : gTr G.g G.t G.fe G.src G.all G.e (G.all.drop (i + 1)) h6 with
              | none => rw [qr] at tr; cases tr
              | some pp =>
                obtain ⟨T', hf'⟩ := pp
                rw [qr] at tr
                have tr' := Option.some.inj tr
                have e1 : (y, h6) :: T' = G.T.drop j := congrArg Prod.fst tr'
                have e2 : hf' = G.hf := congrArg Prod.snd tr'
                subst e2
                have hj : j < G.T.length := by
                  have := congrArg List.length e1
                  rw [List.length_drop] at this
                  simp at this
                  omega
                have eT : G.T[j]? = some (y, h6) := by
                  have h1 : (G.T.drop j)[0]? = some (y, h6) := by rw [← e1]; rfl
                  rw [List.getElem?_drop] at h1
                  simpa using h1
                have eD : T' = G.T.drop (j + 1) := by
                  have h1 : (G.T.drop j).drop 1 = T' := by rw [← e1]; rfl
                  rw [List.drop_drop] at h1
                  exact h1.symm
                subst eD
                simp only [if_true]
                have hy : ∀ v, yieldOut G.cenv v = yieldValue v := fun v => by simp only [yieldOut, F.co, Bool.false_eq_true, if_false]
                simp only [hy]
                rw [Sem.bind_eq_wrap', Sem.bind_eq_wrap', Sem.wrap_wrap, Sem.wrap_wrap]
                refine seg_wrap ?_
                rw [over_gen]
                refine thnF (F.he.run _ s9 σ8 H9 (fun v H' => ∃ m', Nx m9 G.z H9 m' H' ∧ HRel G.X.K G.cs m' G.z h6 H' ∧ Rep G.X.K m' G.z H' y v) I9 ?_) fun v s10 ⟨u10, H10, I10, r10, m10, nx10, hr10, rp10⟩ => ?_
                · refine ⟨m9, G.z, e4, h5, sr8.nx nx9, hr9, ?_⟩
                  rw [qe]
                  exact fun m' H' n' hh' u ru => ⟨m', n', hh', ru⟩
                obtain ⟨f1, f2, f3, f4, f5, f6⟩ := fin (σ' := σ8) I10
                have nx10' := nx09.trans nx10
                have ej : G.T.length - (G.T.length - j) = j := by omega
                refine seg_at (seg_yield rfl rfl rfl ⟨m10, H10, vs, y, h6, u10, by rw [ej]; exact eT, f1, hr10, ok.nx.trans nx10', by rw [ej]; exact ok.rv.nx nx10', rp10, r10, f6, hkp.trans f5, f4, fun s'' hm hc => ?_⟩)
                have I11 := inv_mv f1 (fun b hb => (f4 b (List.mem_cons_of_mem _ hb)).1) hm
                have kfp : ∀ b ∈ G.fp, ∀ o, s10.heap.get? b = some o → s''.heap.get? b = some o := fun b hb o e => hm.keep b o (fun q => F.apart b (List.mem_cons_of_mem _ q) hb) e
                have hn2 : G.T.length - j = G.T.length - (j + 1) + 1 := by omega
                rw [hn2]
                refine seg_again rfl (ih (i + 1) (j + 1) h6 m10 H10 (vs ++ [u10]) s'' s'' (by omega) ⟨I11, hr10, ok.nx.trans nx10', ok.sr.nx nx10', F.tu.keep _ _ _ f2 kfp, f3, fun b hb => ⟨(f4 b hb).1, ?_⟩, hlt, qr, hj, ?_, hc⟩ (Kp.refl _ _))
                · rcases List.mem_cons.mp hb with q | q
                  · obtain ⟨o, ho, hcc⟩ := (f4 b hb).2
                    exact ⟨o, hm.keep b o (q ▸ F.ap) ho, hcc⟩
                  · exact hm.there b q
                · rw [List.take_add_one, List.map_append, eT]
                  exact (ok.rv.nx nx10').append (.cons rp10 .nil)
    · cases tr

theorem seg_start (G : GP) {tg elt iter : Expr} {ifs : List Expr} {own : List Nat} {scope : Scope} {pos : Pos} (F : G.Fix tg elt ifs own) {h : Cells} {m : List Addr} {H : Hp} {vs : List V} {s₀ s : Shared} (ok : G.Ok 0 0 h m H vs s) (hkp : Kp (G.a :: G.ps) s₀ s) :
    Seg (model G.X.prog G.X.w) G.B G.R G.Y (G.T.length + 1) s₀ (.compStart (.GeneratorExp elt [⟨tg, iter, ifs, 0⟩] scope pos) 0 (.ref G.it) .none G.cenv)
      ((model G.X.prog G.X.w).den (.compStart (.GeneratorExp elt [⟨tg, iter, ifs, 0⟩] scope pos) 0 (.ref G.it) .none G.cenv)) [] s := by
  have loop := seg_loop G (iter := iter) (scope := scope) (pos := pos) F G.all.length 0 0 h m H vs s₀ s rfl ok hkp
  rw [Nat.sub_zero] at loop
  show Seg _ G.B _ _ _ s₀ _ ((compStart (.GeneratorExp elt [⟨tg, iter, ifs, 0⟩] scope pos) 0 (.ref G.it) .none G.cenv).onRaise (leaving G.cenv)) [] s
  unfold compStart
  rw [Sem.onRaise_eq_wrap]
  show Seg _ G.B _ _ _ s₀ _ ((ask >>= _).wrap _ _ _ _) [] s
  refine seg_bind_wrap (wpAny_askSetting ?_)
  split
  · exact seg_again rfl loop
  · first
      | exact seg_bind_wrap (wpAny_rule (seg_bind_wrap (wpAny_standAt (seg_bind_wrap (F.tu.self _ 0 s _ _ ok.st (seg_again rfl loop))))))
      | (refine seg_bind_wrap (wpAny_rule ?_); show Seg _ G.B _ _ _ s₀ _ ((standAt iter.pos >>= _).wrap _ _ _ _) [] s; exact seg_bind_wrap (wpAny_standAt (seg_bind_wrap (F.tu.self _ 0 s _ _ ok.st (seg_again rfl loop)))))
/-! ### the generator woken -/
def GSt (G : GP) (gn n : Nat) (s : Shared) : Prop := s.heap.IsGen G.a gn ∧ s.heap.NoLimit ∧ AllBare s.gens ∧ ∃ gs, s.gens[gn]? = some gs ∧ gs.Goes (model G.X.prog G.X.w) G.B G.R G.Y (n + 1) (.send .none) (s.setGen gn .running)
/-- what is known where the j-th thing has come out -/
structure GP.At (G : GP) (j : Nat) (h : Cells) (m : List Addr) (H : Hp) (vs : List V) (s : Shared) : Prop where
  inv : Inv G.cx [] G.σ H s
  hr : HRel G.X.K G.cs m G.z h H
  nx : Nx G.m4 G.z G.H4 m H
  rv : RepAll G.X.K m G.z H ((G.T.take j).map (·.1)) vs
  cv : G.C vs s.heap
  pk : Pk G H s
theorem inv_gens {Y : Cx} {σ : L2.St} {H : Hp} {s s' : Shared} (I : Inv Y [] σ H s) (hh : s'.heap = s.heap) (ho : s'.os = s.os) (hb : AllBare s'.gens) : Inv Y [] σ H s' :=
  inv_mv (ps := []) I (fun b hb => absurd hb (by simp)) ⟨ho, hb, fun b o _ e => by rw [hh]; exact e, fun b hb => absurd hb (by simp)⟩
theorem kp_at {ps : List Addr} {s s' : Shared} (h : Kp ps s s') {b : Addr} (hb : b ∈ ps) {o : Obj} (e : s.heap.get? b = some o) : s'.heap.get? b = some o := h b hb o e
section
variable {G : GP} {A : Around} {s : Shared} {gn : Nat}
theorem isGen_keep {h h' : Heap} {a : Addr} {g : Nat} (x : h.IsGen a g) (k : ∀ o, h.get? a = some o → h'.get? a = some o) : h'.IsGen a g := let ⟨o, nm, qn, ho, r⟩ := x; ⟨o, nm, qn, k o ho, r⟩
theorem gst_item {n : Nat} {Q : Option Value → Shared → Prop} {E : Value → Shared → Prop} (hh : A.handled = none) (hroom : A.depth < recursionLimit) (hB : A.in1 = G.B) (hn : 0 < n) (hle : n ≤ G.T.length) (st : GSt G gn n s)
    (hQ : ∀ v s' h m H vs y u, G.T[G.T.length - n]? = some (y, h) → G.At (G.T.length - n) h m H vs s' → Rep G.X.K m G.z H y u → RelV u v → Kp (G.a :: G.ps) s s' →
      (∀ s'', Mv G.ps s' s'' → G.a ∉ G.ps → cStatics ∉ G.ps → s''.gens = s'.gens → G.C (vs ++ [u]) s''.heap → GSt G gn (n - 1) s'') → Q (some v) s') : wpAny (model G.X.prog G.X.w) A (pyNext (.ref G.a)) Q E s := by
  obtain ⟨hg, hl, hb, gs, hgs, hgo⟩ := st
  have hgl : gn < s.gens.size := (Array.getElem?_eq_some_iff.mp hgs).1
  rw [← hB] at hgo
  refine wpAny_gsz (n := gn + 1) hgl (wpAny_pyNext_genexpQ (P := G.RP)
    hh hl hroom hg hgs hgo (fun v s₁ gs' hbare hv => ?_) fun s₁ hp h' hk => ?_)
  · intro hsz
    obtain ⟨m, H, vs, y, h, u, eT, I1, hr1, nx1, rv1, rp1, rl1, cv1, kp1, pk1, wk⟩ := hv
    have e1 : G.T.length - (n + 1 - 1) = G.T.length - n := by omega
    rw [e1] at eT rv1
    have hsz1 : gn < s₁.gens.size := by
      have q : (s₁.setGen gn gs').gens.size = s₁.gens.size := setGen_size _ _ _
      have hsz' : gn + 1 ≤ (s₁.setGen gn gs').gens.size := hsz
      omega
    have hb1 : AllBare (s₁.setGen gn gs').gens := allBare_setGen I1.bare hbare
    refine hQ v _ h m H vs y u eT ⟨inv_gens I1 rfl rfl hb1, hr1, nx1, rv1, cv1, pk1⟩ rp1 rl1 kp1 fun s'' mv na nc eg hc => ⟨?_, ?_, mv.bare, gs', ?_, ?_⟩
    · exact isGen_keep hg fun o ho => mv.keep _ o na (kp1 G.a List.mem_cons_self o ho)
    · exact (inv_mv I1 (fun b hb => (pk1 b (List.mem_cons_of_mem _ hb)).1) ⟨mv.os, mv.bare, mv.keep, mv.there⟩).nolimit
    · rw [eg]; exact setGen_at hsz1
    · have := wk (s''.setGen gn .running) ⟨mv.os, allBare_setGen mv.bare rfl, mv.keep, mv.there⟩ hc
      rw [hB] at this
      have e2 : n + 1 - 1 = n := by omega
      have e3 : n - 1 + 1 = n := by omega
      rw [e3]
      exact this
  · intro _
    have := hp.1
    omega
theorem gst_end {Q : Option Value → Shared → Prop} {E : Value → Shared → Prop} (cst : ∀ vs h h', (∀ b ∈ G.ps, ∀ o, h.get? b = some o → h'.get? b = some o) → G.C vs h → G.C vs h') (hh : A.handled = none) (hroom : A.depth < recursionLimit) (hB : A.in1 = G.B) (st : GSt G gn 0 s)
    (hQ : ∀ s' m H vs, G.At G.T.length G.hf m H vs s' → Kp (G.a :: G.ps) s s' → Q none s') : wpAny (model G.X.prog G.X.w) A (pyNext (.ref G.a)) Q E s := by
  obtain ⟨hg, hl, hb, gs, hgs, hgo⟩ := st
  rw [← hB] at hgo
  refine wpAny_pyNext_genexpQ (P := G.RP)
    hh hl hroom hg hgs hgo (fun v s₁ gs' hbare hv => ?_) fun s₁ hp h' hk => ?_
  · obtain ⟨m, H, vs, y, h, u, eT, _⟩ := hv
    have e : G.T.length - (0 + 1 - 1) = G.T.length := by omega
    rw [e, List.getElem?_eq_none (Nat.le_refl _)] at eT
    cases eT
  · obtain ⟨_, m, H, vs, I1, hr1, nx1, rv1, cv1, kp1, pk1⟩ := hp
    refine hQ _ m H vs ⟨inv_mv (ps := []) I1 (fun b hb => absurd hb (by simp)) ⟨rfl, allBare_setGen I1.bare rfl, fun b o _ e => hk b o e, fun b hb => absurd hb (by simp)⟩, hr1, nx1, by rw [List.take_length]; exact rv1, ?_, fun b hb => ⟨(pk1 b hb).1, ?_⟩⟩ fun b hb o e => hk b o (kp1 b hb o e)
    · exact cst _ _ _ (fun b _ o e => hk b o e) cv1
    · obtain ⟨o, ho, hc⟩ := (pk1 b hb).2
      exact ⟨o, hk b o ho, hc⟩
end
end Mi

set_option Elab.async false
set_option linter.all false
set_option maxRecDepth 100000
set_option maxHeartbeats 4000000
namespace Mi
open PySem PySem.Spec PyProof.Rows L2 GenW

/-! ## a generator made -/
theorem gen_inv {X : Cx} {pins : List (Addr × Obj)} {σ : L2.St} {H : Hp} {s : Shared} {scope : Scope} {own : List (Str × Nat)} {fp : List Addr} {code : Value} {B : Around} {mm : Str → Option Value} {h5 : Heap} {g5 : Array GenState} {t5 : Nat}
    (I : Inv X pins σ H s) (ok : BlkOk X.N X.env.scope scope own) (hcell : ∀ y ∈ scope.names, y.2 ≠ .cell) (hN : X.N.Nodup) (hfp : ∀ b ∈ fp, FpOk X pins H b ∧ b < s.heap.objs.size) (hB : B.handled = none) (hF : B.frames = some X.stack)
    (hns : h5.Ns s.heap.objs.size mm) (kp : ∀ b o, s.heap.get? b = some o → h5.get? b = some o) (hg : AllBare g5) :
    Inv (gCx X s H (genEnv scope (cloFrom X.env.cells scope.names []) s.heap.objs.size code builtinsNs X.env) fp (B.deeper (genEnv scope (cloFrom X.env.cells scope.names []) s.heap.objs.size code builtinsNs X.env))) [] (wipe σ (own.map (·.2))) H { s with heap := h5, gens := g5, toks := t5 } := by
  have hfree : ∀ y ∈ scope.names, y.2 = .free → ∃ c, X.env.cells.lookup y.1 = some c := fun y hy e => by
    rcases ok.free y hy e with k | k
    · exact I.ok.has _ (.inl k)
    · exact I.ok.has _ (.inr k)
  have cm : ∀ {y c}, (cloFrom X.env.cells scope.names []).lookup y = some c → X.env.cells.lookup y = some c := fun {y c} e => by
    rcases cloFrom_mem (PySem.mem_of_lookup e) with hm | ⟨h1, h2⟩
    · cases hm
    · obtain ⟨c1, hc⟩ := hfree _ h1 rfl
      have hc : X.env.cells.lookup y = some c1 := hc
      have e2 : c = c1 := by
        rw [h2, hc] <;> rfl
      rw [e2]
      exact hc
  have look : ∀ {y}, scope.names.lookup y = some .free → ∃ c, (cloFrom X.env.cells scope.names []).lookup y = some c := fun {y} hl => by
    have hy : (y, NameKind.free) ∈ scope.names := PySem.mem_of_lookup hl
    exact mem_lookup (cloFrom_has (cells := X.env.cells) (acc := []) hy)
  have clt : ∀ {y c}, X.env.cells.lookup y = some c → c < s.heap.objs.size := fun {y c} e => by
    obtain ⟨w, z⟩ := I.cell _ _ e
    exact z.lt
  generalize hcenv : genEnv scope (cloFrom X.env.cells scope.names []) s.heap.objs.size code builtinsNs X.env = cenv
  have hL : cenv.locals = s.heap.objs.size := by rw [← hcenv]; rfl
  have hcl : cenv.cells = cloFrom X.env.cells scope.names [] := by rw [← hcenv]; rfl
  have hsc : cenv.scope = scope := by rw [← hcenv]; rfl
  have hfr : cenv.frame = some cenv.locals := by rw [← hcenv]; rfl
  have okB : (gCx X s H cenv fp (B.deeper cenv)).Ok := by
    refine ⟨I.ok.mod, by show cenv.scope.kind = _; rw [hsc]; exact ok.kind, by show cenv.globals = _; rw [← hcenv]; exact I.ok.glob, by show cenv.builtins = _; rw [← hcenv]; rfl, by show s.heap.objs.size ≤ cenv.locals; rw [hL]; exact Nat.le_refl _,
      fun y z c e1 e2 => ?_, fun y hy => ?_, fun y c z e => (by cases z), fun _ => hB, Around.frames_deeper hF, .inr ⟨rfl, hfr⟩, fun b hb => ⟨?_, fun y c e z => ?_⟩, I.bs, Nat.le_trans I.ok.bsz I.sz, fun b o e hb => ?_, fun b hb z => ?_, I.stack, I.stkFree⟩
    · have e1 : cenv.cells.lookup y = some c := e1
      have e2 : cenv.cells.lookup z = some c := e2
      rw [hcl] at e1 e2
      exact I.ok.inj y z c (cm e1) (cm e2)
    · show ∃ c, cenv.cells.lookup y = some c
      rw [hcl]
      rcases hy with hy | hy
      · have hy : cenv.scope.names.lookup y = some .cell := hy
        rw [hsc] at hy
        exact absurd rfl (hcell _ (PySem.mem_of_lookup hy))
      · have hy : cenv.scope.names.lookup y = some .free := hy
        rw [hsc] at hy
        exact look hy
    · show b ≠ cenv.locals
      rw [hL]; exact Nat.ne_of_lt (hfp b hb).2
    · have e : cenv.cells.lookup y = some c := e
      rw [hcl] at e
      exact (hfp b hb).1.2.2.2.2.1 y c (cm e) z
    · rcases (hfp b hb).1.2.2.2.1 with z | z
      · exact I.ok.noex b o e z
      · exact absurd (Nat.lt_of_lt_of_le (Heap.lt_size e) (Nat.le_trans I.ok.bsz z)) (Nat.lt_irrefl _)
    · rcases List.mem_cons.mp (I.stkSub b z) with z | z
      · exact (hfp b hb).1.2.1 z
      · exact (hfp b hb).1.2.2.1 z
  refine ⟨okB, rfl, hg, Un.kept kp, ⟨mm, ?_, fun i y av e1 e2 e3 => ?_⟩, fun y c e => ?_, ?_, fun y c e => ?_, fun p hp => ?_, I.hok.kept kp, by rw [wipe_length]; exact I.len⟩
  · show Heap.Ns _ cenv.locals _
    rw [hL]
    exact hns
  · obtain ⟨e2, hne⟩ := wipe_some e2
    have no : ∀ k, scope.names.lookup y = some k → ¬ (k = .local ∨ k = .cell) := fun k e hh => by
      rcases ok.own _ (PySem.mem_of_lookup e) hh with e' | e'
      · obtain ⟨p, hp, hpy⟩ := List.mem_map.mp e'
        have e3 := ok.ix p hp
        have : p.1 = y := hpy
        rw [this] at e3
        exact hne (List.mem_map.mpr ⟨p, hp, nodup_ix hN e3 e1⟩)
      · exact e' (List.mem_of_getElem? e1)
    have e3 : Vis cenv.scope y := e3
    rw [hsc] at e3
    have hfr : scope.names.lookup y = some .free := by
      rcases e3 with k | k | k
      · exact absurd (.inl rfl) (no _ k)
      · exact absurd (.inr rfl) (no _ k)
      · exact k
    obtain ⟨m, hn, hl⟩ := I.loc
    have hvis : Vis X.env.scope y := (ok.free _ (PySem.mem_of_lookup hfr) rfl).elim (fun k => .inr (.inl k)) (fun k => .inr (.inr k))
    obtain ⟨w, r, q⟩ := hl i y av e1 e2 hvis
    obtain ⟨c, h1⟩ := look hfr
    refine ⟨w, r, .inr ⟨.inr ?_, c, by show cenv.cells.lookup y = _; rw [hcl]; exact h1, ?_⟩⟩
    · show cenv.scope.names.lookup y = some .free
      rw [hsc]; exact hfr
    have h2 := cm h1
    rcases q with ⟨k, _⟩ | ⟨_, c', e', z⟩
    · have k : X.env.scope.names.lookup y = some .local := k
      rcases ok.free _ (PySem.mem_of_lookup hfr) rfl with k' | k' <;> rw [show X.env.scope.names.lookup y = _ from k'] at k <;> cases k
    · rw [h2] at e'; cases e'
      exact z.keeps kp
  · have e : cenv.cells.lookup y = some c := e
    rw [hcl] at e
    obtain ⟨w, z⟩ := I.cell y c (cm e)
    exact ⟨w, z.keeps kp⟩
  · show H cenv.locals = none
    rw [hL]; exact I.hok.fresh (Nat.le_refl _)
  · have e : cenv.cells.lookup y = some c := e
    rw [hcl] at e
    exact I.freeC y c (cm e)
  · exact absurd (show p ∈ ([] : List (Addr × Obj)) ++ [] from hp) (by simp)
/-! ### a code object's table grows -/
theorem among_other {pos p' : Pos} {c : Value} (hne : (p'.line, p'.col) ≠ (pos.line, pos.col)) (l : List Value) (h : TriplesOk l) : codeAmong p' (l ++ [rawInt pos.line, rawInt pos.col, c]) = codeAmong p' l := by
  fun_induction TriplesOk l with
  | case1 =>
    simp only [List.nil_append, rawInt, codeAmong]
    rw [if_neg]
    intro q
    simp only [Bool.and_eq_true, beq_iff_eq] at q
    refine hne ?_
    have q1 := q.1
    have q2 := q.2
    simp only [Prod.mk.injEq]
    constructor <;> omega
  | case2 a t b u x rest ih =>
    simp only [List.cons_append, codeAmong]
    rw [ih h]
  | case3 l h1 h2 => exact h.elim
theorem HRel.tab {K : PySem.W.Frag} {cs : List Tb} {m z : List Addr} {h : Cells} {H : Hp} {P : Addr} {ps : Array Value} {pos : Pos} {cv : Value} (r : HRel K cs m z h H) (hP : H P = some (.tbl ps)) (ht : TriplesOk ps.toList) (hm : P ∉ m) (hl : ∀ t ∈ cs, t.P = P → (pos.line, pos.col) ∉ t.lam) :
    HRel K cs m z h (upd H P (.tbl (ps ++ #[rawInt pos.line, rawInt pos.col, cv]))) ∧ Nx m z H m (upd H P (.tbl (ps ++ #[rawInt pos.line, rawInt pos.col, cv]))) := by
  have n : Nx m z H m (upd H P (.tbl (ps ++ #[rawInt pos.line, rawInt pos.col, cv]))) := ⟨⟨[], by simp, fun _ h => absurd h (by simp)⟩, fun b u _ q nt => by
    rw [upd_ne (fun e => nt ps (by rw [e, hP] at q; exact (Option.some.inj q).symm))]; exact q, fun b q => by
    by_cases e : b = P
    · rw [e, upd_same]; simp
    · rw [upd_ne e]; exact q⟩
  refine ⟨⟨r.len, r.nd, r.dz, fun a q => n.lv a (r.lv a q), fun i o a h1 h2 => (r.obj i o a h1 h2).nx n (upd_ne (fun e => hm (e ▸ List.mem_of_getElem? h2))), fun t htc => ?_, r.tm⟩, n⟩
  obtain ⟨ps', h1, h2, h3⟩ := r.tb t htc
  have eL : (ps ++ #[rawInt pos.line, rawInt pos.col, cv]).toList = ps.toList ++ [rawInt pos.line, rawInt pos.col, cv] := by simp
  have keepC : ∀ {c : Addr}, H c = some (LamX.CodeO c t.q) → upd H P (.tbl (ps ++ #[rawInt pos.line, rawInt pos.col, cv])) c = some (LamX.CodeO c t.q) := fun {c} e => by
    rw [upd_ne (fun q => LamX.codeO_ne ps (by rw [q, hP] at e; exact (Option.some.inj e).symm))]; exact e
  by_cases e : t.P = P
  · rw [e, hP] at h1
    cases h1
    refine ⟨_, by rw [e, upd_same], by rw [eL]; exact PySem.TriplesOk_snoc _ _ _ _ ht, fun p' c' hp hc => ?_⟩
    rw [eL, among_other (fun q => hl t htc e (q ▸ hp)) _ ht] at hc
    obtain ⟨c, e1, e2⟩ := h3 p' c' hp hc
    exact ⟨c, e1, keepC e2⟩
  · refine ⟨ps', by rw [upd_ne e]; exact h1, h2, fun p' c' hp hc => ?_⟩
    obtain ⟨c, e1, e2⟩ := h3 p' c' hp hc
    exact ⟨c, e1, keepC e2⟩
/-- the running def's code object and table, where the expression stands -/
structure CodeAt (X : Cx) (cs : List Tb) (pos : Pos) : Prop where
  ex : ∃ c P, X.env.code = .ref c ∧ GxR.TabB X.base X.mg c P ∧ (∃ t ∈ cs, t.P = P) ∧ ∀ t ∈ cs, t.P = P → (pos.line, pos.col) ∉ t.lam
/-- a generator that has not begun -/
structure GNew (X : Cx) (cs : List Tb) (z : List Addr) (pins : List (Addr × Obj)) (σ : L2.St) (own : List Nat) (e : Sl) (tg iter elt : Expr) (ifs : List Expr) (scope : Scope) (pos : Pos) (m0 : List Addr) (H0 : Hp) (xs : List PV) (src : Option Nat) (h4 : Cells)
    (a : Addr) (s5 : Shared) (s4 : Shared) (H4 : Hp) (m4 : List Addr) (code : Value) (fp : List Addr) (it : Addr) (J : It) (tn : Nat → Heap → Prop) (gn : Nat) : Prop where
  i4 : Inv X pins σ H4 s4
  hr : HRel X.K cs m4 z h4 H4
  nx : Nx m0 z H0 m4 H4
  tu : Turn X.prog X.w X.K tg J fp it tn
  jok : JOk X.K cs z m4 H4 xs src J
  fpk : ∀ b ∈ fp, FpOk X pins H4 b ∧ b < s4.heap.objs.size
  i5 : ∀ B : Around, B.handled = none → B.frames = some X.stack → Inv (gCx X s4 H4 (genEnv scope (cloFrom X.env.cells scope.names []) s4.heap.objs.size code builtinsNs X.env) fp (B.deeper (genEnv scope (cloFrom X.env.cells scope.names []) s4.heap.objs.size code builtinsNs X.env))) [] (wipe σ own) H4 s5
  sr : SRel X.K m4 z H4 (wipeE e own) (wipe σ own)
  st : tn 0 s5.heap
  gen : s5.heap.IsGen a gn
  gs : s5.gens[gn]? = some (.fresh (.compStart (.GeneratorExp elt [⟨tg, iter, ifs, 0⟩] scope pos) 0 (.ref it) .none (genEnv scope (cloFrom X.env.cells scope.names []) s4.heap.objs.size code builtinsNs X.env)))
  lt : s4.heap.objs.size < a
  kp : ∀ b o, s4.heap.get? b = some o → s5.heap.get? b = some o
section
variable {X : Cx} {cs : List Tb} {W : WX} {tg iter elt : Expr} {ifs : List Expr} {scope : Scope} {own : List (Str × Nat)} {gpos : Pos} {fi : ME (List PV × Option Nat)}
theorem gen_mk {pins : List (Addr × Obj)} {s : Shared} {σ : L2.St} {H : Hp} {m z : List Addr} {e : Sl} {h : Cells} {Q' : Value → Shared → Prop} (hh : X.A.handled = none) (hroom : X.A.depth < recursionLimit) (hfr : X.A.frames = some X.stack) (hN : X.N.Nodup) (hi : SI X cs W tg iter fi) (ok : BlkOk X.N X.env.scope scope own)
    (hcell : ∀ y ∈ scope.names, y.2 ≠ .cell) (h0 : scope.names.lookup (".0" : Str) = some NameKind.local) (hco : scope.isCoroutine = false) (CA : CodeAt X cs gpos) (hs : ∀ v, genFold iter X.env v = pure v)
    (I : Inv X pins σ H s) (hsr : SRel X.K m z H e σ) (hhr : HRel X.K cs m z h H)
    (p : Po X.K cs z m H (fun pp h4 m1 H1 => ∀ a s5 s4 H4 m4 code fp it J tn gn, Nx m1 z H1 m4 H4 → GNew X cs z pins σ (own.map (·.2)) e tg iter elt ifs scope gpos m H pp.1 pp.2 h4 a s5 s4 H4 m4 code fp it J tn gn → Q' (.ref a) s5) (WxE X.K W σ) (fi e h)) :
    wpAny (model X.prog X.w) X.A (eval (.GeneratorExp elt [⟨tg, iter, ifs, 0⟩] scope gpos) X.env) Q' X.xe s := by
  have hfree : ∀ y ∈ scope.names, y.2 = .free → ∃ c, X.env.cells.lookup y.1 = some c := fun y hy e => by
    rcases ok.free y hy e with k | k
    · exact I.ok.has _ (.inl k)
    · exact I.ok.has _ (.inr k)
  obtain ⟨c, P, hcode, TB, ⟨t0, ht0, eP⟩, hlam⟩ := CA.ex
  refine wpAny_GeneratorExp_make hco (closure_ok hfree) hcell h0 ok.kind hroom ?_ hs
  have hir := hi.run pins s σ H (fun J H1 => ∃ pp h1 m1, JOk X.K cs z m1 H1 pp.1 pp.2 J ∧ Nx m z H m1 H1 ∧ HRel X.K cs m1 z h1 H1 ∧
    ∀ a s5 s4 H4 m4 code fp it J tn gn, Nx m1 z H1 m4 H4 → GNew X cs z pins σ (own.map (·.2)) e tg iter elt ifs scope gpos m H pp.1 pp.2 h1 a s5 s4 H4 m4 code fp it J tn gn → Q' (.ref a) s5) I
    ⟨m, z, e, h, hsr, hhr, p.imp (fun pp h1 m1 H1 n1 r1 q J hJ => ⟨pp, h1, m1, hJ, n1, r1, q⟩) fun _ _ q => q⟩
  refine thn hir fun xv s1 hx => thn hx fun itv s2 h2 => ?_
  obtain ⟨it, fp, tn, J, H2, e2, I2, T, st2, f2, pp, h1, m1, hJ, n1, r1, hQ⟩ := h2
  subst e2
  have hsr1 := hsr.nx n1
  refine ⟨I2.nolimit, ?_⟩
  obtain ⟨ps, hP, ht, _⟩ := r1.tb t0 ht0
  have hPm : P ∉ m1 := by rw [← eP]; exact r1.tm t0 ht0
  rw [eP] at hP
  have hPs : s2.heap.get? P = some { cls := .none, data := .fields ps } := I2.hok P _ hP
  have cd : PySem.W.CodeHd s2.heap c P := TB.code.keeps I2.bk
  have szfp : ∀ b ∈ fp, b < s2.heap.objs.size := fun b hb => by
    obtain ⟨o, e, _⟩ := T.obj _ _ st2 b hb
    exact Heap.lt_size e
  -- behind the code object
  have cont : ∀ (code : Value) (s3 : Shared) (H3 : Hp), Inv X pins σ H3 s3 → HRel X.K cs m1 z h1 H3 → Nx m1 z H2 m1 H3 → (∀ b ∈ fp, H3 b = none) → tn 0 s3.heap → s2.heap.objs.size ≤ s3.heap.objs.size →
      wpAny (model X.prog X.w) X.A (builtinsFor X.env.globals X.env.builtins) (fun bi s₄ =>
        ∀ h', h'.Ns s₄.heap.objs.size (fun y => if y = ".0" then some (Value.ref it) else none) → Heap.SameBut s₄.heap.objs.size (s₄.heap.push { cls := .type "frame", data := .dict #[] }) h' →
          Q' (.ref h'.objs.size) { s₄ with
            gens := s₄.gens.push (.fresh (.compStart (.GeneratorExp elt [⟨tg, iter, ifs, 0⟩] scope gpos) 0 (.ref it) .none (genEnv scope (cloFrom X.env.cells scope.names []) s₄.heap.objs.size code bi X.env))),
            toks := s₄.toks + 1 + 1 + 1,
            heap := h'.push { cls := .type "generator", data := .fields #[.int s₄.gens.size 0, .str "<genexpr>" (s₄.toks + 1), .str (X.env.qual ++ "<genexpr>") (s₄.toks + 1 + 1)] } }) X.xe s3 := by
    intro code s3 H3 I3 r3 n3 fz3 st3 hsz
    obtain ⟨bm, ob, e1, e2, e3, e4, e5, e6, e7, e8⟩ := TB.bm
    refine wpAny_builtinsFor (m := X.mg) (by rw [I3.ok.glob]; exact I3.mod.glob.keeps I3.bk) e1 e2 (I3.bk _ _ e5) e6 e7 e8 ?_
    intro h' hn' hs'
    have hsz' : h'.objs.size = s3.heap.objs.size + 1 := by rw [hs'.1, Heap.size_push]
    have keep' : ∀ b o, s3.heap.get? b = some o → h'.get? b = some o := fun b o e => hs'.extBut b o (Nat.ne_of_lt (Heap.lt_size e)) (Heap.get?_push_of_some _ e)
    refine hQ h'.objs.size _ s3 H3 m1 code fp it J tn s3.gens.size n3 ⟨I3, r3, n1.trans n3, T, fun z' m' h'' H' f n hh g => hJ z' m' h'' H' ?_ (n3.trans n) hh g, fun b hb => ⟨⟨fz3 b hb, (f2 b hb).2⟩, Nat.lt_of_lt_of_le (szfp b hb) hsz⟩, fun B hB hF => ?_, (hsr1.nx n3).wipe _, T.keep _ _ _ st3 fun b _ o e => Heap.get?_push_of_some _ (keep' b o e), ⟨_, _, _, Heap.get?_push_size _ rfl, rfl, rfl, rfl⟩, Array.getElem?_push_size .., by omega, fun b o e => Heap.get?_push_of_some _ (keep' b o e)⟩
    · obtain ⟨l, e, nl⟩ := f
      refine ⟨l, e, fun a ha => ?_⟩
      cases q : H2 a with
      | none => rfl
      | some o => exact absurd (nl a ha) (n3.lv a (by rw [q]; simp))
    · exact gen_inv I3 ok hcell hN (fun b hb => ⟨⟨fz3 b hb, (f2 b hb).2⟩, Nat.lt_of_lt_of_le (szfp b hb) hsz⟩) hB hF (hn'.push _) (fun b o e => Heap.get?_push_of_some _ (keep' b o e)) (I3.bare.push rfl)
  cases hf : codeAmong gpos ps.toList with
  | none =>
    refine wpAny_genexprCodeX hcode (cd.code hPs ht) (cd.tab hPs) hf fun c' h' tk hx hge hlt hco' _ htab' _ => ?_
    obtain ⟨o1, vs, f1, tf, fl, tg', inF, tx, tt, op, _, _, _, _, _, _, _, _, _, htr, _⟩ := hco'
    have I3 := GxR.inv_tab (more := #[rawInt gpos.line, rawInt gpos.col, .ref c']) (h' := h') (g' := s2.gens) (d' := s2.drawn) (t' := tk) I2 hP hx htab'.2 I2.bare
    obtain ⟨r3, n3⟩ := r1.tab (cv := .ref c') hP ht hPm hlam
    refine cont _ { s2 with heap := h', toks := tk } _ I3 r3 n3 (fun b hb => ?_) (T.keep _ _ _ st2 fun b hb o e => hx b o (fun q => ?_) e) (Nat.le_trans hge (Nat.le_of_lt hlt))
    · rw [upd_ne (fun q => by have := (f2 b hb).1; rw [q, hP] at this; cases this)]; exact (f2 b hb).1
    · have := (f2 b hb).1
      rw [q, hP] at this
      cases this
  | some cv =>
    refine wpAny_genexprCode_hit hcode (cd.code hPs ht) hf ?_
    exact cont cv s2 H2 I2 r1 (Nx.refl _ _ _) (fun b hb => (f2 b hb).1) st2 (Nat.le_refl _)
end
end Mi

set_option Elab.async false
set_option linter.all false
set_option maxRecDepth 100000
set_option maxHeartbeats 4000000
namespace Mi
open PySem PySem.Spec PyProof.Rows L2 GenW

/-! ## who walks a generator -/
def mGen (fi : ME (List PV × Option Nat)) (g : MG) (t : ME Bool) (fe : ME PV) (own : List Nat) (c : List (PV × Cells) → Cells → Out PV) : ME PV := fun e h => (fi e h).bind fun p h1 => match gTr g t fe p.2 p.1 (wipeE e own) p.1 h1 with
  | some (T, hf) => c T hf
  | none => .bad
/-- the generator's parts, in its own context -/
structure GEl (X : Cx) (cs : List Tb) (k : Nat) (scope : Scope) (own : List Nat) (tg elt : Expr) (ifs : List Expr) (g : MG) (t : ME Bool) (fe : ME PV) : Prop where
  hg : ∀ (s : Shared) (H : Hp) (C : Addr) (cl : List (Str × Addr)) (code : Value) (fp : List Addr) (A : Around), Room k A → SG (gCx X s H (genEnv scope cl C code builtinsNs X.env) fp A) cs own tg g
  ht : ∀ (s : Shared) (H : Hp) (C : Addr) (cl : List (Str × Addr)) (code : Value) (fp : List Addr) (A : Around), Room k A → STs (gCx X s H (genEnv scope cl C code builtinsNs X.env) fp A) cs W0 ifs t
  he : ∀ (s : Shared) (H : Hp) (C : Addr) (cl : List (Str × Addr)) (code : Value) (fp : List Addr) (A : Around), Room k A → SE (gCx X s H (genEnv scope cl C code builtinsNs X.env) fp A) cs W0 elt fe
/-- the call f(generator) does what c says -/
def ConsR (X : Cx) (cs : List Tb) (k : Nat) (f : Value) (c : List (PV × Cells) → Cells → Out PV) : Prop :=
  ∀ (z : List Addr) (pins : List (Addr × Obj)) (σ : L2.St) (own : List (Str × Nat)) (e : Sl) (tg iter elt : Expr) (ifs : List Expr) (scope : Scope) (pos : Pos) (m0 : List Addr) (H0 : Hp) (xs : List PV) (src : Option Nat) (h4 : Cells)
    (a : Addr) (s5 s4 : Shared) (H4 : Hp) (m4 : List Addr) (code : Value) (fp : List Addr) (it : Addr) (J : It) (tn : Nat → Heap → Prop) (gn : Nat) (g : MG) (t : ME Bool) (fe : ME PV) (T : List (PV × Cells)) (hf : Cells) (Q : VK) (Wx : Str → Hp → Prop),
    GNew X cs z pins σ (own.map (·.2)) e tg iter elt ifs scope pos m0 H0 xs src h4 a s5 s4 H4 m4 code fp it J tn gn → GEl X cs k scope (own.map (·.2)) tg elt ifs g t fe → scope.isCoroutine = false → wipe (wipe σ (own.map (·.2))) (own.map (·.2)) = wipe σ (own.map (·.2)) →
    gTr g t fe src xs (wipeE e (own.map (·.2))) xs h4 = some (T, hf) → Po X.K cs z m4 H4 (RxE X.K z Q) Wx (c T hf) →
    wpAny (model X.prog X.w) X.A (call f [.ref a]) (EP X pins σ Q) X.xe s5
section
variable {X : Cx} {cs : List Tb} {W : WX} {tg iter elt : Expr} {ifs : List Expr} {scope : Scope} {own : List (Str × Nat)} {gpos : Pos} {fi : ME (List PV × Option Nat)} {g : MG} {t : ME Bool} {fe : ME PV} {c : List (PV × Cells) → Cells → Out PV} {k : Nat} {x : Str} {p pos : Pos}
theorem gen_call {f : Value} {pins : List (Addr × Obj)} {s : Shared} {σ : L2.St} {H : Hp} {Q : VK} (hr : Room (k + 1) X.A) (hN : X.N.Nodup) (hi : SI X cs W tg iter fi) (ok : BlkOk X.N X.env.scope scope own)
    (hcell : ∀ y ∈ scope.names, y.2 ≠ .cell) (h0 : scope.names.lookup (".0" : Str) = some NameKind.local) (hco : scope.isCoroutine = false) (CA : CodeAt X cs gpos) (hs : ∀ v, genFold iter X.env v = pure v) (E : GEl X cs k scope (own.map (·.2)) tg elt ifs g t fe) (hc : ConsR X cs k f c)
    (I : Inv X pins σ H s) (tt : tE X.K cs W (mGen fi g t fe (own.map (·.2)) c) σ H Q) :
    wpAny (model X.prog X.w) X.A (eval (.GeneratorExp elt [⟨tg, iter, ifs, 0⟩] scope gpos) X.env) (fun v s5 => wpAny (model X.prog X.w) X.A (call f [v]) (EP X pins σ Q) X.xe s5) X.xe s := by
  obtain ⟨m, z, e, h, hsr, hhr, pp⟩ := tt
  refine gen_mk hr.hd (by have := hr.dp; omega) I.ok.frames hN hi ok hcell h0 hco CA hs I hsr hhr (pp.bind.imp (fun p1 h1 m1 H1 n1 r1 q a s5 s4 H4 m4 code fp it J tn gn n4 G => ?_) fun _ _ q => q)
  cases qt : gTr g t fe p1.2 p1.1 (wipeE e (own.map (·.2))) p1.1 h1 with
  | none => rw [qt] at q; exact q.elim
  | some T =>
    rw [qt] at q
    exact hc z pins σ own e tg iter elt ifs scope gpos m H p1.1 p1.2 h1 a s5 s4 H4 m4 code fp it J tn gn g t fe T.1 T.2 Q _ G E hco (wipe_wipe _ _) qt (q.step n4)
theorem s_genB {id : String} (hc : ConsR X cs k (.builtin id) c) (hr : Room (k + 1) X.A) (hN : X.N.Nodup) (hg : Gl X x) (hm : X.mg x = none) (hv : bootBuiltins x = some (.builtin id)) (hi : SI X cs W tg iter fi) (ok : BlkOk X.N X.env.scope scope own)
    (hcell : ∀ y ∈ scope.names, y.2 ≠ .cell) (h0 : scope.names.lookup (".0" : Str) = some NameKind.local) (hco : scope.isCoroutine = false) (CA : CodeAt X cs gpos) (E : GEl X cs k scope (own.map (·.2)) tg elt ifs g t fe) (hs : ∀ v, genFold iter X.env v = pure v := by intro _; rfl)
    (hn : x ≠ "__name__" := by decide) (hdb : (x == ("__debug__" : Str)) = false := by decide)
    (he : starEach [.GeneratorExp elt [⟨tg, iter, ifs, 0⟩] scope gpos] X.env = (false, eval (.GeneratorExp elt [⟨tg, iter, ifs, 0⟩] scope gpos) X.env) :: starEach [] X.env := by rfl) :
    SE X cs W (.Call (.Name x p) [.GeneratorExp elt [⟨tg, iter, ifs, 0⟩] scope gpos] [] pos) (mGen fi g t fe (own.map (·.2)) c) := by
  refine ⟨fun pins s σ H Q I h => ?_⟩
  refine wpAny_Call_Name_kw (ld_blt I hg hm hv ?_ hn hdb)
  refine PyProof.Rows.callWith_builtin1 ?_ he (by rfl)
  rw [he]
  show wpAny _ _ (spliced ((false, eval (.GeneratorExp elt [⟨tg, iter, ifs, 0⟩] scope gpos) X.env) :: backTo pos (starEach [] X.env))) _ _ s
  exact Calls.spliced_cons (thn (gen_call hr hN hi ok hcell h0 hco CA hs E hc I h) fun v s5 q => Calls.spliced_nil q)
theorem s_genT {id : String} (hc : ConsR X cs k (.type id) c) (hr : Room (k + 1) X.A) (hN : X.N.Nodup) (hg : Gl X x) (hm : X.mg x = none) (hv : bootBuiltins x = some (.type id)) (hi : SI X cs W tg iter fi) (ok : BlkOk X.N X.env.scope scope own)
    (hcell : ∀ y ∈ scope.names, y.2 ≠ .cell) (h0 : scope.names.lookup (".0" : Str) = some NameKind.local) (hco : scope.isCoroutine = false) (CA : CodeAt X cs gpos) (E : GEl X cs k scope (own.map (·.2)) tg elt ifs g t fe) (hs : ∀ v, genFold iter X.env v = pure v := by intro _; rfl)
    (hn : x ≠ "__name__" := by decide) (hdb : (x == ("__debug__" : Str)) = false := by decide)
    (he : starEach [.GeneratorExp elt [⟨tg, iter, ifs, 0⟩] scope gpos] X.env = (false, eval (.GeneratorExp elt [⟨tg, iter, ifs, 0⟩] scope gpos) X.env) :: starEach [] X.env := by rfl) :
    SE X cs W (.Call (.Name x p) [.GeneratorExp elt [⟨tg, iter, ifs, 0⟩] scope gpos] [] pos) (mGen fi g t fe (own.map (·.2)) c) := by
  refine ⟨fun pins s σ H Q I h => ?_⟩
  refine wpAny_Call_Name_kw (ld_blt I hg hm hv ?_ hn hdb)
  refine PyProof.Rows.callWith_type1 ?_ he (by rfl)
  rw [he]
  show wpAny _ _ (spliced ((false, eval (.GeneratorExp elt [⟨tg, iter, ifs, 0⟩] scope gpos) X.env) :: backTo pos (starEach [] X.env))) _ _ s
  exact Calls.spliced_cons (thn (gen_call hr hN hi ok hcell h0 hco CA hs E hc I h) fun v s5 q => Calls.spliced_nil q)
end

theorem gnew_st {X : Cx} {cs : List Tb} {k : Nat} {z : List Addr} {pins : List (Addr × Obj)} {σ : L2.St} {own : List (Str × Nat)} {e : Sl} {tg iter elt : Expr} {ifs : List Expr} {scope : Scope} {pos : Pos} {m0 : List Addr} {H0 : Hp} {xs : List PV} {src : Option Nat} {h4 : Cells}
    {a : Addr} {s5 s4 : Shared} {H4 : Hp} {m4 : List Addr} {code : Value} {fp : List Addr} {it : Addr} {J : It} {tn : Nat → Heap → Prop} {gn : Nat} {g : MG} {t : ME Bool} {fe : ME PV} {T : List (PV × Cells)} {hf : Cells}
    (N : GNew X cs z pins σ (own.map (·.2)) e tg iter elt ifs scope pos m0 H0 xs src h4 a s5 s4 H4 m4 code fp it J tn gn) (E : GEl X cs k scope (own.map (·.2)) tg elt ifs g t fe) (hco : scope.isCoroutine = false)
    (hT : gTr g t fe src xs (wipeE e (own.map (·.2))) xs h4 = some (T, hf)) (B : Around) (hB : B.handled = none) (hF : B.frames = some X.stack) (hr : Room k (B.deeper (genEnv scope (cloFrom X.env.cells scope.names []) s4.heap.objs.size code builtinsNs X.env)))
    (ps : List Addr) (C : List V → Heap → Prop) (hps : ∀ b ∈ ps, s5.heap.objs.size ≤ b) (cst : ∀ vs h h', (∀ b ∈ ps, ∀ o, h.get? b = some o → h'.get? b = some o) → C vs h → C vs h')
    {s : Shared} (kp : ∀ b o, s5.heap.get? b = some o → s.heap.get? b = some o) (eg : s.gens = s5.gens) (eo : s.os = s5.os) (th : ∀ b ∈ ps, ∃ o, s.heap.get? b = some o ∧ ∀ v, o.data ≠ .cell v) (hC : C [] s.heap) :
    let G : GP := ⟨X, cs, z, s4, H4, m4, genEnv scope (cloFrom X.env.cells scope.names []) s4.heap.objs.size code builtinsNs X.env, fp, it, J, tn, g, t, fe, wipeE e (own.map (·.2)), wipe σ (own.map (·.2)), src, xs, T, hf, a, ps, C, B⟩
    G.Fix tg elt ifs (own.map (·.2)) ∧ GSt G gn T.length s := by
  intro G
  have I5 := N.i5 B hB hF
  have alt : a < s5.heap.objs.size := let ⟨o, _, _, ho, _⟩ := N.gen; Heap.lt_size ho
  have pkA : FpOk G.cx [] H4 a := by
    refine ⟨N.i4.hok.fresh (Nat.le_of_lt N.lt), Nat.ne_of_gt N.lt, fun q => ?_, .inr (Nat.le_of_lt N.lt), fun x c ec q => ?_, fun p hp => absurd (show p ∈ ([] : List (Addr × Obj)) ++ [] from hp) (by simp)⟩
    · rcases List.mem_cons.mp (N.i4.stkSub a q) with q | q
      · have := N.i4.lt
        rw [← q] at this
        exact absurd (Nat.lt_trans this N.lt) (Nat.lt_irrefl _)
      · exact N.i4.nofs (Nat.le_of_lt N.lt) q
    · obtain ⟨v, o, ho, hd⟩ := I5.cell x c ec
      obtain ⟨o', nm, qn, ho', hc', hd', _⟩ := N.gen
      rw [q, ho'] at ho
      cases ho
      rw [hd'] at hd
      cases hd
  have pk : ∀ b ∈ a :: ps, FpOk G.cx [] H4 b := fun b hb => by
    rcases List.mem_cons.mp hb with q | q
    · rw [q]; exact pkA
    · exact I5.fpOk (hps b q) (I5.hok.fresh (hps b q))
  have F : G.Fix tg elt ifs (own.map (·.2)) := ⟨hB, N.tu, N.jok, fun b hb q => by
      have h1 := (N.fpk b q).2
      rcases List.mem_cons.mp hb with q2 | q2
      · rw [q2] at h1; exact absurd (Nat.lt_trans h1 N.lt) (Nat.lt_irrefl _)
      · exact absurd (Nat.lt_of_lt_of_le (Nat.lt_trans h1 (Nat.lt_trans N.lt alt)) (hps b q2)) (Nat.lt_irrefl _),
    fun q => absurd (Nat.lt_of_lt_of_le alt (hps a q)) (Nat.lt_irrefl _), cst, E.hg _ _ _ _ _ _ _ hr, E.ht _ _ _ _ _ _ _ hr, E.he _ _ _ _ _ _ _ hr, wipe_wipe _ _, hco⟩
  have mv : Mv ps s5 s := ⟨eo, by rw [eg]; exact I5.bare, fun b o _ e => kp b o e, th⟩
  have I6 := inv_mv I5 (fun b hb => pk b (List.mem_cons_of_mem _ hb)) mv
  have hgen : s.heap.IsGen a gn := isGen_keep N.gen fun o ho => kp _ o ho
  refine ⟨F, hgen, I6.nolimit, I6.bare, .fresh (.compStart (.GeneratorExp elt [⟨tg, iter, ifs, 0⟩] scope pos) 0 (.ref it) .none G.cenv), by rw [eg]; exact N.gs, rfl, ?_⟩
  have thA : ∃ o, s.heap.get? a = some o ∧ ∀ v, o.data ≠ .cell v := by
    obtain ⟨o', nm, qn, ho', hc', hd', _⟩ := hgen
    exact ⟨o', ho', fun v q => by rw [hd'] at q; cases q⟩
  have ok : G.Ok 0 0 h4 m4 H4 [] s := ⟨I6, N.hr, Nx.refl _ _ _, N.sr, N.tu.keep _ _ _ N.st fun b _ o e => kp b o e, fun b hb => (N.fpk b hb).1.1, fun b hb => ⟨pk b hb, by
      rcases List.mem_cons.mp hb with q | q
      · rw [q]; exact thA
      · exact th b q⟩, Nat.zero_le _, by rw [List.drop_zero, List.drop_zero]; exact hT, Nat.zero_le _, .nil, hC⟩
  have ok' : G.Ok 0 0 h4 m4 H4 [] (s.setGen gn .running) := ⟨inv_gens ok.inv rfl rfl (allBare_setGen ok.inv.bare rfl), ok.hr, ok.nx, ok.sr, ok.st, ok.fz, ok.pk, ok.ile, ok.tr, ok.jle, ok.rv, ok.cv⟩
  exact seg_start G F ok' (Kp.refl _ _)
/-- at the end: back in the def -/
theorem gnew_end {X : Cx} {cs : List Tb} {z : List Addr} {pins : List (Addr × Obj)} {σ : L2.St} {own : List Nat} {e : Sl} {tg iter elt : Expr} {ifs : List Expr} {scope : Scope} {pos : Pos} {m0 : List Addr} {H0 : Hp} {xs : List PV} {src : Option Nat} {h4 : Cells}
    {a : Addr} {s5 s4 : Shared} {H4 : Hp} {m4 : List Addr} {code : Value} {fp : List Addr} {it : Addr} {J : It} {tn : Nat → Heap → Prop} {gn : Nat} {cenv : Env} {A : Around} {σ' : L2.St} {H : Hp} {s : Shared}
    (N : GNew X cs z pins σ own e tg iter elt ifs scope pos m0 H0 xs src h4 a s5 s4 H4 m4 code fp it J tn gn) (I : Inv (gCx X s4 H4 cenv fp A) [] σ' H s) : Inv X pins σ H s :=
  N.i4.call' (ch := fp) I.os I.base I.hok I.bare fun b hb => ⟨(N.fpk b hb).1.2.2.2.1, (N.fpk b hb).1.2.1, (N.fpk b hb).1.2.2.2.2.1, (N.fpk b hb).1.2.2.2.2.2⟩
/-! ### any, all -/
def cAny : List (PV × Cells) → Cells → Out PV
  | [], hf => .ok (.d (.bool false)) hf
  | (.d (.bool true), h) :: _, _ => .ok (.d (.bool true)) h
  | (.d (.bool false), _) :: r, hf => cAny r hf
  | _ :: _, _ => .bad
def cAll : List (PV × Cells) → Cells → Out PV
  | [], hf => .ok (.d (.bool true)) hf
  | (.d (.bool false), h) :: _, _ => .ok (.d (.bool false)) h
  | (.d (.bool true), _) :: r, hf => cAll r hf
  | _ :: _, _ => .bad
section
variable {G : GP} {A : Around} {gn : Nat} {R : Result → Shared → Prop}
theorem any_loop (hh : A.handled = none) (hroom : A.depth < recursionLimit) (hB : A.in1.in1 = G.B) (hps : G.ps = []) (cst : ∀ vs h, G.C vs h) : ∀ (n : Nat) (s : Shared), n ≤ G.T.length → GSt G gn n s → cAny (G.T.drop (G.T.length - n)) G.hf ≠ .bad →
    (∀ b h m H s', cAny (G.T.drop (G.T.length - n)) G.hf = .ok (.d (.bool b)) h → Inv G.cx [] G.σ H s' → HRel G.X.K G.cs m G.z h H → Nx G.m4 G.z G.H4 m H → R (.ok (.ret (.bool b))) s') →
    codeAny (model G.X.prog G.X.w) A (.builtin "any.loop" ⟨[.ref G.a], []⟩) R s := by
  intro n
  induction n with
  | zero =>
    intro s hle st hb hR
    rw [Nat.sub_zero, List.drop_length] at hR
    refine codeAny_builtin F.entry_any_loop ?_
    rw [Around.under_plainId F.plain_any_loop _]
    show wpAny _ A.in1 (pyNext (.ref G.a) >>= _) _ _ s
    refine wpAny_bind (gst_end (A := A.in1) (fun _ _ _ _ _ => cst _ _) hh hroom hB st fun s' m H vs at_ _ => ?_)
    exact wpAny_bind (wpAny_rule (wpAny_pure (hR false _ m H s' rfl at_.inv at_.hr at_.nx)))
  | succ n ih =>
    intro s hle st hb hR
    refine codeAny_builtin F.entry_any_loop ?_
    rw [Around.under_plainId F.plain_any_loop _]
    show wpAny _ A.in1 (pyNext (.ref G.a) >>= _) _ _ s
    refine wpAny_bind (gst_item (A := A.in1) hh hroom hB (Nat.succ_pos n) hle st fun v s' h m H vs y u eT at_ rp rl kp wk => ?_)
    have hlt : G.T.length - (n + 1) < G.T.length := by omega
    have e1 : G.T.drop (G.T.length - (n + 1)) = (y, h) :: G.T.drop (G.T.length - n) := by
      rw [List.drop_eq_getElem_cons hlt]
      have e2 := List.getElem?_eq_getElem hlt
      rw [eT] at e2
      rw [← Option.some.inj e2]
      congr 1
      congr 1
      omega
    rw [e1] at hR hb
    have hbool : ∃ b, y = .d (.bool b) := by
      cases y with
      | d x =>
        cases x with
        | bool b => exact ⟨b, rfl⟩
        | _ => exact absurd rfl hb
      | _ => exact absurd rfl hb
    obtain ⟨b, rfl⟩ := hbool
    obtain rfl : v = .bool b := by rw [rep_bool rp] at rl; exact rl
    refine wpAny_bind (wpAny_holding (wpAny_truthy_bool ?_))
    refine wpAny_bind (wpAny_letGo ?_)
    cases b with
    | false =>
      simp only [Bool.false_eq_true, if_false]
      have hst := wk s' ⟨rfl, at_.inv.bare, fun _ _ _ e => e, fun b hb => by rw [hps] at hb; cases hb⟩ (by rw [hps]; simp) (by rw [hps]; simp) rfl (cst _ _)
      exact wpAny_pure ⟨plainId_quiet F.plain_any_loop _, ih s' (by omega) hst hb hR⟩
    | true =>
      simp only [if_true]
      exact wpAny_bind (wpAny_rule (wpAny_pure (hR true _ m H s' rfl at_.inv at_.hr at_.nx)))
theorem all_loop (hh : A.handled = none) (hroom : A.depth < recursionLimit) (hB : A.in1.in1 = G.B) (hps : G.ps = []) (cst : ∀ vs h, G.C vs h) : ∀ (n : Nat) (s : Shared), n ≤ G.T.length → GSt G gn n s → cAll (G.T.drop (G.T.length - n)) G.hf ≠ .bad →
    (∀ b h m H s', cAll (G.T.drop (G.T.length - n)) G.hf = .ok (.d (.bool b)) h → Inv G.cx [] G.σ H s' → HRel G.X.K G.cs m G.z h H → Nx G.m4 G.z G.H4 m H → R (.ok (.ret (.bool b))) s') →
    codeAny (model G.X.prog G.X.w) A (.builtin "all.loop" ⟨[.ref G.a], []⟩) R s := by
  intro n
  induction n with
  | zero =>
    intro s hle st hb hR
    rw [Nat.sub_zero, List.drop_length] at hR
    refine codeAny_builtin F.entry_all_loop ?_
    rw [Around.under_plainId F.plain_all_loop _]
    show wpAny _ A.in1 (pyNext (.ref G.a) >>= _) _ _ s
    refine wpAny_bind (gst_end (A := A.in1) (fun _ _ _ _ _ => cst _ _) hh hroom hB st fun s' m H vs at_ _ => ?_)
    exact wpAny_bind (wpAny_rule (wpAny_pure (hR true _ m H s' rfl at_.inv at_.hr at_.nx)))
  | succ n ih =>
    intro s hle st hb hR
    refine codeAny_builtin F.entry_all_loop ?_
    rw [Around.under_plainId F.plain_all_loop _]
    show wpAny _ A.in1 (pyNext (.ref G.a) >>= _) _ _ s
    refine wpAny_bind (gst_item (A := A.in1) hh hroom hB (Nat.succ_pos n) hle st fun v s' h m H vs y u eT at_ rp rl kp wk => ?_)
    have hlt : G.T.length - (n + 1) < G.T.length := by omega
    have e1 : G.T.drop (G.T.length - (n + 1)) = (y, h) :: G.T.drop (G.T.length - n) := by
      rw [List.drop_eq_getElem_cons hlt]
      have e2 := List.getElem?_eq_getElem hlt
      rw [eT] at e2
      rw [← Option.some.inj e2]
      congr 1
      congr 1
      omega
    rw [e1] at hR hb
    have hbool : ∃ b, y = .d (.bool b) := by
      cases y with
      | d x =>
        cases x with
        | bool b => exact ⟨b, rfl⟩
        | _ => exact absurd rfl hb
      | _ => exact absurd rfl hb
    obtain ⟨b, rfl⟩ := hbool
    obtain rfl : v = .bool b := by rw [rep_bool rp] at rl; exact rl
    refine wpAny_bind (wpAny_holding (wpAny_truthy_bool ?_))
    refine wpAny_bind (wpAny_letGo ?_)
    cases b with
    | true =>
      simp only [if_true]
      have hst := wk s' ⟨rfl, at_.inv.bare, fun _ _ _ e => e, fun b hb => by rw [hps] at hb; cases hb⟩ (by rw [hps]; simp) (by rw [hps]; simp) rfl (cst _ _)
      exact wpAny_pure ⟨plainId_quiet F.plain_all_loop _, ih s' (by omega) hst hb hR⟩
    | false =>
      simp only [Bool.false_eq_true, if_false]
      exact wpAny_bind (wpAny_rule (wpAny_pure (hR false _ m H s' rfl at_.inv at_.hr at_.nx)))
end
theorem room_gen {k : Nat} {A B : Around} (hr : Room (k + 1) A) (env : Env) (hd : B.depth = A.depth) (hu : B.units ≤ A.units + 10) (hh : B.handled = none) : Room k (B.deeper env) :=
  ⟨hh, by have := hr.dp; show B.depth + 1 + 3 * k + 5 < _; omega, by have := hr.un; show B.units + 3 + 16 * k + 200 < _; omega⟩
theorem cAny_val : ∀ {T : List (PV × Cells)} {hf : Cells} {o : Out PV}, cAny T hf = o → o ≠ .bad → ∃ b h, o = .ok (.d (.bool b)) h
  | [], hf, _, e, _ => ⟨false, hf, e.symm⟩
  | (.d (.bool true), h) :: _, _, _, e, _ => ⟨true, h, e.symm⟩
  | (.d (.bool false), _) :: r, hf, _, e, n => cAny_val (T := r) e n
  | (.d .none, _) :: _, _, _, e, n | (.d (.int _), _) :: _, _, _, e, n | (.d (.str _), _) :: _, _, _, e, n | (.d (.list _), _) :: _, _, _, e, n | (.d (.tuple _), _) :: _, _, _, e, n | (.d (.dict _), _) :: _, _, _, e, n => absurd e.symm n
  | (.r _, _) :: _, _, _, e, n | (.ls _, _) :: _, _, _, e, n | (.tp _, _) :: _, _, _, e, n | (.cl _, _) :: _, _, _, e, n | (.sc _, _) :: _, _, _, e, n => absurd e.symm n
theorem any_cons {X : Cx} {cs : List Tb} {k : Nat} (hr : Room (k + 1) X.A) : ConsR X cs k (.builtin "any") cAny := by
  intro z pins σ own e tg iter elt ifs scope pos m0 H0 xs src h4 a s5 s4 H4 m4 code fp it J tn gn g t fe T hf Q Wx N E hco hw hT p
  refine call_function_tree F.kind_any F.plain_any F.entry_any (F.args_any1 _) ?_
  unfold Builtin.«any»
  refine wpAny_bind (m := oneArg "any" _) (wpAny_pure ?_)
  refine wpAny_bind (wpAny_pyIter_gen N.gen ?_)
  obtain ⟨Fx, st⟩ := gnew_st N E hco hT X.A.in1.in1 hr.hd N.i4.ok.frames (room_gen hr _ rfl (by show X.A.units + 1 + 1 ≤ _; omega) hr.hd) [] (fun _ _ => True) (fun b hb => absurd hb (by simp)) (fun _ _ _ _ _ => trivial) (s := s5) (fun _ _ e => e) rfl rfl (fun b hb => absurd hb (by simp)) trivial
  have hnb : cAny T hf ≠ .bad := fun q => by rw [q] at p; exact p
  refine wpAny_pure ⟨plainId_quiet F.plain_any_loop _, any_loop (A := X.A) hr.hd (by have := hr.dp; omega) rfl rfl (fun _ _ => trivial) T.length s5 (Nat.le_refl _) st (by rw [Nat.sub_self, List.drop_zero]; exact hnb) fun b h m H s' eb I hh n => ?_⟩
  rw [Nat.sub_self, List.drop_zero] at eb
  have eb' : cAny T hf = .ok (.d (.bool b)) h := eb
  rw [eb'] at p
  exact ⟨.bl b, H, gnew_end N I, rfl, p m H n hh _ (rB_ b)⟩
theorem all_cons {X : Cx} {cs : List Tb} {k : Nat} (hr : Room (k + 1) X.A) : ConsR X cs k (.builtin "all") cAll := by
  intro z pins σ own e tg iter elt ifs scope pos m0 H0 xs src h4 a s5 s4 H4 m4 code fp it J tn gn g t fe T hf Q Wx N E hco hw hT p
  refine call_function_tree F.kind_all F.plain_all F.entry_all (F.args_all1 _) ?_
  unfold Builtin.«all»
  refine wpAny_bind (m := oneArg "all" _) (wpAny_pure ?_)
  refine wpAny_bind (wpAny_pyIter_gen N.gen ?_)
  obtain ⟨Fx, st⟩ := gnew_st N E hco hT X.A.in1.in1 hr.hd N.i4.ok.frames (room_gen hr _ rfl (by show X.A.units + 1 + 1 ≤ _; omega) hr.hd) [] (fun _ _ => True) (fun b hb => absurd hb (by simp)) (fun _ _ _ _ _ => trivial) (s := s5) (fun _ _ e => e) rfl rfl (fun b hb => absurd hb (by simp)) trivial
  have hnb : cAll T hf ≠ .bad := fun q => by rw [q] at p; exact p
  refine wpAny_pure ⟨plainId_quiet F.plain_all_loop _, all_loop (A := X.A) hr.hd (by have := hr.dp; omega) rfl rfl (fun _ _ => trivial) T.length s5 (Nat.le_refl _) st (by rw [Nat.sub_self, List.drop_zero]; exact hnb) fun b h m H s' eb I hh n => ?_⟩
  rw [Nat.sub_self, List.drop_zero] at eb
  have eb' : cAll T hf = .ok (.d (.bool b)) h := eb
  rw [eb'] at p
  exact ⟨.bl b, H, gnew_end N I, rfl, p m H n hh _ (rB_ b)⟩
end Mi

set_option Elab.async false
set_option linter.all false
set_option maxRecDepth 100000
set_option maxHeartbeats 4000000
namespace Mi
open PySem PySem.Spec PyProof.Rows L2 GenW

/-! ## what has come out stands in a list -/
def CL (S : Addr) (vs : List V) (h : Heap) : Prop := ∃ acc c, h.get? S = some (lstObj acc c) ∧ Vals vs acc.toList
theorem cl_st {S : Addr} : ∀ vs h h', (∀ b ∈ [S], ∀ o, h.get? b = some o → h'.get? b = some o) → CL S vs h → CL S vs h' := fun vs h h' k ⟨acc, c, e, r⟩ => ⟨acc, c, k S (by simp) _ e, r⟩
theorem drop_at {α : Type} {T : List α} {n : Nat} {y : α} (hle : n + 1 ≤ T.length) (eT : T[T.length - (n + 1)]? = some y) : T.drop (T.length - (n + 1)) = y :: T.drop (T.length - n) := by
  have hlt : T.length - (n + 1) < T.length := by omega
  rw [List.drop_eq_getElem_cons hlt]
  have e2 := List.getElem?_eq_getElem hlt
  rw [eT] at e2
  rw [← Option.some.inj e2]
  congr 1
  congr 1
  omega
section
variable {G : GP} {A : Around} {gn : Nat} {R : Result → Shared → Prop} {S : Addr} {res : Value}
theorem ext_loop (hh : A.handled = none) (hroom : A.depth < recursionLimit) (hB : A.in1.in1 = G.B) (hps : G.ps = [S]) (hC : G.C = CL S) (na : G.a ≠ S) (nc : cStatics ≠ S) (hz : G.T.length ≤ sizeLine)
    (hR : ∀ s' m H vs acc c, G.At G.T.length G.hf m H vs s' → s'.heap.get? S = some (lstObj acc c) → Vals vs acc.toList → R (.ok (.ret res)) s') : ∀ (n : Nat) (s : Shared), n ≤ G.T.length → GSt G gn n s →
    codeAny (model G.X.prog G.X.w) A (.builtin "list.extend.loop" ⟨[.ref S, .ref G.a, res], []⟩) R s := by
  have cst : ∀ vs h h', (∀ b ∈ G.ps, ∀ o, h.get? b = some o → h'.get? b = some o) → G.C vs h → G.C vs h' := by rw [hps, hC]; exact cl_st
  intro n
  induction n with
  | zero =>
    intro s hle st
    refine codeAny_builtin F.entry_extend_loop ?_
    rw [Around.under_plainId F.plain_extend_loop _]
    show wpAny _ A.in1 (pyNext (.ref G.a) >>= _) _ _ s
    refine wpAny_bind (gst_end (A := A.in1) cst hh hroom hB st fun s' m H vs at_ _ => ?_)
    obtain ⟨acc, c, e, r⟩ := (show CL S vs s'.heap by rw [← hC]; exact at_.cv)
    exact wpAny_pure (hR s' m H vs acc c at_ e r)
  | succ n ih =>
    intro s hle st
    refine codeAny_builtin F.entry_extend_loop ?_
    rw [Around.under_plainId F.plain_extend_loop _]
    show wpAny _ A.in1 (pyNext (.ref G.a) >>= _) _ _ s
    refine wpAny_bind (gst_item (A := A.in1) hh hroom hB (Nat.succ_pos n) hle st fun v s' h m H vs y u eT at_ rp rl kp wk => ?_)
    obtain ⟨acc, c, hS', rv⟩ := (show CL S vs s'.heap by rw [← hC]; exact at_.cv)
    have hlen : acc.size = G.T.length - (n + 1) := by
      have h1 := rv.length
      have h2 := at_.rv.length
      rw [List.length_map, List.length_take, Nat.min_eq_left (Nat.sub_le _ _)] at h2
      rw [Array.length_toList] at h1
      exact (h2.trans h1).symm
    show wpAny _ A.in1 (updateSeq S (·.push v) >>= _) _ _ _
    refine wpAny_bind ?_
    refine wpAny_updateSeq hS' rfl (wpAny_pure ⟨plainId_quiet F.plain_extend_loop _, ih _ (by omega) ?_⟩)
      (by rw [hlen]; omega) (by show (acc.push v).size ≤ sizeLine + 1; rw [Array.size_push, hlen]; omega)
    have eS := Heap.get?_update_self (Obj.mapSeq (·.push v)) hS' rfl
    refine wk _ ⟨rfl, at_.inv.bare, fun b o hb e => ?_, fun b hb => ?_⟩ (by rw [hps]; simpa using na) (by rw [hps]; simpa using nc) rfl ?_
    · rw [hps] at hb
      exact (Heap.get?_update_other _ _ (fun h : S = b => hb (by rw [h]; simp))).trans e
    · rw [hps] at hb
      rw [List.mem_singleton.mp hb]
      exact ⟨_, eS, fun v q => by cases q⟩
    · rw [hC]
      exact ⟨acc.push v, _, eS, by rw [Array.toList_push]; exact rv.append (.cons rl .nil)⟩
end
theorem collect_g {X : Cx} {cs : List Tb} {k : Nat} {z : List Addr} {pins : List (Addr × Obj)} {σ : L2.St} {own : List (Str × Nat)} {e : Sl} {tg iter elt : Expr} {ifs : List Expr} {scope : Scope} {pos : Pos} {m0 : List Addr} {H0 : Hp} {xs : List PV} {src : Option Nat} {h4 : Cells}
    {a : Addr} {s5 s4 : Shared} {H4 : Hp} {m4 : List Addr} {code : Value} {fp : List Addr} {it : Addr} {J : It} {tn : Nat → Heap → Prop} {gn : Nat} {g : MG} {t : ME Bool} {fe : ME PV} {T : List (PV × Cells)} {hf : Cells} {A : Around} {E1 : Value → Shared → Prop} {Q : List Value → Shared → Prop}
    (N : GNew X cs z pins σ (own.map (·.2)) e tg iter elt ifs scope pos m0 H0 xs src h4 a s5 s4 H4 m4 code fp it J tn gn) (E : GEl X cs k scope (own.map (·.2)) tg elt ifs g t fe) (hco : scope.isCoroutine = false)
    (hT : gTr g t fe src xs (wipeE e (own.map (·.2))) xs h4 = some (T, hf)) (hz : T.length ≤ sizeLine) (hA : A.handled = none) (hF : A.frames = some X.stack) (hroom : A.depth < recursionLimit) (hr : Room k (A.in1.in1.deeper (genEnv scope (cloFrom X.env.cells scope.names []) s4.heap.objs.size code builtinsNs X.env)))
    (hQ : ∀ s' m H vs us, Inv X pins σ H s' → HRel X.K cs m z hf H → Nx m4 z H4 m H → RepAll X.K m z H (T.map (·.1)) vs → Vals vs us → Q us s') :
    wpAny (model X.prog X.w) A (collect (.ref a)) Q E1 s5 := by
  have alt : a < s5.heap.objs.size := let ⟨o, _, _, ho, _⟩ := N.gen; Heap.lt_size ho
  have hSI : s5.heap.objs.size ≠ a := Nat.ne_of_gt alt
  have I5 := N.i5 A.in1.in1 hA hF
  have hcl : cStatics < s5.heap.objs.size := let ⟨_, hns, _⟩ := I5.nolimit; hns.lt
  unfold collect
  refine wpAny_bind (wpAny_runValue (codeAny_builtin F.entry_proto_collect ?_))
  rw [Around.under_plainId F.plain_proto_collect _]
  show wpAny _ A.in1 (newList [] >>= fun l => again (.builtin "list.__iadd__" ⟨[l, .ref a], []⟩)) _ _ s5
  refine wpAny_bind (wpAny_newObj_type ?_)
  refine wpAny_pure ⟨plainId_quiet F.plain_list_iadd _, codeAny_builtin F.entry_list_iadd ?_⟩
  rw [Around.under_plainId F.plain_list_iadd _]
  have g1 : ∀ {h : Heap}, (∀ o, s5.heap.get? a = some o → h.get? a = some o) → h.IsGen a gn := fun k => isGen_keep N.gen k
  show wpAny _ A.in1 (Builtin.List.listExtendWith (.ref s5.heap.objs.size) (.ref a) (.ref s5.heap.objs.size)) _ _ _
  unfold Builtin.List.listExtendWith
  have k1 : ∀ b o, s5.heap.get? b = some o → (s5.heap.push { cls := .type "list", data := .seq ([] : List Value).toArray }).get? b = some o := fun b o e => Heap.get?_push_of_some _ e
  refine wpAny_bind (wpAny_typeOf (Heap.IsGen.typeIs (s := { s5 with heap := _ }) (g1 (k1 a))) ?_)
  have h1 : Builtin.List.listSameRef (.ref s5.heap.objs.size) (.ref a) = false := by simp [Builtin.List.listSameRef, hSI]
  have h2 : (Value.type "generator" == Value.type "list") = false := by decide
  have h3 : (Value.type "generator" == Value.type "tuple") = false := by decide
  simp only [h1, h2, h3, Bool.or_false, Bool.false_eq_true, if_false]
  refine wpAny_bind (wpAny_pyIter_gen (s := { s5 with heap := _ }) (g1 (k1 a)) ?_)
  refine wpAny_bind (wpAny_holding ?_)
  unfold Builtin.List.listLengthHint
  refine wpAny_bind (wpAny_specialOf (Heap.IsGen.typeIs (s := { s5 with heap := _ }) (g1 (k1 a))) F.gen_no_len ?_)
  show wpAny _ A.in1 (specialOf (Value.ref a) (Str.ofString "__length_hint__") >>= _) _ _ _
  refine wpAny_bind (wpAny_specialOf (Heap.IsGen.typeIs (s := { s5 with heap := _ }) (g1 (k1 a))) F.gen_no_hint ?_)
  refine wpAny_pure ?_
  show wpAny _ A.in1 (rule "list.extend.makes-room" >>= fun _ => Builtin.List.listTouch (.ref s5.heap.objs.size) >>= fun _ =>
    again (.builtin "list.extend.loop" ⟨[.ref s5.heap.objs.size, .ref a, .ref s5.heap.objs.size], []⟩)) _ _ _
  refine wpAny_bind (wpAny_rule ?_)
  have hS1 : (s5.heap.push { cls := .type "list", data := .seq ([] : List Value).toArray }).get? s5.heap.objs.size = some { cls := .type "list", data := .seq ([] : List Value).toArray } := Heap.get?_push_size _ rfl
  refine wpAny_bind ?_
  show wpAny _ A.in1 (updateSeq s5.heap.objs.size (·.push .none) >>= fun _ => updateSeq s5.heap.objs.size (·.pop)) _ _ _
  refine wpAny_bind (wpAny_updateSeq hS1 rfl ?_)
  have hS2 := Heap.get?_update_self (Obj.mapSeq (·.push Value.none)) hS1 rfl
  refine wpAny_updateSeq (hz := by seq_fits) hS2 rfl ?_
  have hS3 := Heap.get?_update_self (Obj.mapSeq (·.pop)) hS2 rfl
  have oth : ∀ b o, s5.heap.get? b = some o → (((s5.heap.push { cls := .type "list", data := .seq ([] : List Value).toArray }).update s5.heap.objs.size (Obj.mapSeq (·.push Value.none))).update s5.heap.objs.size (Obj.mapSeq (·.pop))).get? b = some o :=
    fun b o e => (Heap.get?_update_other _ _ (Ne.symm (Nat.ne_of_lt (Heap.lt_size e)))).trans ((Heap.get?_update_other _ _ (Ne.symm (Nat.ne_of_lt (Heap.lt_size e)))).trans (k1 b o e))
  obtain ⟨Fx, st⟩ := gnew_st N E hco hT A.in1.in1 hA hF hr [s5.heap.objs.size] (CL s5.heap.objs.size) (fun b hb => by rw [List.mem_singleton.mp hb]; exact Nat.le_refl _) cl_st
    (s := { s5 with heap := ((s5.heap.push { cls := .type "list", data := .seq ([] : List Value).toArray }).update s5.heap.objs.size (Obj.mapSeq (·.push Value.none))).update s5.heap.objs.size (Obj.mapSeq (·.pop)) }) oth rfl rfl
    (fun b hb => by rw [List.mem_singleton.mp hb]; exact ⟨_, hS3, fun v q => by cases q⟩) ⟨_, _, hS3, .nil⟩
  refine wpAny_pure ⟨plainId_quiet F.plain_extend_loop _, ext_loop (A := A) (S := s5.heap.objs.size) hA hroom rfl rfl rfl (Ne.symm hSI) (Nat.ne_of_lt hcl) hz (fun s' m H vs acc c at_ e r => ?_) T.length _ (Nat.le_refl _) st⟩
  have I6 := gnew_end N at_.inv
  have rv := at_.rv
  rw [List.take_length] at rv
  show wpAny _ A (load s5.heap.objs.size >>= _) _ _ s'
  refine wpAny_bind (wpAny_load e ?_)
  exact wpAny_pure (hQ s' m H vs acc.toList I6 at_.hr at_.nx rv r)

/-! ### tuple(generator) -/
def cTup (T : List (PV × Cells)) (hf : Cells) : Out PV := if T.length ≤ sizeLine then .ok (mkT (T.map (·.1))) hf else .bad
theorem tuple_cons {X : Cx} {cs : List Tb} {k : Nat} (hr : Room (k + 1) X.A) : ConsR X cs k (.type "tuple") cTup := by
  intro z pins σ own e tg iter elt ifs scope pos m0 H0 xs src h4 a s5 s4 H4 m4 code fp it J tn gn g t fe T hf Q Wx N E hco hw hT p
  unfold cTup at p
  split at p
  · rename_i hz
    have hgt : s5.TypeIs (.ref a) "generator" := N.gen.typeIs
    have fin : ∀ s' m H vs us, Inv X pins σ H s' → HRel X.K cs m z hf H → Nx m4 z H4 m H → RepAll X.K m z H (T.map (·.1)) vs → Vals vs us →
        EP X pins σ Q (.ref s'.heap.objs.size) { s' with heap := s'.heap.push { cls := .type "tuple", data := .seq us.toArray } } := fun s' m H vs us I hh n rv r => by
      have hn := I.hok.fresh (Nat.le_refl s'.heap.objs.size)
      have hl : vs.length ≤ sizeLine := by rw [← rv.length, List.length_map]; exact hz
      exact ⟨.ref s'.heap.objs.size, _, I.laid (t' := s'.toks) (o := .tup vs) (fun b ob q => Heap.get?_push_of_some _ q) (Nat.le_refl _) ⟨hl, us, r, IsTup.new _ _⟩, rfl, p m _ (n.trans (Nx.new hn)) (hh.new hn) _ (rep_newT hh rv hn)⟩
    refine callType_codes (Q₁ := fun obj s₁ => s₁.TypeIs obj "tuple" ∧ EP X pins σ Q obj s₁) F.called_tuple (F.typeCall_tuple_1 _) F.entry_object_init ?_ fun obj s₁ h₁ => ?_
    · refine codeAny_of_tree ?_
      show wpAny _ X.A.in1.in1 (do checkBuiltinCall "tuple.__new__" ⟨[.type "tuple", .ref a], []⟩; again (.builtin "tuple.__new__" ⟨[.type "tuple", .ref a], []⟩)) _ _ s5
      refine wpAny_bind (wpAny_of_eq (F.newCall_tuple_1 _) (wpAny_pure ⟨plainId_quiet F.plain_tuple_new _, codeAny_builtin F.entry_tuple_new ?_⟩))
      rw [Around.under_plainId F.plain_tuple_new _]
      have hsub := sub_tuple_self
      have hinit := init_tuple_lookup
      have hmh := madeHere_tuple
      have col : ∀ {E1 : Value → Shared → Prop} {Q1 : List Value → Shared → Prop}, (∀ s' us, us.length ≤ sizeLine → EP X pins σ Q (.ref s'.heap.objs.size) { s' with heap := s'.heap.push { cls := .type "tuple", data := .seq us.toArray } } → Q1 us s') → wpAny (model X.prog X.w) X.A.in1.in1 (collect (.ref a)) Q1 E1 s5 := fun {E1 Q1} hq =>
        collect_g N E hco hT hz hr.hd N.i4.ok.frames (by have := hr.dp; show X.A.depth < _; omega) (room_gen hr _ rfl (by show X.A.units + 1 + 1 + 1 + 1 ≤ _; omega) hr.hd) fun s' m H vs us I hh n rv r => hq s' us (by rw [← r.length, ← rv.length, List.length_map]; exact hz) (fin s' m H vs us I hh n rv r)
      wp_walk using wpAny_typeOf hgt, col
      intro s' us hlen hep
      show wpAny _ _ (Builtin.Tuple.tupleExact us.toArray >>= fun v => ret v) _ _ _
      unfold Builtin.Tuple.tupleExact
      refine wpAny_bind (wpAny_newObj_type ?_ (by show us.toArray.size ≤ sizeLine; rw [List.size_toArray]; exact hlen))
      refine wpAny_pure ?_
      exact ⟨⟨_, Heap.get?_push_size _ rfl, rfl⟩, hep⟩
    · exact ⟨h₁.1, F.args_object_init_2 obj _, object_init_meets F.called_tuple.init.lookup F.called_tuple.made (by decide) X.prog X.w X.A.in1 _ s₁ ⟨h₁.1, rfl, h₁.2⟩⟩
  · exact p.elim
end Mi

set_option Elab.async false
set_option linter.all false
set_option maxRecDepth 100000
set_option maxHeartbeats 4000000
namespace Mi
open PySem PySem.Spec PyProof.Rows L2 GenW

/-! ## lambdas -/
def LamO (f c' : Addr) (q : Str) (params : Arguments) (body : Expr) (scope : Scope) (cl : List (Str × Addr)) : HO := .ext fun h => ∃ pm ctv, h.get? f = some (PySem.W.kla_obj "<lambda>" q params body scope cl pm c' ctv)
theorem lamO_ne {f c' : Addr} {q : Str} {params : Arguments} {body : Expr} {scope : Scope} {cl : List (Str × Addr)} (ps : Array Value) : LamO f c' q params body scope cl ≠ .tbl ps := fun e => by unfold LamO at e; cases e
theorem lamO_ok {P : Program} {w : World} {H : Hp} {h : Heap} {f c' : Addr} {q : Str} {params : Arguments} {body : Expr} {scope : Scope} {cl : List (Str × Addr)} {pm ctv : Value} (e : h.get? f = some (PySem.W.kla_obj "<lambda>" q params body scope cl pm c' ctv)) : ObjOk P w H h f (LamO f c' q params body scope cl) :=
  ⟨⟨pm, ctv, e⟩, ⟨_, e⟩, fun h1 h2 ⟨pm, ctv, e⟩ st => ⟨pm, ctv, st _ e⟩⟩
structure LamTab (X : Cx) (cs : List Tb) (pos : Pos) : Prop where
  ex : ∃ c P, X.env.code = .ref c ∧ LamX.TabB X.base X.mg c P ∧ ∃ t ∈ cs, t.P = P ∧ t.q = X.env.qual ++ "<lambda>" ∧ (pos.line, pos.col) ∈ t.lam ∧ ∀ t' ∈ cs, t'.P = P → t' = t
theorem nx_upd {m z : List Addr} {H H' : Hp} (k : ∀ b o, H b = some o → NoTb o → H' b = some o) (lv : ∀ b, H b ≠ none → H' b ≠ none) : Nx m z H m H' := ⟨⟨[], by simp, fun _ h => absurd h (by simp)⟩, fun b o _ h n => k b o h n, lv⟩
theorem HRel.tabL {K : PySem.W.Frag} {cs : List Tb} {m z : List Addr} {h : Cells} {H : Hp} {P c' : Addr} {ps : Array Value} {pos : Pos} {q : Str} {t : Tb} (r : HRel K cs m z h H) (hP : H P = some (.tbl ps)) (ht : TriplesOk ps.toList) (hm : P ∉ m) (hc : H c' = none) (hq : t.q = q) (hu : ∀ t' ∈ cs, t'.P = P → t' = t) :
    HRel K cs m z h (upd (upd H P (.tbl (ps ++ #[rawInt pos.line, rawInt pos.col, .ref c']))) c' (LamX.CodeO c' q)) ∧ Nx m z H m (upd (upd H P (.tbl (ps ++ #[rawInt pos.line, rawInt pos.col, .ref c']))) c' (LamX.CodeO c' q)) := by
  have nPc : P ≠ c' := ne_of_none hP hc
  have k : ∀ b o, H b = some o → NoTb o → upd (upd H P (.tbl (ps ++ #[rawInt pos.line, rawInt pos.col, .ref c']))) c' (LamX.CodeO c' q) b = some o := fun b o e nt => by
    rw [upd_ne (ne_of_none e hc), upd_ne (fun w => nt ps (by rw [w, hP] at e; exact (Option.some.inj e).symm))]; exact e
  have lv : ∀ b, H b ≠ none → upd (upd H P (.tbl (ps ++ #[rawInt pos.line, rawInt pos.col, .ref c']))) c' (LamX.CodeO c' q) b ≠ none := fun b e => by
    by_cases e1 : b = c'
    · rw [e1, upd_same]; simp
    · rw [upd_ne e1]
      by_cases e2 : b = P
      · rw [e2, upd_same]; simp
      · rw [upd_ne e2]; exact e
  have n := nx_upd (m := m) (z := z) k lv
  refine ⟨⟨r.len, r.nd, r.dz, fun a q => lv a (r.lv a q), fun i o a h1 h2 => (r.obj i o a h1 h2).nx n ?_, fun t' htc => ?_, r.tm⟩, n⟩
  · have h3 := List.mem_of_getElem? h2
    rw [upd_ne (fun (e : a = c') => r.lv a (.inl h3) (by rw [e]; exact hc)), upd_ne (fun (e : a = P) => hm (e ▸ h3))]
  obtain ⟨ps', h1, h2, h3⟩ := r.tb t' htc
  have eL : (ps ++ #[rawInt pos.line, rawInt pos.col, .ref c']).toList = ps.toList ++ [rawInt pos.line, rawInt pos.col, .ref c'] := by simp
  by_cases e : t'.P = P
  · rw [e, hP] at h1
    cases h1
    refine ⟨_, by rw [e, upd_ne nPc, upd_same], by rw [eL]; exact PySem.TriplesOk_snoc _ _ _ _ ht, fun p' cv hp hcv => ?_⟩
    rw [eL] at hcv
    rcases LamX.among_app _ ht hcv with w | w
    · obtain ⟨c0, e1, e2⟩ := h3 p' cv hp w
      exact ⟨c0, e1, k _ _ e2 LamX.codeO_ne⟩
    · refine ⟨c', w, ?_⟩
      rw [hu t' htc e, hq, upd_same]
  · refine ⟨ps', ?_, h2, fun p' cv hp hcv => ?_⟩
    · rw [upd_ne (ne_of_none h1 hc), upd_ne e]; exact h1
    · obtain ⟨c0, e1, e2⟩ := h3 p' cv hp hcv
      exact ⟨c0, e1, k _ _ e2 LamX.codeO_ne⟩
section
variable {X : Cx} {cs : List Tb} {pins : List (Addr × Obj)} {σ : L2.St} {H : Hp} {s : Shared} {m z : List Addr} {h : Cells} {params : Arguments} {body : Expr} {scope : Scope} {pos : Pos}
theorem lam_make3 {E : Value → Shared → Prop} {Q : Value → Shared → Prop} (I : Inv X pins σ H s) (hh : HRel X.K cs m z h H) (LT : LamTab X cs pos) (hdef : defaultsOf params X.env = ([], [])) (hfree : ∀ y ∈ scope.names, y.2 = .free → ∃ c, X.env.cells.lookup y.1 = some c)
    (hQ : ∀ (f c' : Addr) (H2 : Hp) (s' : Shared), Inv X pins σ H2 s' → HRel X.K cs m z h H2 → Nx m z H m H2 → H f = none → H2 f = some (LamO f c' (X.env.qual ++ "<lambda>") params body scope (cloFrom X.env.cells scope.names [])) → H2 c' = some (LamX.CodeO c' (X.env.qual ++ "<lambda>")) → Q (.ref f) s') :
    wpAny (model X.prog X.w) X.A (eval (.Lambda params body scope pos) X.env) Q E s := by
  obtain ⟨c, P, hcode, TB, t, htc, eP, eq, hpos, huq⟩ := LT.ex
  obtain ⟨ps, hP, ht, ha⟩ := hh.tb t htc
  have hPm : P ∉ m := by rw [← eP]; exact hh.tm t htc
  rw [eP] at hP
  refine PySem.W.kla_eval hdef ?_
  have bP : s.heap.BuiltinsAt X.mg P := TB.bm.keeps I.bk
  have hP' : s.heap.get? P = some { cls := .none, data := .fields ps } := I.hok P _ hP
  -- the lambda's object is laid
  have fin : ∀ (H1 : Hp) (h1 : Heap) (t1 : Tok) (c' : Addr) (ctv : Value), Inv X pins σ H1 { s with heap := h1, toks := t1 } → HRel X.K cs m z h H1 → Nx m z H m H1 → H1 c' = some (LamX.CodeO c' (X.env.qual ++ "<lambda>")) → s.heap.objs.size ≤ h1.objs.size →
      Q (.ref h1.objs.size) { s with heap := h1.push (PySem.W.kla_obj "<lambda>" (X.env.qual ++ "<lambda>") params body scope (cloFrom X.env.cells scope.names []) ((X.mg "__name__").getD .none) c' ctv), toks := t1 } := fun H1 h1 t1 c' ctv I1 r1 n1 hc1 hsz => by
    have hn := I1.hok.fresh (Nat.le_refl h1.objs.size)
    have I2 : Inv X pins σ (upd H1 h1.objs.size (LamO h1.objs.size c' (X.env.qual ++ "<lambda>") params body scope (cloFrom X.env.cells scope.names []))) { s with heap := h1.push (PySem.W.kla_obj "<lambda>" (X.env.qual ++ "<lambda>") params body scope (cloFrom X.env.cells scope.names []) ((X.mg "__name__").getD .none) c' ctv), toks := t1 } :=
      I1.laid (t' := t1) (fun b o e => Heap.get?_push_of_some _ e) (Nat.le_refl _) (lamO_ok (Heap.get?_push_size _ rfl))
    exact hQ h1.objs.size c' _ _ I2 (r1.new hn) (n1.trans (Nx.new hn)) (I.hok.fresh hsz) upd_same (upd_of hn hc1)
  cases hc : codeAmong pos ps.toList with
  | none =>
    refine PySem.W.kla_makeFunction (mg := X.mg) (c := c) (P := P) (ps := ps) (closure_ok hfree) I.ok.glob (I.mod.glob.keeps I.bk) hcode (TB.code.keeps I.bk) hP' ht hc TB.gP bP fun c' ctv h' tk hx hge hlt hrec htb => ?_
    obtain ⟨c2, oc, vs, tt, e2, hoc, hd, hv⟩ := hrec
    cases e2
    have nC : H c' = none := I.hok.fresh hge
    have I1 := LamX.inv_table (t' := tk) (more := #[rawInt pos.line, rawInt pos.col, .ref c']) (h' := h') I hP hx htb hge ⟨oc, vs, tt, hoc, hd, hv⟩
    obtain ⟨r1, n1⟩ := hh.tabL (pos := pos) hP ht hPm nC eq huq
    exact fin _ h' tk c' ctv I1 r1 n1 upd_same (Nat.le_trans hge (Nat.le_of_lt hlt))
  | some cv =>
    obtain ⟨c', e, hco⟩ := ha pos cv hpos hc
    subst e
    rw [eq] at hco
    refine PySem.W.kla_makeFunctionHit (mg := X.mg) (c := c) (P := P) (ps := ps) (closure_ok hfree) I.ok.glob (I.mod.glob.keeps I.bk) hcode (TB.code.keeps I.bk) hP' ht hc bP fun ctv h' tk hx hsz => ?_
    exact fin H h' tk c' ctv (I.kept hx) hh (Nx.refl _ _ _) hco hsz
/-- x(), in the def that got the lambda -/
theorem lam_act {CXg : CXT} {Eg : XK} {Ng : List Str} {qg : Str} {sg : Scope} {g f c' : Addr} {cdg : Value} {k i : Nat} {a : Str} {pn : List (Addr × Obj)} {xe : Value → Shared → Prop} {W : WX} {E : XK} {tb : TE} {p1 p2 : Pos}
    (I : Inv X pins σ H s) (L : LamX.LamS X.env.scope scope)
    (hbind : ∀ (q : Str) (cl : List (Str × Addr)) (pm cv ctv : Value), bindArgs (PySem.W.kla_fn "<lambda>" q params body scope cl pm cv ctv) ⟨[], []⟩ = pure [])
    (tk : Takes ((cxOf CXg X.prog X.w X.K X.mg X.base Ng qg sg g cdg X.A X.stack s H Eg).tr pn xe) W) (hW : ∀ cls d σ' H', E cls d H' → W cls d σ' H') (hr : Room (k + 1) (X.A.deeper (envOfC qg sg s.heap.objs.size g cdg)))
    (hbody : ∀ (A : Around) (outer : List Env) (s : Shared) (H : Hp), Room k (A.deeper (LamX.lamEnv X scope s.heap.objs.size f c')) → PE (LamX.lamCx X A outer s H E scope f c') body tb)
    (hN : Ng[i]? = some a) (hv : Vis sg a) (hd : (a == ("__debug__" : Str)) = false := by decide) (hcd : (a == ("__classdict__" : Str)) = false := by decide) :
    PE ((cxOf CXg X.prog X.w X.K X.mg X.base Ng qg sg g cdg X.A X.stack s H Eg).tr pn xe) (.Call (.Name a p1) [] [] p2)
      (fun σZ HZ Q => σZ[i]? = some (some (.ref f)) ∧ HZ c' = some (LamX.CodeO c' (X.env.qual ++ "<lambda>")) ∧ HZ f = some (LamO f c' (X.env.qual ++ "<lambda>") params body scope (cloFrom X.env.cells scope.names [])) ∧ tb σ HZ Q) := by
  refine ⟨fun pinsZ sZ σZ HZ Q IZ h => ?_⟩
  obtain ⟨hs, hc, hf, ht⟩ := h
  refine wpAny_Call_Name_kw (thn ((pe_var (pos := p1) (i := i) hN hv hd hcd).run pinsZ sZ σZ HZ (fun v H1 => v = .ref f ∧ H1 = HZ) IZ ⟨.ref f, hs, rfl, rfl⟩) fun u s1 ⟨v, H1, I1, r1, q1⟩ => ?_)
  obtain ⟨ev, eH⟩ := q1
  subst ev
  rw [eH] at I1
  obtain rfl : u = Value.ref f := r1
  obtain ⟨⟨pm, ctv, of1⟩, _, _⟩ := I1.hok f _ hf
  refine PySem.W.callWith_F0 ⟨_, _, _, _, of1⟩ ?_
  have un : Un (frs X.stack) [] H HZ s.heap s1.heap := I1.base
  obtain ⟨⟨oc, vs, t, hoc, hdc, hvc⟩, _, _⟩ := I1.hok c' _ hc
  have rc : codeAny (model X.prog X.w) (X.A.deeper (envOfC qg sg s.heap.objs.size g cdg)) (.call (.ref f) ⟨[], []⟩) (CR (L2.CX X.prog X.w) (envOfC qg sg s.heap.objs.size g cdg :: X.stack) X.prog X.w HZ s1 Q E) s1 := by
    refine PySem.W.kla_callFunE hr.depth of1 rfl L.co L.gen rfl ⟨c', oc, vs, t, rfl, hoc, hdc, hvc⟩ ?_
    rw [hbind]
    refine wpAny_pure (wpAny_newFunctionEnv (fun y hy => (L.own y hy).2) (fun y hy => absurd hy (by simp)) (fun h₁ hns hsb => ⟨I1.nolimit.fresh _ hsb, ?_⟩) L.kind)
    show codeAny _ _ (.expr body (LamX.lamEnv X scope s1.heap.objs.size f c')) _ _
    have kp : ∀ b o, s1.heap.get? b = some o → h₁.get? b = some o := fun b o e => hsb.extBut b o (Nat.ne_of_lt (Heap.lt_size e)) (Heap.get?_push_of_some _ e)
    have J := LamX.lam_start2 (A := X.A.deeper (envOfC qg sg s.heap.objs.size g cdg)) (E := E) (f := f) (c' := c') (tk := s1.toks + ([] : List (Str × Value)).length) I L I1.env0 hr.hd un hns kp
    refine PySem.W.kla_codeExpr (wpAny_mono ((hbody _ _ s1 HZ (hr.deeper _)).run [] _ _ HZ Q J ht) (fun v s' hq => ?_) fun e s' hq => hq)
    obtain ⟨w', H', J', rv, q⟩ := hq
    exact ⟨w', H', J'.os, J'.bare, J'.base, J'.hok, rv, q⟩
  have hx : Passes (L2.CX X.prog X.w) ((cxOf CXg X.prog X.w X.K X.mg X.base Ng qg sg g cdg X.A X.stack s H Eg).tr pn xe) E := passes_call tk hW
  refine wpAny_call (codeAny_mono rc fun r s' hq => ?_)
  cases r with
  | error e => exact hx pinsZ σZ HZ s1 e s' I1 hq
  | ok fl =>
    cases fl with
    | ret u => exact I1.after hq
    | next => exact False.elim hq
    | brk => exact False.elim hq
    | cont => exact False.elim hq
end

/-! ### the def that is given a lambda -/
structure Told (K : PySem.W.Frag) (mg : Str → Option Value) (x a : Str) (g CS : Addr) (ret : Str) : Prop where
  ex : ∃ (oc : Value) (od : Option Addr) (osl : Array (Option Value)) (pg : Arguments) (bg : List Stmt) (sg : Scope) (dV kV doc pm : Value) (an : Option Addr) (cdv ct : Value) (Ng : List Str),
    K.lookup g = some ⟨oc, od, .func (PySem.W.fnOf x x pg bg sg dV kV doc pm an cdv ct), osl⟩ ∧ PySem.W.codeIn K cdv x = true ∧ L2.Binds K (PySem.W.fnOf x x pg bg sg dV kV doc pm an cdv ct) [a] [] ∧ FnScope Ng [a] sg ∧ Ng[0]? = some a ∧ Vis sg a ∧
    ∀ X : Cx, X.K = K → X.mg = mg → ∀ q, LamX.GivesTo X Ng x sg g cdv bg a q (LamX.TTold K CS ret)
  at_ : mg x = some (.ref g)
  kp : PySem.W.keepIn K (.ref g) = true
  db : (x == ("__debug__" : Str)) = false
  da : (a == ("__debug__" : Str)) = false
  dc : (a == ("__classdict__" : Str)) = false
section
variable {X : Cx} {cs : List Tb} {pins : List (Addr × Obj)} {σ : L2.St} {H : Hp} {s : Shared} {params : Arguments} {body : Expr} {scope : Scope} {x a ret : Str} {g CS f c' : Addr} {k : Nat} {tb : XK → TE}
theorem told_run {Q : VK} {E1 : Value → Shared → Prop} (T : Told X.K X.mg x a g CS ret) (I : Inv X pins σ H s) (L : LamX.LamS X.env.scope scope) (hr : Room (k + 2) X.A)
    (hbind : ∀ (q : Str) (cl : List (Str × Addr)) (pm cv ctv : Value), bindArgs (PySem.W.kla_fn "<lambda>" q params body scope cl pm cv ctv) ⟨[], []⟩ = pure [])
    (hbody : ∀ (A : Around) (outer : List Env) (s : Shared) (H : Hp) (E : XK) (L : Addr), Room k (A.deeper (LamX.lamEnv X scope L f c')) → PE (LamX.lamCx X A outer s H E scope f c') body (tb E))
    (hf : H f = some (LamO f c' (X.env.qual ++ "<lambda>") params body scope (cloFrom X.env.cells scope.names []))) (hc : H c' = some (LamX.CodeO c' (X.env.qual ++ "<lambda>")))
    (h : LamX.TTold X.K CS ret (fun E H' Q' => tb E σ H' Q') H Q) :
    wpAny (model X.prog X.w) X.A (call (.ref g) [.ref f]) (fun u s' => CE X.stack X.prog X.w H s Q u s') E1 s := by
  obtain ⟨oc, od, osl, pg, bg, sg, dV, kV, doc, pm, an, cdv, ct, Ng, lk, hcg, hb, Sg, hNg, hva, hG⟩ := T.ex
  have rc : codeAny (model X.prog X.w) X.A (.call (.ref g) ⟨[.ref f], []⟩) (CR C8.CX0 X.stack X.prog X.w H s Q C8.E0) s := by
    refine LamX.run_ofS (N := Ng) (ps := [a]) (us := [.ref f]) (vs := [.ref f]) lk hcg Sg hr I.env0 (hb s [.ref f] I.kIn rfl) (.cons rfl .nil) rfl fun hr' => ?_
    obtain ⟨t', ht', hq'⟩ := hG X rfl rfl (X.env.qual ++ "<lambda>") f c' s H Q (fun E H' Q' => H' f = some (LamO f c' (X.env.qual ++ "<lambda>") params body scope (cloFrom X.env.cells scope.names [])) ∧ tb E σ H' Q')
      (fun W pn xe E p1 p2 tk hW => lam_act (i := 0) I L hbind tk hW hr' (fun A outer s H hr2 => hbody A outer s H E _ hr2) hNg hva T.da T.dc) hc ⟨hf, h⟩
    exact ⟨t', ht'.nox, hq'⟩
  refine wpAny_call (codeAny_mono rc fun r s2 hq => ?_)
  cases r with
  | error e => exact (show False from hq).elim
  | ok fl =>
    cases fl with
    | ret u => exact hq
    | next => exact False.elim hq
    | brk => exact False.elim hq
    | cont => exact False.elim hq
end
/-- told(lambda: e) -/
def mTold (fb : ME PV) (catch_ : Str → Bool) (ret : Str) : ME PV := fun e h => match fb e h with
  | .ok v h1 => .ok v h1
  | .ex c h1 => if catch_ c then .ok (.d (.str ret)) h1 else .bad
  | .bad => .bad
def CatchOk (K : PySem.W.Frag) (CS : Addr) (catch_ : Str → Bool) : Prop := ∀ c, catch_ c = true → PySem.W.exmOne K (.ref (He.ga K c)) (.ref CS) = some true
theorem told_tt {K : PySem.W.Frag} {cs : List Tb} {z m : List Addr} {σ : L2.St} {H : Hp} {Q : VK} {Wx : Str → Hp → Prop} {fb : ME PV} {catch_ : Str → Bool} {ret : Str} {CS : Addr} {e : Sl} {h : Cells} (hcat : CatchOk K CS catch_) (hret : PyData.strOk ret = true)
    (hs : SRel K m z H e σ) (hh : HRel K cs m z h H) (p : Po K cs z m H (RxE K z Q) Wx (mTold fb catch_ ret e h)) : LamX.TTold K CS ret (fun E H' Q' => tE K cs (WB E) fb σ H' Q') H Q := by
  refine ⟨m, z, e, h, hs, hh, ?_⟩
  unfold mTold at p
  cases q : fb e h with
  | ok v h1 => rw [q] at p; exact p
  | ex c h1 =>
    rw [q] at p
    simp only at p
    split at p
    · rename_i hc
      intro m' H' n' hh'
      exact ⟨true, hcat c hc, fun _ => p m' H' n' hh' _ (rS_ hret), fun q => by cases q⟩
    · exact p.elim
  | bad => rw [q] at p; exact p.elim
section
variable {X : Cx} {cs : List Tb} {W : WX} {params : Arguments} {body : Expr} {scope : Scope} {x a ret : Str} {g CS : Addr} {k : Nat} {fb : ME PV} {catch_ : Str → Bool} {p lpos pos : Pos}
/-- a lambda's body, in its own context -/
def LamEl (X : Cx) (cs : List Tb) (k : Nat) (scope : Scope) (body : Expr) (fb : ME PV) : Prop :=
  ∀ (A : Around) (outer : List Env) (s : Shared) (H : Hp) (E : XK) (f c' L : Addr), Room k (A.deeper (LamX.lamEnv X scope L f c')) → SE (LamX.lamCx X A outer s H E scope f c') cs (WB E) body fb
theorem s_told (T : Told X.K X.mg x a g CS ret) (hr : Room (k + 2) X.A) (hg : Gl X x) (LT : LamTab X cs lpos) (L : LamX.LamS X.env.scope scope) (hdef : defaultsOf params X.env = ([], []))
    (hbind : ∀ (q : Str) (cl : List (Str × Addr)) (pm cv ctv : Value), bindArgs (PySem.W.kla_fn "<lambda>" q params body scope cl pm cv ctv) ⟨[], []⟩ = pure []) (hcat : CatchOk X.K CS catch_) (hret : PyData.strOk ret = true) (hb : LamEl X cs k scope body fb) :
    SE X cs W (.Call (.Name x p) [.Lambda params body scope lpos] [] pos) (mTold fb catch_ ret) := by
  refine ⟨fun pins s σ H Q I ⟨m, z, e, h, hs, hh, pp⟩ => ?_⟩
  refine wpAny_Call_Name_kw (ld_glob I hg T.at_ ?_ T.db)
  refine PySem.W.callWith_K (h₀ := X.base) I.ok.mod.kin T.kp ?_ (by rfl) (by rfl)
  show wpAny _ _ (spliced ((false, eval (.Lambda params body scope lpos) X.env) :: backTo pos (starEach [] X.env))) _ _ s
  refine Calls.spliced_cons (lam_make3 I hh LT hdef (L.has I.ok) fun f c' H2 s' I2 hh2 n2 _ hf hc => ?_)
  refine Calls.spliced_nil ⟨I2.kIn, ?_⟩
  refine wpAny_mono (told_run (tb := fun E => tE X.K cs (WB E) fb) T I2 L hr hbind (fun A outer s H E LL hr2 => hb A outer s H E f c' LL hr2) hf hc (told_tt hcat hret (hs.nx n2) hh2 (pp.step n2))) (fun u s2 hq => I2.after hq) fun _ _ x => x
end
end Mi

set_option Elab.async false
set_option linter.all false
set_option maxRecDepth 100000
set_option maxHeartbeats 4000000
namespace Mi
open PySem PySem.Spec PyProof.Rows L2 GenW

/-! ## a list of lambdas, each one told -/
structure LamD where
  params : Arguments
  body : Expr
  scope : Scope
  pos : Pos
  fb : ME PV
def LamD.ex (l : LamD) : Expr := .Lambda l.params l.body l.scope l.pos
structure LamD.Ok (X : Cx) (cs : List Tb) (k : Nat) (l : LamD) : Prop where
  tab : LamTab X cs l.pos
  ls : LamX.LamS X.env.scope l.scope
  dfl : defaultsOf l.params X.env = ([], [])
  bind : ∀ (q : Str) (cl : List (Str × Addr)) (pm cv ctv : Value), bindArgs (PySem.W.kla_fn "<lambda>" q l.params l.body l.scope cl pm cv ctv) ⟨[], []⟩ = pure []
  el : LamEl X cs k l.scope l.body l.fb
/-- the lambda's object and its code object -/
def LamAt (X : Cx) (m : List Addr) (H : Hp) (l : LamD) (f : Addr) : Prop := ∃ c', f ∉ m ∧ c' ∉ m ∧ H f = some (LamO f c' (X.env.qual ++ "<lambda>") l.params l.body l.scope (cloFrom X.env.cells l.scope.names [])) ∧ H c' = some (LamX.CodeO c' (X.env.qual ++ "<lambda>"))
inductive LamsAt (X : Cx) (m : List Addr) (H : Hp) : List LamD → List Addr → Prop
  | nil : LamsAt X m H [] []
  | cons {l : LamD} {f : Addr} {ls : List LamD} {fs : List Addr} : LamAt X m H l f → LamsAt X m H ls fs → LamsAt X m H (l :: ls) (f :: fs)
theorem noTb_lam {f c' : Addr} {q : Str} {params : Arguments} {body : Expr} {scope : Scope} {cl : List (Str × Addr)} : NoTb (LamO f c' q params body scope cl) := lamO_ne
theorem Nx.notm {m z m' : List Addr} {H H' : Hp} (n : Nx m z H m' H') {a : Addr} (hm : a ∉ m) {o : HO} (h : H a = some o) : a ∉ m' := by
  obtain ⟨l, e, nl⟩ := n.pre
  rw [e]
  intro q
  rcases List.mem_append.mp q with q | q
  · exact hm q
  · rw [nl a q] at h; cases h
theorem LamAt.nx {X : Cx} {m z m' : List Addr} {H H' : Hp} {l : LamD} {f : Addr} (h : LamAt X m H l f) (n : Nx m z H m' H') : LamAt X m' H' l f := by
  obtain ⟨c', h1, h2, h3, h4⟩ := h
  exact ⟨c', n.notm h1 h3, n.notm h2 h4, n.kp f _ h1 h3 noTb_lam, n.kp c' _ h2 h4 LamX.codeO_ne⟩
theorem LamsAt.nx {X : Cx} {m z m' : List Addr} {H H' : Hp} {ls : List LamD} {fs : List Addr} (h : LamsAt X m H ls fs) (n : Nx m z H m' H') : LamsAt X m' H' ls fs := by
  induction h with
  | nil => exact .nil
  | cons a _ ih => exact .cons (a.nx n) ih
theorem LamsAt.get {X : Cx} {m : List Addr} {H : Hp} : ∀ {ls : List LamD} {fs : List Addr} {i : Nat} {l : LamD}, LamsAt X m H ls fs → ls[i]? = some l → ∃ f, fs[i]? = some f ∧ LamAt X m H l f
  | _, _, _, _, .nil, e => by simp at e
  | _, _, 0, _, .cons a _, e => by simp at e; subst e; exact ⟨_, rfl, a⟩
  | _, _, i + 1, l, .cons _ t, e => by
    obtain ⟨f, h1, h2⟩ := LamsAt.get (i := i) (l := l) t (by simpa using e)
    exact ⟨f, by simpa using h1, h2⟩
theorem LamsAt.length {X : Cx} {m : List Addr} {H : Hp} {ls : List LamD} {fs : List Addr} (h : LamsAt X m H ls fs) : ls.length = fs.length := by
  induction h with
  | nil => rfl
  | cons _ _ ih => simp [ih]
theorem codeO_dT {c : Addr} {q : Str} {xs : List (List Key × V)} : LamX.CodeO c q ≠ .dT xs := fun e => by unfold LamX.CodeO at e; cases e
theorem codeO_ins {c C dx : Addr} {q : Str} {xs : List (Str × V)} : LamX.CodeO c q ≠ .ins C dx xs := fun e => by unfold LamX.CodeO at e; cases e
theorem HRel.notCode {K : PySem.W.Frag} {cs : List Tb} {m z : List Addr} {h : Cells} {H : Hp} (hh : HRel K cs m z h H) {a c : Addr} {q : Str} (e : H a = some (LamX.CodeO c q)) : a ∉ m := fun qm => by
  obtain ⟨i, hi, ei⟩ := List.getElem_of_mem qm
  have h1 : h[i]? = some (h[i]'(by rw [hh.len]; exact hi)) := List.getElem?_eq_getElem _
  have h2 := hh.obj i _ a h1 (by rw [List.getElem?_eq_getElem hi, ei])
  generalize h[i]'(by rw [hh.len]; exact hi) = o at h2
  cases o with
  | lst xs => obtain ⟨vs, h3, _⟩ := h2; rw [e] at h3; exact codeO_lst (Option.some.inj h3)
  | dk xs => obtain ⟨vs, h3, _⟩ := h2; rw [e] at h3; exact codeO_dK (Option.some.inj h3)
  | dt xs => obtain ⟨vs, h3, _⟩ := h2; rw [e] at h3; exact codeO_dT (Option.some.inj h3)
  | ins c xs => obtain ⟨dx, vs, h3, _⟩ := h2; rw [e] at h3; exact codeO_ins (Option.some.inj h3)
def tLams (X : Cx) (cs : List Tb) (z : List Addr) (ls : List LamD) : TA := fun σ H Q => ∃ m h, HRel X.K cs m z h H ∧ ∀ fs H2, HRel X.K cs m z h H2 → Nx m z H m H2 → LamsAt X m H2 ls fs → Q (fs.map V.ref) H2
theorem pa_lams {X : Cx} {cs : List Tb} {k : Nat} {z : List Addr} : ∀ {ls : List LamD}, (∀ l ∈ ls, l.Ok X cs k) → PA X (ls.map LamD.ex) (tLams X cs z ls)
  | [], _ => ⟨fun _ _ _ _ H Q I ⟨m, h, hh, q⟩ => Calls.spliced_nil ⟨_, H, I, .nil, q [] H hh (Nx.refl _ _ _) .nil⟩⟩
  | l :: ls, ok => ⟨fun pos pins s σ H Q I ⟨m, h, hh, q⟩ => by
    have o := ok l (by simp)
    show wpAny _ _ (spliced ((false, eval (.Lambda l.params l.body l.scope l.pos) X.env) :: backTo pos (starEach (ls.map LamD.ex) X.env))) _ _ s
    refine Calls.spliced_cons (lam_make3 I hh o.tab o.dfl (o.ls.has I.ok) fun f c' H2 s' I2 hh2 n2 hn hf hc => ?_)
    have la : LamAt X m H2 l f := ⟨c', fun qm => hh.lv f (.inl qm) hn, hh2.notCode hc, hf, hc⟩
    exact thn ((pa_lams (fun l hl => ok l (List.mem_cons_of_mem _ hl))).run pos pins s' σ H2 (fun vs H3 => Q (V.ref f :: vs) H3) I2 ⟨m, h, hh2, fun fs H3 hh3 n3 hl => q (f :: fs) H3 hh3 (n2.trans n3) (.cons (la.nx n3) hl)⟩) fun us s3 ⟨vs, H3, I3, r3, q3⟩ => ⟨_, H3, I3, .cons (show RelV (V.ref f) (Value.ref f) from rfl) r3, q3⟩⟩
/-! ### [1 for f in bad if told(f) != 'E'] -/
def runBads (catch_ : Str → Bool) (ret : Str) (e : Sl) : List (ME PV) → Cells → Option Cells
  | [], h => some h
  | fb :: r, h => match mTold fb catch_ ret e h with
    | .ok (.d (.str x)) h1 => if x = ret then runBads catch_ ret e r h1 else none
    | _ => none
/-- told(f) in the block -/
theorem pe_toldB {X : Cx} {cs : List Tb} {pins : List (Addr × Obj)} {σ : L2.St} {s : Shared} {H0 : Hp} {m0 z : List Addr} {h0 : Cells} {e : Sl} {x a ret : Str} {g CS : Addr} {k i : Nat} {catch_ : Str → Bool} {scope : Scope} {cenv : Env} {fp : List Addr} {y : Str} {p1 p2 p3 : Pos} {l : LamD}
    (T : Told X.K X.mg x a g CS ret) (hr : Room (k + 2) X.A) (hcat : CatchOk X.K CS catch_) (hret : PyData.strOk ret = true) (ok : l.Ok X cs k) (I0 : Inv X pins σ H0 s) (hfp : ∀ b ∈ fp, FpOk X pins H0 b) (hs0 : SRel X.K m0 z H0 e σ)
    (hg : Gl (X.blk s H0 scope cenv fp) x) (hN : X.N[i]? = some y) (hv : Vis cenv.scope y) (hyd : (y == ("__debug__" : Str)) = false) (hyc : (y == ("__classdict__" : Str)) = false) :
    PE (X.blk s H0 scope cenv fp) (.Call (.Name x p1) [.Name y p2] [] p3) (fun σb H Q => ∃ f m h, σb[i]? = some (some (.ref f)) ∧ HRel X.K cs m z h H ∧ Nx m0 z H0 m H ∧ LamAt X m H l f ∧ Po X.K cs z m H (RxE X.K z Q) (fun _ _ => False) (mTold l.fb catch_ ret e h)) := by
  refine ⟨fun pinsb sb σb H Q I ⟨f, m, h, h1, hh, n, ⟨c', _, _, hf, hc⟩, pp⟩ => ?_⟩
  have db : (x == ("__debug__" : Str)) = false := T.db
  refine wpAny_Call_Name_kw (ld_glob I hg T.at_ ?_ db)
  refine PySem.W.callWith_K (h₀ := X.base) I.ok.mod.kin T.kp ?_ (by rfl) (by rfl)
  show wpAny _ _ (spliced ((false, eval (.Name y p2) cenv) :: backTo p3 (starEach [] cenv))) _ _ sb
  refine Calls.spliced_cons (thn ((pe_var (X := X.blk s H0 scope cenv fp) (pos := p2) (i := i) hN hv hyd hyc).run pinsb sb σb H (fun v H1 => v = .ref f ∧ H1 = H) I ⟨.ref f, h1, rfl, rfl⟩) fun u s1 ⟨v, H1, I1, r1, q1⟩ => ?_)
  obtain ⟨ev, eH⟩ := q1
  subst ev
  rw [eH] at I1
  obtain rfl : u = Value.ref f := r1
  refine Calls.spliced_nil ⟨I1.kIn, ?_⟩
  have I2 : Inv X pins σ H s1 := I0.call' (ch := fp) I1.os I1.base I1.hok I1.bare fun b hb => ⟨(hfp b hb).2.2.2.1, (hfp b hb).2.1, (hfp b hb).2.2.2.2.1, (hfp b hb).2.2.2.2.2⟩
  have q : wpAny (model X.prog X.w) X.A (call (.ref g) [.ref f]) (fun u s' => CE X.stack X.prog X.w H s1 Q u s') (fun _ _ => False) s1 :=
    told_run (X := X) (tb := fun E => tE X.K cs (WB E) l.fb) T I2 ok.ls hr ok.bind (fun A outer s H E LL hr2 => ok.el A outer s H E f c' LL hr2) hf hc (told_tt hcat hret (hs0.nx n) hh pp)
  show wpAny (model X.prog X.w) X.A (call (.ref g) [.ref f]) _ _ s1
  refine wpAny_mono q (fun u s2 hq => ?_) fun _ _ x => x.elim
  have hq' : CE (X.blk s H0 scope cenv fp).stack (X.blk s H0 scope cenv fp).prog (X.blk s H0 scope cenv fp).w H s1 Q u s2 := hq
  exact I1.after hq'

def tBadC (X : Cx) (cs : List Tb) (z : List Addr) (ls : List LamD) (catch_ : Str → Bool) (ret : Str) (ib : Nat) : TE := fun σ H Q => ∃ m h e D fs, σ[ib]? = some (some (.ref D)) ∧ H D = some (.lst (fs.map V.ref)) ∧ D ∉ m ∧ LamsAt X m H ls fs ∧ SRel X.K m z H e σ ∧ HRel X.K cs m z h H ∧
  match runBads catch_ ret e (ls.map LamD.fb) h with
  | some h' => ∀ m' H' D', Nx m z H m' H' → HRel X.K cs m' z h' H' → H' D' = some (.lst []) → D' ∉ m' → Q (.ref D') H'
  | none => False
theorem str_neq {x : Str} {b : Bool} (h : PyData.eqv (.str x) (.str x) = b) : b = true := by
  rw [← h]; simp [PyData.eqv]
theorem pe_badC {X : Cx} {cs : List Tb} {z : List Addr} {x a ret b y : Str} {g CS : Addr} {k iy ib : Nat} {catch_ : Str → Bool} {scope : Scope} {p1 p2 p3 p4 py pb pos c1 c2 : Pos} {j1 j2 : Nat} {ls : List LamD}
    (T : Told X.K X.mg x a g CS ret) (hr : Room (k + 2) X.A) (hcat : CatchOk X.K CS catch_) (hret : PyData.strOk ret = true) (hls : ∀ l ∈ ls, l.Ok X cs k) (hc : X.calm = true) (hN : X.N.Nodup)
    (ok : BlkOk X.N X.env.scope scope [(y, iy)]) (hib : X.N[ib]? = some b) (hvb : Vis X.env.scope b) (hbd : (b == ("__debug__" : Str)) = false) (hbc : (b == ("__classdict__" : Str)) = false)
    (hyl : scope.names.lookup y = some .local) (hyd : (y == ("__debug__" : Str)) = false) (hyc : (y == ("__classdict__" : Str)) = false)
    (hgx : ∀ (s : Shared) (H : Hp) (C : Addr) (cl : List (Str × Addr)) (fp : List Addr), Gl (X.blk s H scope (compEnvC scope cl C X.env) fp) x)
    (hm : behindInMarks .NotEq (.Constant (.str ret) j2 c2) = false) (hs : ∀ x, foldedSetIterable (.Name b pb) X.env x = pure x) :
    PE X (.ListComp (.Constant (.int 1) j1 c1) [⟨.Name y py, .Name b pb, [.Compare (.Call (.Name x p1) [.Name y p2] [] p3) [.NotEq] [.Constant (.str ret) j2 c2] p4], 0⟩] scope pos) (tBadC X cs z ls catch_ ret ib) := by
  refine ⟨fun pins s σ H Q I ⟨m, h, e, D0, fs, hσ, hD0, hDm, hla, hsr, hhr, pp⟩ => ?_⟩
  have hfree : ∀ y ∈ scope.names, y.2 = .free → ∃ c, X.env.cells.lookup y.1 = some c := fun y hy e => by
    rcases ok.free y hy e with k | k
    · exact I.ok.has _ (.inl k)
    · exact I.ok.has _ (.inr k)
  rw [eval_ListComp]
  refine wpAny_comprehension_free (use := none) rfl hs (closure_ok hfree) ok.kind (fun y hy e => by rw [ok.uniq y hy, e])
    (thn ((pi_list (tg := .Name y py) (pe_var (i := ib) hib hvb hbd hbc)).run pins s σ H (fun J H1 => J = Itl X.K D0 ∧ H1 = H) I ⟨.ref D0, hσ, D0, rfl, ⟨_, .inl (.inl hD0)⟩, rfl, rfl⟩) fun xv s1 hx => thn hx fun itv s2 h2 => ?_)
  obtain ⟨it, fp, tn, J, H2, e2, I2, Tu, st2, f2, eJ, eH⟩ := h2
  subst e2 eJ eH
  refine wpAny_newObj_type (newEnv_comp ?_) (by show 0 ≤ sizeLine; decide)
  generalize hD : s2.heap.objs.size = D
  have hDn : H2 D = none := I2.hok.fresh (Nat.le_of_eq hD)
  have nD := Nx.new (m := m) (z := z) (o := .lst []) hDn
  have hhr3 := hhr.new (o := .lst []) hDn
  have hsr3 := hsr.nx nD
  have hla3 := hla.nx nD
  have hDmD : D ∉ m := fun q => hhr.lv D (.inl q) hDn
  generalize hs3 : ({ s2 with heap := s2.heap.push { cls := .type "list", data := .seq ([] : List Value).toArray } } : Shared) = s3
  have I3 : Inv X pins σ (upd H2 D (.lst [])) s3 := by
    rw [← hs3]
    refine I2.laid (t' := s2.toks) (fun b o e => Heap.get?_push_of_some _ e) (Nat.le_of_eq hD) ⟨Nat.zero_le _, [], 0, .nil, ?_⟩
    rw [← hD]
    exact Heap.get?_push_size _ rfl
  have h3 : s3.heap = s2.heap.push { cls := .type "list", data := .seq ([] : List Value).toArray } := by rw [← hs3]
  have sz : ∀ b ∈ fp, b < s2.heap.objs.size := fun b hb => by
    obtain ⟨o, e, _⟩ := Tu.obj _ _ st2 b hb
    exact Heap.lt_size e
  have f3 : ∀ b ∈ fp, FpOk X pins (upd H2 D (.lst [])) b ∧ b < s3.heap.objs.size := fun b hb => by
    have hlt := sz b hb
    refine ⟨⟨?_, (f2 b hb).2⟩, by rw [h3, Heap.size_push]; exact Nat.lt_succ_of_lt hlt⟩
    rw [upd_ne (by rw [← hD]; exact Nat.ne_of_lt hlt)]
    exact (f2 b hb).1
  have st3 : tn 0 s3.heap := Tu.keep _ _ _ st2 fun b _ o e => by rw [h3]; exact Heap.get?_push_of_some _ e
  have I4 := block_start I3 ok hN f3
  have hgl := hgx s3 (upd H2 D (.lst [])) s3.heap.objs.size (cellsFrom (s3.heap.objs.size + 1) scope.names (cloFrom X.env.cells scope.names [])) fp
  show codeAny _ _ (.compStart (.ListComp (.Constant (.int 1) j1 c1) [⟨.Name y py, .Name b pb, [.Compare (.Call (.Name x p1) [.Name y p2] [] p3) [.NotEq] [.Constant (.str ret) j2 c2] p4], 0⟩] scope pos) 0 (.ref it) (.ref D) (compEnvC scope (cellsFrom (s3.heap.objs.size + 1) scope.names (cloFrom X.env.cells scope.names [])) s3.heap.objs.size X.env)) (compPost (model X.prog X.w) X.A X.xe none (EP X pins σ Q) (.ref D) s3.heap.objs.size) { s3 with heap := pushCells (s3.heap.push { cls := .type "dict", data := .dict #[] }) scope.names }
  have nfp : ∀ b ∈ fp, (upd H2 D (.lst [])) b = none := fun b hb => (f3 b hb).1.1
  have hyL : (compEnvC scope (cellsFrom (s3.heap.objs.size + 1) scope.names (cloFrom X.env.cells scope.names [])) s3.heap.objs.size X.env).scope.names.lookup y = some .local := lookup_relS_keep (by decide) hyl
  generalize hce : compEnvC scope (cellsFrom (s3.heap.objs.size + 1) scope.names (cloFrom X.env.cells scope.names [])) s3.heap.objs.size X.env = ce at I4 hgl hyL ⊢
  have cL : ce.locals = s3.heap.objs.size := by subst hce; rfl
  have hD3 : upd H2 D (.lst []) D = some (.lst []) := upd_same
  have hD03 : upd H2 D (.lst []) D0 = some (.lst (fs.map V.ref)) := upd_of hDn hD0
  generalize hH3 : upd H2 D (.lst []) = H3 at I3 I4 hgl nfp f3 hhr3 hsr3 hla3 hD3 hD03 nD
  generalize hs4 : ({ s3 with heap := pushCells (s3.heap.push { cls := .type "dict", data := .dict #[] }) scope.names } : Shared) = s4 at I4 ⊢
  have st4 : tn 0 s4.heap := Tu.keep _ _ _ st3 fun b _ o e => by rw [← hs4]; exact pushCells_keeps _ _ _ _ (Heap.get?_push_of_some _ e)
  have stat : ∀ {σ' : L2.St} {H' : Hp} {s' : Shared}, Inv (X.blk s3 H3 scope ce fp) [] σ' H' s' → (∀ b ∈ fp, H' b = none) → ∀ b ∈ fp, FpOk (X.blk s3 H3 scope ce fp) [] H' b := fun {σ' H' s'} I' hn b hb =>
    ⟨hn b hb, (I'.ok.exf b hb).1, I'.ok.exfs b hb, .inl hb, fun x c e => (I'.ok.exf b hb).2 x c e, fun p hp => absurd (show p ∈ ([] : List (Addr × Obj)) ++ [] from hp) (by simp)⟩
  have hNy : X.N[iy]? = some y := ok.ix (y, iy) (by simp)
  have hlen := hla.length
  have loop : codeAny (model X.prog X.w) X.A (.compLoop (.ListComp (.Constant (.int 1) j1 c1) [⟨.Name y py, .Name b pb, [.Compare (.Call (.Name x p1) [.Name y p2] [] p3) [.NotEq] [.Constant (.str ret) j2 c2] p4], 0⟩] scope pos) 0 (.ref it) (.ref D) ce) (compPost (model X.prog X.w) X.A X.xe none (EP X pins σ Q) (.ref D) s3.heap.objs.size) s4 := by
    refine compLoop_any (fun n s' => ∃ i H' m' h', n = ls.length - i ∧ i ≤ ls.length ∧ Inv (X.blk s3 H3 scope ce fp) [] (wipe σ [iy]) H' s' ∧ tn i s'.heap ∧ (∀ b ∈ fp, H' b = none) ∧ HRel X.K cs m' z h' H' ∧ Nx m z H3 m' H' ∧
      (match runBads catch_ ret e ((ls.drop i).map LamD.fb) h' with
        | some h' => ∀ m'' H'' D', Nx m z H2 m'' H'' → HRel X.K cs m'' z h' H'' → H'' D' = some (.lst []) → D' ∉ m'' → Q (.ref D') H''
        | none => False)) ?_ ls.length ⟨0, H3, m, h, rfl, Nat.zero_le _, I4, st4, nfp, hhr3, Nx.refl _ _ _, by rw [List.drop_zero]; exact pp⟩
    rintro n s5 ⟨i, H5, m5, h5, rfl, hle, I5, st5, n5, hh5, nx5, w5⟩
    have hD5 : H5 D = some (.lst []) := nx5.kp D _ hDmD hD3 noTb_lst
    have hD05 : H5 D0 = some (.lst (fs.map V.ref)) := nx5.kp D0 _ hDm hD03 noTb_lst
    by_cases hlt : i < ls.length
    · have hget : ls[i]? = some ls[i] := List.getElem?_eq_getElem hlt
      obtain ⟨f, hf, hlf⟩ := hla3.get hget
      have hlf5 := hlf.nx nx5
      have go : (Itl X.K D0).go i H5 := ⟨_, V.ref f, .inl (.inl hD05), by rw [List.getElem?_map, hf]; rfl⟩
      have ti := Tu.item (X.blk s3 H3 scope ce fp) rfl rfl rfl hc i [] s5 _ H5 (fun _ _ => False) I5 (stat I5 n5) st5 go
      refine thnF ti fun r s6 ⟨u, hr', h6⟩ => ?_
      subst hr'
      refine thnF h6 fun _ s7 ⟨xx, H7, I7, r7, ⟨eH7, yx⟩, st7, n7⟩ => ?_
      subst eH7
      have ex := yx _ (.inl (.inl hD05))
      rw [List.getElem?_map, hf] at ex
      obtain rfl : V.ref f = xx := Option.some.inj ex
      have I7' := I7.pinned (stat I7 n7) (Tu.obj _ _ st7)
      -- the target
      have pg := (pg_name (X := X.blk s3 H3 scope ce fp) (pos := py) (i := iy) hN hNy (.inl hyL) (.inr hyL)).run _ s7 (wipe σ [iy]) H7 (V.ref f) u (fun σ' H' => σ' = (wipe σ [iy]).set iy (some (V.ref f)) ∧ H' = H7) I7' r7 ⟨rfl, rfl⟩
      refine thnF pg fun _ s8 ⟨σ8, H8, I8, e8, e9⟩ => ?_
      rw [e9] at I8
      rw [List.drop_eq_getElem_cons hlt, List.map_cons] at w5
      unfold runBads at w5
      cases qm : mTold (ls[i]).fb catch_ ret e h5 with
      | bad => rw [qm] at w5; exact w5.elim
      | ex c h9 => rw [qm] at w5; exact w5.elim
      | ok v h9 =>
        rw [qm] at w5
        have hv : v = .d (.str ret) ∧ (match runBads catch_ ret e ((ls.drop (i + 1)).map LamD.fb) h9 with
            | some h' => ∀ m'' H'' D', Nx m z H2 m'' H'' → HRel X.K cs m'' z h' H'' → H'' D' = some (.lst []) → D' ∉ m'' → Q (.ref D') H''
            | none => False) := by
          cases v with
          | d dd =>
            cases dd with
            | str xx =>
              simp only at w5
              by_cases qx : xx = ret
              · rw [if_pos qx] at w5
                subst qx
                exact ⟨rfl, w5⟩
              · rw [if_neg qx] at w5
                exact w5.elim
            | _ => exact w5.elim
          | _ => exact w5.elim
        obtain ⟨rfl, w6⟩ := hv
        have hmem : ls[i] ∈ ls := List.getElem_mem hlt
        have hiy : iy < σ.length := by
          have h1 := I.len
          rw [h1]
          exact (List.getElem?_eq_some_iff.mp hNy).1
        have pe1 := pe_toldB (h0 := h) (l := ls[i]) (p1 := p1) (p2 := p2) (p3 := p3) T hr hcat hret (hls _ hmem) I3 (fun b hb => (f3 b hb).1) hsr3 hgl hNy (.inl hyL) hyd hyc
        have pt := pts_one (pt_cmpR (pos := p4) (op_neM (X := X.blk s3 H3 scope ce fp) hr.units) pe1 (pe_str (x := ret) (j := j2) (pos := c2)) hm)
        refine thnF (pt.run _ s8 σ8 H7 (fun b' H' => b' = false ∧ ∃ m', Nx m5 z H7 m' H' ∧ HRel X.K cs m' z h9 H') I8 ?_) fun b' s9 ⟨H9, I9, eb, m9, n9, hh9⟩ => ?_
        · refine ⟨f, m5, h5, ?_, hh5, nx5, hlf5, ?_⟩
          · rw [e8, List.getElem?_set_self (by rw [wipe_length]; exact hiy)]
          · rw [qm]
            intro m' H' n' hh' u' ru
            rw [(rep_str ru).1]
            have hcan : PyData.canLay0 (.str ret) = true := by simpa [PyData.canLay0] using hret
            refine ⟨.str ret, .str ret, .str ret, .str ret, hcan, hcan, by simp [PyData.depth], false, ?_, rfl, m', n', hh'⟩
            simp [PyData.eqv]
        subst eb
        simp only [Bool.false_eq_true, if_false]
        have pin' : ∀ b ∈ fp, ∀ o, s7.heap.get? b = some o → s9.heap.get? b = some o ∧ H9 b = none := fun b hb o e =>
          let zz := I9.pin (b, o) (List.mem_append_right _ (List.mem_append_right _ (mem_pinsAt hb e)))
          ⟨zz.1, zz.2.1⟩
        refine ⟨ls.length - (i + 1), by omega, i + 1, H9, m9, h9, rfl, hlt, (I9.unpinned (pins := [])).weak (by rw [e8, List.length_set]) (fun j v e => ?_), Tu.keep _ _ _ st7 fun b hb o e => (pin' b hb o e).1, fun b hb => ?_, hh9, nx5.trans n9, w6⟩
        · rw [e8]
          by_cases hj : iy = j
          · subst hj
            have := (wipe_some e).2
            simp at this
          · rw [List.getElem?_set_ne hj]; exact e
        · obtain ⟨o, e, _⟩ := Tu.obj _ _ st7 b hb
          exact (pin' b hb o e).2
    · have ei : i = ls.length := by omega
      subst ei
      rw [List.drop_length, List.map_nil] at w5
      have stop : (Itl X.K D0).stop ls.length H5 := ⟨_, .inl (.inl hD05), by rw [List.length_map, ← hlen]; exact Nat.le_refl _⟩
      have td := Tu.done (X.blk s3 H3 scope ce fp) rfl rfl rfl hc ls.length [] s5 _ H5 (fun _ _ => False) I5 (stat I5 n5) st5 stop
      refine thnF td fun r s6 ⟨hr', I6⟩ => ?_
      subst hr'
      have I7 : Inv X pins σ H5 s6 := I3.call' (ch := fp) I6.os I6.base I6.hok I6.bare fun b hb => ⟨(f3 b hb).1.2.2.2.1, (f3 b hb).1.2.1, (f3 b hb).1.2.2.2.2.1, (f3 b hb).1.2.2.2.2.2⟩
      have nC : H5 s3.heap.objs.size = none := by
        have zz : H5 ce.locals = none := I6.free
        rw [cL] at zz
        exact zz
      obtain ⟨mm, hn, _⟩ := I6.loc
      have hn : s6.heap.Ns ce.locals mm := hn
      rw [cL] at hn
      have ff := I3.fpOk (Nat.le_refl _) nC
      refine ⟨mm, hn, fun h'' sb => ?_⟩
      obtain ⟨f0, f1, f2', f3', f4, f5⟩ := ff
      have w6 : ∀ m'' H'' D', Nx m z H2 m'' H'' → HRel X.K cs m'' z h5 H'' → H'' D' = some (.lst []) → D' ∉ m'' → Q (.ref D') H'' := w5
      exact ⟨.ref D, H5, I7.turned (t' := s6.toks) (fun b o hb e => (sb.2 b hb).trans e) f0 f1 f3' f4 f5, rfl, w6 m5 H5 D (nD.trans nx5) hh5 hD5 (nx5.notm hDmD hD3)⟩
  exact codeAny_compStart_list loop (Tu.self X.A 0 _ _ _ st4 loop)

theorem pa_ex {ι : Type} {X : Cx} {es : List Expr} {t : ι → TA} (h : ∀ i, PA X es (t i)) : PA X es (fun σ H Q => ∃ i, t i σ H Q) := ⟨fun pos pins s σ H Q I ⟨i, q⟩ => (h i).run pos pins s σ H Q I q⟩
theorem pe_ex {ι : Type} {X : Cx} {e : Expr} {t : ι → TE} (h : ∀ i, PE X e (t i)) : PE X e (fun σ H Q => ∃ i, t i σ H Q) := ⟨fun pins s σ H Q I ⟨i, q⟩ => (h i).run pins s σ H Q I q⟩
theorem SRel.forget {K : PySem.W.Frag} {m z : List Addr} {H : Hp} {e : Sl} {σ : L2.St} {i : Nat} {v : Option V} (s : SRel K m z H e σ) : SRel K m z H (e.set i none) (σ.set i v) := by
  refine ⟨by simp [s.len], fun j q h => ?_⟩
  by_cases hj : j = i
  · subst hj
    by_cases hl : j < e.length
    · rw [List.getElem?_set_self hl] at h; cases h
    · rw [List.getElem?_eq_none (by simpa using hl)] at h; cases h
  · rw [List.getElem?_set_ne (Ne.symm hj)] at h
    rw [List.getElem?_set_ne (Ne.symm hj)]
    exact s.at_ j q h
def mBads (ib : Nat) (fbs : List (ME PV)) (catch_ : Str → Bool) (ret : Str) (fr : MS) : MS := fun e h => if ib < e.length then (match runBads catch_ ret (e.set ib none) fbs h with
  | some h' => fr (e.set ib none) h'
  | none => .bad) else .bad
theorem s_bads {X : Cx} {cs : List Tb} {W : WX} {x a ret b y : Str} {g CS : Addr} {k iy ib : Nat} {catch_ : Str → Bool} {scope : Scope} {p1 p2 p3 p4 p5 p6 p7 p8 p9 p10 py pb pos c1 c2 : Pos} {j1 j2 : Nat} {ls : List LamD} {es : List Expr} {thenb rest : List Stmt} {fr : MS}
    (he : es = ls.map LamD.ex) (hr : Room (k + 2) X.A) (T : Told X.K X.mg x a g CS ret) (hcat : CatchOk X.K CS catch_) (hret : PyData.strOk ret = true) (hls : ∀ l ∈ ls, l.Ok X cs k) (hc : X.calm = true) (hN : X.N.Nodup)
    (ok : BlkOk X.N X.env.scope scope [(y, iy)]) (hib : X.N[ib]? = some b) (hlb : Loc X.env.scope b) (hfb : X.fn b = true ∨ X.env.scope.names.lookup b = some .local) (hbd : (b == ("__debug__" : Str)) = false) (hbc : (b == ("__classdict__" : Str)) = false)
    (hyl : scope.names.lookup y = some .local) (hyd : (y == ("__debug__" : Str)) = false) (hyc : (y == ("__classdict__" : Str)) = false)
    (hgx : ∀ (s : Shared) (H : Hp) (C : Addr) (cl : List (Str × Addr)) (fp : List Addr), Gl (X.blk s H scope (compEnvC scope cl C X.env) fp) x)
    (hm : behindInMarks .NotEq (.Constant (.str ret) j2 c2) = false) (hm2 : behindInMarks .NotEq (.List [] p5) = false) (hlen : ls.length ≤ sizeLine)
    (hR : SB X cs W rest fr)
    (hs : ∀ x, foldedSetIterable (.Name b pb) X.env x = pure x := by intro _; rfl) (hsw : swapsWith (.List es p8) (some (.Name b p9)) p10.line X.env = pure false := by rfl) :
    SB X cs W (.Assign [.Name b p9] (.List es p8) p10 :: .If (.Compare (.ListComp (.Constant (.int 1) j1 c1) [⟨.Name y py, .Name b pb, [.Compare (.Call (.Name x p1) [.Name y p2] [] p3) [.NotEq] [.Constant (.str ret) j2 c2] p4], 0⟩] scope pos) [.NotEq] [.List [] p5] p6) thenb [] p7 :: rest)
      (mBads ib (ls.map LamD.fb) catch_ ret fr) := by
  subst he
  have hvb : Vis X.env.scope b := hlb.elim .inl fun q => .inr (.inl q)
  have h1 := ps_set (pos := p10) (pos' := p9) hN hib hlb (pe_lst (pos := p8) (pa_ex fun z => pa_lams (k := k) (z := z) hls)) hsw hfb
  have h2 := ps_if (a := thenb) (pos := p7) (pt_cmpR (pos := p6) (op_neM hr.units) (pe_ex fun z => pe_badC (z := z) (p1 := p1) (p2 := p2) (p3 := p3) (p4 := p4) (py := py) (pb := pb) (pos := pos) (c1 := c1) (j1 := j1) T hr hcat hret hls hc hN ok hib hvb hbd hbc hyl hyd hyc hgx hm hs) (pe_lst (pos := p5) pa_nil) hm2) pss_never pss_nil
  refine pss_imp (pss_cons h1 (pss_cons h2 hR)) fun D σ H ⟨m, z, e, h, hsr, hhr, p⟩ => ?_
  unfold mBads at p
  split at p
  rotate_left
  · exact p.elim
  rename_i hie
  refine ⟨z, m, h, hhr, fun fs H2 hh2 n2 hla => ⟨by rw [List.length_map, ← hla.length]; exact hlen, fun D0 hD0 => ?_⟩⟩
  have hiσ : ib < σ.length := by rw [← hsr.len]; exact hie
  have hs2 := (hsr.nx n2).nx (Nx.new (o := .lst (fs.map V.ref)) hD0)
  refine ⟨z, m, h, e.set ib none, D0, fs, by rw [List.getElem?_set_self hiσ], upd_same, fun q => hh2.lv D0 (.inl q) hD0, hla.nx (Nx.new (z := z) hD0), hs2.forget, hh2.new hD0, ?_⟩
  cases q : runBads catch_ ret (e.set ib none) (ls.map LamD.fb) h with
  | none => rw [q] at p; exact p.elim
  | some h' =>
    rw [q] at p
    intro m' H' D' n' hh' hD' hDm'
    refine ⟨Nat.zero_le _, fun E hE => ?_⟩
    have n3 := n2.trans ((Nx.new (o := .lst (fs.map V.ref)) hD0).trans n')
    have hDE : upd H' E (.lst []) D' = some (.lst []) := upd_of hE hD'
    refine ⟨.list [], .list [], .lst (.inl (.inl hDE)) .nil, .lst (.inl (.inl upd_same)) .nil, by simp [PyData.canLay0, PyData.canLayAll0], by simp [PyData.canLay0, PyData.canLayAll0], by simp [PyData.depth, PyData.depthAll], false, ?_, ?_⟩
    · simp [PyData.eqv, PyData.eqvAll]
    · simp only [Bool.false_eq_true, if_false]
      refine ⟨m', z, e.set ib none, h', ?_, hh'.new hE, PoS.step p (n3.trans (Nx.new hE))⟩
      exact (hs2.nx (n'.trans (Nx.new hE))).forget
end Mi

set_option Elab.async false
set_option linter.all false
set_option maxRecDepth 100000
set_option maxHeartbeats 4000000
namespace Mi
open PySem PySem.Spec PyProof.Rows L2

/-! ## the head's facts, defs by name -/
structure Fx (fa : List He.Fa) (fn : List He.DefD) (K : PySem.W.Frag) (mg : Str → Option Value) : Prop where
  d : He.SaysD fa fn K
  glo : ∀ (i : Nat) (x : Str), fa[i]? = some (.glo x) → mg x = some (.ref (He.ga K x))
  free : ∀ (i : Nat) (x : Str), fa[i]? = some (.free x) → mg x = none
  int : ∀ (i : Nat) (x : Str) (n : Int), fa[i]? = some (.int x n) → ∃ t, mg x = some (.int n t)
  str : ∀ (i : Nat) (x z : Str), fa[i]? = some (.str x z) → ∃ t, mg x = some (.str z t)
theorem fx_of {fa : List He.Fa} {fn : List He.DefD} {K : PySem.W.Frag} {mg : Str → Option Value} {h : Heap} (X : K.In h) (G : h.Ns mainGlobals mg) (d : He.SaysD fa fn K) : Fx fa fn K mg where
  d := d
  glo := fun i x e => He.glo_ok X G (d.fact i e)
  free := fun i x e => He.free_ok X G (d.fact i e)
  int := fun i x n e => He.int_ok X G (d.fact i e)
  str := fun i x z e => He.str_ok X G (d.fact i e)
structure DefOk (P : Program) (w : World) (K : PySem.W.Frag) (mg : Str → Option Value) (base : Heap) (cs : List Tb) (k : Nat) (x : Str) (np : Nat) (dp : List PV) (f : MF) : Prop where
  ex : ∃ fd ps ds dvs, FnOk P w K mg base (L2.CX P w) k (He.ga K x) fd ps (spF K cs np f) ∧ ps.length = np ∧ Binds K fd ps ds ∧ Vals dvs ds ∧ DRep K dp dvs
  hm : mg x = some (.ref (He.ga K x))
  hk : PySem.W.keepIn K (.ref (He.ga K x)) = true
section
variable {fa : List He.Fa} {fn : List He.DefD} {P : Program} {w : World} {K : PySem.W.Frag} {mg : Str → Option Value} {base : Heap} {cs : List Tb}
theorem DefOk.sim {k : Nat} {x : Str} {np : Nat} {dp : List PV} {f g : MF} (D : DefOk P w K mg base cs k x np dp f)
    (h : ∀ pvs hc, pvs.length = np → WfH hc → bds hc.length pvs = true → Sim hc.length (f pvs hc) (g pvs hc)) : DefOk P w K mg base cs k x np dp g := by
  obtain ⟨fd, ps, ds, dvs, F, e, b, v, r⟩ := D.ex
  exact ⟨⟨fd, ps, ds, dvs, fn_sim F h, e, b, v, r⟩, D.hm, D.hk⟩
theorem def_mk (F : Fx fa fn K mg) {d : He.DefD} {x : Str} {N ps : List Str} {dp : List PV} {k : Nat} {fb : MS} (i j : Nat) (hd : fn[i]? = some d) (he : d.at_ = (x, none)) (hx : fa[j]? = some (.glo x)) (S : FnScope N ps d.scope)
    (bd : ∀ fd, FunD K d.name d.qual d.params d.body d.scope (d.dvs K) (d.kws K) (He.fAd K d.at_) fd → ∃ ds dvs, Binds K fd ps ds ∧ Vals dvs ds ∧ DRep K dp dvs)
    (hb : ∀ (cdv : Value) (A : Around) (outer : List Env) (s : Shared) (H : Hp) (E : XK), Room k (A.deeper (envOfC d.qual d.scope s.heap.objs.size (He.ga K x) cdv)) → SB (cxOf (L2.CX P w) P w K mg base N d.qual d.scope (He.ga K x) cdv A outer s H E) cs (WB E) d.body fb) :
    DefOk P w K mg base cs (k + 1) x ps.length dp (runF N.length fb) := by
  obtain ⟨fd, FD⟩ := F.d.def_ i hd
  obtain ⟨ds, dvs, b1, b2, b3⟩ := bd fd FD
  have e1 : He.fAd K d.at_ = He.ga K x := by rw [he]; rfl
  have kp := FD.kp
  rw [e1] at FD kp
  exact ⟨⟨fd, ps, ds, dvs, fn_mk FD S hb, rfl, b1, b2, b3⟩, F.glo j x hx, kp⟩
/-- without defaults -/
theorem bd_all {ps : List Str} {d : He.DefD} (h0 : d.dfl = [])
    (h : ∀ (kV doc pm : Value) (an : Option Addr) (cdv ct : Value) (us : List Value), us.length = ps.length → bindArgs (PySem.W.fnOf d.name d.qual d.params d.body d.scope .none kV doc pm an cdv ct) ⟨us, []⟩ = pure (ps.zip us)) :
    ∀ fd, FunD K d.name d.qual d.params d.body d.scope (d.dvs K) (d.kws K) (He.fAd K d.at_) fd → ∃ ds dvs, Binds K fd ps ds ∧ Vals dvs ds ∧ DRep K [] dvs := fun fd F => by
  have e : d.dvs K = [] := by unfold He.DefD.dvs; rw [h0]; rfl
  rw [e] at F
  exact ⟨[], [], F.bindsN h, .nil, dr_nil⟩
def ALen (fa : ME (List PV)) (n : Nat) : Prop := ∀ e h vs h1, fa e h = .ok vs h1 → vs.length = n
theorem al_nil : ALen aNil 0 := fun e h vs h1 q => by
  unfold aNil at q
  injection q with q1 q2
  rw [← q1]; rfl
theorem al_cons {f : ME PV} {g : ME (List PV)} {n : Nat} (t : ALen g n) : ALen (aCons f g) (n + 1) := fun e h vs h1 q => by
  unfold aCons at q
  cases q1 : f e h with
  | ok a h2 =>
    rw [q1] at q
    cases q2 : g e h2 with
    | ok b h3 =>
      have q' : (g e h2).bind (fun vs h2 => Out.ok (a :: vs) h2) = .ok vs h1 := q
      rw [q2] at q'
      have q3 : Out.ok (a :: b) h3 = .ok vs h1 := q'
      injection q3 with q4 q5
      rw [← q4, List.length_cons, t _ _ _ _ q2]
    | ex c h3 =>
      have q' : (g e h2).bind (fun vs h2 => Out.ok (a :: vs) h2) = .ok vs h1 := q
      rw [q2] at q'; cases q'
    | bad =>
      have q' : (g e h2).bind (fun vs h2 => Out.ok (a :: vs) h2) = .ok vs h1 := q
      rw [q2] at q'; cases q'
  | ex c h2 => rw [q1] at q; cases q
  | bad => rw [q1] at q; cases q
end
section
variable {X : Cx} {cs : List Tb} {W : WX} {x : Str} {p pos : Pos}
theorem s_fn {k np n : Nat} {g : MF} {a : Expr} {es : List Expr} {fa : ME (List PV)} {dp : List PV} (D : DefOk X.prog X.w X.K X.mg X.base cs k x np dp g) (tk : Takes X W) (hr : Room k X.A) (hg : Gl X x) (hl : ALen fa n) (hn : n + dp.length = np) (ha : SA X cs W (a :: es) fa)
    (hdb : (x == ("__debug__" : Str)) = false := by decide) (he : starEach (a :: es) X.env = (false, eval a X.env) :: starEach es X.env := by rfl) (hpl : (backTo pos (starEach es X.env)).any (·.1) = false := by rfl) :
    SE X cs W (.Call (.Name x p) (a :: es) [] pos) (mCallD g dp fa) := by
  obtain ⟨fd, ps, ds, dvs, F, e, b, v, r⟩ := D.ex
  exact s_call tk F hr hg D.hm D.hk b v r e (fun e h vs h1 q => by rw [List.length_append, hl _ _ _ _ q]; exact hn) ha hdb he hpl
theorem s_fn0 {k np : Nat} {g : MF} {dp : List PV} (D : DefOk X.prog X.w X.K X.mg X.base cs k x np dp g) (tk : Takes X W) (hr : Room k X.A) (hg : Gl X x) (hl : dp.length = np) (hdb : (x == ("__debug__" : Str)) = false := by decide) : SE X cs W (.Call (.Name x p) [] [] pos) (mCall0 g dp) := by
  obtain ⟨fd, ps, ds, dvs, F, e, b, v, r⟩ := D.ex
  exact s_call0 tk F hr hg D.hm D.hk b v r hl hdb
/-- raise C("..") -/
theorem s_raiseF {fa : List He.Fa} {fn : List He.DefD} {m : Str} {j : Nat} {p1 p2 p3 : Pos} (F : Fx fa fn X.K X.mg) (i k : Nat) (hi : fa[i]? = some (.glo x)) (hk : fa[k]? = some (.exc x)) (hc : X.calm = true) (tk : Takes X W) (hg : Gl X x) (hdb : (x == ("__debug__" : Str)) = false := by decide) :
    SS X cs W (.Raise (some (.Call (.Name x p1) [.Constant (.str m) j p2] [] p3)) none pos) (mRaise x) := by
  have q := He.exc_ok (F.d.fact k hk)
  exact s_raise hc tk hg (F.glo i x hi) q.1 q.2.1 q.2.2.1 q.2.2.2 hdb
/-- a fuel that is more than any list here -/
def FU : Nat := 1099511627776
end
/-! order of all data -/
abbrev oLt := opOrd (fun d e => PySem.W.dataLt d e) opLt
abbrev oGt := opOrd (fun d e => PySem.W.dataLt e d) opGt
abbrev oLe := opOrd (fun d e => !PySem.W.dataLt e d) opLe
abbrev oGe := opOrd (fun d e => !PySem.W.dataLt d e) opGe
section
variable {X : Cx} {cs : List Tb}
theorem op_ltU (hu : X.A.units + 64 < cLine) : OpR X (compareOp .Lt) (fun x y H Q => (rOrd (fun i j => decide (i < j)) ltS) x y H Q ∨ (rLtD X.K fun d e => PySem.W.dataLt d e) x y H Q) := op_ltM.or (op_ltD hu)
theorem op_gtU (hu : X.A.units + 64 < cLine) : OpR X (compareOp .Gt) (fun x y H Q => (rOrd (fun i j => decide (j < i)) fun x y => ltS y x) x y H Q ∨ (rLtD X.K fun d e => PySem.W.dataLt e d) x y H Q) := op_gtM.or (op_gtD hu)
theorem op_leU (hu : X.A.units + 64 < cLine) : OpR X (compareOp .LtE) (fun x y H Q => (rOrd (fun i j => decide (i ≤ j)) fun x y => !ltS y x) x y H Q ∨ (rLtD X.K fun d e => !PySem.W.dataLt e d) x y H Q) := op_leM.or (op_leD hu)
theorem op_geU (hu : X.A.units + 64 < cLine) : OpR X (compareOp .GtE) (fun x y H Q => (rOrd (fun i j => decide (j ≤ i)) fun x y => !ltS x y) x y H Q ∨ (rLtD X.K fun d e => !PySem.W.dataLt d e) x y H Q) := op_geM.or (op_geD hu)
theorem br_ltU {K : PySem.W.Frag} : Br K cs (fun x y H Q => (rOrd (fun i j => decide (i < j)) ltS) x y H Q ∨ (rLtD K fun d e => PySem.W.dataLt d e) x y H Q) oLt := br_ordD br_lt
theorem br_gtU {K : PySem.W.Frag} : Br K cs (fun x y H Q => (rOrd (fun i j => decide (j < i)) fun x y => ltS y x) x y H Q ∨ (rLtD K fun d e => PySem.W.dataLt e d) x y H Q) oGt := br_ordD br_gt
theorem br_leU {K : PySem.W.Frag} : Br K cs (fun x y H Q => (rOrd (fun i j => decide (i ≤ j)) fun x y => !ltS y x) x y H Q ∨ (rLtD K fun d e => !PySem.W.dataLt e d) x y H Q) oLe := br_ordD br_le
theorem br_geU {K : PySem.W.Frag} : Br K cs (fun x y H Q => (rOrd (fun i j => decide (j ≤ i)) fun x y => !ltS x y) x y H Q ∨ (rLtD K fun d e => !PySem.W.dataLt d e) x y H Q) oGe := br_ordD br_ge
end
end Mi
namespace Mi
open PySem PySem.Spec PyProof.Rows L2
section
variable {fa : List He.Fa} {fn : List He.DefD} {P : Program} {w : World} {K : PySem.W.Frag} {mg : Str → Option Value} {base : Heap} {cs : List Tb}
/-- the same, the code object known -/
theorem fn_mkC {x qual : Str} {params : Arguments} {body : List Stmt} {scope : Scope} {dvs : List V} {kws : List (Str × V)} {f : Addr} {fd : FuncData} {N ps : List Str} {k : Nat} {fb : MS} (F : FunD K x qual params body scope dvs kws f fd) (S : FnScope N ps scope) {p : He.Defn} (hf : He.fAd K p = f)
    (hb : ∀ (A : Around) (outer : List Env) (s : Shared) (H : Hp) (E : XK), Room k (A.deeper (envOfC qual scope s.heap.objs.size f (.ref (He.codeOf K p)))) → SB (cxOf (L2.CX P w) P w K mg base N qual scope f (.ref (He.codeOf K p)) A outer s H E) cs (WB E) body fb) :
    FnOk P w K mg base (L2.CX P w) (k + 1) f fd ps (spF K cs ps.length (runF N.length fb)) := by
  obtain ⟨oc, od, dV, kV, doc, pm, an, cdv, ct, osl, e, lk, hcd, _, _⟩ := F.ex
  obtain ⟨c, rfl⟩ := He.codeIn_ref hcd
  have ec : He.codeOf K p = c := He.codeOf_eq (by rw [hf]; exact lk) (by rw [e])
  rw [ec] at hb
  subst e
  refine fn_of lk hcd S (fun vs H Q E h => h.1) fun A outer s H vs Q E hr h => ⟨_, hb A outer s H E hr, ?_⟩
  obtain ⟨hl, m, z, hc, pvs, r, hh, p⟩ := h
  refine ⟨m, z, _, hc, srel_start (N := N) r, hh, ?_⟩
  unfold runF at p
  cases q : fb (pvs.map some ++ List.replicate (N.length - pvs.length) none) hc with
  | nx e1 h1 => rw [q] at p; exact fun m' σ' H' n hh' hs' => p m' H' n hh' .non rN_
  | rt v h1 => rw [q] at p; exact fun m' u H' n hh' hr' => p m' H' n hh' u hr'
  | ex c h1 => rw [q] at p; exact fun m' σ' H' n hh' => p m' H' n hh'
  | bk e1 h1 => rw [q] at p; exact p.elim
  | ct e1 h1 => rw [q] at p; exact p.elim
  | bad => rw [q] at p; exact p.elim
theorem def_mkC (F : Fx fa fn K mg) {d : He.DefD} {x : Str} {N ps : List Str} {dp : List PV} {k : Nat} {fb : MS} (i j : Nat) (hd : fn[i]? = some d) (he : d.at_ = (x, none)) (hx : fa[j]? = some (.glo x)) (S : FnScope N ps d.scope)
    (bd : ∀ fd, FunD K d.name d.qual d.params d.body d.scope (d.dvs K) (d.kws K) (He.fAd K d.at_) fd → ∃ ds dvs, Binds K fd ps ds ∧ Vals dvs ds ∧ DRep K dp dvs)
    (hb : ∀ (A : Around) (outer : List Env) (s : Shared) (H : Hp) (E : XK), Room k (A.deeper (envOfC d.qual d.scope s.heap.objs.size (He.ga K x) (.ref (He.codeOf K (x, none))))) → SB (cxOf (L2.CX P w) P w K mg base N d.qual d.scope (He.ga K x) (.ref (He.codeOf K (x, none))) A outer s H E) cs (WB E) d.body fb) :
    DefOk P w K mg base cs (k + 1) x ps.length dp (runF N.length fb) := by
  obtain ⟨fd, FD⟩ := F.d.def_ i hd
  obtain ⟨ds, dvs, b1, b2, b3⟩ := bd fd FD
  have e1 : He.fAd K d.at_ = He.ga K x := by rw [he]; rfl
  have kp := FD.kp
  rw [e1] at FD kp
  exact ⟨⟨fd, ps, ds, dvs, fn_mkC FD S (p := (x, none)) rfl hb, rfl, b1, b2, b3⟩, F.glo j x hx, kp⟩
/-- the defs' tables: tf the defs that have one, with their lambdas' places -/
def tbOf (K : PySem.W.Frag) (t : Str × List (Nat × Nat)) : Tb := ⟨(He.cT K (t.1, none)).1, (He.cT K (t.1, none)).2, t.1 ++ ".<locals>.<lambda>", t.2⟩
structure TabsF (K : PySem.W.Frag) (mg : Str → Option Value) (base : Heap) (tf : List (Str × List (Nat × Nat))) : Prop where
  tab : ∀ t ∈ tf, LamX.TabB base mg (He.cT K (t.1, none)).1 (He.cT K (t.1, none)).2
  inj : (tf.map fun t => (He.cT K (t.1, none)).2).Nodup
def clearOf (tf : List (Str × List (Nat × Nat))) (p : Nat × Nat) : Bool := tf.all fun t => !t.2.contains p
theorem code_at {X : Cx} {tf : List (Str × List (Nat × Nat))} {x : Str} {pos : Pos} (G : TabsF X.K X.mg X.base tf) (i : Nat) {l : List (Nat × Nat)} (hi : tf[i]? = some (x, l)) (hc : X.env.code = .ref (He.codeOf X.K (x, none))) (hp : clearOf tf (pos.line, pos.col) = true) : CodeAt X (tf.map (tbOf X.K)) pos := by
  have hm : (x, l) ∈ tf := List.mem_of_getElem? hi
  refine ⟨_, _, hc, ⟨(G.tab _ hm).code, (G.tab _ hm).bm, (G.tab _ hm).gP⟩, ⟨tbOf X.K (x, l), List.mem_map.mpr ⟨_, hm, rfl⟩, rfl⟩, fun t ht _ hq => ?_⟩
  obtain ⟨u, hu, rfl⟩ := List.mem_map.mp ht
  have := List.all_eq_true.mp hp u hu
  simp only [Bool.not_eq_true', List.contains_eq_mem, decide_eq_false_iff_not] at this
  exact this hq
end
end Mi

set_option Elab.async false
set_option linter.all false
set_option maxRecDepth 100000
set_option maxHeartbeats 4000000
namespace Mi
open PySem PySem.Spec PyProof.Rows L2
theorem _root_.L2.Room.units1 {k : Nat} {A : Around} (r : Room k A) : A.units + 1 < cLine := by have := r.un; omega
theorem _root_.L2.Room.units5 {k : Nat} {A : Around} (r : Room k A) : A.units + 65 < cLine := by have := r.un; omega
section
variable {X : Cx} {cs : List Tb} {W : WX} {tg l : Expr}
def iAny (f : ME PV) : ME (List PV × Option Nat) := iBoth (iBoth (iSeq f) (iTp f)) (iText f)
theorem i_any {f : ME PV} (hl : SE X cs W l f) : SI X cs W tg l (iAny f) := i_or (i_or (i_list hl) (i_tup hl)) (i_text hl)
end
/-! ### enumerate of a text -/
def ItES (x : Str) : It := ⟨fun i _ => i < x.cps.size, fun i H v H' => ∃ T c, v = .ref T ∧ H T = none ∧ H' = upd H T (.tup [.int (i : Nat), .str ⟨#[c]⟩]) ∧ x.cps[i]? = some c, fun i _ => x.cps.size ≤ i⟩
theorem turn_enumS {P : Program} {w : World} {K : PySem.W.Frag} {elts : List Expr} {kk : Nat} {tpos : Pos} (x : Str) (t : Tok) (e it : Addr) :
    Turn P w K (.Tuple elts kk tpos) (ItES x) [e, it] e (fun i h => i ≤ x.cps.size ∧ (∃ old, IsEnum h e it ((i : Nat) : Int) old) ∧ h.IsStrIter it (strIterType x) x t i ∧ e ≠ it) where
  mem := by simp
  obj := fun i h st b hb => by
    obtain ⟨_, ⟨old, he⟩, ⟨o, ho, hc, hd⟩, _⟩ := st
    have e' : b = e ∨ b = it := by simpa using hb
    rcases e' with z | z
    · rw [z]; exact ⟨_, he, fun v q => nomatch q⟩
    · rw [z]; exact ⟨o, ho, fun v q => by rw [hd] at q; cases q⟩
  keep := fun i h h' st k => let ⟨hle, ⟨old, he⟩, ⟨o, ho, r⟩, hne⟩ := st; ⟨hle, ⟨old, k e (by simp) _ he⟩, ⟨o, k it (by simp) _ ho, r⟩, hne⟩
  item := by
    intro X hP hw hK hc i pins s σ H E I hf st hg
    subst hP hw hK
    obtain ⟨_, ⟨old, he⟩, hit, hne⟩ := st
    have hel : e < s.heap.objs.size := Heap.lt_size he
    have hil : it < s.heap.objs.size := by obtain ⟨_, q, _⟩ := hit; exact Heap.lt_size q
    have D := Draws.text (prog := X.prog) (w := X.w) (A := X.A.in1) (I.ok.hd hc) it x t
    refine wpAny_pyNext_enum_itemD D he hit hg hne (by simpa using hne) fun v h' tk hv ho hit' hT hsz hk => ?_
    obtain ⟨c, u, hcx, rfl⟩ := hv
    refine ⟨_, rfl, wpAny_letOwnedTupleGo_enum (s := { s with heap := h', toks := tk + 1 }) ho fun h'' he' sb => ?_⟩
    have hT2 : h''.get? s.heap.objs.size = some { cls := .type "tuple", data := .seq #[.int i tk, .str ⟨#[c]⟩ u] } := (sb.2 _ (Nat.ne_of_gt hel)).trans hT
    have new : ObjOk X.prog X.w (upd H s.heap.objs.size (.tup [.int (i : Nat), .str ⟨#[c]⟩])) h'' s.heap.objs.size (.tup [.int (i : Nat), .str ⟨#[c]⟩]) :=
      ⟨by show 2 ≤ sizeLine; decide, [.int i tk, .str ⟨#[c]⟩ u], .cons ⟨_, rfl⟩ (.cons ⟨_, rfl⟩ .nil), ⟨_, hT2, rfl, _, rfl⟩⟩
    have I1 : Inv X pins σ (upd H s.heap.objs.size (.tup [.int (i : Nat), .str ⟨#[c]⟩])) { s with heap := h'', toks := tk + 1 } :=
      I.turnedNew (ch := [e, it]) (fun b ob hb q => (sb.2 b (fun z => hb (by simp [z]))).trans (hk b ob (fun z => hb (by simp [z])) (fun z => hb (by simp [z])) q)) hf (Nat.le_refl _) new
    obtain ⟨oi, ei, ri⟩ := hit'
    refine ⟨.ref s.heap.objs.size, _, I1, rfl, ⟨_, c, rfl, I.hok.fresh (Nat.le_refl _), rfl, hcx⟩, ⟨hg, ⟨.str ⟨#[c]⟩ u, ?_⟩, ⟨oi, (sb.2 it (Ne.symm hne)).trans ei, ri⟩, hne⟩, fun b hb => ?_⟩
    · have e1 : ((i + 1 : Nat) : Int) = (i : Int) + 1 := by omega
      rw [e1]; exact he'
    · have hb' : b < s.heap.objs.size := by
        have e' : b = e ∨ b = it := by simpa using hb
        rcases e' with z | z
        · rw [z]; exact hel
        · rw [z]; exact hil
      rw [upd_ne (Nat.ne_of_lt hb')]
      exact (hf b hb).1
  done := by
    intro X hP hw hK hc i pins s σ H E I hf st hg
    subst hP hw hK
    obtain ⟨hle, ⟨old, he⟩, hit, hne⟩ := st
    obtain ⟨f0, f1, f2, f3, f4, f5⟩ := hf it (by simp)
    have hi : i = x.cps.size := Nat.le_antisymm hle hg
    rw [hi] at hit
    exact wpAny_pyNext_enum_endD (Draws.text (prog := X.prog) (w := X.w) (A := X.A.in1) (I.ok.hd hc) it x t) he hit fun h' eb => ⟨rfl, I.turned (t' := s.toks) (fun b o hb q => eb b o hb q) f0 f1 f3 f4 f5⟩
  self := fun A i s Q E st h => let ⟨_, ⟨_, he⟩, _⟩ := st; wpAny_pyIter_enum he h
def iEnumSR (ta : TA) : TI := fun σ H R => ta σ H fun vs H1 => ∃ x, vs = [.str x] ∧ R (ItES x) H1
theorem pi_enumS {X : Cx} {e : Expr} {ta : TA} {p pos tpos : Pos} {elts : List Expr} {kk : Nat} (hg : Gl X "enumerate") (hm : X.mg "enumerate" = none) (ha : PA X [e] ta) (hs : starEach [e] X.env = [(false, eval e X.env)] := by rfl) :
    PI X (.Tuple elts kk tpos) (.Call (.Name "enumerate" p) [e] [] pos) (iEnumSR ta) := by
  refine ⟨fun pins s σ H R I h => ?_⟩
  refine Call_ (ld_blt I hg hm boot_enumerate (PyProof.Rows.callWith_type1 (thn (ha.run pos pins s σ H _ I h) fun us s1 ⟨vs, H1, I1, r1, q1⟩ => ?_) hs rfl))
  obtain ⟨x, ex, q⟩ := q1
  subst ex
  cases r1 with
  | cons r rr =>
    cases rr
    obtain ⟨t, rfl⟩ := r
    refine call_enumerate_str fun h' he hit hsz hk => wpAny_pyIter_enum he ?_
    have I2 : Inv X pins σ H1 { s1 with heap := h' } := I1.kept (t' := s1.toks) hk
    refine ⟨s1.heap.objs.size + 1, [s1.heap.objs.size + 1, s1.heap.objs.size], _, _, H1, rfl, I2, turn_enumS x t (s1.heap.objs.size + 1) s1.heap.objs.size, ⟨Nat.zero_le _, ⟨.none, he⟩, hit, Nat.succ_ne_self _⟩, fun b hb => ?_, q⟩
    have e' : b = s1.heap.objs.size + 1 ∨ b = s1.heap.objs.size := by simpa using hb
    have hle : s1.heap.objs.size ≤ b := by
      rcases e' with z | z
      · rw [z]; exact Nat.le_add_right _ _
      · rw [z]; exact Nat.le_refl _
    exact I1.fpOk hle (I1.hok.fresh hle)
theorem jok_enumS {K : PySem.W.Frag} {cs : List Tb} {z m : List Addr} {H : Hp} {x : Str} (o : PyData.strOk x = true) :
    JOk K cs z m H (x.cps.toList.mapIdx fun i c => mkT [.d (.int (i : Nat)), .d (.str ⟨#[c]⟩)]) none (ItES x) := fun z' m' h' H' f n hh _ => by
  refine ⟨fun i y hx => ?_, by show x.cps.size ≤ _; simp⟩
  rw [List.getElem?_mapIdx] at hx
  obtain ⟨c, ey, ex⟩ := Option.map_eq_some_iff.mp hx
  subst ex
  obtain ⟨hl, ej⟩ := List.getElem?_eq_some_iff.mp ey
  refine ⟨by show i < x.cps.size; simpa using hl, fun w H'' ⟨T, c', e, hn, eH, hw⟩ => ?_⟩
  subst e eH
  have e4 : x.cps[i]? = some c := by rw [← Array.getElem?_toList]; exact ey
  rw [e4] at hw
  obtain rfl := Option.some.inj hw
  refine ⟨Nx.new hn, hh.new hn, rep_pair hh (rI_ _) (rS_ ?_) hn⟩
  unfold PyData.strOk at o ⊢
  simp only [Array.all_eq_true', List.all_eq_true] at o ⊢
  intro y hy
  have : y = c := by simpa using hy
  subst this
  exact o _ (by first | (simpa using List.mem_of_getElem? ey) | exact Array.mem_of_getElem? e4)
def iEnumT (g : ME (List PV)) : ME (List PV × Option Nat) := fun e h => (g e h).bind fun vs h1 => match vs with
  | [.d (.str x)] => .ok (x.cps.toList.mapIdx fun i c => mkT [.d (.int (i : Nat)), .d (.str ⟨#[c]⟩)], none) h1
  | _ => .bad
theorem i_enumT {X : Cx} {cs : List Tb} {W : WX} {e : Expr} {g : ME (List PV)} {p pos tpos : Pos} {elts : List Expr} {kk : Nat} (hg : Gl X "enumerate") (hm : X.mg "enumerate" = none) (ha : SA X cs W [e] g) (hs : starEach [e] X.env = [(false, eval e X.env)] := by rfl) :
    SI X cs W (.Tuple elts kk tpos) (.Call (.Name "enumerate" p) [e] [] pos) (iEnumT g) :=
  pi_imp (pi_enumS hg hm ha hs) fun σ H R ⟨m, z, e, h, hs, hh, p⟩ => tA_then hs hh p fun vs h1 m1 H1 us hs1 hh1 r1 n1 p1 => by
    split at p1
    · obtain ⟨u, rfl, r2⟩ := rep1 r1
      obtain ⟨e1, o1⟩ := rep_str r2
      subst e1
      exact ⟨_, rfl, p1.here hh1 _ (jok_enumS o1)⟩
    · exact p1.elim
/-- a def of which nothing is said: the ground of a def that calls itself -/
theorem def_bad {fa : List He.Fa} {fn : List He.DefD} {P : Program} {w : World} {K : PySem.W.Frag} {mg : Str → Option Value} {base : Heap} {cs : List Tb} (F : Fx fa fn K mg) {d : He.DefD} {x : Str} {N ps : List Str} {dp : List PV} (i j : Nat) (hd : fn[i]? = some d) (he : d.at_ = (x, none)) (hx : fa[j]? = some (.glo x)) (S : FnScope N ps d.scope)
    (bd : ∀ fd, FunD K d.name d.qual d.params d.body d.scope (d.dvs K) (d.kws K) (He.fAd K d.at_) fd → ∃ ds dvs, Binds K fd ps ds ∧ Vals dvs ds ∧ DRep K dp dvs) : DefOk P w K mg base cs 1 x ps.length dp (fun _ _ => .bad) := by
  obtain ⟨fd, FD⟩ := F.d.def_ i hd
  obtain ⟨ds, dvs, b1, b2, b3⟩ := bd fd FD
  have e1 : He.fAd K d.at_ = He.ga K x := by rw [he]; rfl
  have kp := FD.kp
  rw [e1] at FD kp
  exact ⟨⟨fd, ps, ds, dvs, FD.ok S (k := 0) (fun vs H Q E h => h.1) fun cdv A outer s H vs Q E hr h => by obtain ⟨_, m, z, hc, pvs, r, hh, p⟩ := h; exact p.elim, rfl, b1, b2, b3⟩, F.glo j x hx, kp⟩
end Mi

set_option Elab.async false
set_option linter.all false
set_option maxRecDepth 100000
set_option maxHeartbeats 4000000
namespace Mi
open PySem PySem.Spec PyProof.Rows L2
/-! ### texts in order -/
def leS (a b : Str) : Bool := !ltS b a
def sortS (l : List Str) : List Str := l.mergeSort leS
theorem ltS_irr (a : Str) : ltS a a = false := by unfold ltS; simp
theorem leS_iff {a b : Str} : leS a b = true ↔ ¬ b.cps.toList < a.cps.toList := by unfold leS ltS; simp
theorem leS_trans (a b c : Str) (h1 : leS a b = true) (h2 : leS b c = true) : leS a c = true := by
  rw [leS_iff] at *
  intro h
  rcases List.le_total a.cps.toList b.cps.toList with q | q
  · have q1 : a.cps.toList ≤ b.cps.toList := q
    have : b.cps.toList ≤ c.cps.toList := h2
    exact (List.le_trans q1 this) h
  · have : b.cps.toList ≤ c.cps.toList := h2
    have q1 : a.cps.toList ≤ b.cps.toList := h1
    exact (List.le_trans q1 this) h
theorem leS_total (a b : Str) : (leS a b || leS b a) = true := by
  rw [Bool.or_eq_true, leS_iff, leS_iff]
  rcases List.le_total a.cps.toList b.cps.toList with q | q
  · exact .inl q
  · exact .inr q
theorem leS_anti {a b : Str} (h1 : leS a b = true) (h2 : leS b a = true) : a = b := by
  rw [leS_iff] at *
  have e : a.cps.toList = b.cps.toList := List.le_antisymm h1 h2
  obtain ⟨x⟩ := a
  obtain ⟨y⟩ := b
  have : x = y := by cases x; cases y; exact congrArg Array.mk e
  rw [this]
theorem sortS_perm (l : List Str) : (sortS l).Perm l := List.mergeSort_perm l leS
theorem sortS_pw (l : List Str) : (sortS l).Pairwise (fun a b => leS a b = true) := List.pairwise_mergeSort leS_trans leS_total l
theorem pw_rising : ∀ {l : List Str} {p : Str}, risingS p l = true → (p :: l).Pairwise (fun a b => leS a b = true)
  | [], p, _ => List.pairwise_singleton _ _
  | x :: r, p, h => by
    have h' : (!ltCps x.cps.toList p.cps.toList && risingS x r) = true := h
    rw [Bool.and_eq_true] at h'
    have t := pw_rising h'.2
    have hpx : leS p x = true := by
      unfold leS ltS
      rw [ltCps_eq] at h'
      exact h'.1
    refine List.pairwise_cons.mpr ⟨fun y hy => ?_, t⟩
    rcases List.mem_cons.mp hy with e | hy
    · rw [e]; exact hpx
    · exact leS_trans _ _ _ hpx (List.rel_of_pairwise_cons t hy)
theorem sortS_of {ys ks : List Str} (h : ys.Perm ks) (s : sortedS ys = true) : ys = sortS ks := by
  have pw : ys.Pairwise (fun a b => leS a b = true) := by
    cases ys with
    | nil => exact .nil
    | cons x r => exact pw_rising s
  exact List.Perm.eq_of_pairwise (fun a b _ _ => leS_anti) pw (sortS_pw ks) (h.trans (sortS_perm ks).symm)
def sortI (l : List Int) : List Int := l.mergeSort fun a b => decide (a ≤ b)
theorem sortI_perm' (l : List Int) : (sortI l).Perm l := List.mergeSort_perm l _
theorem sortI_pw (l : List Int) : (sortI l).Pairwise (· ≤ ·) := by
  have := List.pairwise_mergeSort (le := fun (a b : Int) => decide (a ≤ b)) (fun a b c h1 h2 => by simp at *; omega) (fun a b => by simp; omega) l
  exact this.imp (by simp)
theorem sortI_of {ys ks : List Int} (h : ys.Perm ks) (s : ys.Pairwise (· ≤ ·)) : ys = sortI ks :=
  List.Perm.eq_of_pairwise (fun a b _ _ x y => Int.le_antisymm x y) s (sortI_pw ks) (h.trans (sortI_perm' ks).symm)
/-! ### dict(a list of pairs) -/
def pairP (x : PV) : Option (Key × PV) := match asT x with
  | some [k, v] => (keyOf k).map fun q => (q, v)
  | _ => none
def pairsP : List PV → Option (List (Key × PV))
  | [] => some []
  | x :: r => match pairP x, pairsP r with
    | some p, some ps => some (p :: ps)
    | _, _ => none
def mergeP (kvs more : List (Key × PV)) : List (Key × PV) := more.foldl (fun acc kv => putP acc kv.1 kv.2) kvs
theorem KVR.merge {K : PySem.W.Frag} {m z : List Addr} {H : Hp} {more : List (Key × PV)} {mw : List (Key × V)} (r : KVR K m z H more mw) : ∀ {kvs : List (Key × PV)} {ws : List (Key × V)}, KVR K m z H kvs ws → KVR K m z H (mergeP kvs more) (mergeK ws mw) := by
  induction r with
  | nil => intro kvs ws h; exact h
  | @cons k x v xs vs r1 t ih =>
    intro kvs ws h
    exact ih (h.put r1)
theorem pairsP_rep {K : PySem.W.Frag} {m z : List Addr} {H : Hp} : ∀ {xs : List PV} {vs : List V} {kvs : List (Key × PV)}, RepAll K m z H xs vs → pairsP xs = some kvs →
    ∃ (ps : List Addr) (ws : List (Key × V)), vs = ps.map V.ref ∧ Paired (fun p kv => SqT K (fz m z H) p [kV kv.1, kv.2]) ps ws ∧ KVR K m z H kvs ws
  | [], _, _, h, e => by
    cases h
    obtain rfl := Option.some.inj e
    exact ⟨[], [], rfl, .nil, .nil⟩
  | x :: r, _, kvs, h, e => by
    cases h with
    | cons h t =>
      unfold pairsP at e
      split at e
      · rename_i p ps e1 e2
        obtain rfl := Option.some.inj e
        obtain ⟨as, ws, ev, pr, kv⟩ := pairsP_rep t e2
        unfold pairP at e1
        split at e1
        · rename_i k v ea
          obtain ⟨q, ek, ep⟩ := Option.map_eq_some_iff.mp e1
          subst ep
          obtain ⟨a, us, eu, sq, ra⟩ := asT_rep h ea
          obtain ⟨u1, u2, eus, r1, r2⟩ := rep2 ra
          subst eus eu
          have := keyOf_rep r1 ek
          subst this
          exact ⟨a :: as, (q, u2) :: ws, by rw [ev]; rfl, .cons sq pr, .cons r2 kv⟩
        · cases e1
      · cases e
def biDictP (vs : List PV) (h : Cells) : Out PV := match vs with
  | [v] => match asL v h with
    | some xs => match pairsP xs with
      | some kvs => .ok (.r h.length) (h ++ [.dk (mergeP [] kvs)])
      | none => .bad
    | none => .bad
  | _ => .bad
theorem bc_dictP {K : PySem.W.Frag} {cs : List Tb} : Bc K cs (fun xs H Q => ∃ (a : Addr) (ps : List Addr) (kvs : List (Key × V)), xs = [V.ref a] ∧ SqL K H a (ps.map V.ref) ∧ Paired (fun p kv => SqT K H p [kV kv.1, kv.2]) ps kvs ∧
    ∀ p, H p = none → Q (.ref p) (upd H p (.dK (mergeK [] kvs)))) biDictP := by
  intro m z H h vs us Q Wx hh r p
  unfold biDictP at p
  split at p
  · obtain ⟨u, rfl, r1⟩ := rep1 r
    split at p
    · rename_i xs ex
      split at p
      · rename_i kvs ek
        obtain ⟨a, ws, eu, hl, ra⟩ := asL_rep hh r1 ex
        subst eu
        obtain ⟨ps, kws, ev, pr, kv⟩ := pairsP_rep ra ek
        subst ev
        refine ⟨a, ps, kws, rfl, .inl (.inl hl), L2.Paired.mapP pr fun b q sq => SqT.top sq, fun b hb => ?_⟩
        have kv2 : KVR K (m ++ [b]) z (upd H b (.dK (mergeK [] kws))) (mergeP [] kvs) (mergeK [] kws) := (KVR.merge kv .nil).nx (Nx.cell hb)
        exact p (m ++ [b]) _ (Nx.cell hb) (hh.cell hb ⟨_, upd_same, kv2.keys, kv2.vals⟩) (.ref b) (rep_len hh)
      · exact p.elim
    · exact p.elim
  · exact p.elim
/-! ### sorted -/
def keysS : List (Key × PV) → Option (List Str)
  | [] => some []
  | (.inr x, _) :: r => (keysS r).map (x :: ·)
  | _ => none
theorem keysS_eq : ∀ {kvs : List (Key × PV)} {ks : List Str}, keysS kvs = some ks → kvs.map (·.1) = ks.map Sum.inr
  | [], _, e => by obtain rfl := Option.some.inj e; rfl
  | (.inr x, _) :: r, ks, e => by
    obtain ⟨t, e1, rfl⟩ := Option.map_eq_some_iff.mp (show (keysS r).map (x :: ·) = some ks from e)
    rw [List.map_cons, keysS_eq e1]; rfl
  | (.inl _, _) :: _, _, e => by cases e
def biSortedD (vs : List PV) (h : Cells) : Out PV := match vs with
  | [v] => match asDict v h with
    | some kvs => match keysS kvs with
      | some ks => if ks.length < 64 ∧ (ks.all PyData.strOk) = true then .ok (.d (.list ((sortS ks).map .str))) h else .bad
      | none => .bad
    | none => .bad
  | _ => .bad
theorem dd_strs {K : PySem.W.Frag} {F : Hp} : ∀ ns : List Str, DDAll K F (ns.map V.str) (ns.map .str)
  | [] => .nil
  | x :: r => .cons (.str x) (dd_strs r)
theorem can_strs : ∀ {ns : List Str}, ns.all PyData.strOk = true → PyData.canLayAll0 (ns.map .str) = true
  | [], _ => rfl
  | x :: r, h => by
    rw [List.all_cons, Bool.and_eq_true] at h
    simp [PyData.canLayAll0, PyData.canLay0, h.1, can_strs h.2]
theorem rep_strsN {K : PySem.W.Frag} {cs : List Tb} {m z : List Addr} {h : Cells} {H : Hp} {p : Addr} {ys : List Str} (hh : HRel K cs m z h H) (hn : H p = none) (o : ys.all PyData.strOk = true) : Rep K m z (upd H p (.lst (ys.map V.str))) (.d (.list (ys.map .str))) (.ref p) := by
  have e : mkL ((ys.map PyData.str).map PV.d) = .d (.list (ys.map .str)) := mkL_map _
  rw [← e]
  exact rep_newL hh (RepAll.of_dp (dd_strs ys) (can_strs o)) hn
theorem bc_sortedD {K : PySem.W.Frag} {cs : List Tb} : Bc K cs (fun xs H Q => ∃ (a : Addr) (kvs : List (Key × V)) (ks : List Str), xs = [V.ref a] ∧ Rd H a (.dK kvs) ∧ kvs.map (·.1) = ks.map Sum.inr ∧ ks.length < 64 ∧
    ∀ ys p, ys.Perm ks → sortedS ys = true → H p = none → Q (.ref p) (upd H p (.lst (ys.map V.str)))) biSortedD := by
  intro m z H h vs us Q Wx hh r p
  unfold biSortedD at p
  split at p
  · obtain ⟨u, rfl, r1⟩ := rep1 r
    split at p
    · rename_i kvs ex
      split at p
      · rename_i ks ek
        split at p
        · rename_i c
          obtain ⟨a, ws, eu, hl, kv⟩ := asDict_rep hh r1 ex
          subst eu
          refine ⟨a, ws, ks, rfl, .inl hl, by rw [← kv.keys]; exact keysS_eq ek, c.1, fun ys b hp hs hb => ?_⟩
          rw [sortS_of hp hs]
          refine p.new hh hb _ (rep_strsN hh hb ?_)
          rw [List.all_eq_true] at *
          exact fun y hy => c.2 y ((sortS_perm ks).mem_iff.mp hy)
        · exact p.elim
      · exact p.elim
    · exact p.elim
  · exact p.elim
end Mi

set_option Elab.async false
set_option linter.all false
set_option maxRecDepth 100000
set_option maxHeartbeats 4000000
namespace Mi
open PySem PySem.Spec PyProof.Rows L2
/-! ### sorted of data, any length -/
abbrev srtD (ds : List PyData) : List PyData := ds.mergeSort (PySem.W.dataLe false id)
def rSortedA (K : PySem.W.Frag) : List V → Hp → VK → Prop := fun xs H Q => ∃ (a : Addr) (vs : List V) (ds : List PyData) (R : V → PyData → Prop), xs = [V.ref a] ∧ SqL K H a vs ∧ Paired R vs ds ∧ (∀ v d, R v d → Dp K H v d) ∧
  PySem.W.AllAlike ds ∧ PySem.W.Sortable ds ∧ (∀ d ∈ ds, d.depth ≤ 60) ∧ ∀ ws p, Paired R ws (srtD ds) → H p = none → Q (.ref p) (upd H p (.lst ws))
theorem each_of {X : Cx} {pins : List (Addr × Obj)} {s : Shared} {σ : L2.St} {H : Hp} (I : L2.Inv X pins σ H s) {R : V → PyData → Prop} (hR : ∀ v d, R v d → Dp X.K H v d) : ∀ {vs : List V} {us : List Value} {ds : List PyData}, Vals vs us → Paired R vs ds →
    PySem.W.EachIs (fun v b => ∃ w, RelV w v ∧ R w b) us ds ∧ PySem.W.EachIs (fun v b => ∃ as, Reads s.heap v b as) us ds
  | [], _, _, .nil, .nil => ⟨.nil, .nil⟩
  | v :: vs, u :: us, d :: ds, .cons r t, .cons q p => by
    obtain ⟨h1, h2⟩ := each_of I hR t p
    exact ⟨.cons ⟨v, r, q⟩ h1, .cons (Dp.reads I d v u (hR _ _ q) r) h2⟩
theorem each_back {R : V → PyData → Prop} : ∀ {us : List Value} {ds : List PyData}, PySem.W.EachIs (fun v b => ∃ w, RelV w v ∧ R w b) us ds → ∃ ws, Vals ws us ∧ Paired R ws ds
  | _, _, .nil => ⟨[], .nil, .nil⟩
  | _, _, .cons ⟨w, r, q⟩ t => by
    obtain ⟨ws, h1, h2⟩ := each_back t
    exact ⟨w :: ws, .cons r h1, .cons q h2⟩
theorem cr_sortedA {X : Cx} (hu : X.A.units + 64 < cLine) : CallR X (.builtin "sorted") (rSortedA X.K) := by
  intro pins s σ H vs us Q I r h
  obtain ⟨a, xs, ds, R, rfl, hs, hp, hR, hal, hso, hd, q⟩ := h
  obtain ⟨its, rv, hl, hz⟩ := I.list hs
  rw [Vals.ref1 r]
  obtain ⟨e1, e2⟩ := each_of I hR rv hp
  have lp : xs.length = ds.length := Paired.length hp
  have li : ds.length = its.length := by rw [← lp]; exact rv.length
  refine PySem.W.sorted_data (bs := ds) (enc := id) (R := fun v b => ∃ w, RelV w v ∧ R w b) hl.isList e1 e2 (by rw [List.map_id]; exact hal) (by rw [List.map_id]; exact hso) (by rw [← lp]; exact hz) (fun b hb => by have := hd b hb; show X.A.units + 2 + b.depth < cLine; omega) fun out ho he => ?_
  obtain ⟨ws, hw, hpw⟩ := each_back he
  obtain ⟨ep, he'⟩ := PyProof.Rows.sortedAll_at s.heap its out.toArray
  have hlen : ws.length ≤ sizeLine := by rw [hw.length, ho, ← lp]; exact hz
  exact ⟨.ref _, upd H (s.heap.objs.size + 1) (.lst ws), I.laid (t' := s.toks) (fun _ _ => PyProof.Rows.sortedAll_old) (Nat.le_succ _) ⟨hlen, out, ep, hw, he'⟩, rfl, q ws _ hpw (I.hok.fresh (Nat.le_succ _))⟩

theorem items_each : ∀ (us : List Value) (cps : List Nat), us.length = cps.length → (∀ (j : Nat) (v : Value), us[j]? = some v → ∃ c u, cps[j]? = some c ∧ v = .str ⟨#[c]⟩ u) →
    PySem.W.EachIs (fun v b => ∃ c u, v = Value.str ⟨#[c]⟩ u ∧ b = PyData.str ⟨#[c]⟩) us (cps.map fun c => .str ⟨#[c]⟩)
  | [], [], _, _ => .nil
  | u :: us, c :: cps, hl, h => by
    obtain ⟨c', t, e1, e2⟩ := h 0 u rfl
    obtain rfl : c = c' := Option.some.inj e1
    exact .cons ⟨c, t, e2, rfl⟩ (items_each us cps (by simpa using hl) fun j v e => by
      obtain ⟨c', t, e1, e2⟩ := h (j + 1) v (by simpa using e)
      exact ⟨c', t, by simpa using e1, e2⟩)
  | [], _ :: _, hl, _ => by simp at hl
  | _ :: _, [], hl, _ => by simp at hl
theorem strs_back : ∀ {us : List Value} {ds : List PyData}, PySem.W.EachIs (fun v b => ∃ c u, v = Value.str ⟨#[c]⟩ u ∧ b = PyData.str ⟨#[c]⟩) us ds → ∃ ys : List Str, Vals (ys.map V.str) us ∧ ds = ys.map .str
  | _, _, .nil => ⟨[], .nil, rfl⟩
  | _, _, .cons ⟨c, u, e, e2⟩ t => by
    obtain ⟨ys, h1, h2⟩ := strs_back t
    exact ⟨⟨#[c]⟩ :: ys, .cons ⟨u, e⟩ h1, by rw [e2, h2]; rfl⟩
def signsD (x : Str) : List PyData := x.cps.toList.map fun c => .str ⟨#[c]⟩
def rSortedT : List V → Hp → VK → Prop := fun xs H Q => ∃ x, xs = [V.str x] ∧ x.cps.size ≤ sizeLine ∧ ∀ (ys : List Str) p, srtD (signsD x) = ys.map .str → H p = none → Q (.ref p) (upd H p (.lst (ys.map V.str)))
theorem alike_strs (l : List Nat) : PySem.W.AllAlike ((l.map fun c => PyData.str ⟨#[c]⟩)) := by
  intro d hd d' hd'
  obtain ⟨b, _, rfl⟩ := List.mem_map.mp hd
  obtain ⟨b', _, rfl⟩ := List.mem_map.mp hd'
  rfl
theorem sortable_strs (l : List Nat) : PySem.W.Sortable ((l.map fun c => PyData.str ⟨#[c]⟩)) := .inr fun d hd => by
  obtain ⟨b, _, rfl⟩ := List.mem_map.mp hd
  exact ⟨(by intro e; cases e), fun xs e => (by cases e)⟩
theorem cr_sortedT {X : Cx} (hc : X.calm = true) (hu : X.A.units + 64 < cLine) : CallR X (.builtin "sorted") rSortedT := by
  intro pins s σ H vs us Q I r h
  obtain ⟨x, rfl, hz, q⟩ := h
  obtain ⟨u, eu, rx⟩ := vals1 r
  subst eu
  obtain ⟨t, rfl⟩ := rx
  refine Calls.call_function_entry PyProof.Rows.kind_sorted PyProof.Rows.plain_sorted PyProof.Rows.entry_sorted (PyProof.Rows.args_sorted1 _) ?_
  unfold Builtin.«sorted»
  refine wpAny_bind (m := checkCount "sorted" 1 1 _) (wpAny_pure ?_)
  refine wpAny_bind (wpAny_collect_str (A := X.A.in1) (I.ok.hd hc) x t (fun s' acc hk hg hdr hos hacc => ?_) hz)
  have es : s' = { s with heap := s'.heap, toks := s'.toks } := by
    obtain ⟨a, b, c, d, e⟩ := s'
    obtain ⟨a2, b2, c2, d2, e2⟩ := s
    simp only at hg hdr hos
    subst hg hdr hos
    rfl
  have I1 : Inv X pins σ H s' := by rw [es]; exact I.kept hk
  have hal : acc.toList.length = x.cps.toList.length := by rw [Array.length_toList, hacc.1, Array.length_toList]
  have hle : acc.toList.length ≤ sizeLine := by rw [hal, Array.length_toList]; exact hz
  have EI := items_each acc.toList x.cps.toList hal fun j v e => by
    obtain ⟨c, w, e1, e2⟩ := hacc.2 j v (by rw [← Array.getElem?_toList]; exact e)
    exact ⟨c, w, by rw [Array.getElem?_toList]; exact e1, e2⟩
  refine wpAny_bind (wpAny_newList ?_ hle)
  have hoL : (s'.heap.push (seqObj "list" acc.toList.toArray 0)).get? s'.heap.objs.size = some (seqObj "list" acc.toList.toArray 0) := Heap.get?_push_size _ rfl
  show wpAny _ _ _ _ _ { s' with heap := s'.heap.push (seqObj "list" acc.toList.toArray 0) }
  have ER : ∀ hh : Heap, PySem.W.EachIs (fun v b => ∃ as, Reads hh v b as) acc.toList (signsD x) := fun hh => EI.mono fun v b ⟨c, w, e1, e2⟩ => by subst e1 e2; exact ⟨_, .str _ _⟩
  have S := PySem.W.SortsAt.data (prog := X.prog) (w := X.w) (A := X.A.in1.in1) (s := { s' with heap := PySem.W.sortingHeap (s'.heap.push (seqObj "list" acc.toList.toArray 0)) s'.heap.objs.size acc.toList }) (ER _) (alike_strs _) (sortable_strs _) (fun d hd => by
    obtain ⟨b, _, rfl⟩ := List.mem_map.mp hd
    show X.A.units + 1 + 1 + _ < cLine
    simp [PyData.depth]
    omega)
  have SV := PySem.W.sortVals_data (h' := PySem.W.sortingHeap (s'.heap.push (seqObj "list" acc.toList.toArray 0)) s'.heap.objs.size acc.toList) (enc := id) false EI (ER _) (by rw [List.map_id]; exact alike_strs _)
  rw [List.map_id] at SV
  obtain ⟨ys, g1, g2⟩ := strs_back SV
  refine wpAny_bind (wpAny_holding (wpAny_call_entry PyProof.Rows.slot_list_sort ⟨_, hoL, rfl⟩ PyProof.Rows.entry_list_sort
    (PySem.W.list_sort_vals (s := { s' with heap := s'.heap.push (seqObj "list" acc.toList.toArray 0) }) hoL S hle ?_)
    (PyProof.Rows.args_list_sort _)))
  refine ⟨_, rfl, wpAny_pure ⟨_, rfl, ?_⟩⟩
  obtain ⟨e', he'⟩ := PyProof.Rows.sortedHeap_at (vs := acc.toList) (out := (PySem.W.sortVals (PySem.W.dataKind (PySem.W.sortingHeap (s'.heap.push (seqObj "list" acc.toList.toArray 0)) s'.heap.objs.size acc.toList) (signsD x)) false acc.toList acc.toList).toArray) hoL
  have lo : ys.length = acc.toList.length := by
    have e1 := congrArg List.length g2
    rw [(List.mergeSort_perm _ _).length_eq, List.length_map, List.length_map] at e1
    rw [← e1, hal]
  have hlen : (ys.map V.str).length ≤ sizeLine := by rw [List.length_map, lo]; exact hle
  refine ⟨.ref s'.heap.objs.size, upd H s'.heap.objs.size (.lst (ys.map V.str)), I1.laid (t' := s'.toks) (fun b u e => ?_) (Nat.le_refl _)
    (show ObjOk X.prog X.w _ _ _ (.lst (ys.map V.str)) from ⟨hlen, _, e', g1, he'⟩), rfl, q ys _ g2 (I1.hok.fresh (Nat.le_refl _))⟩
  have hb : b < s'.heap.objs.size := Heap.lt_size e
  rw [PyProof.Rows.sortedHeap_old (Nat.ne_of_lt hb) (by rw [size_push']; exact Nat.lt_succ_of_lt hb)]
  exact Heap.get?_push_of_some _ e
/-- list(x) of a text -/
def rListT : List V → Hp → VK → Prop := fun xs H Q => ∃ x, xs = [V.str x] ∧ x.cps.size ≤ sizeLine ∧ ∀ p, H p = none → Q (.ref p) (upd H p (.lst (x.cps.toList.map fun c => V.str ⟨#[c]⟩)))
theorem cr_listT {X : Cx} (hc : X.calm = true) : CallR X (.type "list") rListT := by
  intro pins s σ H vs us Q I r h
  obtain ⟨x, rfl, hz, q⟩ := h
  obtain ⟨u, eu, rx⟩ := vals1 r
  subst eu
  obtain ⟨t, rfl⟩ := rx
  refine call_list_str (I.ok.hd hc) x t (fun h' tk acc' c' hk hS hacc => ?_) hz
  have hal : acc'.toList.length = x.cps.toList.length := by rw [Array.length_toList, hacc.1, Array.length_toList]
  have EI := items_each acc'.toList x.cps.toList hal fun j v e => by
    obtain ⟨c, w, e1, e2⟩ := hacc.2 j v (by rw [← Array.getElem?_toList]; exact e)
    exact ⟨c, w, by rw [Array.getElem?_toList]; exact e1, e2⟩
  obtain ⟨ys, g1, g2⟩ := strs_back EI
  have ey : ys.map V.str = x.cps.toList.map fun c => V.str ⟨#[c]⟩ := by
    have := congrArg (List.map fun d => match d with | .str y => V.str y | _ => V.non) g2
    rw [List.map_map, List.map_map] at this
    exact this.symm
  rw [ey] at g1
  have hlen : (x.cps.toList.map fun c => V.str ⟨#[c]⟩).length ≤ sizeLine := by rw [List.length_map, Array.length_toList]; exact hz
  exact ⟨.ref s.heap.objs.size, upd H s.heap.objs.size (.lst (x.cps.toList.map fun c => V.str ⟨#[c]⟩)), I.laid (t' := tk) (fun b u e => hk b u e) (Nat.le_refl _)
    (show ObjOk X.prog X.w _ _ _ (.lst _) from ⟨hlen, acc'.toList, c', g1, hS⟩), rfl, q _ (I.hok.fresh (Nat.le_refl _))⟩
/-! ### by outcomes -/
/-- in order already: the kernel need not sort -/
def pwB : List PyData → Bool
  | [] => true
  | x :: r => r.all (fun y => PySem.W.dataLe false id x y) && pwB r
theorem pwB_ok : ∀ {l : List PyData}, pwB l = true → l.Pairwise (fun a b => PySem.W.dataLe false id a b = true)
  | [], _ => .nil
  | x :: r, h => by
    have h' : (r.all (fun y => PySem.W.dataLe false id x y) && pwB r) = true := h
    rw [Bool.and_eq_true] at h'
    exact List.pairwise_cons.mpr ⟨fun y hy => List.all_eq_true.mp h'.1 y hy, pwB_ok h'.2⟩
def srtC (ds : List PyData) : List PyData := if pwB ds = true then ds else srtD ds
theorem srtC_eq (ds : List PyData) : srtC ds = srtD ds := by
  unfold srtC
  split
  · rename_i h
    exact (List.mergeSort_of_pairwise (pwB_ok h)).symm
  · rfl
def biSortedT (vs : List PV) (h : Cells) : Out PV := match vs with
  | [.d (.str x)] => if x.cps.size ≤ sizeLine then .ok (.d (.list (srtC (signsD x)))) h else .bad
  | _ => .bad
def biListT (vs : List PV) (h : Cells) : Out PV := match vs with
  | [.d (.str x)] => if x.cps.size ≤ sizeLine then .ok (.d (.list (signsD x))) h else .bad
  | _ => .bad
theorem sign_ok {x : Str} (o : PyData.strOk x = true) {c : Nat} (hc : c ∈ x.cps.toList) : PyData.strOk ⟨#[c]⟩ = true := by
  unfold PyData.strOk at *
  rw [← Array.all_toList] at o
  have := List.all_eq_true.mp o c hc
  simpa using this
theorem bc_sortedT {K : PySem.W.Frag} {cs : List Tb} : Bc K cs rSortedT biSortedT := by
  intro m z H h vs us Q Wx hh r p
  unfold biSortedT at p
  split at p
  · rename_i x
    obtain ⟨u, rfl, r1⟩ := rep1 r
    obtain ⟨e1, o1⟩ := rep_str r1
    subst e1
    split at p
    · rename_i hz
      refine ⟨_, rfl, hz, fun ys b e hb => ?_⟩
      rw [srtC_eq, e] at p
      refine p.new hh hb _ (rep_strsN hh hb ?_)
      rw [List.all_eq_true]
      intro y hy
      have h1 : PyData.str y ∈ srtD (signsD x) := by rw [e]; exact List.mem_map.mpr ⟨y, hy, rfl⟩
      obtain ⟨c, hc, ec⟩ := List.mem_map.mp ((List.mergeSort_perm _ _).mem_iff.mp h1)
      injection ec with ec
      rw [← ec]
      exact sign_ok o1 hc
    · exact p.elim
  · exact p.elim
theorem bc_listT {K : PySem.W.Frag} {cs : List Tb} : Bc K cs rListT biListT := by
  intro m z H h vs us Q Wx hh r p
  unfold biListT at p
  split at p
  · rename_i x
    obtain ⟨u, rfl, r1⟩ := rep1 r
    obtain ⟨e1, o1⟩ := rep_str r1
    subst e1
    split at p
    · rename_i hz
      refine ⟨_, rfl, hz, fun b hb => ?_⟩
      have e2 : signsD x = (x.cps.toList.map fun c => (⟨#[c]⟩ : Str)).map PyData.str := by rw [List.map_map]; rfl
      have e3 : (x.cps.toList.map fun c => V.str ⟨#[c]⟩) = (x.cps.toList.map fun c => (⟨#[c]⟩ : Str)).map V.str := by rw [List.map_map]; rfl
      rw [e2] at p
      rw [e3]
      refine p.new hh hb _ (rep_strsN hh hb ?_)
      rw [List.all_eq_true]
      intro y hy
      obtain ⟨c, hc, ec⟩ := List.mem_map.mp hy
      rw [← ec]
      exact sign_ok o1 hc
    · exact p.elim
  · exact p.elim
end Mi

set_option Elab.async false
set_option linter.all false
set_option maxRecDepth 100000
set_option maxHeartbeats 4000000
namespace Mi
open PySem PySem.Spec PyProof.Rows L2
/-! ## lambdas: the tables, the def that calls -/
theorem lam_at {X : Cx} {tf : List (Str × List (Nat × Nat))} {x : Str} {pos : Pos} (G : TabsF X.K X.mg X.base tf) (i : Nat) {l : List (Nat × Nat)} (hi : tf[i]? = some (x, l)) (hc : X.env.code = .ref (He.codeOf X.K (x, none))) (hq : x ++ ".<locals>.<lambda>" = X.env.qual ++ "<lambda>")
    (hp : l.contains (pos.line, pos.col) = true) : LamTab X (tf.map (tbOf X.K)) pos := by
  have hm : (x, l) ∈ tf := List.mem_of_getElem? hi
  refine ⟨_, _, hc, G.tab _ hm, tbOf X.K (x, l), List.mem_map.mpr ⟨_, hm, rfl⟩, rfl, hq, (by show (pos.line, pos.col) ∈ l; simpa using hp), fun t ht e => ?_⟩
  obtain ⟨u, hu, rfl⟩ := List.mem_map.mp ht
  have e' : (He.cT X.K (u.1, none)).2 = (He.cT X.K (x, none)).2 := e
  obtain ⟨i1, h1⟩ := List.mem_iff_getElem?.mp hu
  have a1 : (tf.map fun t => (He.cT X.K (t.1, none)).2)[i1]? = some (He.cT X.K (x, none)).2 := by rw [List.getElem?_map, h1, ← e']; rfl
  have a2 : (tf.map fun t => (He.cT X.K (t.1, none)).2)[i]? = some (He.cT X.K (x, none)).2 := by rw [List.getElem?_map, hi]; rfl
  have e3 := getElem?_inj_nodup G.inj a1 a2
  rw [e3, hi] at h1
  rw [← Option.some.inj h1]
section
variable {fa : List He.Fa} {fn : List He.DefD} {K : PySem.W.Frag} {mg : Str → Option Value}
theorem told_of (F : Fx fa fn K mg) {d : He.DefD} {x a e ret : Str} {Ng : List Str} {jj : Nat} {p1 p2 p3 p4 p5 p6 p7 p8 : Pos} (i j je : Nat) (hd : fn[i]? = some d) (he : d.at_ = (x, none)) (hn : d.name = x) (hq : d.qual = x) (h0 : d.dfl = []) (hx : fa[j]? = some (.glo x)) (hme : fa[je]? = some (.glo e)) (S : FnScope Ng [a] d.scope)
    (hb : d.body = [.Try [.Return (some (.Call (.Name a p1) [] [] p2)) p3] [.ExceptHandler (some (.Name e p4)) none [.Return (some (.Constant (.str ret) jj p5)) p6] p7] [] [] p8])
    (hN : Ng[0]? = some a) (hv : Vis d.scope a) (hge : d.scope.names.lookup e = some .globalImplicit)
    (hbind : ∀ (kV doc pm : Value) (an : Option Addr) (cdv ct : Value) (us : List Value), us.length = [a].length → bindArgs (PySem.W.fnOf d.name d.qual d.params d.body d.scope .none kV doc pm an cdv ct) ⟨us, []⟩ = pure ([a].zip us))
    (db : (x == ("__debug__" : Str)) = false := by decide +kernel) (da : (a == ("__debug__" : Str)) = false := by decide +kernel) (dc : (a == ("__classdict__" : Str)) = false := by decide +kernel) (de : (e == ("__debug__" : Str)) = false := by decide +kernel) : Told K mg x a (He.ga K x) (He.ga K e) ret := by
  obtain ⟨fd, FD⟩ := F.d.def_ i hd
  have e1 : He.fAd K d.at_ = He.ga K x := by rw [he]; rfl
  have kp := FD.kp
  rw [e1] at FD kp
  have e0 : d.dvs K = [] := by unfold He.DefD.dvs; rw [h0]; rfl
  rw [e0] at FD
  have bnd := FD.bindsN (ps := [a]) hbind
  obtain ⟨oc, od, dV, kV, doc, pm, an, cdv, ct, osl, efd, lk, hcd, _, _⟩ := FD.ex
  subst efd
  rw [hn, hq, hb] at lk bnd
  rw [hq] at hcd
  refine ⟨⟨oc, od, osl, d.params, _, d.scope, dV, kV, doc, pm, an, cdv, ct, Ng, lk, hcd, bnd, S, hN, hv, fun X hK hM q => ?_⟩, F.glo j x hx, kp, db, da, dc⟩
  have := LamX.told_gives (X := X) (Ng := Ng) (x := x) (a := a) (e := e) (q := q) (ret := ret) (sg := d.scope) (g := He.ga K x) (CS := He.ga K e) (cdg := cdv) (j := jj) (p1 := p1) (p2 := p2) (p3 := p3) (p4 := p4) (p5 := p5) (p6 := p6) (p7 := p7) (p8 := p8) hge (by rw [hM]; exact F.glo je e hme) de (fun f => by
    have hlen : 0 < Ng.length := (List.getElem?_eq_some_iff.mp hN).1
    rfl)
  rw [hK] at this
  exact this
/-- the names that are caught -/
def inS (l : List Str) (c : Str) : Bool := l.contains c
theorem catch_of (F : Fx fa fn K mg) {e : Str} {l : List Str} (h : ∀ c ∈ l, ∃ i : Nat, fa[i]? = some (He.Fa.exm c e true)) : CatchOk K (He.ga K e) (inS l) := fun c hc => by
  obtain ⟨i, hi⟩ := h c (by unfold inS at hc; simpa using hc)
  exact He.exm_ok (F.d.fact i hi)
end
end Mi
namespace Mi
open PySem PySem.Spec PyProof.Rows L2
/-- the lambdas, one by one -/
inductive AllOk (X : Cx) (cs : List Tb) (k : Nat) : List Expr → List (ME PV) → Prop
  | nil : AllOk X cs k [] []
  | cons {p : Arguments} {b : Expr} {sc : Scope} {pos : Pos} {fb : ME PV} {es : List Expr} {fs : List (ME PV)} : LamTab X cs pos → LamX.LamS X.env.scope sc → defaultsOf p X.env = ([], []) → (∀ (q : Str) (cl : List (Str × Addr)) (pm cv ctv : Value), bindArgs (PySem.W.kla_fn "<lambda>" q p b sc cl pm cv ctv) ⟨[], []⟩ = pure []) → LamEl X cs k sc b fb → AllOk X cs k es fs → AllOk X cs k (.Lambda p b sc pos :: es) (fb :: fs)
theorem AllOk.list {X : Cx} {cs : List Tb} {k : Nat} {es : List Expr} {fs : List (ME PV)} (h : AllOk X cs k es fs) : ∃ ls : List LamD, es = ls.map LamD.ex ∧ fs = ls.map LamD.fb ∧ ∀ l ∈ ls, l.Ok X cs k := by
  induction h with
  | nil => exact ⟨[], rfl, rfl, fun _ h => absurd h (by simp)⟩
  | cons a1 a2 a3 a4 a5 t ih =>
    obtain ⟨ls, e1, e2, h3⟩ := ih
    refine ⟨⟨_, _, _, _, _⟩ :: ls, by rw [e1]; rfl, by rw [e2]; rfl, fun l hl => ?_⟩
    rcases List.mem_cons.mp hl with e | hl
    · rw [e]; exact ⟨a1, a2, a3, a4, a5⟩
    · exact h3 l hl
theorem s_badsF {X : Cx} {cs : List Tb} {W : WX} {x a ret b y : Str} {g CS : Addr} {k iy ib : Nat} {catch_ : Str → Bool} {scope : Scope} {p1 p2 p3 p4 p5 p6 p7 p8 p9 p10 py pb pos c1 c2 : Pos} {j1 j2 : Nat} {es : List Expr} {fbs : List (ME PV)} {thenb rest : List Stmt} {fr : MS}
    (hx : x = x) (hr : Room (k + 2) X.A) (T : Told X.K X.mg x a g CS ret) (hcat : CatchOk X.K CS catch_) (hret : PyData.strOk ret = true) (hls : AllOk X cs k es fbs) (hc : X.calm = true) (hN : X.N.Nodup)
    (ok : BlkOk X.N X.env.scope scope [(y, iy)]) (hib : X.N[ib]? = some b) (hlb : Loc X.env.scope b) (hfb : X.fn b = true ∨ X.env.scope.names.lookup b = some .local) (hbd : (b == ("__debug__" : Str)) = false) (hbc : (b == ("__classdict__" : Str)) = false)
    (hyl : scope.names.lookup y = some .local) (hyd : (y == ("__debug__" : Str)) = false) (hyc : (y == ("__classdict__" : Str)) = false)
    (hgx : ∀ (s : Shared) (H : Hp) (C : Addr) (cl : List (Str × Addr)) (fp : List Addr), Gl (X.blk s H scope (compEnvC scope cl C X.env) fp) x)
    (hm : behindInMarks .NotEq (.Constant (.str ret) j2 c2) = false) (hm2 : behindInMarks .NotEq (.List [] p5) = false) (hlen : fbs.length ≤ 100)
    (hR : SB X cs W rest fr)
    (hs : ∀ x, foldedSetIterable (.Name b pb) X.env x = pure x := by intro _; rfl) (hsw : swapsWith (.List es p8) (some (.Name b p9)) p10.line X.env = pure false := by rfl) :
    SB X cs W (.Assign [.Name b p9] (.List es p8) p10 :: .If (.Compare (.ListComp (.Constant (.int 1) j1 c1) [⟨.Name y py, .Name b pb, [.Compare (.Call (.Name x p1) [.Name y p2] [] p3) [.NotEq] [.Constant (.str ret) j2 c2] p4], 0⟩] scope pos) [.NotEq] [.List [] p5] p6) thenb [] p7 :: rest)
      (mBads ib fbs catch_ ret fr) := by
  obtain ⟨ls, e1, e2, h⟩ := hls.list
  subst e2
  exact s_bads e1 hr T hcat hret h hc hN ok hib hlb hfb hbd hbc hyl hyd hyc hgx hm hm2 (by rw [List.length_map] at hlen; exact Nat.le_trans hlen (by decide)) hR hs hsw
end Mi
namespace Mi
open PySem PySem.Spec PyProof.Rows L2
def opIsN (k : Bool) (v w : PV) (h : Cells) : Out PV := match w with
  | .d .none => .ok (.d (.bool (if k then isNone v else !isNone v))) h
  | _ => .bad
theorem br_isN {K : PySem.W.Frag} {cs : List Tb} : Br K cs (fun x y H Q => y = V.non ∧ Q (.bl (decide (x = V.non))) H) (opIsN true) := by
  intro m z H h v w u1 u2 Q Wx hh r1 r2 p
  unfold opIsN at p
  split at p
  · have := rep_none r2
    rw [isNone_rep r1]
    exact ⟨this, p.here hh _ (rB_ _)⟩
  · exact p.elim
theorem br_notN {K : PySem.W.Frag} {cs : List Tb} : Br K cs (fun x y H Q => y = V.non ∧ Q (.bl (!decide (x = V.non))) H) (opIsN false) := by
  intro m z H h v w u1 u2 Q Wx hh r1 r2 p
  unfold opIsN at p
  split at p
  · have := rep_none r2
    rw [isNone_rep r1]
    exact ⟨this, p.here hh _ (rB_ _)⟩
  · exact p.elim
end Mi
namespace Mi
open PySem PySem.Spec PyProof.Rows L2
theorem roomE {k : Nat} {A : Around} {e e' : Env} (r : Room k (A.deeper e)) : Room k (A.deeper e') := ⟨r.hd, r.dp, r.un⟩
end Mi

set_option Elab.async false
set_option linter.all false
set_option maxRecDepth 100000
set_option maxHeartbeats 4000000
namespace Mi
open PySem PySem.Spec PyProof.Rows L2
/-! ## the end: a law's def of one script -/
def tfD (tf : List (Str × List (Nat × Nat))) : List He.Defn := tf.map fun t => (t.1, none)
/-- the tables lie apart -/
def apart (tf : List (Str × List (Nat × Nat))) (K : PySem.W.Frag) : Bool := decide ((tf.map fun t => (He.cT K (t.1, none)).2).Nodup)
theorem apart_ok {tf : List (Str × List (Nat × Nat))} {K : PySem.W.Frag} (h : apart tf K = true) : (tf.map fun t => (He.cT K (t.1, none)).2).Nodup := of_decide_eq_true h
theorem law_end {l : PySem.W.OpenLaw} {w : World} {fa : List He.Fa} {fn : List He.DefD} {tf : List (Str × List (Nat × Nat))} {mg : Str → Option Value} {h : Heap} {k n : Nat} {x : Str} {f : MF} {nm : Str} (i : Nat) {d : He.DefD} (j : Nat)
    (hfn : fn[i]? = some d) (hat : d.at_ = (nm, none)) (hfa : fa[j]? = some (.glo nm)) (h0 : d.dfl = []) (hN : h.Ns mainGlobals mg)
    (hbind : ∀ (kV doc pm : Value) (an : Option Addr) (cdv ct : Value) (us : List Value), us.length = [x].length → bindArgs (PySem.W.fnOf d.name d.qual d.params d.body d.scope .none kV doc pm an cdv ct) ⟨us, []⟩ = pure ([x].zip us))
    (Y : ∃ K : PySem.W.Frag, K.In h ∧ He.SaysX fa fn [] (tfD tf) (apart tf) w h K)
    (D : ∀ (K : PySem.W.Frag) (base : Heap), Fx fa fn K mg → TabsF K mg base tf → ∀ fd, FunD K d.name d.qual d.params d.body d.scope (d.dvs K) (d.kws K) (He.ga K nm) fd → FnOk l.prog w K mg base (L2.CX l.prog w) k (He.ga K nm) fd [x] (spF K (tf.map (tbOf K)) 1 f))
    (T : ∀ ns : List Int, ns.length ≤ n → ∃ h', f [.sc ns] [] = .ok (.d (.bool true)) h') :
    ∀ fad, mg nm = some (.ref fad) → ∃ K : PySem.W.Frag, K.In h ∧ LamX.LawAtS l w K (L2.CX l.prog w) k n x mg fad h := by
  intro fad hm
  obtain ⟨K, KX, c⟩ := Y
  have F : Fx fa fn K mg := fx_of KX hN c.t.d
  have e0 : fad = He.ga K nm := by
    have := F.glo j nm hfa
    rw [hm] at this
    injection (Option.some.inj this)
  subst e0
  obtain ⟨fd, FD⟩ := F.d.def_ i hfn
  have e1 : He.fAd K d.at_ = He.ga K nm := by rw [hat]; rfl
  rw [e1] at FD
  have FD0 := FD
  have ed : d.dvs K = [] := by unfold He.DefD.dvs; rw [h0]; rfl
  rw [ed] at FD
  have lk0 : ∃ oc od osl, K.lookup (He.ga K nm) = some ⟨oc, od, .func fd, osl⟩ := by
    obtain ⟨oc, od, dV, kV, doc, pm, an, cdv, ct, osl, efd, lk, _⟩ := FD.ex
    exact ⟨oc, od, osl, lk⟩
  refine ⟨K, KX, fd, (tfD tf).map (He.cT K), spF K (tf.map (tbOf K)) 1 f, ?_, ?_, ?_, ?_, ?_, ?_⟩
  · intro p hp
    obtain ⟨q, hq, rfl⟩ := List.mem_map.mp hp
    exact c.empty q hq
  · intro p hp
    obtain ⟨q, hq, rfl⟩ := List.mem_map.mp hp
    exact c.out q hq
  · intro p hp
    obtain ⟨q, hq, rfl⟩ := List.mem_map.mp hp
    exact PySem.W.codeHd_of_K KX (c.hd q hq)
  · intro s u
    exact FD.bindsA (ps := [x]) hbind s [u] rfl
  · intro H a ns hl _ hT hS
    refine ⟨rfl, [], [], [], [.sc ns], .cons (.sc (SqL.vw hS fun b o e nt => fz_of (by simp) (by simp) e)) .nil, ?_, ?_⟩
    · refine ⟨rfl, List.nodup_nil, fun b hb => absurd hb (by simp), fun b hb => absurd hb (by simp), fun i o b hi => absurd hi (by simp), fun t ht => ?_, fun t ht => by simp⟩
      obtain ⟨u, hu, rfl⟩ := List.mem_map.mp ht
      refine ⟨#[], hT _ (List.mem_map.mpr ⟨(u.1, none), List.mem_map.mpr ⟨u, hu, rfl⟩, rfl⟩), ?_, fun pos cv _ hc => ?_⟩
      · exact trivial
      · cases hc
    · obtain ⟨h', e⟩ := T ns hl
      rw [e]
      exact fun m' H' _ _ v r => rep_bool r
  · intro base KB _ hTB
    have TB : TabsF K mg base tf := ⟨fun t ht => hTB _ (List.mem_map.mpr ⟨(t.1, none), List.mem_map.mpr ⟨t, ht, rfl⟩, rfl⟩), apart_ok c.more⟩
    exact D K base F TB fd FD0
end Mi

set_option Elab.async false
set_option linter.all false
set_option maxRecDepth 100000
set_option maxHeartbeats 4000000
namespace Mi
open PySem PySem.Spec PyProof.Rows L2
/-! ### sum of a list or a tuple of ints -/
theorem sum_tupG {prog : Program} {w : World} {A : Around} {E : Value → Shared → Prop} {s : Shared} {l : Addr} {xs : Array (Int × Tok)} {Q : Value → Shared → Prop} (hh : A.handled = none) (hl : s.heap.IsTuple l (intItems xs))
    (h : ∀ h' tk t', (∀ b o, s.heap.get? b = some o → h'.get? b = some o) → Q (.int (preSum (numAt xs) xs.size) t') { s with heap := h', toks := tk }) :
    wpAny (model prog w) A (call (.builtin "sum") [.ref l]) Q E s := by
  have hlt : l < s.heap.objs.size := by obtain ⟨_, e, _⟩ := hl; exact Heap.lt_size e
  refine call_sum_walkG (wpAny_pyIter_tuple hl ?_)
  refine ⟨_, _, _, _, _, _, numAt xs, rfl, Walks.tuple (A := A.in1) hh _ l (Nat.ne_of_lt hlt) (intItems xs), ⟨⟨_, Heap.get?_push_size _ rfl, rfl, rfl⟩, hl.push _⟩, fun b hb => ?_, (fun _ _ => intItems_at), fun h' tk t' hk => ?_⟩
  · show b < (s.heap.push _).objs.size
    rw [Heap.size_push]
    rcases List.mem_cons.mp hb with rfl | hb
    · exact Nat.lt_succ_self _
    · rcases List.mem_cons.mp hb with rfl | hb
      · exact Nat.lt_succ_of_lt hlt
      · cases hb
  · have := h h' tk t' fun b o e => hk b o (fun hm => by
      rw [List.mem_singleton.mp hm] at e
      exact absurd (Heap.lt_size e) (Nat.lt_irrefl _)) (Heap.get?_push_of_some _ e)
    simpa [intItems] using this
def rSumT (K : PySem.W.Frag) : List V → Hp → VK → Prop := fun vs H Q => ∃ (a : Addr) (ns : List Int), vs = [V.ref a] ∧ SqT K H a (ns.map V.int) ∧ Q (.int ns.sum) H
theorem cr_sumT {X : Cx} (hc : X.calm = true) : CallR X (.builtin "sum") (rSumT X.K) := by
  intro pins s σ H vs us Q I r h
  obtain ⟨a, ns, rfl, hs, q⟩ := h
  obtain ⟨its, rv, hl, _⟩ := I.tuple hs
  rw [Vals.ref1 r]
  have hi := rv.ints
  obtain ⟨xs, e⟩ := hi.allInts.items
  have hn : numsOf (intItems xs).toList = ns := by rw [← e]; exact hi.numsOf
  rw [nums_intItems] at hn
  rw [e] at hl
  refine sum_tupG (I.ok.hd hc) hl fun h' tk t' hk => ?_
  rw [preSum_eq, List.take_of_length_le (by simp), hn]
  exact ⟨.int _, H, I.kept hk, ⟨_, rfl⟩, q⟩
def biSumA (vs : List PV) (h : Cells) : Out PV := match vs with
  | [v] => match asL v h with
    | some xs => match asInts xs with
      | some ns => .ok (.d (.int ns.sum)) h
      | none => .bad
    | none => match asT v with
      | some xs => match asInts xs with
        | some ns => .ok (.d (.int ns.sum)) h
        | none => .bad
      | none => .bad
  | _ => .bad
theorem cr_sumA {X : Cx} (hc : X.calm = true) : CallR X (.builtin "sum") (fun xs H Q => rSum X.K xs H Q ∨ rSumT X.K xs H Q) := CallR.or (cr_sum hc) (cr_sumT hc)
theorem bc_sumA {K : PySem.W.Frag} {cs : List Tb} : Bc K cs (fun xs H Q => rSum K xs H Q ∨ rSumT K xs H Q) biSumA := by
  intro m z H h vs us Q Wx hh r p
  unfold biSumA at p
  split at p
  · obtain ⟨u, rfl, r1⟩ := rep1 r
    split at p
    · rename_i xs ex
      split at p
      · rename_i ns en
        obtain ⟨a, ws, rfl, hl, ra⟩ := asL_rep hh r1 ex
        have := asInts_rep ra en
        subst this
        exact .inl ⟨a, ns, rfl, .inl (.inl hl), p.here hh _ (rI_ _)⟩
      · exact p.elim
    · split at p
      · rename_i xs ex
        split at p
        · rename_i ns en
          obtain ⟨a, ws, rfl, hl, ra⟩ := asT_rep r1 ex
          have := asInts_rep ra en
          subst this
          exact .inr ⟨a, ns, rfl, SqT.top hl, p.here hh _ (rI_ _)⟩
        · exact p.elim
      · exact p.elim
  · exact p.elim
end Mi

set_option Elab.async false
set_option linter.all false
set_option maxRecDepth 100000
set_option maxHeartbeats 4000000
namespace Mi
open PySem PySem.Spec PyProof.Rows L2

/-! ## what a call left behind and nobody sees is dropped -/
def wfB (h : Cells) : Bool := h.all fun o => AO.bd h.length o
def trim (f : MF) : MF := fun pvs hc => match f pvs hc with
  | .ok v h => if decide (hc.length ≤ h.length) && wfB (h.take hc.length) && v.bd hc.length then .ok v (h.take hc.length) else .ok v h
  | .ex c h => if decide (hc.length ≤ h.length) && wfB (h.take hc.length) then .ex c (h.take hc.length) else .ex c h
  | .bad => .bad
theorem wfB_all {h : Cells} (w : wfB h = true) : ∀ o ∈ h, AO.bd h.length o = true := List.all_eq_true.mp w
theorem trim_sim (f : MF) {np : Nat} : ∀ (pvs : List PV) (hc : Cells), pvs.length = np → WfH hc → bds hc.length pvs = true → Sim hc.length (f pvs hc) (trim f pvs hc) := fun pvs hc _ _ _ => by
  unfold trim
  split
  · rename_i v h e
    rw [e]
    split
    · rename_i q
      simp only [Bool.and_eq_true, decide_eq_true_eq] at q
      have hl : (h.take hc.length).length = hc.length := by rw [List.length_take]; omega
      have s : Sim hc.length (.ok v (h.take hc.length ++ h.drop hc.length)) (.ok v (h.take hc.length)) := .drop (by omega) (wfB_all q.1.2) (by rw [hl]; exact q.2)
      rwa [List.take_append_drop] at s
    · exact .same
  · rename_i c h e
    rw [e]
    split
    · rename_i q
      simp only [Bool.and_eq_true, decide_eq_true_eq] at q
      have hl : (h.take hc.length).length = hc.length := by rw [List.length_take]; omega
      have s : Sim hc.length (.ex c (h.take hc.length ++ h.drop hc.length)) (.ex c (h.take hc.length)) := .exd (by omega) (wfB_all q.2)
      rwa [List.take_append_drop] at s
    · exact .same
  · rename_i e
    rw [e]
    exact .same
theorem trim_ok {f : MF} {pvs : List PV} {h g : Cells} {v : PV} (e : f pvs h = .ok v (h ++ g)) (w : wfB h = true) (b : v.bd h.length = true) : trim f pvs h = .ok v h := by
  unfold trim; rw [e]; simp [w, b]
theorem trim_ex {f : MF} {pvs : List PV} {h g : Cells} {c : Str} (e : f pvs h = .ex c (h ++ g)) (w : wfB h = true) : trim f pvs h = .ex c h := by
  unfold trim; rw [e]; simp [w]
theorem trim_same {f : MF} {pvs : List PV} {h h' : Cells} {v : PV} (e : f pvs h = .ok v h') (l : h'.length = h.length) : trim f pvs h = .ok v h' := by
  unfold trim; rw [e]; simp [← l]
theorem trim_sameX {f : MF} {pvs : List PV} {h h' : Cells} {c : Str} (e : f pvs h = .ex c h') (l : h'.length = h.length) : trim f pvs h = .ex c h' := by
  unfold trim; rw [e]; simp [← l]
/-- cells may have changed, new ones are dropped -/
theorem trim_chg {f : MF} {pvs : List PV} {h h1 g : Cells} {v : PV} (e : f pvs h = .ok v (h1 ++ g)) (l : h1.length = h.length) (w : wfB h1 = true) (b : v.bd h.length = true) : trim f pvs h = .ok v h1 := by
  unfold trim; rw [e]; simp [w, b, ← l]
  rw [l] ; simp [b]

/-! ## a call that is handed data alone sees no cell: it may be reckoned with none -/
def iso (g : MF) : MF := fun ps h => if bds 0 ps then (match g ps [] with
  | .ok v _ => if v.bd 0 then .ok v h else g ps h
  | .ex c _ => .ex c h
  | .bad => g ps h) else g ps h
theorem fz_all {m z : List Addr} {H : Hp} : fz [] (m ++ z) H = fz m z H := by
  funext a
  unfold fz
  by_cases h : a ∈ m ∨ a ∈ z
  · rw [if_pos h, if_pos (.inr (List.mem_append.mpr h))]
  · rw [if_neg h, if_neg (fun q => q.elim (fun x => absurd x (by simp)) (fun x => h (List.mem_append.mp x)))]
mutual
theorem Rep.hide {K : PySem.W.Frag} {m z m' z' : List Addr} {H H' : Hp} (w : Vw (fz m z H) (fz m' z' H')) : ∀ {x : PV} {v : V}, Rep K m z H x v → x.bd 0 = true → Rep K m' z' H' x v
  | _, _, .d h c, _ => .d (DD.vw w h) c
  | _, _, .r h, b => by simp [PV.bd] at b
  | _, _, .ls h t, b => .ls (w _ _ h noTb_lst) (Rep.hideAll w t (by simpa [PV.bd] using b))
  | _, _, .tp h t, b => .tp (SqT.vw h w) (Rep.hideAll w t (by simpa [PV.bd] using b))
  | _, _, .sc h, _ => .sc (SqL.vw h w)
theorem Rep.hideAll {K : PySem.W.Frag} {m z m' z' : List Addr} {H H' : Hp} (w : Vw (fz m z H) (fz m' z' H')) : ∀ {x : List PV} {v : List V}, RepAll K m z H x v → bds 0 x = true → RepAll K m' z' H' x v
  | _, _, .nil, _ => .nil
  | _, _, .cons h t, b => by
    simp only [bds, Bool.and_eq_true] at b
    exact .cons (Rep.hide w h b.1) (Rep.hideAll w t b.2)
end
theorem ORep.noTb {K : PySem.W.Frag} {m z : List Addr} {H : Hp} {a : Addr} {o : AO} (r : ORep K m z H a o) : ∃ u, H a = some u ∧ NoTb u := by
  cases o with
  | lst xs => obtain ⟨vs, h1, _⟩ := r; exact ⟨_, h1, fun _ q => by cases q⟩
  | dk xs => obtain ⟨vs, h1, _⟩ := r; exact ⟨_, h1, fun _ q => by cases q⟩
  | dt xs => obtain ⟨vs, h1, _⟩ := r; exact ⟨_, h1, fun _ q => by cases q⟩
  | ins c xs => obtain ⟨_, vs, h1, _⟩ := r; exact ⟨_, h1, fun _ q => by cases q⟩
section
variable {K : PySem.W.Frag} {cs : List Tb} {m z m1 : List Addr} {h h1 : Cells} {H H1 : Hp}
theorem HRel.alone (r : HRel K cs m z h H) : HRel K cs [] (m ++ z) [] H where
  len := rfl
  nd := by simp
  dz := fun a q => by simp at q
  lv := fun a q => r.lv a (q.elim (fun x => by simp at x) List.mem_append.mp)
  obj := fun n o a q => by simp at q
  tb := r.tb
  tm := fun t _ q => by simp at q
theorem Nx.back (n : Nx [] (m ++ z) H m1 H1) : Nx m z H m H1 := ⟨⟨[], by simp, fun _ h => absurd h (by simp)⟩, fun a o _ e t => n.kp a o (by simp) e t, n.lv⟩
theorem HRel.back (r : HRel K cs m z h H) (n : Nx [] (m ++ z) H m1 H1) (r1 : HRel K cs m1 (m ++ z) h1 H1) : HRel K cs m z h H1 where
  len := r.len
  nd := r.nd
  dz := r.dz
  lv := fun a q => n.lv a (r.lv a q)
  obj := fun k o a e1 e2 => by
    have o1 := r.obj k o a e1 e2
    obtain ⟨u, e, t⟩ := o1.noTb
    exact o1.nx n.back ((n.kp a u (by simp) e t).trans e.symm)
  tb := r1.tb
  tm := r.tm
theorem vw_back (n : Nx [] (m ++ z) H m1 H1) : Vw (fz m1 (m ++ z) H1) (fz m z H1) := fun a o e _ => by
  obtain ⟨_, q2, q3⟩ := fz_some e
  exact fz_of (fun x => q2 (List.mem_append.mpr (.inl x))) (fun x => q2 (List.mem_append.mpr (.inr x))) q3
end
theorem fn_iso {P : Program} {w : World} {K : PySem.W.Frag} {mg : Str → Option Value} {base : Heap} {CX : CXT} {k : Nat} {f : Addr} {fd : FuncData} {ps : List Str} {cs : List Tb} {np : Nat} {g : MF} (F : FnOk P w K mg base CX k f fd ps (spF K cs np g)) :
    FnOk P w K mg base CX k f fd ps (spF K cs np (iso g)) :=
  F.imp fun vs H Q E ⟨hl, m, z, hc, pvs, r, hh, p⟩ => by
    have dflt : iso g pvs hc = g pvs hc → spF K cs np g vs H Q E := fun e => ⟨hl, m, z, hc, pvs, r, hh, by rw [← e]; exact p⟩
    by_cases b : bds 0 pvs = true
    · have w : Vw (fz m z H) (fz [] (m ++ z) H) := by rw [fz_all]; exact Vw.refl _
      cases e : g pvs [] with
      | bad => exact dflt (by unfold iso; rw [if_pos b, e])
      | ex c h1 =>
        have ei : iso g pvs hc = .ex c hc := by unfold iso; rw [if_pos b, e]
        rw [ei] at p
        refine ⟨hl, [], m ++ z, [], pvs, Rep.hideAll w r b, hh.alone, ?_⟩
        rw [e]
        exact fun m1 H1 n r1 => p m H1 n.back (hh.back n r1)
      | ok v h1 =>
        by_cases q : v.bd 0 = true
        · have ei : iso g pvs hc = .ok v hc := by unfold iso; rw [if_pos b, e]; simp only [q, if_true]
          rw [ei] at p
          refine ⟨hl, [], m ++ z, [], pvs, Rep.hideAll w r b, hh.alone, ?_⟩
          rw [e]
          exact fun m1 H1 n r1 u ru => p m H1 n.back (hh.back n r1) u (Rep.hide (vw_back n) ru q)
        · exact dflt (by unfold iso; rw [if_pos b, e]; simp only [q]; rfl)
    · exact dflt (by unfold iso; rw [if_neg b])
theorem DefOk.iso {P : Program} {w : World} {K : PySem.W.Frag} {mg : Str → Option Value} {base : Heap} {cs : List Tb} {k : Nat} {x : Str} {np : Nat} {dp : List PV} {f : MF} (D : DefOk P w K mg base cs k x np dp f) : DefOk P w K mg base cs k x np dp (Mi.iso f) := by
  obtain ⟨fd, ps, ds, dvs, F, e, b, v, r⟩ := D.ex
  exact ⟨⟨fd, ps, ds, dvs, fn_iso F, e, b, v, r⟩, D.hm, D.hk⟩
theorem iso_ok {g : MF} {ps : List PV} {h h1 : Cells} {v : PV} (b : bds 0 ps = true) (e : g ps [] = .ok v h1) (q : v.bd 0 = true) : iso g ps h = .ok v h := by unfold iso; rw [if_pos b, e]; simp only [q, if_true]
theorem iso_ex {g : MF} {ps : List PV} {h h1 : Cells} {c : Str} (b : bds 0 ps = true) (e : g ps [] = .ex c h1) : iso g ps h = .ex c h := by unfold iso; rw [if_pos b, e]

/-! ## short names -/
abbrev pI (i : Int) : PV := .d (.int i)
abbrev pB (b : Bool) : PV := .d (.bool b)
abbrev pS (x : Str) : PV := .d (.str x)
abbrev pN : PV := .d .none
abbrev pL (ds : List PyData) : PV := .d (.list ds)
abbrev pT (ds : List PyData) : PV := .d (.tuple ds)
abbrev pIs (l : List Int) : List PyData := l.map .int
abbrev nI (n : Nat) : PV := pI (n : Int)
/-- a list or a tuple of data -/
def pQ (t : Bool) (ds : List PyData) : PV := if t then pT ds else pL ds

/-! ## terms, evaluated -/
section
variable {α β : Type}
@[simp] theorem bind_ok (a : α) (h : Cells) (g : α → Cells → Out β) : (Out.ok a h).bind g = g a h := rfl
@[simp] theorem bind_ex (c : Str) (h : Cells) (g : α → Cells → Out β) : (Out.ex c h : Out α).bind g = .ex c h := rfl
@[simp] theorem toS_ok (a : α) (h : Cells) (g : α → Cells → OS) : (Out.ok a h).toS g = g a h := rfl
@[simp] theorem toS_ex (c : Str) (h : Cells) (g : α → Cells → OS) : (Out.ex c h : Out α).toS g = .ex c h := rfl
@[simp] theorem calm_ok (a : α) (h : Cells) (g : α → Cells → Out β) : (Out.ok a h).calm g = g a h := rfl
theorem mV_at {i : Nat} {e : Sl} {p : PV} (q : e[i]? = some (some p)) (h : Cells) : mV i e h = .ok p h := by unfold mV; rw [q]
@[simp] theorem mV_0 (p : PV) (r : Sl) (h : Cells) : mV 0 (some p :: r) h = .ok p h := rfl
@[simp] theorem mV_1 (a : Option PV) (p : PV) (r : Sl) (h : Cells) : mV 1 (a :: some p :: r) h = .ok p h := rfl
@[simp] theorem mV_2 (a b : Option PV) (p : PV) (r : Sl) (h : Cells) : mV 2 (a :: b :: some p :: r) h = .ok p h := rfl
@[simp] theorem mV_3 (a b c : Option PV) (p : PV) (r : Sl) (h : Cells) : mV 3 (a :: b :: c :: some p :: r) h = .ok p h := rfl
@[simp] theorem mV_4 (a b c d : Option PV) (p : PV) (r : Sl) (h : Cells) : mV 4 (a :: b :: c :: d :: some p :: r) h = .ok p h := rfl
@[simp] theorem mV_5 (a b c d f : Option PV) (p : PV) (r : Sl) (h : Cells) : mV 5 (a :: b :: c :: d :: f :: some p :: r) h = .ok p h := rfl
@[simp] theorem mV_6 (a b c d f i : Option PV) (p : PV) (r : Sl) (h : Cells) : mV 6 (a :: b :: c :: d :: f :: i :: some p :: r) h = .ok p h := rfl
@[simp] theorem mV_7 (a b c d f i j : Option PV) (p : PV) (r : Sl) (h : Cells) : mV 7 (a :: b :: c :: d :: f :: i :: j :: some p :: r) h = .ok p h := rfl
@[simp] theorem mV_8 (a b c d f i j k : Option PV) (p : PV) (r : Sl) (h : Cells) : mV 8 (a :: b :: c :: d :: f :: i :: j :: k :: some p :: r) h = .ok p h := rfl
@[simp] theorem mK_eq (p : PV) (e : Sl) (h : Cells) : mK p e h = .ok p h := rfl
@[simp] theorem mBin_eq (g : PV → PV → Cells → Out PV) (a b : ME PV) (e : Sl) (h : Cells) : mBin g a b e h = (a e h).bind fun v h1 => (b e h1).bind fun w h2 => g v w h2 := rfl
@[simp] theorem mTb_eq (f : ME PV) (e : Sl) (h : Cells) : mTb f e h = (f e h).bind fun v h1 => match v with
  | .d (.bool b) => .ok b h1
  | _ => .bad := rfl
@[simp] theorem mNot_eq (f : ME Bool) (e : Sl) (h : Cells) : mNot f e h = (f e h).bind fun b h1 => .ok (!b) h1 := rfl
@[simp] theorem mAnd_eq (f g : ME Bool) (e : Sl) (h : Cells) : mAnd f g e h = (f e h).bind fun b h1 => if b then g e h1 else .ok false h1 := rfl
@[simp] theorem mOr_eq (f g : ME Bool) (e : Sl) (h : Cells) : mOr f g e h = (f e h).bind fun b h1 => if b then .ok true h1 else g e h1 := rfl
@[simp] theorem mAndV_eq (f g : ME PV) (e : Sl) (h : Cells) : mAndV f g e h = (mTb f e h).bind fun b h1 => if b then g e h1 else .ok (.d (.bool false)) h1 := rfl
@[simp] theorem mOrV_eq (f g : ME PV) (e : Sl) (h : Cells) : mOrV f g e h = (mTb f e h).bind fun b h1 => if b then .ok (.d (.bool true)) h1 else g e h1 := rfl
@[simp] theorem mNotV_eq (f : ME PV) (e : Sl) (h : Cells) : mNotV f e h = (mTb f e h).bind fun b h1 => .ok (.d (.bool !b)) h1 := rfl
@[simp] theorem mIfE_eq (c : ME Bool) (f g : ME PV) (e : Sl) (h : Cells) : mIfE c f g e h = (c e h).bind fun b h1 => if b then f e h1 else g e h1 := rfl
@[simp] theorem aNil_eq (e : Sl) (h : Cells) : aNil e h = .ok [] h := rfl
@[simp] theorem aCons_eq (f : ME PV) (g : ME (List PV)) (e : Sl) (h : Cells) : aCons f g e h = (f e h).bind fun v h1 => (g e h1).bind fun vs h2 => .ok (v :: vs) h2 := rfl
@[simp] theorem mChain_eq (g1 g2 : PV → PV → Cells → Out PV) (a b c : ME PV) (e : Sl) (h : Cells) : mChain g1 g2 a b c e h = (a e h).bind fun v h1 => (b e h1).bind fun w h2 => (g1 v w h2).bind fun q h3 => match q with
  | .d (.bool true) => (c e h3).bind fun x h4 => g2 w x h4
  | .d (.bool false) => .ok q h3
  | _ => .bad := rfl
@[simp] theorem mNeg_eq (f : ME PV) (e : Sl) (h : Cells) : mNeg f e h = (f e h).bind fun v h1 => match v with
  | .d (.int i) => .ok (.d (.int (-i))) h1
  | _ => .bad := rfl
@[simp] theorem mTup_eq (g : ME (List PV)) (e : Sl) (h : Cells) : mTup g e h = (g e h).bind fun vs h1 => if vs.length ≤ sizeLine then .ok (mkT vs) h1 else .bad := rfl
@[simp] theorem mLst_eq (g : ME (List PV)) (e : Sl) (h : Cells) : mLst g e h = (g e h).bind fun vs h1 => if vs.length ≤ sizeLine then .ok (mkL vs) h1 else .bad := rfl
@[simp] theorem mCell_eq (g : ME (List PV)) (e : Sl) (h : Cells) : mCell g e h = (g e h).bind fun vs h1 => if vs.length ≤ sizeLine then .ok (.r h1.length) (h1 ++ [.lst vs]) else .bad := rfl
@[simp] theorem mCall_eq (g : List PV → Cells → Out PV) (f : ME (List PV)) (e : Sl) (h : Cells) : mCall g f e h = (f e h).bind g := rfl
@[simp] theorem mCallD_eq (g : MF) (dp : List PV) (f : ME (List PV)) (e : Sl) (h : Cells) : mCallD g dp f e h = (f e h).bind fun vs h1 => g (vs ++ dp) h1 := rfl
@[simp] theorem mCall0_eq (g : MF) (dp : List PV) (e : Sl) (h : Cells) : mCall0 g dp e h = g dp h := rfl
@[simp] theorem oNo_eq (e : Sl) (h : Cells) : oNo e h = .ok none h := rfl
@[simp] theorem oSo_eq (f : ME PV) (e : Sl) (h : Cells) : oSo f e h = (f e h).bind fun v h1 => match v with
  | .d (.int i) => .ok (some i) h1
  | _ => .bad := rfl
@[simp] theorem mSl_eq (f : ME PV) (g1 g2 : ME (Option Int)) (e : Sl) (h : Cells) : mSl f g1 g2 e h = (f e h).bind fun v h1 => (g1 e h1).bind fun lo h2 => (g2 e h2).bind fun hi h3 => opSl v lo hi h3 := rfl
@[simp] theorem mMeth_eq (ty : PV → Cells → Bool) (g : PV → List PV → Cells → Out PV) (fo : ME PV) (fa : ME (List PV)) (e : Sl) (h : Cells) : mMeth ty g fo fa e h = (fo e h).bind fun v h1 => if ty v h1 then (fa e h1).bind fun vs h2 => g v vs h2 else .bad := rfl
@[simp] theorem mSkip_eq (e : Sl) (h : Cells) : mSkip e h = .nx e h := rfl
theorem mSeq_eq (f g : MS) (e : Sl) (h : Cells) : mSeq f g e h = match f e h with
  | .nx e1 h1 => g e1 h1
  | o => o := rfl
@[simp] theorem mExp_eq (f : ME PV) (e : Sl) (h : Cells) : mExp f e h = (f e h).toS fun _ h1 => .nx e h1 := rfl
@[simp] theorem mRet_eq (f : ME PV) (e : Sl) (h : Cells) : mRet f e h = (f e h).toS fun v h1 => .rt v h1 := rfl
@[simp] theorem mIf_eq (c : ME Bool) (f g : MS) (e : Sl) (h : Cells) : mIf c f g e h = (c e h).toS fun b h1 => if b then f e h1 else g e h1 := rfl
@[simp] theorem mRaise_eq (c : Str) (e : Sl) (h : Cells) : mRaise c e h = .ex c h := rfl
@[simp] theorem gN_eq (i : Nat) (v : PV) (e : Sl) (h : Cells) : gN i v e h = some (e.set i (some v), h) := rfl
@[simp] theorem gsNil_eq (e : Sl) (h : Cells) : gsNil [] e h = some (e, h) := rfl
@[simp] theorem gsCons_eq (f : MG) (g : MGs) (v : PV) (r : List PV) (e : Sl) (h : Cells) : gsCons f g (v :: r) e h = match f v e h with
  | some (e1, h1) => g r e1 h1
  | none => none := rfl
@[simp] theorem mAsg_eq (f : ME PV) (g : MG) (e : Sl) (h : Cells) : mAsg f g e h = (f e h).toS fun v h1 => match g v e h1 with
  | some (e2, h2) => .nx e2 h2
  | none => .bad := rfl
@[simp] theorem mPar_eq (i j : Nat) (f : ME (List PV)) (e : Sl) (h : Cells) : mPar i j f e h = (f e h).toS fun vs h1 => match vs with
  | [v, w] => .nx ((e.set i (some v)).set j (some w)) h1
  | _ => .bad := rfl
@[simp] theorem mPar3_eq (i j l : Nat) (f : ME (List PV)) (e : Sl) (h : Cells) : mPar3 i j l f e h = (f e h).toS fun vs h1 => match vs with
  | [v, w, x] => .nx (((e.set i (some v)).set j (some w)).set l (some x)) h1
  | _ => .bad := rfl
@[simp] theorem mAug_0 (g : PV → PV → Cells → Out PV) (f : ME PV) (v : PV) (r : Sl) (h : Cells) : mAug 0 g f (some v :: r) h = (f (some v :: r) h).toS fun w h1 => (g v w h1).toS fun x h2 => .nx (some x :: r) h2 := rfl
theorem mAug_at {i : Nat} {g : PV → PV → Cells → Out PV} {f : ME PV} {e : Sl} {v : PV} (q : e[i]? = some (some v)) (h : Cells) : mAug i g f e h = (f e h).toS fun w h1 => (g v w h1).toS fun x h2 => .nx (e.set i (some x)) h2 := by unfold mAug; rw [q]
@[simp] theorem mAug_1 (g : PV → PV → Cells → Out PV) (f : ME PV) (a : Option PV) (v : PV) (r : Sl) (h : Cells) : mAug 1 g f (a :: some v :: r) h = (f (a :: some v :: r) h).toS fun w h1 => (g v w h1).toS fun x h2 => .nx (a :: some x :: r) h2 := rfl
@[simp] theorem mAug_2 (g : PV → PV → Cells → Out PV) (f : ME PV) (a b : Option PV) (v : PV) (r : Sl) (h : Cells) : mAug 2 g f (a :: b :: some v :: r) h = (f (a :: b :: some v :: r) h).toS fun w h1 => (g v w h1).toS fun x h2 => .nx (a :: b :: some x :: r) h2 := rfl
@[simp] theorem mAug_3 (g : PV → PV → Cells → Out PV) (f : ME PV) (a b c : Option PV) (v : PV) (r : Sl) (h : Cells) : mAug 3 g f (a :: b :: c :: some v :: r) h = (f (a :: b :: c :: some v :: r) h).toS fun w h1 => (g v w h1).toS fun x h2 => .nx (a :: b :: c :: some x :: r) h2 := rfl
@[simp] theorem mAug_4 (g : PV → PV → Cells → Out PV) (f : ME PV) (a b c d : Option PV) (v : PV) (r : Sl) (h : Cells) : mAug 4 g f (a :: b :: c :: d :: some v :: r) h = (f (a :: b :: c :: d :: some v :: r) h).toS fun w h1 => (g v w h1).toS fun x h2 => .nx (a :: b :: c :: d :: some x :: r) h2 := rfl
theorem mWh_succ (c : ME Bool) (b : MS) (n : Nat) (e : Sl) (h : Cells) : mWh c b (n + 1) e h = (c e h).toS fun k h1 => if k then (match b e h1 with
      | .nx e2 h2 => mWh c b n e2 h2
      | .ct e2 h2 => mWh c b n e2 h2
      | .bk e2 h2 => .nx e2 h2
      | o => o) else .nx e h1 := by
  first
  | rfl
  | (
      conv => lhs; unfold mWh
      cases c e h with
      | ok k h1 =>
        cases k with
        | false => rfl
        | true =>
          simp only [Out.toS, if_true]
          cases b e h1 <;> rfl
      | ex _ _ => rfl
      | bad => rfl
    )
theorem wh_stop {c : ME Bool} {b : MS} {n : Nat} {e : Sl} {h h1 : Cells} (q : c e h = .ok false h1) (hn : 0 < n) : mWh c b n e h = .nx e h1 := by
  obtain ⟨n, rfl⟩ : ∃ m, n = m + 1 := ⟨n - 1, by omega⟩
  rw [mWh_succ, q]; rfl
theorem wh_turn {c : ME Bool} {b : MS} {n : Nat} {e e2 : Sl} {h h1 h2 : Cells} (q : c e h = .ok true h1) (p : b e h1 = .nx e2 h2) : mWh c b (n + 1) e h = mWh c b n e2 h2 := by
  rw [mWh_succ, q]; simp only [toS_ok, if_true]; rw [p]

/-! ## operations on values -/
@[simp] theorem vadd (i j : Int) (h : Cells) : opAdd (pI i) (pI j) h = .ok (pI (i + j)) h := rfl
@[simp] theorem vsub (i j : Int) (h : Cells) : opSub (pI i) (pI j) h = .ok (pI (i - j)) h := rfl
@[simp] theorem viadd (i j : Int) (h : Cells) : iadd (pI i) (pI j) h = .ok (pI (i + j)) h := rfl
theorem vmul (i j : Int) (h : Cells) (q : mulOk i j = true) : opMul (pI i) (pI j) h = .ok (pI (i * j)) h := by simp [opMul, q]
theorem vimul (i j : Int) (h : Cells) (q : mulOk i j = true) : imul (pI i) (pI j) h = .ok (pI (i * j)) h := by simp [imul, q]
theorem mulOk_r {i j : Int} (a : -18446744073709551616 < j) (b : j < 18446744073709551616) : mulOk i j = true := by simp [mulOk]; omega
theorem mulOk_l {i j : Int} (a : -18446744073709551616 < i) (b : i < 18446744073709551616) : mulOk i j = true := by simp [mulOk]; omega
theorem vdiv (i j : Int) (h : Cells) (a : 0 < j) (b : j < 18446744073709551616) : opDiv (pI i) (pI j) h = .ok (pI (i / j)) h := by simp [opDiv, a]; omega
theorem vmod (i j : Int) (h : Cells) (a : 0 < j) : opMod (pI i) (pI j) h = .ok (pI (i % j)) h := by simp [opMod, a]
@[simp] theorem vlt (i j : Int) (h : Cells) : oLt (pI i) (pI j) h = .ok (pB (decide (i < j))) h := rfl
@[simp] theorem vgt (i j : Int) (h : Cells) : oGt (pI i) (pI j) h = .ok (pB (decide (j < i))) h := rfl
@[simp] theorem vle (i j : Int) (h : Cells) : oLe (pI i) (pI j) h = .ok (pB (decide (i ≤ j))) h := rfl
@[simp] theorem vge (i j : Int) (h : Cells) : oGe (pI i) (pI j) h = .ok (pB (decide (j ≤ i))) h := rfl
@[simp] theorem veq (k : Bool) (i j : Int) (h : Cells) : opEq k (pI i) (pI j) h = .ok (pB (if k then i == j else !(i == j))) h := by simp [opEq, asX, PyData.depth, PyData.eqv]
@[simp] theorem is_none_d (k : Bool) (v : PV) (h : Cells) : opIsN k v pN h = .ok (pB (if k then isNone v else !isNone v)) h := rfl
/-- == of data -/
theorem eq_data (k : Bool) (a b : PyData) (h : Cells) (q : min a.depth b.depth ≤ 64) : opEq k (.d a) (.d b) h = .ok (pB (if k then PyData.eqv a b else !PyData.eqv a b)) h := by simp [opEq, asX, q]
mutual
theorem eqv_self : ∀ d : PyData, d.canLay0 = true → PyData.eqv d d = true
  | .none, _ => by simp [PyData.eqv]
  | .bool _, _ => by simp [PyData.eqv]
  | .int _, _ => by simp [PyData.eqv]
  | .str _, _ => by simp [PyData.eqv]
  | .list xs, h => by simp only [PyData.eqv]; exact eqv_selfs xs (by simpa [PyData.canLay0] using h)
  | .tuple xs, h => by simp only [PyData.eqv]; exact eqv_selfs xs (by simpa [PyData.canLay0] using h)
  | .dict _, h => by simp [PyData.canLay0] at h
theorem eqv_selfs : ∀ ds : List PyData, PyData.canLayAll0 ds = true → PyData.eqvAll ds ds = true
  | [], _ => by simp [PyData.eqvAll]
  | x :: xs, h => by
    simp only [PyData.canLayAll0, Bool.and_eq_true] at h
    simp [PyData.eqvAll, eqv_self x h.1, eqv_selfs xs h.2]
end
theorem canLay_ints (l : List Int) : PyData.canLayAll0 (pIs l) = true := by
  induction l with
  | nil => simp [PyData.canLayAll0]
  | cons x r ih => simpa [PyData.canLayAll0, PyData.canLay0] using ih
theorem depth_ints (l : List Int) : PyData.depthAll (pIs l) = 0 := by
  induction l with
  | nil => simp [PyData.depthAll]
  | cons x r ih => simp [PyData.depthAll, PyData.depth, ih]
theorem eqv_ints : ∀ (l m : List Int), PyData.eqvAll (pIs l) (pIs m) = decide (l = m)
  | [], [] => by simp [PyData.eqvAll]
  | [], _ :: _ => by simp [PyData.eqvAll]
  | _ :: _, [] => by simp [PyData.eqvAll]
  | x :: l, y :: m => by
    have := eqv_ints l m
    simp only [pIs, List.map_cons, PyData.eqvAll, PyData.eqv] at this ⊢
    rw [this]
    by_cases h : x = y <;> by_cases h2 : l = m <;> simp [h, h2]
@[simp] theorem eq_ints_t (k : Bool) (l m : List Int) (h : Cells) : opEq k (pT (pIs l)) (pT (pIs m)) h = .ok (pB (if k then decide (l = m) else !decide (l = m))) h := by
  rw [eq_data _ _ _ _ (by simp [PyData.depth, depth_ints])]
  simp only [PyData.eqv, eqv_ints]
@[simp] theorem eq_ints_l (k : Bool) (l m : List Int) (h : Cells) : opEq k (pL (pIs l)) (pL (pIs m)) h = .ok (pB (if k then decide (l = m) else !decide (l = m))) h := by
  rw [eq_data _ _ _ _ (by simp [PyData.depth, depth_ints])]
  simp only [PyData.eqv, eqv_ints]
theorem eq_same (k : Bool) (a : PyData) (h : Cells) (c : a.canLay0 = true) (q : a.depth ≤ 64) : opEq k (.d a) (.d a) h = .ok (pB k) h := by
  rw [eq_data _ _ _ _ (by omega), eqv_self a c]; cases k <;> rfl
/-! sequences -/
theorem allD_cons (x : PyData) (r : List PV) : allD (.d x :: r) = (allD r).map (x :: ·) := rfl
@[simp] theorem asL_pL (ds : List PyData) (h : Cells) : asL (pL ds) h = some (ds.map .d) := rfl
@[simp] theorem asL_pT (ds : List PyData) (h : Cells) : asL (pT ds) h = none := rfl
@[simp] theorem asT_pT (ds : List PyData) : asT (pT ds) = some (ds.map .d) := rfl
@[simp] theorem asT_pL (ds : List PyData) : asT (pL ds) = none := rfl
@[simp] theorem asL_ls (xs : List PV) (h : Cells) : asL (.ls xs) h = some xs := rfl
@[simp] theorem asT_tp (xs : List PV) : asT (.tp xs) = some xs := rfl
theorem asL_cell {n : Nat} {h : Cells} {xs : List PV} (e : h[n]? = some (.lst xs)) : asL (.r n) h = some xs := by simp [asL, e]
theorem asS_pQ (t : Bool) (ds : List PyData) (h : Cells) : asS (pQ t ds) h = some (ds.map .d) := by cases t <;> rfl
theorem len_pQ (t : Bool) (ds : List PyData) (h : Cells) : biLen [pQ t ds] h = .ok (nI ds.length) h := by cases t <;> simp [pQ, biLen, pL, pT, asL, asT]
@[simp] theorem len_pL (ds : List PyData) (h : Cells) : biLen [pL ds] h = .ok (nI ds.length) h := len_pQ false ds h
@[simp] theorem len_pT (ds : List PyData) (h : Cells) : biLen [pT ds] h = .ok (nI ds.length) h := len_pQ true ds h
theorem len_str (x : Str) (h : Cells) (q : x.length ≤ sizeLine) : biLen [pS x] h = .ok (nI x.length) h := by simp [biLen, q]
theorem atI_nat {γ : Type} (xs : List γ) (i : Nat) : atI xs (i : Int) = xs[i]? := by
  unfold atI ixN
  by_cases q : i < xs.length
  · simp [q]
  · simp [q]
theorem ix_pQ (t : Bool) (ds : List PyData) (i : Nat) (h : Cells) (x : PyData) (e : ds[i]? = some x) : opIx (pQ t ds) (nI i) h = .ok (.d x) h := by
  cases t <;> simp [pQ, opIx, asS, asL, asT, atI_nat, e]
theorem add_pL (a b : List PyData) (h : Cells) (q : a.length + b.length ≤ sizeLine) : opAdd (pL a) (pL b) h = .ok (pL (a ++ b)) h := by
  simp only [opAdd, asL, List.length_map, q, if_true]
  rw [← List.map_append, mkL_map]
theorem add_pT (a b : List PyData) (h : Cells) (q : a.length + b.length ≤ sizeLine) : opAdd (pT a) (pT b) h = .ok (pT (a ++ b)) h := by
  simp only [opAdd, asL, asT, List.length_map, q, if_true]
  rw [← List.map_append, mkT_map]
theorem iadd_pT (a b : List PyData) (h : Cells) (q : a.length + b.length ≤ sizeLine) : iadd (pT a) (pT b) h = .ok (pT (a ++ b)) h := by
  simp only [iadd, asT, List.length_map, q, if_true]
  rw [← List.map_append, mkT_map]
theorem vadd_str (a b : Str) (h : Cells) (q : a.length + b.length ≤ sizeLine) : opAdd (pS a) (pS b) h = .ok (pS (a ++ b)) h := by simp [opAdd, q]
theorem cutL_map {γ δ : Type} (f : γ → δ) (xs : List γ) (lo hi : Option Int) : cutL (xs.map f) lo hi = (cutL xs lo hi).map f := by
  unfold cutL; simp [List.map_drop, List.map_take]
theorem sl_pL (ds : List PyData) (lo hi : Option Int) (h : Cells) : opSl (pL ds) lo hi h = .ok (pL (cutL ds lo hi)) h := by
  simp only [opSl, asL]; rw [cutL_map, mkL_map]
theorem sl_pT (ds : List PyData) (lo hi : Option Int) (h : Cells) : opSl (pT ds) lo hi h = .ok (pT (cutL ds lo hi)) h := by
  simp only [opSl, asL, asT]; rw [cutL_map, mkT_map]
theorem sl_pQ (t : Bool) (ds : List PyData) (lo hi : Option Int) (h : Cells) : opSl (pQ t ds) lo hi h = .ok (pQ t (cutL ds lo hi)) h := by cases t <;> simp [pQ, sl_pL, sl_pT]
theorem sIx_some (n d k : Nat) : HT.sIx n d (some (k : Int)) = min k n := HT.sIx_nat n d k
/-- from a place on, up to a place -/
theorem cut_nn {γ : Type} (xs : List γ) (a b : Nat) : cutL xs (some (a : Int)) (some (b : Int)) = (xs.drop a).take (b - a) := by
  unfold cutL; rw [sIx_some, sIx_some]
  by_cases q : a ≤ xs.length
  · rw [Nat.min_eq_left q]
    by_cases p : b ≤ xs.length
    · rw [Nat.min_eq_left p]
    · rw [Nat.min_eq_right (show xs.length ≤ b by omega), List.take_of_length_le (by simp), List.take_of_length_le (by simp; omega)]
  · rw [Nat.min_eq_right (show xs.length ≤ a by omega)]; simp [List.drop_of_length_le (show xs.length ≤ a by omega)]
theorem cut_n {γ : Type} (xs : List γ) (a : Nat) : cutL xs (some (a : Int)) none = xs.drop a := by
  unfold cutL; rw [sIx_some, HT.sIx_none]
  by_cases q : a ≤ xs.length
  · rw [Nat.min_eq_left q, List.take_of_length_le (by simp)]
  · rw [Nat.min_eq_right (show xs.length ≤ a by omega)]; simp [List.drop_of_length_le (show xs.length ≤ a by omega)]
theorem cut_to {γ : Type} (xs : List γ) (b : Nat) : cutL xs none (some (b : Int)) = xs.take b := by
  unfold cutL; rw [sIx_some, HT.sIx_none]
  by_cases q : b ≤ xs.length
  · rw [Nat.min_eq_left q]; simp
  · rw [Nat.min_eq_right (show xs.length ≤ b by omega)]; simp [List.take_of_length_le (show xs.length ≤ b by omega)]
theorem tuple_pL (ds : List PyData) (h : Cells) : biTuple [pL ds] h = .ok (pT ds) h := by simp [biTuple, mkT_map]
theorem tuple_pT (ds : List PyData) (h : Cells) : biTuple [pT ds] h = .ok (pT ds) h := by simp [biTuple, mkT_map]
theorem tuple_pQ (t : Bool) (ds : List PyData) (h : Cells) : biTuple [pQ t ds] h = .ok (pT ds) h := by cases t <;> simp [pQ, tuple_pL, tuple_pT]
theorem list_pL (ds : List PyData) (h : Cells) : biList [pL ds] h = .ok (pL ds) h := by simp [biList, mkL_map]
theorem list_pT (ds : List PyData) (h : Cells) : biList [pT ds] h = .ok (pL ds) h := by simp [biList, mkL_map]
theorem allD_int (l : List Int) : allD (l.map pI) = some (pIs l) := by
  have : l.map pI = (l.map PyData.int).map .d := by rw [List.map_map]; rfl
  rw [this, allD_map]
theorem asInts_pI (l : List Int) : asInts (l.map pI) = some l := by
  induction l with
  | nil => rfl
  | cons x r ih => simp [asInts, ih]
theorem pI_map (l : List Int) : (pIs l).map PV.d = l.map pI := by rw [List.map_map]; rfl
theorem sum_pQ (t : Bool) (l : List Int) (h : Cells) : biSumA [pQ t (pIs l)] h = .ok (pI l.sum) h := by
  cases t
  · show biSumA [pL (pIs l)] h = _
    simp only [biSumA, asL_pL, pI_map, asInts_pI]
  · show biSumA [pT (pIs l)] h = _
    simp only [biSumA, asL_pT, asT_pT, pI_map, asInts_pI]
/-! ## what is walked -/
@[simp] theorem gd_none (all : List PV) (h : Cells) : gd none all h = true := rfl
theorem any_pQ {f : ME PV} {e : Sl} {h h1 : Cells} {t : Bool} {ds : List PyData} (q : f e h = .ok (pQ t ds) h1) : iAny f e h = .ok (ds.map .d, none) h1 := by
  cases t <;> simp [pQ] at q <;> simp [iAny, iBoth, iSeq, iTp, q]
theorem any_pL {f : ME PV} {e : Sl} {h h1 : Cells} {ds : List PyData} (q : f e h = .ok (pL ds) h1) : iAny f e h = .ok (ds.map .d, none) h1 := any_pQ (t := false) q
theorem any_pT {f : ME PV} {e : Sl} {h h1 : Cells} {ds : List PyData} (q : f e h = .ok (pT ds) h1) : iAny f e h = .ok (ds.map .d, none) h1 := any_pQ (t := true) q
theorem any_str {f : ME PV} {e : Sl} {h h1 : Cells} {x : Str} (q : f e h = .ok (pS x) h1) : iAny f e h = .ok (x.cps.toList.map (fun c => pS ⟨#[c]⟩), none) h1 := by
  simp [iAny, iBoth, iSeq, iTp, iText, q, asL, asT]
theorem any_ls {f : ME PV} {e : Sl} {h h1 : Cells} {xs : List PV} (q : f e h = .ok (.ls xs) h1) : iAny f e h = .ok (xs, none) h1 := by
  simp [iAny, iBoth, iSeq, q]
theorem any_cell {f : ME PV} {e : Sl} {h h1 : Cells} {n : Nat} {xs : List PV} (q : f e h = .ok (.r n) h1) (c : h1[n]? = some (.lst xs)) : iAny f e h = .ok (xs, some n) h1 := by
  simp [iAny, iBoth, iSeq, q, c]
theorem rng_eq (lo : Int) (n : Nat) : rngL lo n = (List.range n).map fun i => pI (lo + (i : Nat)) := rfl
@[simp] theorem forL_nil (g : MG) (b : MS) (all : List PV) (e : Sl) (h : Cells) : forL g b none all [] e h = .nx e h := rfl
theorem forL_cons (g : MG) (b : MS) (all : List PV) (x : PV) (r : List PV) (e : Sl) (h : Cells) : forL g b none all (x :: r) e h = match g x e h with
      | some (e1, h1) => (match b e1 h1 with
        | .nx e2 h2 => forL g b none all r e2 h2
        | .ct e2 h2 => forL g b none all r e2 h2
        | .bk e2 h2 => .nx e2 h2
        | o => o)
      | none => .bad := by
  first
  | rfl
  | (
      conv => lhs; unfold forL
      simp only [gd_none, if_true]
      cases g x e h with
      | none => rfl
      | some p =>
        obtain ⟨e1, h1⟩ := p
        simp only
        cases b e1 h1 <;> rfl
    )
theorem mFor_eq {fi : ME (List PV × Option Nat)} {g : MG} {b : MS} {e : Sl} {h h1 : Cells} {xs : List PV} {src : Option Nat} (q : fi e h = .ok (xs, src) h1) : mFor fi g b e h = forL g b src xs xs e h1 := by
  unfold mFor; rw [q]; rfl
/-- a comprehension whose parts change no cell -/
theorem lc_pure {γ : Type} {g : MG} {t : ME Bool} {fe : ME PV} {all : List PV} {e : Sl} {h : Cells} (inj : γ → PV) (p : γ → Bool) (φ : γ → PV) : ∀ (xs : List γ) (acc : List PV),
    (∀ x ∈ xs, ∃ e1, g (inj x) e h = some (e1, h) ∧ t e1 h = .ok (p x) h ∧ (p x = true → fe e1 h = .ok (φ x) h)) → acc.length + xs.length ≤ sizeLine →
    lcL g t fe none all e (xs.map inj) h acc = .ok (mkL (acc ++ (xs.filter p).map φ)) h
  | [], acc, _, _ => by simp [lcL]
  | x :: xs, acc, k, l => by
    obtain ⟨e1, k1, k2, k3⟩ := k x (by simp)
    have ih := fun a b => lc_pure (all := all) inj p φ xs a (fun y hy => k y (by simp [hy])) b
    simp only [List.map_cons, lcL, gd_none, if_true, k1, k2, calm_ok]
    cases q : p x with
    | true =>
      rw [k3 q]
      simp only [List.length_cons] at l
      simp only [if_true, calm_ok]
      rw [if_pos (by omega), ih _ (by simp; omega)]
      simp [q]
    | false =>
      simp only [List.length_cons] at l
      rw [if_neg (by simp), ih _ (by omega)]
      simp [q]
theorem lc_all {γ : Type} {g : MG} {fe : ME PV} {all : List PV} {e : Sl} {h : Cells} (inj : γ → PV) (φ : γ → PV) (xs : List γ) (acc : List PV)
    (k : ∀ x ∈ xs, ∃ e1, g (inj x) e h = some (e1, h) ∧ fe e1 h = .ok (φ x) h) (l : acc.length + xs.length ≤ sizeLine) :
    lcL g mYes fe none all e (xs.map inj) h acc = .ok (mkL (acc ++ xs.map φ)) h := by
  rw [lc_pure inj (fun _ => true) φ xs acc (fun x hx => by obtain ⟨e1, a, b⟩ := k x hx; exact ⟨e1, a, rfl, fun _ => b⟩) l]
  rw [List.filter_eq_self.mpr (fun _ _ => rfl)]
/-- a comprehension whose parts may change cells -/
theorem lc_inv {g : MG} {fe : ME PV} {all : List PV} {e : Sl} (I : Cells → Prop) (P : PV → Prop) : ∀ (xs : List PV) (acc : List PV) (h : Cells),
    (∀ x ∈ xs, ∀ h, I h → ∃ e1 h1 v h2, g x e h = some (e1, h1) ∧ fe e1 h1 = .ok v h2 ∧ P v ∧ I h2) → acc.length + xs.length ≤ sizeLine → I h →
    ∃ vs h', lcL g mYes fe none all e xs h acc = .ok (mkL (acc ++ vs)) h' ∧ I h' ∧ vs.length = xs.length ∧ ∀ v ∈ vs, P v
  | [], acc, h, _, _, i => ⟨[], h, by simp [lcL], i, rfl, by simp⟩
  | x :: xs, acc, h, k, l, i => by
    obtain ⟨e1, h1, v, h2, k1, k2, k3, k4⟩ := k x (by simp) h i
    simp only [List.length_cons] at l
    obtain ⟨vs, h', a1, a2, a3, a4⟩ := lc_inv I P xs (acc ++ [v]) h2 (fun y hy => k y (by simp [hy])) (by simp; omega) k4
    refine ⟨v :: vs, h', ?_, a2, by simp [a3], fun w hw => ?_⟩
    · simp only [lcL, gd_none, if_true, k1, mYes, calm_ok, k2]
      rw [if_pos (by omega), a1]
      simp
    · rcases List.mem_cons.mp hw with q | q
      · subst q; exact k3
      · exact a4 w q
theorem mLc_eq {fi : ME (List PV × Option Nat)} {g : MG} {t : ME Bool} {fe : ME PV} {vs : List Nat} {e : Sl} {h h1 : Cells} {xs : List PV} {src : Option Nat} (q : fi e h = .ok (xs, src) h1) : mLc fi g t fe vs e h = lcL g t fe src xs (wipeE e vs) xs h1 [] := by
  unfold mLc; rw [q]; rfl
/-- a generator whose parts change no cell -/
theorem gen_pure {γ : Type} {g : MG} {fe : ME PV} {all : List PV} {e : Sl} {h : Cells} (inj : γ → PV) (φ : γ → PV) : ∀ (xs : List γ),
    (∀ x ∈ xs, ∃ e1, g (inj x) e h = some (e1, h) ∧ fe e1 h = .ok (φ x) h) → gTr g mYes fe none all e (xs.map inj) h = some (xs.map (fun x => (φ x, h)), h)
  | [], _ => by simp [gTr]
  | x :: xs, k => by
    obtain ⟨e1, k1, k2⟩ := k x (by simp)
    have ih := gen_pure (all := all) inj φ xs (fun y hy => k y (by simp [hy]))
    simp only [List.map_cons, gTr, gd_none, if_true, k1, mYes, k2, ih]
    rfl
theorem mGen_eq {fi : ME (List PV × Option Nat)} {g : MG} {t : ME Bool} {fe : ME PV} {own : List Nat} {c : List (PV × Cells) → Cells → Out PV} {e : Sl} {h h1 hf : Cells} {xs : List PV} {src : Option Nat} {T : List (PV × Cells)}
    (q : fi e h = .ok (xs, src) h1) (p : gTr g t fe src xs (wipeE e own) xs h1 = some (T, hf)) : mGen fi g t fe own c e h = c T hf := by
  unfold mGen; rw [q]; simp only [bind_ok]; rw [p]
theorem cAny_pure {γ : Type} (f : γ → Bool) (xs : List γ) (h : Cells) : cAny (xs.map fun x => (pB (f x), h)) h = .ok (pB (xs.any f)) h := by
  induction xs with
  | nil => rfl
  | cons x r ih => 
    cases q : f x with
    | true => simp [cAny, q]
    | false => simpa [cAny, q] using ih
theorem cAll_pure {γ : Type} (f : γ → Bool) (xs : List γ) (h : Cells) : cAll (xs.map fun x => (pB (f x), h)) h = .ok (pB (xs.all f)) h := by
  induction xs with
  | nil => rfl
  | cons x r ih => 
    cases q : f x with
    | true => simpa [cAll, q] using ih
    | false => simp [cAll, q]
theorem runF_rt {n : Nat} {b : MS} {ps : List PV} {h h1 : Cells} {v : PV} (q : b (ps.map some ++ List.replicate (n - ps.length) none) h = .rt v h1) : runF n b ps h = .ok v h1 := by unfold runF; rw [q]
theorem runF_ex {n : Nat} {b : MS} {ps : List PV} {h h1 : Cells} {c : Str} (q : b (ps.map some ++ List.replicate (n - ps.length) none) h = .ex c h1) : runF n b ps h = .ex c h1 := by unfold runF; rw [q]
theorem runF_nx {n : Nat} {b : MS} {ps : List PV} {h h1 : Cells} {e : Sl} (q : b (ps.map some ++ List.replicate (n - ps.length) none) h = .nx e h1) : runF n b ps h = .ok pN h1 := by unfold runF; rw [q]
theorem seq_nx {f g : MS} {e e1 : Sl} {h h1 : Cells} (q : f e h = .nx e1 h1) : mSeq f g e h = g e1 h1 := by unfold mSeq; rw [q]
theorem seq_ex {f g : MS} {e : Sl} {h h1 : Cells} {c : Str} (q : f e h = .ex c h1) : mSeq f g e h = .ex c h1 := by unfold mSeq; rw [q]
theorem seq_rt {f g : MS} {e : Sl} {h h1 : Cells} {v : PV} (q : f e h = .rt v h1) : mSeq f g e h = .rt v h1 := by unfold mSeq; rw [q]
theorem if_yes {c : ME Bool} {f k : MS} {e : Sl} {h h1 : Cells} (q : c e h = .ok true h1) : mIf c f k e h = f e h1 := by unfold mIf; rw [q]; rfl
/-- a test of the law that holds -/
theorem if_no {c : ME Bool} {f : MS} {e : Sl} {h h1 : Cells} (q : c e h = .ok false h1) : mIf c f mSkip e h = .nx e h1 := by unfold mIf; rw [q]; rfl
theorem sz (n : Nat) (h : n ≤ 16777216) : n ≤ sizeLine := h
end
end Mi

set_option Elab.async false
set_option linter.all false
set_option maxRecDepth 100000
set_option maxHeartbeats 0
namespace K01
open PySem PySem.Spec PyProof.Rows L2 Mi
def top (i : Nat) : Stmt := PySem.Challenge.pw_storestack_k01_codes_of_rows.main.body.getD i (.Pass ⟨0, 0, 0, 0⟩)
abbrev s0 : Stmt := top 7
abbrev s1 : Stmt := top 8
abbrev s2 : Stmt := top 9
abbrev s3 : Stmt := top 10
abbrev s4 : Stmt := top 11
abbrev s5 : Stmt := top 12
abbrev s6 : Stmt := top 13
abbrev s7 : Stmt := top 14
abbrev s8 : Stmt := top 15
abbrev s9 : Stmt := top 16
abbrev s10 : Stmt := top 17
abbrev s11 : Stmt := top 18
abbrev s12 : Stmt := top 19
abbrev s13 : Stmt := top 20
abbrev s14 : Stmt := top 21
abbrev s15 : Stmt := top 22
abbrev s16 : Stmt := top 24
abbrev s17 : Stmt := top 25
abbrev s18 : Stmt := top 26
abbrev s19 : Stmt := top 27
abbrev s20 : Stmt := top 28
abbrev s21 : Stmt := top 29
abbrev s22 : Stmt := top 30
abbrev s23 : Stmt := top 31
abbrev s24 : Stmt := top 32
abbrev s25 : Stmt := top 33
abbrev s26 : Stmt := top 34
abbrev s27 : Stmt := top 35
def d0 : He.DefD := ⟨("number_octets", none), "number_octets", "number_octets", defArgs s0, defBody s0, defScope s0, [], []⟩
def d1 : He.DefD := ⟨("read_number", none), "read_number", "read_number", defArgs s1, defBody s1, defScope s1, [], []⟩
def d2 : He.DefD := ⟨("text_octets", none), "text_octets", "text_octets", defArgs s2, defBody s2, defScope s2, [], []⟩
def d3 : He.DefD := ⟨("read_text", none), "read_text", "read_text", defArgs s3, defBody s3, defScope s3, [], []⟩
def d4 : He.DefD := ⟨("row_octets", none), "row_octets", "row_octets", defArgs s4, defBody s4, defScope s4, [], []⟩
def d5 : He.DefD := ⟨("read_row", none), "read_row", "read_row", defArgs s5, defBody s5, defScope s5, [], []⟩
def d6 : He.DefD := ⟨("key_octets", none), "key_octets", "key_octets", defArgs s6, defBody s6, defScope s6, [], []⟩
def d7 : He.DefD := ⟨("read_key", none), "read_key", "read_key", defArgs s7, defBody s7, defScope s7, [], []⟩
def d8 : He.DefD := ⟨("sum_of", none), "sum_of", "sum_of", defArgs s8, defBody s8, defScope s8, [], []⟩
def d9 : He.DefD := ⟨("framed", none), "framed", "framed", defArgs s9, defBody s9, defScope s9, [], []⟩
def d10 : He.DefD := ⟨("read_frame", none), "read_frame", "read_frame", defArgs s10, defBody s10, defScope s10, [], []⟩
def d11 : He.DefD := ⟨("is_number_cut", none), "is_number_cut", "is_number_cut", defArgs s11, defBody s11, defScope s11, [], []⟩
def d12 : He.DefD := ⟨("number_at", none), "number_at", "number_at", defArgs s12, defBody s12, defScope s12, [], []⟩
def d13 : He.DefD := ⟨("shared_start", none), "shared_start", "shared_start", defArgs s13, defBody s13, defScope s13, [], []⟩
def d14 : He.DefD := ⟨("squeezed", none), "squeezed", "squeezed", defArgs s14, defBody s14, defScope s14, [], []⟩
def d15 : He.DefD := ⟨("unsqueezed", none), "unsqueezed", "unsqueezed", defArgs s15, defBody s15, defScope s15, [], []⟩
def d16 : He.DefD := ⟨("_law_dice", none), "_law_dice", "_law_dice", defArgs s16, defBody s16, defScope s16, [], []⟩
def d17 : He.DefD := ⟨("_law_roll", none), "_law_roll", "_law_roll", defArgs s17, defBody s17, defScope s17, [], []⟩
def d18 : He.DefD := ⟨("_law_rounds", none), "_law_rounds", "_law_rounds", defArgs s18, defBody s18, defScope s18, [], []⟩
def d19 : He.DefD := ⟨("_law_told", none), "_law_told", "_law_told", defArgs s19, defBody s19, defScope s19, [], []⟩
def d20 : He.DefD := ⟨("_law_number", none), "_law_number", "_law_number", defArgs s20, defBody s20, defScope s20, [], []⟩
def d21 : He.DefD := ⟨("_law_text", none), "_law_text", "_law_text", defArgs s21, defBody s21, defScope s21, [], []⟩
def d22 : He.DefD := ⟨("_law_signs", none), "_law_signs", "_law_signs", defArgs s22, defBody s22, defScope s22, [], []⟩
def d23 : He.DefD := ⟨("_law_sum", none), "_law_sum", "_law_sum", defArgs s23, defBody s23, defScope s23, [], []⟩
def d24 : He.DefD := ⟨("_law_frame", none), "_law_frame", "_law_frame", defArgs s24, defBody s24, defScope s24, [], []⟩
def d25 : He.DefD := ⟨("_law_read", none), "_law_read", "_law_read", defArgs s25, defBody s25, defScope s25, [], []⟩
def d26 : He.DefD := ⟨("_law_plain", none), "_law_plain", "_law_plain", defArgs s26, defBody s26, defScope s26, [], []⟩
def d27 : He.DefD := ⟨("law", none), "law", "law", defArgs s27, defBody s27, defScope s27, [], []⟩
def fn : List He.DefD := [d0, d1, d2, d3, d4, d5, d6, d7, d8, d9, d10, d11, d12, d13, d14, d15, d16, d17, d18, d19, d20, d21, d22, d23, d24, d25, d26, d27]
def fa : List He.Fa := ([.glo "StoreError", .exc "StoreError", .glo "CodeError", .exc "CodeError", .str "SIGNS_OF_TEXT" " !#,-./0123456789:;=?ABCDEFGHIJKLMNOPQRSTUVWXYZ_abcdefghijklmnopqrstuvwxyz", .int "LARGEST_NUMBER" 1000000000000, .int "MODULUS_OF_SUM" 65521, .glo "number_octets", .glo "read_number", .glo "text_octets", .glo "read_text", .glo "row_octets", .glo "read_row", .glo "key_octets", .glo "read_key", .glo "sum_of", .glo "framed", .glo "read_frame", .glo "is_number_cut", .glo "number_at", .glo "shared_start", .glo "squeezed", .glo "unsqueezed", .glo "_law_dice", .glo "_law_roll"] : List He.Fa) ++ ([.glo "_law_rounds", .glo "_law_told", .glo "_law_number", .glo "_law_text", .glo "_law_signs", .glo "_law_sum", .glo "_law_frame", .glo "_law_read", .glo "_law_plain", .glo "law", .free "ValueError", .free "abs", .free "any", .free "dict", .free "enumerate", .free "int", .free "len", .free "list", .free "max", .free "min", .free "range", .free "sorted", .free "sum", .free "tuple", .free "zip"] : List He.Fa) ++ ([.exm "CodeError" "CodeError" true] : List He.Fa)
def tf : List (Str × List (Nat × Nat)) := [("text_octets", []), ("read_text", []), ("read_key", []), ("squeezed", []), ("_law_plain", [(184, 0), (185, 0), (186, 0), (187, 0), (188, 0), (189, 0), (190, 0), (191, 0), (192, 0), (193, 0), (194, 0), (195, 0), (196, 0), (197, 0), (198, 0), (199, 0), (200, 0), (201, 0), (202, 0), (203, 0), (204, 0), (205, 0), (206, 0), (207, 0), (208, 0)]), ("law", [(238, 21)])]
variable {P : Program} {w : World} {K : PySem.W.Frag} {mg : Str → Option Value} {base : Heap}
def m_number_octets : MS :=
  (mSeq (mIf (mNot (mTb (mChain oLe oLe (mK (.d (.int 0))) (mV 0) (mK (.d (.int 1000000000000)))))) (mRaise "CodeError") mSkip)
  (mSeq (mAsg (mCell aNil) (gN 1))
  (mSeq (mWh (mTb (mBin oGe (mV 0) (mK (.d (.int 128))))) (mSeq (mExp (mMeth tyL meAppend (mV 1) (aCons (mBin opAdd (mK (.d (.int 128))) (mBin opMod (mV 0) (mK (.d (.int 128))))) aNil)))
  (mAug 0 opDiv (mK (.d (.int 128))))) FU)
  (mRet (mCall biTuple (aCons (mBin opAdd (mV 1) (mLst (aCons (mV 0) aNil))) aNil))))))
theorem B_number_octets {k : Nat} (F : Fx fa fn K mg) (G : TabsF K mg base tf) : DefOk P w K mg base (tf.map (tbOf K)) (k + 1) "number_octets" 1 [] (runF 2 (m_number_octets)) := by
  refine def_mkC (d := d0) (N := ["number", "found"]) (ps := ["number"]) F 0 7 rfl rfl rfl ⟨rfl, rfl, rfl, by decide +kernel, rfl, by decide +kernel, by decide +kernel⟩ (bd_all rfl fun _ _ _ _ _ _ us hl => match us, hl with | [_], _ => rfl) fun A outer s H E hr => ?_
  have hu := hr.units
  have hu5 := hr.units5
  have hu1 := hr.units1
  have hN : (["number", "found"] : List Str).Nodup := by decide +kernel
  exact (b_cons (s_if (s_not (s_tchain (op_leU hu) (op_leU hu) br_leU br_leU s_int (s_var (i := 0) rfl (.inl rfl)) (s_gint rfl (F.int 5 _ _ rfl)))) (b_one (s_raiseF F 2 3 rfl rfl rfl (takes_of rfl rfl rfl rfl) rfl)) b_nil)
    (b_cons (s_set (i := 1) hN rfl (.inl rfl) (.inr rfl) (s_cell s_nil))
    (b_cons (s_while (passes_of rfl) (s_tcmp (op_geU hu) br_geU (s_var (i := 0) rfl (.inl rfl)) s_int rfl) (b_cons (s_exp (s_meth PySem.F.plainAttrs_list PySem.F.slot_list_append PySem.F.type_list_append mt_append ty_list bm_append (s_var (i := 1) rfl (.inl rfl)) (s_cons (s_op op_addM br_add s_int (s_op op_mod br_mod (s_var (i := 0) rfl (.inl rfl)) s_int)) s_nil)))
    (b_one (s_aug (i := 0) hN rfl (.inl rfl) (.inr rfl) s_int iop_fdivW br_div))))
    (b_one (s_ret (s_callT call_tuple_of bc_tuple rfl (F.free 48 _ rfl) rfl (s_cons (s_op op_addM br_add (s_var (i := 1) rfl (.inl rfl)) (s_lst (s_cons (s_var (i := 0) rfl (.inl rfl)) s_nil))) s_nil)))))))
def m_read_number : MS :=
  (mSeq (mPar3 2 3 4 (aCons (mK (.d (.int 0))) (aCons (mK (.d (.int 1))) (aCons (mV 1) aNil))))
  (mSeq (mWh (mAnd (mTb (mBin oLt (mV 1) (mCall biLen (aCons (mV 0) aNil)))) (mAnd (mTb (mBin oGe (mBin opIx (mV 0) (mV 1)) (mK (.d (.int 128))))) (mTb (mBin oLt (mBin opSub (mV 1) (mV 4)) (mK (.d (.int 6))))))) (mSeq (mAug 2 iadd (mBin opMul (mBin opSub (mBin opIx (mV 0) (mV 1)) (mK (.d (.int 128)))) (mV 3)))
  (mSeq (mAug 3 imul (mK (.d (.int 128))))
  (mAug 1 iadd (mK (.d (.int 1)))))) FU)
  (mSeq (mIf (mOr (mTb (mBin oGe (mV 1) (mCall biLen (aCons (mV 0) aNil)))) (mOr (mTb (mBin oGe (mBin opIx (mV 0) (mV 1)) (mK (.d (.int 128))))) (mAnd (mTb (mBin (opEq true) (mBin opIx (mV 0) (mV 1)) (mK (.d (.int 0))))) (mTb (mBin oGt (mV 1) (mV 4)))))) (mRaise "CodeError") mSkip)
  (mSeq (mAug 2 iadd (mBin opMul (mBin opIx (mV 0) (mV 1)) (mV 3)))
  (mSeq (mIf (mTb (mBin oGt (mV 2) (mK (.d (.int 1000000000000))))) (mRaise "CodeError") mSkip)
  (mRet (mTup (aCons (mV 2) (aCons (mBin opAdd (mV 1) (mK (.d (.int 1)))) aNil)))))))))
theorem B_read_number {k : Nat} (F : Fx fa fn K mg) (G : TabsF K mg base tf) : DefOk P w K mg base (tf.map (tbOf K)) (k + 1) "read_number" 2 [] (runF 5 (m_read_number)) := by
  refine def_mkC (d := d1) (N := ["octets", "place", "found", "weight", "start"]) (ps := ["octets", "place"]) F 1 8 rfl rfl rfl ⟨rfl, rfl, rfl, by decide +kernel, rfl, by decide +kernel, by decide +kernel⟩ (bd_all rfl fun _ _ _ _ _ _ us hl => match us, hl with | [_, _], _ => rfl) fun A outer s H E hr => ?_
  have hu := hr.units
  have hu5 := hr.units5
  have hu1 := hr.units1
  have hN : (["octets", "place", "found", "weight", "start"] : List Str).Nodup := by decide +kernel
  exact (b_cons (s_par3 (i := 2) (j := 3) (l := 4) (fun ta h => ps_par3 rfl hN rfl rfl rfl (by decide) (by decide) (by decide) rfl rfl rfl h rfl) (s_cons s_int (s_cons s_int (s_cons (s_var (i := 1) rfl (.inl rfl)) s_nil))))
    (b_cons (s_while (passes_of rfl) (s_w (w_and (s_tcmp (op_ltU hu) br_ltU (s_var (i := 1) rfl (.inl rfl)) (s_callB call_lenM bc_len rfl (F.free 41 _ rfl) rfl (s_cons (s_var (i := 0) rfl (.inl rfl)) s_nil)) rfl) (w_and (s_tcmp (op_geU hu) br_geU (s_ix (s_var (i := 0) rfl (.inl rfl)) (s_var (i := 1) rfl (.inl rfl))) s_int rfl) (w_and1 (s_tcmp (op_ltU hu) br_ltU (s_op op_sub br_sub (s_var (i := 1) rfl (.inl rfl)) (s_var (i := 4) rfl (.inl rfl))) s_int rfl))))) (b_cons (s_aug (i := 2) hN rfl (.inl rfl) (.inr rfl) (s_op op_mulM br_mul (s_op op_sub br_sub (s_ix (s_var (i := 0) rfl (.inl rfl)) (s_var (i := 1) rfl (.inl rfl))) s_int) (s_var (i := 3) rfl (.inl rfl))) iop_addM br_iadd)
    (b_cons (s_aug (i := 3) hN rfl (.inl rfl) (.inr rfl) s_int iop_mulM br_imul)
    (b_one (s_aug (i := 1) hN rfl (.inl rfl) (.inr rfl) s_int iop_addM br_iadd)))))
    (b_cons (s_if (s_w (w_or (s_tcmp (op_geU hu) br_geU (s_var (i := 1) rfl (.inl rfl)) (s_callB call_lenM bc_len rfl (F.free 41 _ rfl) rfl (s_cons (s_var (i := 0) rfl (.inl rfl)) s_nil)) rfl) (w_or (s_tcmp (op_geU hu) br_geU (s_ix (s_var (i := 0) rfl (.inl rfl)) (s_var (i := 1) rfl (.inl rfl))) s_int rfl) (w_or1 (s_w (w_and (s_tcmp (op_eqM hu) br_eq (s_ix (s_var (i := 0) rfl (.inl rfl)) (s_var (i := 1) rfl (.inl rfl))) s_int rfl) (w_and1 (s_tcmp (op_gtU hu) br_gtU (s_var (i := 1) rfl (.inl rfl)) (s_var (i := 4) rfl (.inl rfl)) rfl)))))))) (b_one (s_raiseF F 2 3 rfl rfl rfl (takes_of rfl rfl rfl rfl) rfl)) b_nil)
    (b_cons (s_aug (i := 2) hN rfl (.inl rfl) (.inr rfl) (s_op op_mulM br_mul (s_ix (s_var (i := 0) rfl (.inl rfl)) (s_var (i := 1) rfl (.inl rfl))) (s_var (i := 3) rfl (.inl rfl))) iop_addM br_iadd)
    (b_cons (s_if (s_tcmp (op_gtU hu) br_gtU (s_var (i := 2) rfl (.inl rfl)) (s_gint rfl (F.int 5 _ _ rfl)) rfl) (b_one (s_raiseF F 2 3 rfl rfl rfl (takes_of rfl rfl rfl rfl) rfl)) b_nil)
    (b_one (s_ret (s_tup (s_cons (s_var (i := 2) rfl (.inl rfl)) (s_cons (s_op op_addM br_add (s_var (i := 1) rfl (.inl rfl)) s_int) s_nil))))))))))
def m_text_octets (f_number_octets : MF) : MS :=
  (mSeq (mIf (mTb (mGen (iAny (mV 0)) (gN 1) mYes (mBin (opIn false) (mV 1) (mK (.d (.str " !#,-./0123456789:;=?ABCDEFGHIJKLMNOPQRSTUVWXYZ_abcdefghijklmnopqrstuvwxyz")))) [1] cAny)) (mRaise "CodeError") mSkip)
  (mRet (mBin opAdd (mCallD f_number_octets [] (aCons (mCall biLen (aCons (mV 0) aNil)) aNil)) (mGen (iAny (mV 0)) (gN 1) mYes (mBin opAdd (mMeth tyS meIndexS (mK (.d (.str " !#,-./0123456789:;=?ABCDEFGHIJKLMNOPQRSTUVWXYZ_abcdefghijklmnopqrstuvwxyz"))) (aCons (mV 1) aNil)) (mK (.d (.int 1)))) [1] cTup))))
theorem B_text_octets {k : Nat} {k_number_octets : Nat} (F : Fx fa fn K mg) (G : TabsF K mg base tf) {f_number_octets : MF} (D_number_octets : DefOk P w K mg base (tf.map (tbOf K)) k_number_octets "number_octets" 1 [] f_number_octets) (l_number_octets : k_number_octets ≤ k) : DefOk P w K mg base (tf.map (tbOf K)) (k + 1 + 1) "text_octets" 1 [] (runF 2 (m_text_octets f_number_octets)) := by
  refine def_mkC (d := d2) (N := ["text", "sign"]) (ps := ["text"]) F 2 9 rfl rfl rfl ⟨rfl, rfl, rfl, by decide +kernel, rfl, by decide +kernel, by decide +kernel⟩ (bd_all rfl fun _ _ _ _ _ _ us hl => match us, hl with | [_], _ => rfl) fun A outer s H E hr => ?_
  have hu := hr.units
  have hu5 := hr.units5
  have hu1 := hr.units1
  have hN : (["text", "sign"] : List Str).Nodup := by decide +kernel
  exact (b_cons (s_if (s_val (s_genB (own := [("sign", 1)]) (any_cons hr) hr hN rfl (F.free 37 _ rfl) rfl (i_any (s_var (i := 0) rfl (.inl rfl))) (blkOk_by (by kernel_rfl)) (by decide +kernel) rfl rfl (code_at G 0 rfl rfl (by decide +kernel)) ⟨(fun _ _ _ _ _ _ A hr => have hu := hr.units; have hu5 := hr.units5; have hu1 := hr.units1; (g_name (i := 1) hN rfl (by first | exact .inl rfl | exact .inr rfl) (by first | exact .inr rfl | exact .inl rfl) (by decide))), (fun _ _ _ _ _ _ A hr => have hu := hr.units; have hu5 := hr.units5; have hu1 := hr.units1; ts_nil), (fun _ _ _ _ _ _ A hr => have hu := hr.units; have hu5 := hr.units5; have hu1 := hr.units1; (s_cmp (op_notInM hu5) br_in (s_var (i := 1) rfl (by first | exact .inr (.inr rfl) | exact .inl rfl | exact .inr (.inl rfl))) (s_gstr rfl (F.str 4 _ _ rfl) (by decide +kernel)) rfl))⟩)) (b_one (s_raiseF F 2 3 rfl rfl rfl (takes_of rfl rfl rfl rfl) rfl)) b_nil)
    (b_one (s_ret (s_op op_addM br_add (s_fn D_number_octets (takes_of rfl rfl rfl rfl) (hr.mono (Nat.le_add_right_of_le l_number_octets)) rfl (al_cons al_nil) rfl (s_cons (s_callB call_lenM bc_len rfl (F.free 41 _ rfl) rfl (s_cons (s_var (i := 0) rfl (.inl rfl)) s_nil)) s_nil)) (s_genT (own := [("sign", 1)]) (tuple_cons hr) hr hN rfl (F.free 48 _ rfl) rfl (i_any (s_var (i := 0) rfl (.inl rfl))) (blkOk_by (by kernel_rfl)) (by decide +kernel) rfl rfl (code_at G 0 rfl rfl (by decide +kernel)) ⟨(fun _ _ _ _ _ _ A hr => have hu := hr.units; have hu5 := hr.units5; have hu1 := hr.units1; (g_name (i := 1) hN rfl (by first | exact .inl rfl | exact .inr rfl) (by first | exact .inr rfl | exact .inl rfl) (by decide))), (fun _ _ _ _ _ _ A hr => have hu := hr.units; have hu5 := hr.units5; have hu1 := hr.units1; ts_nil), (fun _ _ _ _ _ _ A hr => have hu := hr.units; have hu5 := hr.units5; have hu1 := hr.units1; (s_op op_addM br_add (s_meth PySem.F.plainAttrs_str PySem.F.slot_str_index PySem.F.type_str_index mt_indexS ty_str bm_indexS (s_gstr rfl (F.str 4 _ _ rfl) (by decide +kernel)) (s_cons (s_var (i := 1) rfl (by first | exact .inr (.inr rfl) | exact .inl rfl | exact .inr (.inl rfl))) s_nil)) s_int))⟩)))))
def m_read_text (f_read_number : MF) : MS :=
  (mSeq (mAsg (mCallD f_read_number [] (aCons (mV 0) (aCons (mV 1) aNil))) (gTp 2 (gsCons (gN 2) (gsCons (gN 1) gsNil))))
  (mSeq (mAsg (mSl (mV 0) (oSo (mV 1)) (oSo (mBin opAdd (mV 1) (mV 2)))) (gN 3))
  (mSeq (mIf (mOr (mTb (mBin oLt (mCall biLen (aCons (mV 3) aNil)) (mV 2))) (mTb (mGen (iAny (mV 3)) (gN 4) mYes (mNotV (mChain oLe oLe (mK (.d (.int 1))) (mV 4) (mCall biLen (aCons (mK (.d (.str " !#,-./0123456789:;=?ABCDEFGHIJKLMNOPQRSTUVWXYZ_abcdefghijklmnopqrstuvwxyz"))) aNil)))) [4] cAny))) (mRaise "CodeError") mSkip)
  (mRet (mTup (aCons (mMeth tyS meJoin (mK (.d (.str ""))) (aCons (mLc (iAny (mV 3)) (gN 4) mYes (mBin opIx (mK (.d (.str " !#,-./0123456789:;=?ABCDEFGHIJKLMNOPQRSTUVWXYZ_abcdefghijklmnopqrstuvwxyz"))) (mBin opSub (mV 4) (mK (.d (.int 1))))) [4]) aNil)) (aCons (mBin opAdd (mV 1) (mV 2)) aNil)))))))
theorem B_read_text {k : Nat} {k_read_number : Nat} (F : Fx fa fn K mg) (G : TabsF K mg base tf) {f_read_number : MF} (D_read_number : DefOk P w K mg base (tf.map (tbOf K)) k_read_number "read_number" 2 [] f_read_number) (l_read_number : k_read_number ≤ k) : DefOk P w K mg base (tf.map (tbOf K)) (k + 1 + 1) "read_text" 2 [] (runF 5 (m_read_text f_read_number)) := by
  refine def_mkC (d := d3) (N := ["octets", "place", "many", "part", "one"]) (ps := ["octets", "place"]) F 3 10 rfl rfl rfl ⟨rfl, rfl, rfl, by decide +kernel, rfl, by decide +kernel, by decide +kernel⟩ (bd_all rfl fun _ _ _ _ _ _ us hl => match us, hl with | [_, _], _ => rfl) fun A outer s H E hr => ?_
  have hu := hr.units
  have hu5 := hr.units5
  have hu1 := hr.units1
  have hN : (["octets", "place", "many", "part", "one"] : List Str).Nodup := by decide +kernel
  exact (b_cons (s_asg (vs := [1, 2]) (s_fn D_read_number (takes_of rfl rfl rfl rfl) (hr.mono (Nat.le_add_right_of_le l_read_number)) rfl (al_cons (al_cons al_nil)) rfl (s_cons (s_var (i := 0) rfl (.inl rfl)) (s_cons (s_var (i := 1) rfl (.inl rfl)) s_nil))) (g_tup rfl (gs_cons (g_name (i := 2) hN rfl (.inl rfl) (.inr rfl) (by decide)) (gs_cons (g_name (i := 1) hN rfl (.inl rfl) (.inr rfl) (by decide)) gs_nil))))
    (b_cons (s_set (i := 3) hN rfl (.inl rfl) (.inr rfl) (s_sl (s_var (i := 0) rfl (.inl rfl)) (s_so (s_var (i := 1) rfl (.inl rfl))) (s_so (s_op op_addM br_add (s_var (i := 1) rfl (.inl rfl)) (s_var (i := 2) rfl (.inl rfl))))))
    (b_cons (s_if (s_w (w_or (s_tcmp (op_ltU hu) br_ltU (s_callB call_lenM bc_len rfl (F.free 41 _ rfl) rfl (s_cons (s_var (i := 3) rfl (.inl rfl)) s_nil)) (s_var (i := 2) rfl (.inl rfl)) rfl) (w_or1 (s_val (s_genB (own := [("one", 4)]) (any_cons hr) hr hN rfl (F.free 37 _ rfl) rfl (i_any (s_var (i := 3) rfl (.inl rfl))) (blkOk_by (by kernel_rfl)) (by decide +kernel) rfl rfl (code_at G 1 rfl rfl (by decide +kernel)) ⟨(fun _ _ _ _ _ _ A hr => have hu := hr.units; have hu5 := hr.units5; have hu1 := hr.units1; (g_name (i := 4) hN rfl (by first | exact .inl rfl | exact .inr rfl) (by first | exact .inr rfl | exact .inl rfl) (by decide))), (fun _ _ _ _ _ _ A hr => have hu := hr.units; have hu5 := hr.units5; have hu1 := hr.units1; ts_nil), (fun _ _ _ _ _ _ A hr => have hu := hr.units; have hu5 := hr.units5; have hu1 := hr.units1; (s_notV (s_chain (op_leU hu) (op_leU hu) br_leU br_leU s_int (s_var (i := 4) rfl (by first | exact .inr (.inr rfl) | exact .inl rfl | exact .inr (.inl rfl))) (s_callB call_lenM bc_len rfl (F.free 41 _ rfl) rfl (s_cons (s_gstr rfl (F.str 4 _ _ rfl) (by decide +kernel)) s_nil)))))⟩))))) (b_one (s_raiseF F 2 3 rfl rfl rfl (takes_of rfl rfl rfl rfl) rfl)) b_nil)
    (b_one (s_ret (s_tup (s_cons (s_meth PySem.F.plainAttrs_str PySem.F.slot_str_join PySem.F.type_str_join mt_joinM ty_str bm_join (s_str (by decide +kernel)) (s_cons (s_lc (own := [("one", 4)]) rfl hN (i_any (s_var (i := 3) rfl (.inl rfl))) (blkOk_by (by kernel_rfl)) (fun _ _ _ _ _ => (g_name (i := 4) hN rfl (by first | exact .inl rfl | exact .inr rfl) (by first | exact .inr rfl | exact .inl rfl) (by decide))) (fun _ _ _ _ _ => ts_nil) (fun _ _ _ _ _ => (s_ix (s_gstr rfl (F.str 4 _ _ rfl) (by decide +kernel)) (s_op op_sub br_sub (s_var (i := 4) rfl (by first | exact .inr (.inr rfl) | exact .inl rfl | exact .inr (.inl rfl))) s_int)))) s_nil)) (s_cons (s_op op_addM br_add (s_var (i := 1) rfl (.inl rfl)) (s_var (i := 2) rfl (.inl rfl))) s_nil))))))))
def m_row_octets (f_number_octets : MF) (f_text_octets : MF) : MS :=
  (mSeq (mAsg (mCallD f_number_octets [] (aCons (mCall biLen (aCons (mV 0) aNil)) aNil)) (gN 1))
  (mSeq (mFor (iAny (mV 0)) (gN 2) (mAug 1 iadd (mCallD f_text_octets [] (aCons (mV 2) aNil))))
  (mRet (mV 1))))
theorem B_row_octets {k : Nat} {k_number_octets : Nat} {k_text_octets : Nat} (F : Fx fa fn K mg) (G : TabsF K mg base tf) {f_number_octets : MF} (D_number_octets : DefOk P w K mg base (tf.map (tbOf K)) k_number_octets "number_octets" 1 [] f_number_octets) (l_number_octets : k_number_octets ≤ k) {f_text_octets : MF} (D_text_octets : DefOk P w K mg base (tf.map (tbOf K)) k_text_octets "text_octets" 1 [] f_text_octets) (l_text_octets : k_text_octets ≤ k) : DefOk P w K mg base (tf.map (tbOf K)) (k + 1) "row_octets" 1 [] (runF 3 (m_row_octets f_number_octets f_text_octets)) := by
  refine def_mkC (d := d4) (N := ["row", "found", "text"]) (ps := ["row"]) F 4 11 rfl rfl rfl ⟨rfl, rfl, rfl, by decide +kernel, rfl, by decide +kernel, by decide +kernel⟩ (bd_all rfl fun _ _ _ _ _ _ us hl => match us, hl with | [_], _ => rfl) fun A outer s H E hr => ?_
  have hu := hr.units
  have hu5 := hr.units5
  have hu1 := hr.units1
  have hN : (["row", "found", "text"] : List Str).Nodup := by decide +kernel
  exact (b_cons (s_set (i := 1) hN rfl (.inl rfl) (.inr rfl) (s_fn D_number_octets (takes_of rfl rfl rfl rfl) (hr.mono l_number_octets) rfl (al_cons al_nil) rfl (s_cons (s_callB call_lenM bc_len rfl (F.free 41 _ rfl) rfl (s_cons (s_var (i := 0) rfl (.inl rfl)) s_nil)) s_nil)))
    (b_cons (s_for (vs := [2]) (passes_of rfl) rfl (i_any (s_var (i := 0) rfl (.inl rfl))) (g_name (i := 2) hN rfl (.inl rfl) (.inr rfl) (by decide)) (b_one (s_aug (i := 1) hN rfl (.inl rfl) (.inr rfl) (s_fn D_text_octets (takes_of rfl rfl rfl rfl) (hr.mono l_text_octets) rfl (al_cons al_nil) rfl (s_cons (s_var (i := 2) rfl (.inl rfl)) s_nil)) iop_addM br_iadd)))
    (b_one (s_ret (s_var (i := 1) rfl (.inl rfl))))))
def m_read_row (f_read_number : MF) (f_read_text : MF) : MS :=
  (mSeq (mAsg (mCallD f_read_number [] (aCons (mV 0) (aCons (mV 1) aNil))) (gTp 2 (gsCons (gN 2) (gsCons (gN 1) gsNil))))
  (mSeq (mAsg (mCell aNil) (gN 3))
  (mSeq (mFor (iRange1 (aCons (mV 2) aNil)) (gN 4) (mSeq (mAsg (mCallD f_read_text [] (aCons (mV 0) (aCons (mV 1) aNil))) (gTp 2 (gsCons (gN 5) (gsCons (gN 1) gsNil))))
  (mExp (mMeth tyL meAppend (mV 3) (aCons (mV 5) aNil)))))
  (mRet (mTup (aCons (mCall biTuple (aCons (mV 3) aNil)) (aCons (mV 1) aNil)))))))
theorem B_read_row {k : Nat} {k_read_number : Nat} {k_read_text : Nat} (F : Fx fa fn K mg) (G : TabsF K mg base tf) {f_read_number : MF} (D_read_number : DefOk P w K mg base (tf.map (tbOf K)) k_read_number "read_number" 2 [] f_read_number) (l_read_number : k_read_number ≤ k) {f_read_text : MF} (D_read_text : DefOk P w K mg base (tf.map (tbOf K)) k_read_text "read_text" 2 [] f_read_text) (l_read_text : k_read_text ≤ k) : DefOk P w K mg base (tf.map (tbOf K)) (k + 1) "read_row" 2 [] (runF 6 (m_read_row f_read_number f_read_text)) := by
  refine def_mkC (d := d5) (N := ["octets", "place", "many", "found", "turn", "text"]) (ps := ["octets", "place"]) F 5 12 rfl rfl rfl ⟨rfl, rfl, rfl, by decide +kernel, rfl, by decide +kernel, by decide +kernel⟩ (bd_all rfl fun _ _ _ _ _ _ us hl => match us, hl with | [_, _], _ => rfl) fun A outer s H E hr => ?_
  have hu := hr.units
  have hu5 := hr.units5
  have hu1 := hr.units1
  have hN : (["octets", "place", "many", "found", "turn", "text"] : List Str).Nodup := by decide +kernel
  exact (b_cons (s_asg (vs := [1, 2]) (s_fn D_read_number (takes_of rfl rfl rfl rfl) (hr.mono l_read_number) rfl (al_cons (al_cons al_nil)) rfl (s_cons (s_var (i := 0) rfl (.inl rfl)) (s_cons (s_var (i := 1) rfl (.inl rfl)) s_nil))) (g_tup rfl (gs_cons (g_name (i := 2) hN rfl (.inl rfl) (.inr rfl) (by decide)) (gs_cons (g_name (i := 1) hN rfl (.inl rfl) (.inr rfl) (by decide)) gs_nil))))
    (b_cons (s_set (i := 3) hN rfl (.inl rfl) (.inr rfl) (s_cell s_nil))
    (b_cons (s_for (vs := [4]) (passes_of rfl) rfl (i_range1 rfl (F.free 45 _ rfl) (s_cons (s_var (i := 2) rfl (.inl rfl)) s_nil)) (g_name (i := 4) hN rfl (.inl rfl) (.inr rfl) (by decide)) (b_cons (s_asg (vs := [1, 5]) (s_fn D_read_text (takes_of rfl rfl rfl rfl) (hr.mono l_read_text) rfl (al_cons (al_cons al_nil)) rfl (s_cons (s_var (i := 0) rfl (.inl rfl)) (s_cons (s_var (i := 1) rfl (.inl rfl)) s_nil))) (g_tup rfl (gs_cons (g_name (i := 5) hN rfl (.inl rfl) (.inr rfl) (by decide)) (gs_cons (g_name (i := 1) hN rfl (.inl rfl) (.inr rfl) (by decide)) gs_nil))))
    (b_one (s_exp (s_meth PySem.F.plainAttrs_list PySem.F.slot_list_append PySem.F.type_list_append mt_append ty_list bm_append (s_var (i := 3) rfl (.inl rfl)) (s_cons (s_var (i := 5) rfl (.inl rfl)) s_nil))))))
    (b_one (s_ret (s_tup (s_cons (s_callT call_tuple_of bc_tuple rfl (F.free 48 _ rfl) rfl (s_cons (s_var (i := 3) rfl (.inl rfl)) s_nil)) (s_cons (s_var (i := 1) rfl (.inl rfl)) s_nil))))))))
def m_key_octets (f_text_octets : MF) (f_number_octets : MF) : MS :=
  (mSeq (mAsg (mCell aNil) (gN 1))
  (mSeq (mFor (iAny (mV 0)) (gN 2) (mAug 1 iadd (mBin opAdd (mCall biList (aCons (mSl (mCallD f_text_octets [] (aCons (mV 2) aNil)) (oSo (mCall biLen (aCons (mCallD f_number_octets [] (aCons (mCall biLen (aCons (mV 2) aNil)) aNil)) aNil))) oNo) aNil)) (mLst (aCons (mK (.d (.int 0))) aNil)))))
  (mRet (mCall biTuple (aCons (mV 1) aNil)))))
theorem B_key_octets {k : Nat} {k_text_octets : Nat} {k_number_octets : Nat} (F : Fx fa fn K mg) (G : TabsF K mg base tf) {f_text_octets : MF} (D_text_octets : DefOk P w K mg base (tf.map (tbOf K)) k_text_octets "text_octets" 1 [] f_text_octets) (l_text_octets : k_text_octets ≤ k) {f_number_octets : MF} (D_number_octets : DefOk P w K mg base (tf.map (tbOf K)) k_number_octets "number_octets" 1 [] f_number_octets) (l_number_octets : k_number_octets ≤ k) : DefOk P w K mg base (tf.map (tbOf K)) (k + 1) "key_octets" 1 [] (runF 3 (m_key_octets f_text_octets f_number_octets)) := by
  refine def_mkC (d := d6) (N := ["row", "found", "text"]) (ps := ["row"]) F 6 13 rfl rfl rfl ⟨rfl, rfl, rfl, by decide +kernel, rfl, by decide +kernel, by decide +kernel⟩ (bd_all rfl fun _ _ _ _ _ _ us hl => match us, hl with | [_], _ => rfl) fun A outer s H E hr => ?_
  have hu := hr.units
  have hu5 := hr.units5
  have hu1 := hr.units1
  have hN : (["row", "found", "text"] : List Str).Nodup := by decide +kernel
  exact (b_cons (s_set (i := 1) hN rfl (.inl rfl) (.inr rfl) (s_cell s_nil))
    (b_cons (s_for (vs := [2]) (passes_of rfl) rfl (i_any (s_var (i := 0) rfl (.inl rfl))) (g_name (i := 2) hN rfl (.inl rfl) (.inr rfl) (by decide)) (b_one (s_aug (i := 1) hN rfl (.inl rfl) (.inr rfl) (s_op op_addM br_add (s_callT call_list_of bc_list rfl (F.free 42 _ rfl) rfl (s_cons (s_sl (s_fn D_text_octets (takes_of rfl rfl rfl rfl) (hr.mono l_text_octets) rfl (al_cons al_nil) rfl (s_cons (s_var (i := 2) rfl (.inl rfl)) s_nil)) (s_so (s_callB call_lenM bc_len rfl (F.free 41 _ rfl) rfl (s_cons (s_fn D_number_octets (takes_of rfl rfl rfl rfl) (hr.mono l_number_octets) rfl (al_cons al_nil) rfl (s_cons (s_callB call_lenM bc_len rfl (F.free 41 _ rfl) rfl (s_cons (s_var (i := 2) rfl (.inl rfl)) s_nil)) s_nil)) s_nil))) s_no) s_nil)) (s_lst (s_cons s_int s_nil))) iop_addM br_iadd)))
    (b_one (s_ret (s_callT call_tuple_of bc_tuple rfl (F.free 48 _ rfl) rfl (s_cons (s_var (i := 1) rfl (.inl rfl)) s_nil))))))
def m_read_key : MS :=
  (mSeq (mIf (mOr (mAnd (mTb (mBin oGt (mCall biLen (aCons (mV 0) aNil)) (mK (.d (.int 0))))) (mTb (mBin (opEq false) (mBin opIx (mV 0) (mNeg (mK (.d (.int 1))))) (mK (.d (.int 0)))))) (mTb (mGen (iAny (mV 0)) (gN 3) mYes (mNotV (mChain oLe oLe (mK (.d (.int 0))) (mV 3) (mCall biLen (aCons (mK (.d (.str " !#,-./0123456789:;=?ABCDEFGHIJKLMNOPQRSTUVWXYZ_abcdefghijklmnopqrstuvwxyz"))) aNil)))) [3] cAny))) (mRaise "CodeError") mSkip)
  (mSeq (mPar 1 2 (aCons (mCell aNil) (aCons (mK (.d (.str ""))) aNil)))
  (mSeq (mFor (iAny (mV 0)) (gN 3) (mIf (mTb (mBin (opEq true) (mV 3) (mK (.d (.int 0))))) (mSeq (mExp (mMeth tyL meAppend (mV 1) (aCons (mV 2) aNil)))
  (mAsg (mK (.d (.str ""))) (gN 2))) (mAug 2 iadd (mBin opIx (mK (.d (.str " !#,-./0123456789:;=?ABCDEFGHIJKLMNOPQRSTUVWXYZ_abcdefghijklmnopqrstuvwxyz"))) (mBin opSub (mV 3) (mK (.d (.int 1))))))))
  (mRet (mCall biTuple (aCons (mV 1) aNil))))))
theorem B_read_key {k : Nat} (F : Fx fa fn K mg) (G : TabsF K mg base tf) : DefOk P w K mg base (tf.map (tbOf K)) (k + 1 + 1) "read_key" 1 [] (runF 4 (m_read_key)) := by
  refine def_mkC (d := d7) (N := ["octets", "found", "here", "one"]) (ps := ["octets"]) F 7 14 rfl rfl rfl ⟨rfl, rfl, rfl, by decide +kernel, rfl, by decide +kernel, by decide +kernel⟩ (bd_all rfl fun _ _ _ _ _ _ us hl => match us, hl with | [_], _ => rfl) fun A outer s H E hr => ?_
  have hu := hr.units
  have hu5 := hr.units5
  have hu1 := hr.units1
  have hN : (["octets", "found", "here", "one"] : List Str).Nodup := by decide +kernel
  exact (b_cons (s_if (s_w (w_or (s_w (w_and (s_tcmp (op_gtU hu) br_gtU (s_callB call_lenM bc_len rfl (F.free 41 _ rfl) rfl (s_cons (s_var (i := 0) rfl (.inl rfl)) s_nil)) s_int rfl) (w_and1 (s_tcmp (op_neM hu) br_eq (s_ix (s_var (i := 0) rfl (.inl rfl)) (s_neg s_int)) s_int rfl)))) (w_or1 (s_val (s_genB (own := [("one", 3)]) (any_cons hr) hr hN rfl (F.free 37 _ rfl) rfl (i_any (s_var (i := 0) rfl (.inl rfl))) (blkOk_by (by kernel_rfl)) (by decide +kernel) rfl rfl (code_at G 2 rfl rfl (by decide +kernel)) ⟨(fun _ _ _ _ _ _ A hr => have hu := hr.units; have hu5 := hr.units5; have hu1 := hr.units1; (g_name (i := 3) hN rfl (by first | exact .inl rfl | exact .inr rfl) (by first | exact .inr rfl | exact .inl rfl) (by decide))), (fun _ _ _ _ _ _ A hr => have hu := hr.units; have hu5 := hr.units5; have hu1 := hr.units1; ts_nil), (fun _ _ _ _ _ _ A hr => have hu := hr.units; have hu5 := hr.units5; have hu1 := hr.units1; (s_notV (s_chain (op_leU hu) (op_leU hu) br_leU br_leU s_int (s_var (i := 3) rfl (by first | exact .inr (.inr rfl) | exact .inl rfl | exact .inr (.inl rfl))) (s_callB call_lenM bc_len rfl (F.free 41 _ rfl) rfl (s_cons (s_gstr rfl (F.str 4 _ _ rfl) (by decide +kernel)) s_nil)))))⟩))))) (b_one (s_raiseF F 2 3 rfl rfl rfl (takes_of rfl rfl rfl rfl) rfl)) b_nil)
    (b_cons (s_par (i := 1) (j := 2) rfl hN rfl rfl (by decide) rfl rfl (s_cons (s_cell s_nil) (s_cons (s_str (by decide +kernel)) s_nil)) rfl)
    (b_cons (s_for (vs := [3]) (passes_of rfl) rfl (i_any (s_var (i := 0) rfl (.inl rfl))) (g_name (i := 3) hN rfl (.inl rfl) (.inr rfl) (by decide)) (b_one (s_if (s_tcmp (op_eqM hu) br_eq (s_var (i := 3) rfl (.inl rfl)) s_int rfl) (b_cons (s_exp (s_meth PySem.F.plainAttrs_list PySem.F.slot_list_append PySem.F.type_list_append mt_append ty_list bm_append (s_var (i := 1) rfl (.inl rfl)) (s_cons (s_var (i := 2) rfl (.inl rfl)) s_nil)))
    (b_one (s_set (i := 2) hN rfl (.inl rfl) (.inr rfl) (s_str (by decide +kernel))))) (b_one (s_aug (i := 2) hN rfl (.inl rfl) (.inr rfl) (s_ix (s_gstr rfl (F.str 4 _ _ rfl) (by decide +kernel)) (s_op op_sub br_sub (s_var (i := 3) rfl (.inl rfl)) s_int)) iop_addM br_iadd)))))
    (b_one (s_ret (s_callT call_tuple_of bc_tuple rfl (F.free 48 _ rfl) rfl (s_cons (s_var (i := 1) rfl (.inl rfl)) s_nil)))))))
def m_sum_of : MS :=
  (mSeq (mAsg (mTup (aCons (mK (.d (.int 1))) (aCons (mK (.d (.int 0))) aNil))) (gTp 2 (gsCons (gN 1) (gsCons (gN 2) gsNil))))
  (mSeq (mFor (iAny (mV 0)) (gN 3) (mSeq (mIf (mNot (mTb (mChain oLe oLe (mK (.d (.int 0))) (mV 3) (mK (.d (.int 255)))))) (mRaise "CodeError") mSkip)
  (mSeq (mAsg (mBin opMod (mBin opAdd (mV 1) (mV 3)) (mK (.d (.int 65521)))) (gN 1))
  (mAsg (mBin opMod (mBin opAdd (mV 2) (mV 1)) (mK (.d (.int 65521)))) (gN 2)))))
  (mRet (mBin opAdd (mBin opMul (mV 2) (mK (.d (.int 65536)))) (mV 1)))))
theorem B_sum_of {k : Nat} (F : Fx fa fn K mg) (G : TabsF K mg base tf) : DefOk P w K mg base (tf.map (tbOf K)) (k + 1) "sum_of" 1 [] (runF 4 (m_sum_of)) := by
  refine def_mkC (d := d8) (N := ["octets", "low", "high", "one"]) (ps := ["octets"]) F 8 15 rfl rfl rfl ⟨rfl, rfl, rfl, by decide +kernel, rfl, by decide +kernel, by decide +kernel⟩ (bd_all rfl fun _ _ _ _ _ _ us hl => match us, hl with | [_], _ => rfl) fun A outer s H E hr => ?_
  have hu := hr.units
  have hu5 := hr.units5
  have hu1 := hr.units1
  have hN : (["octets", "low", "high", "one"] : List Str).Nodup := by decide +kernel
  exact (b_cons (s_asg (vs := [2, 1]) (s_tup (s_cons s_int (s_cons s_int s_nil))) (g_tup rfl (gs_cons (g_name (i := 1) hN rfl (.inl rfl) (.inr rfl) (by decide)) (gs_cons (g_name (i := 2) hN rfl (.inl rfl) (.inr rfl) (by decide)) gs_nil))))
    (b_cons (s_for (vs := [3]) (passes_of rfl) rfl (i_any (s_var (i := 0) rfl (.inl rfl))) (g_name (i := 3) hN rfl (.inl rfl) (.inr rfl) (by decide)) (b_cons (s_if (s_not (s_tchain (op_leU hu) (op_leU hu) br_leU br_leU s_int (s_var (i := 3) rfl (.inl rfl)) s_int)) (b_one (s_raiseF F 2 3 rfl rfl rfl (takes_of rfl rfl rfl rfl) rfl)) b_nil)
    (b_cons (s_set (i := 1) hN rfl (.inl rfl) (.inr rfl) (s_op op_mod br_mod (s_op op_addM br_add (s_var (i := 1) rfl (.inl rfl)) (s_var (i := 3) rfl (.inl rfl))) (s_gint rfl (F.int 6 _ _ rfl))))
    (b_one (s_set (i := 2) hN rfl (.inl rfl) (.inr rfl) (s_op op_mod br_mod (s_op op_addM br_add (s_var (i := 2) rfl (.inl rfl)) (s_var (i := 1) rfl (.inl rfl))) (s_gint rfl (F.int 6 _ _ rfl))))))))
    (b_one (s_ret (s_op op_addM br_add (s_op op_mulM br_mul (s_var (i := 2) rfl (.inl rfl)) s_int) (s_var (i := 1) rfl (.inl rfl)))))))
def m_framed (f_sum_of : MF) (f_number_octets : MF) : MS :=
  (mSeq (mAsg (mCallD f_sum_of [] (aCons (mV 0) aNil)) (gN 1))
  (mSeq (mAsg (mLst aNil) (gN 2))
  (mSeq (mFor (iRange1 (aCons (mK (.d (.int 4))) aNil)) (gN 3) (mSeq (mAsg (mBin opAdd (mLst (aCons (mBin opMod (mV 1) (mK (.d (.int 256)))) aNil)) (mV 2)) (gN 2))
  (mAug 1 opDiv (mK (.d (.int 256))))))
  (mRet (mBin opAdd (mBin opAdd (mCallD f_number_octets [] (aCons (mCall biLen (aCons (mV 0) aNil)) aNil)) (mCall biTuple (aCons (mV 0) aNil))) (mCall biTuple (aCons (mV 2) aNil)))))))
theorem B_framed {k : Nat} {k_sum_of : Nat} {k_number_octets : Nat} (F : Fx fa fn K mg) (G : TabsF K mg base tf) {f_sum_of : MF} (D_sum_of : DefOk P w K mg base (tf.map (tbOf K)) k_sum_of "sum_of" 1 [] f_sum_of) (l_sum_of : k_sum_of ≤ k) {f_number_octets : MF} (D_number_octets : DefOk P w K mg base (tf.map (tbOf K)) k_number_octets "number_octets" 1 [] f_number_octets) (l_number_octets : k_number_octets ≤ k) : DefOk P w K mg base (tf.map (tbOf K)) (k + 1) "framed" 1 [] (runF 4 (m_framed f_sum_of f_number_octets)) := by
  refine def_mkC (d := d9) (N := ["octets", "whole", "tail", "place"]) (ps := ["octets"]) F 9 16 rfl rfl rfl ⟨rfl, rfl, rfl, by decide +kernel, rfl, by decide +kernel, by decide +kernel⟩ (bd_all rfl fun _ _ _ _ _ _ us hl => match us, hl with | [_], _ => rfl) fun A outer s H E hr => ?_
  have hu := hr.units
  have hu5 := hr.units5
  have hu1 := hr.units1
  have hN : (["octets", "whole", "tail", "place"] : List Str).Nodup := by decide +kernel
  exact (b_cons (s_set (i := 1) hN rfl (.inl rfl) (.inr rfl) (s_fn D_sum_of (takes_of rfl rfl rfl rfl) (hr.mono l_sum_of) rfl (al_cons al_nil) rfl (s_cons (s_var (i := 0) rfl (.inl rfl)) s_nil)))
    (b_cons (s_set (i := 2) hN rfl (.inl rfl) (.inr rfl) (s_lst s_nil))
    (b_cons (s_for (vs := [3]) (passes_of rfl) rfl (i_range1 rfl (F.free 45 _ rfl) (s_cons s_int s_nil)) (g_name (i := 3) hN rfl (.inl rfl) (.inr rfl) (by decide)) (b_cons (s_set (i := 2) hN rfl (.inl rfl) (.inr rfl) (s_op op_addM br_add (s_lst (s_cons (s_op op_mod br_mod (s_var (i := 1) rfl (.inl rfl)) s_int) s_nil)) (s_var (i := 2) rfl (.inl rfl))))
    (b_one (s_aug (i := 1) hN rfl (.inl rfl) (.inr rfl) s_int iop_fdivW br_div))))
    (b_one (s_ret (s_op op_addM br_add (s_op op_addM br_add (s_fn D_number_octets (takes_of rfl rfl rfl rfl) (hr.mono l_number_octets) rfl (al_cons al_nil) rfl (s_cons (s_callB call_lenM bc_len rfl (F.free 41 _ rfl) rfl (s_cons (s_var (i := 0) rfl (.inl rfl)) s_nil)) s_nil)) (s_callT call_tuple_of bc_tuple rfl (F.free 48 _ rfl) rfl (s_cons (s_var (i := 0) rfl (.inl rfl)) s_nil))) (s_callT call_tuple_of bc_tuple rfl (F.free 48 _ rfl) rfl (s_cons (s_var (i := 2) rfl (.inl rfl)) s_nil))))))))
def m_read_frame (f_is_number_cut : MF) (f_read_number : MF) (f_sum_of : MF) : MS :=
  (mSeq (mIf (mTb (mCallD f_is_number_cut [] (aCons (mV 0) (aCons (mV 1) aNil)))) (mRet (mK (.d .none))) mSkip)
  (mSeq (mAsg (mCallD f_read_number [] (aCons (mV 0) (aCons (mV 1) aNil))) (gTp 2 (gsCons (gN 2) (gsCons (gN 1) gsNil))))
  (mSeq (mPar 3 4 (aCons (mCall biTuple (aCons (mSl (mV 0) (oSo (mV 1)) (oSo (mBin opAdd (mV 1) (mV 2)))) aNil)) (aCons (mSl (mV 0) (oSo (mBin opAdd (mV 1) (mV 2))) (oSo (mBin opAdd (mBin opAdd (mV 1) (mV 2)) (mK (.d (.int 4)))))) aNil)))
  (mSeq (mIf (mOr (mTb (mBin oLt (mCall biLen (aCons (mV 3) aNil)) (mV 2))) (mTb (mBin oLt (mCall biLen (aCons (mV 4) aNil)) (mK (.d (.int 4)))))) (mRet (mK (.d .none))) mSkip)
  (mSeq (mAsg (mK (.d (.int 0))) (gN 5))
  (mSeq (mFor (iAny (mV 4)) (gN 6) (mAsg (mBin opAdd (mBin opMul (mV 5) (mK (.d (.int 256)))) (mV 6)) (gN 5)))
  (mRet (mIfE (mTb (mBin (opEq true) (mV 5) (mCallD f_sum_of [] (aCons (mV 3) aNil)))) (mTup (aCons (mV 3) (aCons (mBin opAdd (mBin opAdd (mV 1) (mV 2)) (mK (.d (.int 4)))) aNil))) (mK (.d .none))))))))))
theorem B_read_frame {k : Nat} {k_is_number_cut : Nat} {k_read_number : Nat} {k_sum_of : Nat} (F : Fx fa fn K mg) (G : TabsF K mg base tf) {f_is_number_cut : MF} (D_is_number_cut : DefOk P w K mg base (tf.map (tbOf K)) k_is_number_cut "is_number_cut" 2 [] f_is_number_cut) (l_is_number_cut : k_is_number_cut ≤ k) {f_read_number : MF} (D_read_number : DefOk P w K mg base (tf.map (tbOf K)) k_read_number "read_number" 2 [] f_read_number) (l_read_number : k_read_number ≤ k) {f_sum_of : MF} (D_sum_of : DefOk P w K mg base (tf.map (tbOf K)) k_sum_of "sum_of" 1 [] f_sum_of) (l_sum_of : k_sum_of ≤ k) : DefOk P w K mg base (tf.map (tbOf K)) (k + 1) "read_frame" 2 [] (runF 7 (m_read_frame f_is_number_cut f_read_number f_sum_of)) := by
  refine def_mkC (d := d10) (N := ["octets", "place", "many", "part", "tail", "whole", "one"]) (ps := ["octets", "place"]) F 10 17 rfl rfl rfl ⟨rfl, rfl, rfl, by decide +kernel, rfl, by decide +kernel, by decide +kernel⟩ (bd_all rfl fun _ _ _ _ _ _ us hl => match us, hl with | [_, _], _ => rfl) fun A outer s H E hr => ?_
  have hu := hr.units
  have hu5 := hr.units5
  have hu1 := hr.units1
  have hN : (["octets", "place", "many", "part", "tail", "whole", "one"] : List Str).Nodup := by decide +kernel
  exact (b_cons (s_if (s_val (s_fn D_is_number_cut (takes_of rfl rfl rfl rfl) (hr.mono l_is_number_cut) rfl (al_cons (al_cons al_nil)) rfl (s_cons (s_var (i := 0) rfl (.inl rfl)) (s_cons (s_var (i := 1) rfl (.inl rfl)) s_nil)))) (b_one (s_ret s_non)) b_nil)
    (b_cons (s_asg (vs := [1, 2]) (s_fn D_read_number (takes_of rfl rfl rfl rfl) (hr.mono l_read_number) rfl (al_cons (al_cons al_nil)) rfl (s_cons (s_var (i := 0) rfl (.inl rfl)) (s_cons (s_var (i := 1) rfl (.inl rfl)) s_nil))) (g_tup rfl (gs_cons (g_name (i := 2) hN rfl (.inl rfl) (.inr rfl) (by decide)) (gs_cons (g_name (i := 1) hN rfl (.inl rfl) (.inr rfl) (by decide)) gs_nil))))
    (b_cons (s_par (i := 3) (j := 4) rfl hN rfl rfl (by decide) rfl rfl (s_cons (s_callT call_tuple_of bc_tuple rfl (F.free 48 _ rfl) rfl (s_cons (s_sl (s_var (i := 0) rfl (.inl rfl)) (s_so (s_var (i := 1) rfl (.inl rfl))) (s_so (s_op op_addM br_add (s_var (i := 1) rfl (.inl rfl)) (s_var (i := 2) rfl (.inl rfl))))) s_nil)) (s_cons (s_sl (s_var (i := 0) rfl (.inl rfl)) (s_so (s_op op_addM br_add (s_var (i := 1) rfl (.inl rfl)) (s_var (i := 2) rfl (.inl rfl)))) (s_so (s_op op_addM br_add (s_op op_addM br_add (s_var (i := 1) rfl (.inl rfl)) (s_var (i := 2) rfl (.inl rfl))) s_int))) s_nil)) rfl)
    (b_cons (s_if (s_w (w_or (s_tcmp (op_ltU hu) br_ltU (s_callB call_lenM bc_len rfl (F.free 41 _ rfl) rfl (s_cons (s_var (i := 3) rfl (.inl rfl)) s_nil)) (s_var (i := 2) rfl (.inl rfl)) rfl) (w_or1 (s_tcmp (op_ltU hu) br_ltU (s_callB call_lenM bc_len rfl (F.free 41 _ rfl) rfl (s_cons (s_var (i := 4) rfl (.inl rfl)) s_nil)) s_int rfl)))) (b_one (s_ret s_non)) b_nil)
    (b_cons (s_set (i := 5) hN rfl (.inl rfl) (.inr rfl) s_int)
    (b_cons (s_for (vs := [6]) (passes_of rfl) rfl (i_any (s_var (i := 4) rfl (.inl rfl))) (g_name (i := 6) hN rfl (.inl rfl) (.inr rfl) (by decide)) (b_one (s_set (i := 5) hN rfl (.inl rfl) (.inr rfl) (s_op op_addM br_add (s_op op_mulM br_mul (s_var (i := 5) rfl (.inl rfl)) s_int) (s_var (i := 6) rfl (.inl rfl))))))
    (b_one (s_ret (s_ifE (s_tcmp (op_eqM hu) br_eq (s_var (i := 5) rfl (.inl rfl)) (s_fn D_sum_of (takes_of rfl rfl rfl rfl) (hr.mono l_sum_of) rfl (al_cons al_nil) rfl (s_cons (s_var (i := 3) rfl (.inl rfl)) s_nil)) rfl) (s_tup (s_cons (s_var (i := 3) rfl (.inl rfl)) (s_cons (s_op op_addM br_add (s_op op_addM br_add (s_var (i := 1) rfl (.inl rfl)) (s_var (i := 2) rfl (.inl rfl))) s_int) s_nil))) s_non)))))))))
def m_is_number_cut (f_number_at : MF) : MS :=
  (mSeq (mAsg (mV 1) (gN 2))
  (mSeq (mWh (mAnd (mTb (mBin oLt (mV 1) (mCall biLen (aCons (mV 0) aNil)))) (mAnd (mTb (mBin oGe (mBin opIx (mV 0) (mV 1)) (mK (.d (.int 128))))) (mTb (mBin oLt (mBin opSub (mV 1) (mV 2)) (mK (.d (.int 6))))))) (mAug 1 iadd (mK (.d (.int 1)))) FU)
  (mSeq (mIf (mOr (mTb (mBin oGe (mV 1) (mCall biLen (aCons (mV 0) aNil)))) (mOr (mTb (mBin oGe (mBin opIx (mV 0) (mV 1)) (mK (.d (.int 128))))) (mAnd (mTb (mBin (opEq true) (mBin opIx (mV 0) (mV 1)) (mK (.d (.int 0))))) (mTb (mBin oGt (mV 1) (mV 2)))))) (mRet (mK (.d (.bool true)))) mSkip)
  (mRet (mBin oGt (mCallD f_number_at [] (aCons (mV 0) (aCons (mV 2) (aCons (mV 1) aNil)))) (mK (.d (.int 1000000000000))))))))
theorem B_is_number_cut {k : Nat} {k_number_at : Nat} (F : Fx fa fn K mg) (G : TabsF K mg base tf) {f_number_at : MF} (D_number_at : DefOk P w K mg base (tf.map (tbOf K)) k_number_at "number_at" 3 [] f_number_at) (l_number_at : k_number_at ≤ k) : DefOk P w K mg base (tf.map (tbOf K)) (k + 1) "is_number_cut" 2 [] (runF 3 (m_is_number_cut f_number_at)) := by
  refine def_mkC (d := d11) (N := ["octets", "place", "start"]) (ps := ["octets", "place"]) F 11 18 rfl rfl rfl ⟨rfl, rfl, rfl, by decide +kernel, rfl, by decide +kernel, by decide +kernel⟩ (bd_all rfl fun _ _ _ _ _ _ us hl => match us, hl with | [_, _], _ => rfl) fun A outer s H E hr => ?_
  have hu := hr.units
  have hu5 := hr.units5
  have hu1 := hr.units1
  have hN : (["octets", "place", "start"] : List Str).Nodup := by decide +kernel
  exact (b_cons (s_set (i := 2) hN rfl (.inl rfl) (.inr rfl) (s_var (i := 1) rfl (.inl rfl)))
    (b_cons (s_while (passes_of rfl) (s_w (w_and (s_tcmp (op_ltU hu) br_ltU (s_var (i := 1) rfl (.inl rfl)) (s_callB call_lenM bc_len rfl (F.free 41 _ rfl) rfl (s_cons (s_var (i := 0) rfl (.inl rfl)) s_nil)) rfl) (w_and (s_tcmp (op_geU hu) br_geU (s_ix (s_var (i := 0) rfl (.inl rfl)) (s_var (i := 1) rfl (.inl rfl))) s_int rfl) (w_and1 (s_tcmp (op_ltU hu) br_ltU (s_op op_sub br_sub (s_var (i := 1) rfl (.inl rfl)) (s_var (i := 2) rfl (.inl rfl))) s_int rfl))))) (b_one (s_aug (i := 1) hN rfl (.inl rfl) (.inr rfl) s_int iop_addM br_iadd)))
    (b_cons (s_if (s_w (w_or (s_tcmp (op_geU hu) br_geU (s_var (i := 1) rfl (.inl rfl)) (s_callB call_lenM bc_len rfl (F.free 41 _ rfl) rfl (s_cons (s_var (i := 0) rfl (.inl rfl)) s_nil)) rfl) (w_or (s_tcmp (op_geU hu) br_geU (s_ix (s_var (i := 0) rfl (.inl rfl)) (s_var (i := 1) rfl (.inl rfl))) s_int rfl) (w_or1 (s_w (w_and (s_tcmp (op_eqM hu) br_eq (s_ix (s_var (i := 0) rfl (.inl rfl)) (s_var (i := 1) rfl (.inl rfl))) s_int rfl) (w_and1 (s_tcmp (op_gtU hu) br_gtU (s_var (i := 1) rfl (.inl rfl)) (s_var (i := 2) rfl (.inl rfl)) rfl)))))))) (b_one (s_ret s_bl)) b_nil)
    (b_one (s_ret (s_cmp (op_gtU hu) br_gtU (s_fn D_number_at (takes_of rfl rfl rfl rfl) (hr.mono l_number_at) rfl (al_cons (al_cons (al_cons al_nil))) rfl (s_cons (s_var (i := 0) rfl (.inl rfl)) (s_cons (s_var (i := 2) rfl (.inl rfl)) (s_cons (s_var (i := 1) rfl (.inl rfl)) s_nil)))) (s_gint rfl (F.int 5 _ _ rfl)) rfl))))))
def m_number_at : MS :=
  (mSeq (mAsg (mTup (aCons (mK (.d (.int 0))) (aCons (mK (.d (.int 1))) aNil))) (gTp 2 (gsCons (gN 3) (gsCons (gN 4) gsNil))))
  (mSeq (mFor (iAny (mSl (mV 0) (oSo (mV 1)) (oSo (mBin opAdd (mV 2) (mK (.d (.int 1))))))) (gN 5) (mSeq (mAug 3 iadd (mBin opMul (mBin opMod (mV 5) (mK (.d (.int 128)))) (mV 4)))
  (mAug 4 imul (mK (.d (.int 128))))))
  (mRet (mV 3))))
theorem B_number_at {k : Nat} (F : Fx fa fn K mg) (G : TabsF K mg base tf) : DefOk P w K mg base (tf.map (tbOf K)) (k + 1) "number_at" 3 [] (runF 6 (m_number_at)) := by
  refine def_mkC (d := d12) (N := ["octets", "start", "place", "found", "weight", "one"]) (ps := ["octets", "start", "place"]) F 12 19 rfl rfl rfl ⟨rfl, rfl, rfl, by decide +kernel, rfl, by decide +kernel, by decide +kernel⟩ (bd_all rfl fun _ _ _ _ _ _ us hl => match us, hl with | [_, _, _], _ => rfl) fun A outer s H E hr => ?_
  have hu := hr.units
  have hu5 := hr.units5
  have hu1 := hr.units1
  have hN : (["octets", "start", "place", "found", "weight", "one"] : List Str).Nodup := by decide +kernel
  exact (b_cons (s_asg (vs := [4, 3]) (s_tup (s_cons s_int (s_cons s_int s_nil))) (g_tup rfl (gs_cons (g_name (i := 3) hN rfl (.inl rfl) (.inr rfl) (by decide)) (gs_cons (g_name (i := 4) hN rfl (.inl rfl) (.inr rfl) (by decide)) gs_nil))))
    (b_cons (s_for (vs := [5]) (passes_of rfl) rfl (i_any (s_sl (s_var (i := 0) rfl (.inl rfl)) (s_so (s_var (i := 1) rfl (.inl rfl))) (s_so (s_op op_addM br_add (s_var (i := 2) rfl (.inl rfl)) s_int)))) (g_name (i := 5) hN rfl (.inl rfl) (.inr rfl) (by decide)) (b_cons (s_aug (i := 3) hN rfl (.inl rfl) (.inr rfl) (s_op op_mulM br_mul (s_op op_mod br_mod (s_var (i := 5) rfl (.inl rfl)) s_int) (s_var (i := 4) rfl (.inl rfl))) iop_addM br_iadd)
    (b_one (s_aug (i := 4) hN rfl (.inl rfl) (.inr rfl) s_int iop_mulM br_imul))))
    (b_one (s_ret (s_var (i := 3) rfl (.inl rfl))))))
def m_shared_start : MS :=
  (mSeq (mAsg (mK (.d (.int 0))) (gN 2))
  (mSeq (mWh (mAnd (mTb (mBin oLt (mV 2) (mCall biMin2 (aCons (mCall biLen (aCons (mV 0) aNil)) (aCons (mCall biLen (aCons (mV 1) aNil)) aNil))))) (mTb (mBin (opEq true) (mBin opIx (mV 0) (mV 2)) (mBin opIx (mV 1) (mV 2))))) (mAug 2 iadd (mK (.d (.int 1)))) FU)
  (mRet (mV 2))))
theorem B_shared_start {k : Nat} (F : Fx fa fn K mg) (G : TabsF K mg base tf) : DefOk P w K mg base (tf.map (tbOf K)) (k + 1) "shared_start" 2 [] (runF 3 (m_shared_start)) := by
  refine def_mkC (d := d13) (N := ["one", "other", "found"]) (ps := ["one", "other"]) F 13 20 rfl rfl rfl ⟨rfl, rfl, rfl, by decide +kernel, rfl, by decide +kernel, by decide +kernel⟩ (bd_all rfl fun _ _ _ _ _ _ us hl => match us, hl with | [_, _], _ => rfl) fun A outer s H E hr => ?_
  have hu := hr.units
  have hu5 := hr.units5
  have hu1 := hr.units1
  have hN : (["one", "other", "found"] : List Str).Nodup := by decide +kernel
  exact (b_cons (s_set (i := 2) hN rfl (.inl rfl) (.inr rfl) s_int)
    (b_cons (s_while (passes_of rfl) (s_w (w_and (s_tcmp (op_ltU hu) br_ltU (s_var (i := 2) rfl (.inl rfl)) (s_callB (call_min2 rfl) bc_min2 rfl (F.free 44 _ rfl) rfl (s_cons (s_callB call_lenM bc_len rfl (F.free 41 _ rfl) rfl (s_cons (s_var (i := 0) rfl (.inl rfl)) s_nil)) (s_cons (s_callB call_lenM bc_len rfl (F.free 41 _ rfl) rfl (s_cons (s_var (i := 1) rfl (.inl rfl)) s_nil)) s_nil))) rfl) (w_and1 (s_tcmp (op_eqM hu) br_eq (s_ix (s_var (i := 0) rfl (.inl rfl)) (s_var (i := 2) rfl (.inl rfl))) (s_ix (s_var (i := 1) rfl (.inl rfl)) (s_var (i := 2) rfl (.inl rfl))) rfl)))) (b_one (s_aug (i := 2) hN rfl (.inl rfl) (.inr rfl) s_int iop_addM br_iadd)))
    (b_one (s_ret (s_var (i := 2) rfl (.inl rfl))))))
def m_squeezed (f_shared_start : MF) : MS :=
  (mSeq (mIf (mTb (mGen (iZipM (aCons (mV 0) (aCons (mSl (mV 0) (oSo (mK (.d (.int 1)))) oNo) aNil))) (gTp 2 (gsCons (gN 5) (gsCons (gN 6) gsNil))) mYes (mBin oGe (mV 5) (mV 6)) [5, 6] cAny)) (mRaise "CodeError") mSkip)
  (mSeq (mPar 1 2 (aCons (mCell aNil) (aCons (mK (.d (.str ""))) aNil)))
  (mSeq (mFor (iAny (mV 0)) (gN 3) (mSeq (mAsg (mCallD f_shared_start [] (aCons (mV 2) (aCons (mV 3) aNil))) (gN 4))
  (mSeq (mExp (mMeth tyL meAppend (mV 1) (aCons (mTup (aCons (mV 4) (aCons (mSl (mV 3) (oSo (mV 4)) oNo) aNil))) aNil)))
  (mAsg (mV 3) (gN 2)))))
  (mRet (mCall biTuple (aCons (mV 1) aNil))))))
theorem B_squeezed {k : Nat} {k_shared_start : Nat} (F : Fx fa fn K mg) (G : TabsF K mg base tf) {f_shared_start : MF} (D_shared_start : DefOk P w K mg base (tf.map (tbOf K)) k_shared_start "shared_start" 2 [] f_shared_start) (l_shared_start : k_shared_start ≤ k) : DefOk P w K mg base (tf.map (tbOf K)) (k + 1 + 1) "squeezed" 1 [] (runF 7 (m_squeezed f_shared_start)) := by
  refine def_mkC (d := d14) (N := ["keys", "found", "ahead", "key", "many", "one", "other"]) (ps := ["keys"]) F 14 21 rfl rfl rfl ⟨rfl, rfl, rfl, by decide +kernel, rfl, by decide +kernel, by decide +kernel⟩ (bd_all rfl fun _ _ _ _ _ _ us hl => match us, hl with | [_], _ => rfl) fun A outer s H E hr => ?_
  have hu := hr.units
  have hu5 := hr.units5
  have hu1 := hr.units1
  have hN : (["keys", "found", "ahead", "key", "many", "one", "other"] : List Str).Nodup := by decide +kernel
  exact (b_cons (s_if (s_val (s_genB (own := [("one", 5), ("other", 6)]) (any_cons hr) hr hN rfl (F.free 37 _ rfl) rfl (i_zip rfl (F.free 49 _ rfl) (s_cons (s_var (i := 0) rfl (.inl rfl)) (s_cons (s_sl (s_var (i := 0) rfl (.inl rfl)) (s_so s_int) s_no) s_nil))) (blkOk_by (by kernel_rfl)) (by decide +kernel) rfl rfl (code_at G 3 rfl rfl (by decide +kernel)) ⟨(fun _ _ _ _ _ _ A hr => have hu := hr.units; have hu5 := hr.units5; have hu1 := hr.units1; (g_tup rfl (gs_cons (g_name (i := 5) hN rfl (by first | exact .inl rfl | exact .inr rfl) (by first | exact .inr rfl | exact .inl rfl) (by decide)) (gs_cons (g_name (i := 6) hN rfl (by first | exact .inl rfl | exact .inr rfl) (by first | exact .inr rfl | exact .inl rfl) (by decide)) gs_nil)))), (fun _ _ _ _ _ _ A hr => have hu := hr.units; have hu5 := hr.units5; have hu1 := hr.units1; ts_nil), (fun _ _ _ _ _ _ A hr => have hu := hr.units; have hu5 := hr.units5; have hu1 := hr.units1; (s_cmp (op_geU hu) br_geU (s_var (i := 5) rfl (by first | exact .inr (.inr rfl) | exact .inl rfl | exact .inr (.inl rfl))) (s_var (i := 6) rfl (by first | exact .inr (.inr rfl) | exact .inl rfl | exact .inr (.inl rfl))) rfl))⟩)) (b_one (s_raiseF F 2 3 rfl rfl rfl (takes_of rfl rfl rfl rfl) rfl)) b_nil)
    (b_cons (s_par (i := 1) (j := 2) rfl hN rfl rfl (by decide) rfl rfl (s_cons (s_cell s_nil) (s_cons (s_str (by decide +kernel)) s_nil)) rfl)
    (b_cons (s_for (vs := [3]) (passes_of rfl) rfl (i_any (s_var (i := 0) rfl (.inl rfl))) (g_name (i := 3) hN rfl (.inl rfl) (.inr rfl) (by decide)) (b_cons (s_set (i := 4) hN rfl (.inl rfl) (.inr rfl) (s_fn D_shared_start (takes_of rfl rfl rfl rfl) (hr.mono (Nat.le_add_right_of_le l_shared_start)) rfl (al_cons (al_cons al_nil)) rfl (s_cons (s_var (i := 2) rfl (.inl rfl)) (s_cons (s_var (i := 3) rfl (.inl rfl)) s_nil))))
    (b_cons (s_exp (s_meth PySem.F.plainAttrs_list PySem.F.slot_list_append PySem.F.type_list_append mt_append ty_list bm_append (s_var (i := 1) rfl (.inl rfl)) (s_cons (s_tup (s_cons (s_var (i := 4) rfl (.inl rfl)) (s_cons (s_sl (s_var (i := 3) rfl (.inl rfl)) (s_so (s_var (i := 4) rfl (.inl rfl))) s_no) s_nil))) s_nil)))
    (b_one (s_set (i := 2) hN rfl (.inl rfl) (.inr rfl) (s_var (i := 3) rfl (.inl rfl)))))))
    (b_one (s_ret (s_callT call_tuple_of bc_tuple rfl (F.free 48 _ rfl) rfl (s_cons (s_var (i := 1) rfl (.inl rfl)) s_nil)))))))
def m_unsqueezed (f_shared_start : MF) : MS :=
  (mSeq (mPar 1 2 (aCons (mCell aNil) (aCons (mK (.d (.str ""))) aNil)))
  (mSeq (mFor (iAny (mV 0)) (gTp 2 (gsCons (gN 3) (gsCons (gN 4) gsNil))) (mSeq (mIf (mNot (mTb (mChain oLe oLe (mK (.d (.int 0))) (mV 3) (mCall biLen (aCons (mV 2) aNil))))) (mRaise "CodeError") mSkip)
  (mSeq (mAsg (mBin opAdd (mSl (mV 2) oNo (oSo (mV 3))) (mV 4)) (gN 5))
  (mSeq (mIf (mAnd (mTb (mBin (opEq false) (mV 1) (mLst aNil))) (mOr (mTb (mBin oLe (mV 5) (mV 2))) (mTb (mBin (opEq false) (mCallD f_shared_start [] (aCons (mV 2) (aCons (mV 5) aNil))) (mV 3))))) (mRaise "CodeError") mSkip)
  (mSeq (mExp (mMeth tyL meAppend (mV 1) (aCons (mV 5) aNil)))
  (mAsg (mV 5) (gN 2)))))))
  (mRet (mCall biTuple (aCons (mV 1) aNil)))))
theorem B_unsqueezed {k : Nat} {k_shared_start : Nat} (F : Fx fa fn K mg) (G : TabsF K mg base tf) {f_shared_start : MF} (D_shared_start : DefOk P w K mg base (tf.map (tbOf K)) k_shared_start "shared_start" 2 [] f_shared_start) (l_shared_start : k_shared_start ≤ k) : DefOk P w K mg base (tf.map (tbOf K)) (k + 1) "unsqueezed" 1 [] (runF 6 (m_unsqueezed f_shared_start)) := by
  refine def_mkC (d := d15) (N := ["rows", "found", "ahead", "many", "rest", "key"]) (ps := ["rows"]) F 15 22 rfl rfl rfl ⟨rfl, rfl, rfl, by decide +kernel, rfl, by decide +kernel, by decide +kernel⟩ (bd_all rfl fun _ _ _ _ _ _ us hl => match us, hl with | [_], _ => rfl) fun A outer s H E hr => ?_
  have hu := hr.units
  have hu5 := hr.units5
  have hu1 := hr.units1
  have hN : (["rows", "found", "ahead", "many", "rest", "key"] : List Str).Nodup := by decide +kernel
  exact (b_cons (s_par (i := 1) (j := 2) rfl hN rfl rfl (by decide) rfl rfl (s_cons (s_cell s_nil) (s_cons (s_str (by decide +kernel)) s_nil)) rfl)
    (b_cons (s_for (vs := [4, 3]) (passes_of rfl) rfl (i_any (s_var (i := 0) rfl (.inl rfl))) (g_tup rfl (gs_cons (g_name (i := 3) hN rfl (.inl rfl) (.inr rfl) (by decide)) (gs_cons (g_name (i := 4) hN rfl (.inl rfl) (.inr rfl) (by decide)) gs_nil))) (b_cons (s_if (s_not (s_tchain (op_leU hu) (op_leU hu) br_leU br_leU s_int (s_var (i := 3) rfl (.inl rfl)) (s_callB call_lenM bc_len rfl (F.free 41 _ rfl) rfl (s_cons (s_var (i := 2) rfl (.inl rfl)) s_nil)))) (b_one (s_raiseF F 2 3 rfl rfl rfl (takes_of rfl rfl rfl rfl) rfl)) b_nil)
    (b_cons (s_set (i := 5) hN rfl (.inl rfl) (.inr rfl) (s_op op_addM br_add (s_sl (s_var (i := 2) rfl (.inl rfl)) s_no (s_so (s_var (i := 3) rfl (.inl rfl)))) (s_var (i := 4) rfl (.inl rfl))))
    (b_cons (s_if (s_w (w_and (s_tcmp (op_neM hu) br_eq (s_var (i := 1) rfl (.inl rfl)) (s_lst s_nil) rfl) (w_and1 (s_w (w_or (s_tcmp (op_leU hu) br_leU (s_var (i := 5) rfl (.inl rfl)) (s_var (i := 2) rfl (.inl rfl)) rfl) (w_or1 (s_tcmp (op_neM hu) br_eq (s_fn D_shared_start (takes_of rfl rfl rfl rfl) (hr.mono l_shared_start) rfl (al_cons (al_cons al_nil)) rfl (s_cons (s_var (i := 2) rfl (.inl rfl)) (s_cons (s_var (i := 5) rfl (.inl rfl)) s_nil))) (s_var (i := 3) rfl (.inl rfl)) rfl))))))) (b_one (s_raiseF F 2 3 rfl rfl rfl (takes_of rfl rfl rfl rfl) rfl)) b_nil)
    (b_cons (s_exp (s_meth PySem.F.plainAttrs_list PySem.F.slot_list_append PySem.F.type_list_append mt_append ty_list bm_append (s_var (i := 1) rfl (.inl rfl)) (s_cons (s_var (i := 5) rfl (.inl rfl)) s_nil)))
    (b_one (s_set (i := 2) hN rfl (.inl rfl) (.inr rfl) (s_var (i := 5) rfl (.inl rfl)))))))))
    (b_one (s_ret (s_callT call_tuple_of bc_tuple rfl (F.free 48 _ rfl) rfl (s_cons (s_var (i := 1) rfl (.inl rfl)) s_nil))))))
def m__law_dice : MS :=
  (mSeq (mIf (mTb (mChain oLt oLt (mBin opSub (mK (.d (.int 0))) (mK (.d (.int 10)))) (mV 0) (mK (.d (.int 10))))) (mRet (mCell (aCons (mCall biAbs (aCons (mV 0) aNil)) (aCons (mK (.d (.int 0))) (aCons (mK (.d (.int 2))) aNil))))) mSkip)
  (mRet (mCell (aCons (mV 0) (aCons (mBin opAdd (mK (.d (.int 1))) (mBin opMod (mCall biInt (aCons (mV 0) aNil)) (mK (.d (.int 1009))))) (aCons (mCall biInt (aCons (mBin oGe (mV 0) (mBin opPow (mK (.d (.int 10))) (mK (.d (.int 18))))) aNil)) aNil))))))
theorem B__law_dice {k : Nat} (F : Fx fa fn K mg) (G : TabsF K mg base tf) : DefOk P w K mg base (tf.map (tbOf K)) (k + 1) "_law_dice" 1 [] (runF 1 (m__law_dice)) := by
  refine def_mkC (d := d16) (N := ["cell"]) (ps := ["cell"]) F 16 23 rfl rfl rfl ⟨rfl, rfl, rfl, by decide +kernel, rfl, by decide +kernel, by decide +kernel⟩ (bd_all rfl fun _ _ _ _ _ _ us hl => match us, hl with | [_], _ => rfl) fun A outer s H E hr => ?_
  have hu := hr.units
  have hu5 := hr.units5
  have hu1 := hr.units1
  have hN : (["cell"] : List Str).Nodup := by decide +kernel
  exact (b_cons (s_if (s_tchain (op_ltU hu) (op_ltU hu) br_ltU br_ltU (s_op op_sub br_sub s_int s_int) (s_var (i := 0) rfl (.inl rfl)) s_int) (b_one (s_ret (s_cell (s_cons (s_callB call_abs bc_abs rfl (F.free 36 _ rfl) rfl (s_cons (s_var (i := 0) rfl (.inl rfl)) s_nil)) (s_cons s_int (s_cons s_int s_nil)))))) b_nil)
    (b_one (s_ret (s_cell (s_cons (s_var (i := 0) rfl (.inl rfl)) (s_cons (s_op op_addM br_add s_int (s_op op_mod br_mod (s_callT call_int1 bc_int rfl (F.free 40 _ rfl) rfl (s_cons (s_var (i := 0) rfl (.inl rfl)) s_nil)) s_int)) (s_cons (s_callT call_int1 bc_int rfl (F.free 40 _ rfl) rfl (s_cons (s_cmp (op_geU hu) br_geU (s_var (i := 0) rfl (.inl rfl)) (s_op op_pow br_pow s_int s_int) rfl) s_nil)) s_nil)))))))
def m__law_roll (f__law_roll : MF) : MS :=
  (mSeq (mIf (mOr (mTb (mBin (opEq true) (mBin opIx (mV 0) (mK (.d (.int 2)))) (mK (.d (.int 2))))) (mAnd (mTb (mBin (opEq true) (mBin opIx (mV 0) (mK (.d (.int 2)))) (mK (.d (.int 1))))) (mTb (mBin oGt (mBin opIx (mV 0) (mK (.d (.int 0)))) (mK (.d (.int 0))))))) (mSeq (mAsg (mBin opMod (mCall biInt (aCons (mBin opIx (mV 0) (mK (.d (.int 0)))) aNil)) (mV 1)) (gN 2))
  (mSeq (mAsg (mBin opDiv (mBin opIx (mV 0) (mK (.d (.int 0)))) (mV 1)) (gIx (mV 0) (mK (.d (.int 0)))))
  (mRet (mV 2)))) mSkip)
  (mSeq (mAsg (mK (.d (.int 0))) (gIx (mV 0) (mK (.d (.int 2)))))
  (mSeq (mIf (mTb (mBin oGt (mV 1) (mK (.d (.int 100000000))))) (mRet (mBin opMod (mCall biInt (aCons (mBin opAdd (mBin opMul (mCallD f__law_roll [] (aCons (mV 0) (aCons (mBin opAdd (mBin opDiv (mV 1) (mK (.d (.int 100000000)))) (mK (.d (.int 1)))) aNil))) (mK (.d (.int 100000000)))) (mCallD f__law_roll [] (aCons (mV 0) (aCons (mK (.d (.int 100000000))) aNil)))) aNil)) (mV 1))) mSkip)
  (mSeq (mAsg (mBin opMod (mCall biInt (aCons (mBin opAdd (mBin opAdd (mBin opMul (mBin opIx (mV 0) (mK (.d (.int 0)))) (mK (.d (.int 48271)))) (mBin opMul (mBin opIx (mV 0) (mK (.d (.int 1)))) (mK (.d (.int 69621))))) (mK (.d (.int 11)))) aNil)) (mK (.d (.int 2147483647)))) (gIx (mV 0) (mK (.d (.int 0)))))
  (mSeq (mAsg (mBin opAdd (mBin opIx (mV 0) (mK (.d (.int 1)))) (mK (.d (.int 1)))) (gIx (mV 0) (mK (.d (.int 1)))))
  (mRet (mBin opMod (mCall biInt (aCons (mBin opDiv (mBin opIx (mV 0) (mK (.d (.int 0)))) (mK (.d (.int 7)))) aNil)) (mV 1))))))))
theorem B__law_roll {k : Nat} {k__law_roll : Nat} (F : Fx fa fn K mg) (G : TabsF K mg base tf) {f__law_roll : MF} (D__law_roll : DefOk P w K mg base (tf.map (tbOf K)) k__law_roll "_law_roll" 2 [] f__law_roll) (l__law_roll : k__law_roll ≤ k) : DefOk P w K mg base (tf.map (tbOf K)) (k + 1) "_law_roll" 2 [] (runF 3 (m__law_roll f__law_roll)) := by
  refine def_mkC (d := d17) (N := ["dice", "many", "found"]) (ps := ["dice", "many"]) F 17 24 rfl rfl rfl ⟨rfl, rfl, rfl, by decide +kernel, rfl, by decide +kernel, by decide +kernel⟩ (bd_all rfl fun _ _ _ _ _ _ us hl => match us, hl with | [_, _], _ => rfl) fun A outer s H E hr => ?_
  have hu := hr.units
  have hu5 := hr.units5
  have hu1 := hr.units1
  have hN : (["dice", "many", "found"] : List Str).Nodup := by decide +kernel
  exact (b_cons (s_if (s_w (w_or (s_tcmp (op_eqM hu) br_eq (s_ix (s_var (i := 0) rfl (.inl rfl)) s_int) s_int rfl) (w_or1 (s_w (w_and (s_tcmp (op_eqM hu) br_eq (s_ix (s_var (i := 0) rfl (.inl rfl)) s_int) s_int rfl) (w_and1 (s_tcmp (op_gtU hu) br_gtU (s_ix (s_var (i := 0) rfl (.inl rfl)) s_int) s_int rfl))))))) (b_cons (s_set (i := 2) hN rfl (.inl rfl) (.inr rfl) (s_op op_mod br_mod (s_callT call_int1 bc_int rfl (F.free 40 _ rfl) rfl (s_cons (s_ix (s_var (i := 0) rfl (.inl rfl)) s_int) s_nil)) (s_var (i := 1) rfl (.inl rfl))))
    (b_cons (s_asg (vs := []) (s_op op_fdivW br_div (s_ix (s_var (i := 0) rfl (.inl rfl)) s_int) (s_var (i := 1) rfl (.inl rfl))) (g_ix (W := WB E) hu1 (s_var (i := 0) rfl (.inl rfl)) s_int (by intro _; rfl)))
    (b_one (s_ret (s_var (i := 2) rfl (.inl rfl)))))) b_nil)
    (b_cons (s_asg (vs := []) s_int (g_ix (W := WB E) hu1 (s_var (i := 0) rfl (.inl rfl)) s_int (by intro _; rfl)))
    (b_cons (s_if (s_tcmp (op_gtU hu) br_gtU (s_var (i := 1) rfl (.inl rfl)) s_int rfl) (b_one (s_ret (s_op op_mod br_mod (s_callT call_int1 bc_int rfl (F.free 40 _ rfl) rfl (s_cons (s_op op_addM br_add (s_op op_mulM br_mul (s_fn D__law_roll (takes_of rfl rfl rfl rfl) (hr.mono l__law_roll) rfl (al_cons (al_cons al_nil)) rfl (s_cons (s_var (i := 0) rfl (.inl rfl)) (s_cons (s_op op_addM br_add (s_op op_fdivW br_div (s_var (i := 1) rfl (.inl rfl)) s_int) s_int) s_nil))) s_int) (s_fn D__law_roll (takes_of rfl rfl rfl rfl) (hr.mono l__law_roll) rfl (al_cons (al_cons al_nil)) rfl (s_cons (s_var (i := 0) rfl (.inl rfl)) (s_cons s_int s_nil)))) s_nil)) (s_var (i := 1) rfl (.inl rfl))))) b_nil)
    (b_cons (s_asg (vs := []) (s_op op_mod br_mod (s_callT call_int1 bc_int rfl (F.free 40 _ rfl) rfl (s_cons (s_op op_addM br_add (s_op op_addM br_add (s_op op_mulM br_mul (s_ix (s_var (i := 0) rfl (.inl rfl)) s_int) s_int) (s_op op_mulM br_mul (s_ix (s_var (i := 0) rfl (.inl rfl)) s_int) s_int)) s_int) s_nil)) s_int) (g_ix (W := WB E) hu1 (s_var (i := 0) rfl (.inl rfl)) s_int (by intro _; rfl)))
    (b_cons (s_asg (vs := []) (s_op op_addM br_add (s_ix (s_var (i := 0) rfl (.inl rfl)) s_int) s_int) (g_ix (W := WB E) hu1 (s_var (i := 0) rfl (.inl rfl)) s_int (by intro _; rfl)))
    (b_one (s_ret (s_op op_mod br_mod (s_callT call_int1 bc_int rfl (F.free 40 _ rfl) rfl (s_cons (s_op op_fdivW br_div (s_ix (s_var (i := 0) rfl (.inl rfl)) s_int) s_int) s_nil)) (s_var (i := 1) rfl (.inl rfl))))))))))
def m__law_rounds (f__law_dice : MF) : MS :=
  (mSeq (mAsg (mSl (mV 0) oNo (oSo (mV 1))) (gN 2))
  (mSeq (mIf (mTb (mBin (opEq true) (mV 2) (mLst aNil))) (mAsg (mLst (aCons (mK (.d (.int 0))) aNil)) (gN 2)) mSkip)
  (mRet (mLc (iAny (mV 2)) (gN 3) mYes (mCallD f__law_dice [] (aCons (mV 3) aNil)) [3]))))
theorem B__law_rounds {k : Nat} {k__law_dice : Nat} (F : Fx fa fn K mg) (G : TabsF K mg base tf) {f__law_dice : MF} (D__law_dice : DefOk P w K mg base (tf.map (tbOf K)) k__law_dice "_law_dice" 1 [] f__law_dice) (l__law_dice : k__law_dice ≤ k) : DefOk P w K mg base (tf.map (tbOf K)) (k + 1) "_law_rounds" 2 [] (runF 4 (m__law_rounds f__law_dice)) := by
  refine def_mkC (d := d18) (N := ["script", "most", "cells", "cell"]) (ps := ["script", "most"]) F 18 25 rfl rfl rfl ⟨rfl, rfl, rfl, by decide +kernel, rfl, by decide +kernel, by decide +kernel⟩ (bd_all rfl fun _ _ _ _ _ _ us hl => match us, hl with | [_, _], _ => rfl) fun A outer s H E hr => ?_
  have hu := hr.units
  have hu5 := hr.units5
  have hu1 := hr.units1
  have hN : (["script", "most", "cells", "cell"] : List Str).Nodup := by decide +kernel
  exact (b_cons (s_set (i := 2) hN rfl (.inl rfl) (.inr rfl) (s_sl (s_var (i := 0) rfl (.inl rfl)) s_no (s_so (s_var (i := 1) rfl (.inl rfl)))))
    (b_cons (s_if (s_tcmp (op_eqM hu) br_eq (s_var (i := 2) rfl (.inl rfl)) (s_lst s_nil) rfl) (b_one (s_set (i := 2) hN rfl (.inl rfl) (.inr rfl) (s_lst (s_cons s_int s_nil)))) b_nil)
    (b_one (s_ret (s_lc (own := [("cell", 3)]) rfl hN (i_any (s_var (i := 2) rfl (.inl rfl))) (blkOk_by (by kernel_rfl)) (fun _ _ _ _ _ => (g_name (i := 3) hN rfl (by first | exact .inl rfl | exact .inr rfl) (by first | exact .inr rfl | exact .inl rfl) (by decide))) (fun _ _ _ _ _ => ts_nil) (fun _ _ _ _ _ => (s_fn D__law_dice takes0 (hr.mono l__law_dice) rfl (al_cons al_nil) rfl (s_cons (s_var (i := 3) rfl (by first | exact .inr (.inr rfl) | exact .inl rfl | exact .inr (.inl rfl))) s_nil))))))))
def m__law_number : MS :=
  (mSeq (mAsg (mLst aNil) (gN 1))
  (mSeq (mWh (mTb (mBin oGt (mV 0) (mK (.d (.int 127))))) (mPar 1 0 (aCons (mBin opAdd (mV 1) (mLst (aCons (mBin opSub (mBin opAdd (mK (.d (.int 128))) (mV 0)) (mBin opMul (mBin opDiv (mV 0) (mK (.d (.int 128)))) (mK (.d (.int 128))))) aNil))) (aCons (mBin opDiv (mV 0) (mK (.d (.int 128)))) aNil))) FU)
  (mRet (mCall biTuple (aCons (mBin opAdd (mV 1) (mLst (aCons (mV 0) aNil))) aNil)))))
theorem B__law_number {k : Nat} (F : Fx fa fn K mg) (G : TabsF K mg base tf) : DefOk P w K mg base (tf.map (tbOf K)) (k + 1) "_law_number" 1 [] (runF 2 (m__law_number)) := by
  refine def_mkC (d := d20) (N := ["number", "found"]) (ps := ["number"]) F 20 27 rfl rfl rfl ⟨rfl, rfl, rfl, by decide +kernel, rfl, by decide +kernel, by decide +kernel⟩ (bd_all rfl fun _ _ _ _ _ _ us hl => match us, hl with | [_], _ => rfl) fun A outer s H E hr => ?_
  have hu := hr.units
  have hu5 := hr.units5
  have hu1 := hr.units1
  have hN : (["number", "found"] : List Str).Nodup := by decide +kernel
  exact (b_cons (s_set (i := 1) hN rfl (.inl rfl) (.inr rfl) (s_lst s_nil))
    (b_cons (s_while (passes_of rfl) (s_tcmp (op_gtU hu) br_gtU (s_var (i := 0) rfl (.inl rfl)) s_int rfl) (b_one (s_par (i := 1) (j := 0) rfl hN rfl rfl (by decide) rfl rfl (s_cons (s_op op_addM br_add (s_var (i := 1) rfl (.inl rfl)) (s_lst (s_cons (s_op op_sub br_sub (s_op op_addM br_add s_int (s_var (i := 0) rfl (.inl rfl))) (s_op op_mulM br_mul (s_op op_fdivW br_div (s_var (i := 0) rfl (.inl rfl)) s_int) s_int)) s_nil))) (s_cons (s_op op_fdivW br_div (s_var (i := 0) rfl (.inl rfl)) s_int) s_nil)) rfl)))
    (b_one (s_ret (s_callT call_tuple_of bc_tuple rfl (F.free 48 _ rfl) rfl (s_cons (s_op op_addM br_add (s_var (i := 1) rfl (.inl rfl)) (s_lst (s_cons (s_var (i := 0) rfl (.inl rfl)) s_nil))) s_nil))))))
def m__law_text (f__law_roll : MF) : MS :=
  (mRet (mMeth tyS meJoin (mK (.d (.str ""))) (aCons (mLc (iRange1 (aCons (mCallD f__law_roll [] (aCons (mV 0) (aCons (mK (.d (.int 6))) aNil))) aNil)) (gN 1) mYes (mBin opIx (mK (.d (.str " !#,-./0123456789:;=?ABCDEFGHIJKLMNOPQRSTUVWXYZ_abcdefghijklmnopqrstuvwxyz"))) (mCallD f__law_roll [] (aCons (mV 0) (aCons (mBin opIx (mLst (aCons (mK (.d (.int 3))) (aCons (mK (.d (.int 74))) aNil))) (mCallD f__law_roll [] (aCons (mV 0) (aCons (mK (.d (.int 2))) aNil)))) aNil)))) [1]) aNil)))
theorem B__law_text {k : Nat} {k__law_roll : Nat} (F : Fx fa fn K mg) (G : TabsF K mg base tf) {f__law_roll : MF} (D__law_roll : DefOk P w K mg base (tf.map (tbOf K)) k__law_roll "_law_roll" 2 [] f__law_roll) (l__law_roll : k__law_roll ≤ k) : DefOk P w K mg base (tf.map (tbOf K)) (k + 1) "_law_text" 1 [] (runF 2 (m__law_text f__law_roll)) := by
  refine def_mkC (d := d21) (N := ["dice", "k"]) (ps := ["dice"]) F 21 28 rfl rfl rfl ⟨rfl, rfl, rfl, by decide +kernel, rfl, by decide +kernel, by decide +kernel⟩ (bd_all rfl fun _ _ _ _ _ _ us hl => match us, hl with | [_], _ => rfl) fun A outer s H E hr => ?_
  have hu := hr.units
  have hu5 := hr.units5
  have hu1 := hr.units1
  have hN : (["dice", "k"] : List Str).Nodup := by decide +kernel
  exact (b_one (s_ret (s_meth PySem.F.plainAttrs_str PySem.F.slot_str_join PySem.F.type_str_join mt_joinM ty_str bm_join (s_str (by decide +kernel)) (s_cons (s_lc (own := [("k", 1)]) rfl hN (i_range1 rfl (F.free 45 _ rfl) (s_cons (s_fn D__law_roll (takes_of rfl rfl rfl rfl) (hr.mono l__law_roll) rfl (al_cons (al_cons al_nil)) rfl (s_cons (s_var (i := 0) rfl (.inr (.inl rfl))) (s_cons s_int s_nil))) s_nil)) (blkOk_by (by kernel_rfl)) (fun _ _ _ _ _ => (g_name (i := 1) hN rfl (by first | exact .inl rfl | exact .inr rfl) (by first | exact .inr rfl | exact .inl rfl) (by decide))) (fun _ _ _ _ _ => ts_nil) (fun _ _ _ _ _ => (s_ix (s_gstr rfl (F.str 4 _ _ rfl) (by decide +kernel)) (s_fn D__law_roll takes0 (hr.mono l__law_roll) rfl (al_cons (al_cons al_nil)) rfl (s_cons (s_var (i := 0) rfl (by first | exact .inr (.inr rfl) | exact .inl rfl | exact .inr (.inl rfl))) (s_cons (s_ix (s_lst (s_cons s_int (s_cons s_int s_nil))) (s_fn D__law_roll takes0 (hr.mono l__law_roll) rfl (al_cons (al_cons al_nil)) rfl (s_cons (s_var (i := 0) rfl (by first | exact .inr (.inr rfl) | exact .inl rfl | exact .inr (.inl rfl))) (s_cons s_int s_nil)))) s_nil)))))) s_nil))))
def m__law_signs : MS :=
  (mRet (mCall biTuple (aCons (mLc (iAny (mV 0)) (gN 1) mYes (mBin opIx (mLc (iEnumT (aCons (mK (.d (.str " !#,-./0123456789:;=?ABCDEFGHIJKLMNOPQRSTUVWXYZ_abcdefghijklmnopqrstuvwxyz"))) aNil)) (gTp 2 (gsCons (gN 2) (gsCons (gN 3) gsNil))) (mTb (mBin (opEq true) (mV 3) (mV 1))) (mBin opAdd (mV 2) (mK (.d (.int 1)))) [2, 3]) (mK (.d (.int 0)))) [1]) aNil)))
theorem B__law_signs {k : Nat} (F : Fx fa fn K mg) (G : TabsF K mg base tf) : DefOk P w K mg base (tf.map (tbOf K)) (k + 1) "_law_signs" 1 [] (runF 4 (m__law_signs)) := by
  refine def_mkC (d := d22) (N := ["text", "sign", "k", "one"]) (ps := ["text"]) F 22 29 rfl rfl rfl ⟨rfl, rfl, rfl, by decide +kernel, rfl, by decide +kernel, by decide +kernel⟩ (bd_all rfl fun _ _ _ _ _ _ us hl => match us, hl with | [_], _ => rfl) fun A outer s H E hr => ?_
  have hu := hr.units
  have hu5 := hr.units5
  have hu1 := hr.units1
  have hN : (["text", "sign", "k", "one"] : List Str).Nodup := by decide +kernel
  exact (b_one (s_ret (s_callT call_tuple_of bc_tuple rfl (F.free 48 _ rfl) rfl (s_cons (s_lc (own := [("sign", 1)]) rfl hN (i_any (s_var (i := 0) rfl (.inl rfl))) (blkOk_by (by kernel_rfl)) (fun _ _ _ _ _ => (g_name (i := 1) hN rfl (by first | exact .inl rfl | exact .inr rfl) (by first | exact .inr rfl | exact .inl rfl) (by decide))) (fun _ _ _ _ _ => ts_nil) (fun _ _ _ _ _ => (s_ix (s_lc (own := [("k", 2), ("one", 3)]) rfl hN (i_enumT rfl (F.free 39 _ rfl) (s_cons (s_gstr rfl (F.str 4 _ _ rfl) (by decide +kernel)) s_nil)) (blkOk_by (by kernel_rfl)) (fun _ _ _ _ _ => (g_tup rfl (gs_cons (g_name (i := 2) hN rfl (by first | exact .inl rfl | exact .inr rfl) (by first | exact .inr rfl | exact .inl rfl) (by decide)) (gs_cons (g_name (i := 3) hN rfl (by first | exact .inl rfl | exact .inr rfl) (by first | exact .inr rfl | exact .inl rfl) (by decide)) gs_nil)))) (fun _ _ _ _ _ => (ts_one (s_tcmp (op_eqM hu) br_eq (s_var (i := 3) rfl (by first | exact .inr (.inr rfl) | exact .inl rfl | exact .inr (.inl rfl))) (s_var (i := 1) rfl (by first | exact .inr (.inr rfl) | exact .inl rfl | exact .inr (.inl rfl))) rfl))) (fun _ _ _ _ _ => (s_op op_addM br_add (s_var (i := 2) rfl (by first | exact .inr (.inr rfl) | exact .inl rfl | exact .inr (.inl rfl))) s_int))) s_int))) s_nil))))
def m__law_sum : MS :=
  (mSeq (mAsg (mBin opAdd (mK (.d (.int 1))) (mCall biSumA (aCons (mV 0) aNil))) (gN 1))
  (mSeq (mAsg (mCall biSumA (aCons (mLc (iRange1 (aCons (mCall biLen (aCons (mV 0) aNil)) aNil)) (gN 3) mYes (mBin opAdd (mK (.d (.int 1))) (mCall biSumA (aCons (mSl (mV 0) oNo (oSo (mBin opAdd (mV 3) (mK (.d (.int 1)))))) aNil))) [3]) aNil)) (gN 2))
  (mRet (mBin opAdd (mBin opMul (mBin opMod (mV 2) (mK (.d (.int 65521)))) (mK (.d (.int 65536)))) (mBin opMod (mV 1) (mK (.d (.int 65521))))))))
theorem B__law_sum {k : Nat} (F : Fx fa fn K mg) (G : TabsF K mg base tf) : DefOk P w K mg base (tf.map (tbOf K)) (k + 1) "_law_sum" 1 [] (runF 4 (m__law_sum)) := by
  refine def_mkC (d := d23) (N := ["octets", "low", "high", "k"]) (ps := ["octets"]) F 23 30 rfl rfl rfl ⟨rfl, rfl, rfl, by decide +kernel, rfl, by decide +kernel, by decide +kernel⟩ (bd_all rfl fun _ _ _ _ _ _ us hl => match us, hl with | [_], _ => rfl) fun A outer s H E hr => ?_
  have hu := hr.units
  have hu5 := hr.units5
  have hu1 := hr.units1
  have hN : (["octets", "low", "high", "k"] : List Str).Nodup := by decide +kernel
  exact (b_cons (s_set (i := 1) hN rfl (.inl rfl) (.inr rfl) (s_op op_addM br_add s_int (s_callB (cr_sumA rfl) bc_sumA rfl (F.free 47 _ rfl) rfl (s_cons (s_var (i := 0) rfl (.inr (.inl rfl))) s_nil))))
    (b_cons (s_set (i := 2) hN rfl (.inl rfl) (.inr rfl) (s_callB (cr_sumA rfl) bc_sumA rfl (F.free 47 _ rfl) rfl (s_cons (s_lc (own := [("k", 3)]) rfl hN (i_range1 rfl (F.free 45 _ rfl) (s_cons (s_callB call_lenM bc_len rfl (F.free 41 _ rfl) rfl (s_cons (s_var (i := 0) rfl (.inr (.inl rfl))) s_nil)) s_nil)) (blkOk_by (by kernel_rfl)) (fun _ _ _ _ _ => (g_name (i := 3) hN rfl (by first | exact .inl rfl | exact .inr rfl) (by first | exact .inr rfl | exact .inl rfl) (by decide))) (fun _ _ _ _ _ => ts_nil) (fun _ _ _ _ _ => (s_op op_addM br_add s_int (s_callB (cr_sumA rfl) bc_sumA rfl (F.free 47 _ rfl) rfl (s_cons (s_sl (s_var (i := 0) rfl (by first | exact .inr (.inr rfl) | exact .inl rfl | exact .inr (.inl rfl))) s_no (s_so (s_op op_addM br_add (s_var (i := 3) rfl (by first | exact .inr (.inr rfl) | exact .inl rfl | exact .inr (.inl rfl))) s_int))) s_nil))))) s_nil)))
    (b_one (s_ret (s_op op_addM br_add (s_op op_mulM br_mul (s_op op_mod br_mod (s_var (i := 2) rfl (.inl rfl)) s_int) s_int) (s_op op_mod br_mod (s_var (i := 1) rfl (.inl rfl)) s_int))))))
def m__law_frame (f__law_sum : MF) (f__law_number : MF) : MS :=
  (mSeq (mAsg (mCallD f__law_sum [] (aCons (mV 0) aNil)) (gN 1))
  (mRet (mBin opAdd (mBin opAdd (mCallD f__law_number [] (aCons (mCall biLen (aCons (mV 0) aNil)) aNil)) (mCall biTuple (aCons (mV 0) aNil))) (mCall biTuple (aCons (mLc (iAny (mLst (aCons (mK (.d (.int 16777216))) (aCons (mK (.d (.int 65536))) (aCons (mK (.d (.int 256))) (aCons (mK (.d (.int 1))) aNil)))))) (gN 2) mYes (mBin opMod (mBin opDiv (mV 1) (mV 2)) (mK (.d (.int 256)))) [2]) aNil)))))
theorem B__law_frame {k : Nat} {k__law_sum : Nat} {k__law_number : Nat} (F : Fx fa fn K mg) (G : TabsF K mg base tf) {f__law_sum : MF} (D__law_sum : DefOk P w K mg base (tf.map (tbOf K)) k__law_sum "_law_sum" 1 [] f__law_sum) (l__law_sum : k__law_sum ≤ k) {f__law_number : MF} (D__law_number : DefOk P w K mg base (tf.map (tbOf K)) k__law_number "_law_number" 1 [] f__law_number) (l__law_number : k__law_number ≤ k) : DefOk P w K mg base (tf.map (tbOf K)) (k + 1) "_law_frame" 1 [] (runF 3 (m__law_frame f__law_sum f__law_number)) := by
  refine def_mkC (d := d24) (N := ["octets", "whole", "weight"]) (ps := ["octets"]) F 24 31 rfl rfl rfl ⟨rfl, rfl, rfl, by decide +kernel, rfl, by decide +kernel, by decide +kernel⟩ (bd_all rfl fun _ _ _ _ _ _ us hl => match us, hl with | [_], _ => rfl) fun A outer s H E hr => ?_
  have hu := hr.units
  have hu5 := hr.units5
  have hu1 := hr.units1
  have hN : (["octets", "whole", "weight"] : List Str).Nodup := by decide +kernel
  exact (b_cons (s_set (i := 1) hN rfl (.inr rfl) (.inl rfl) (s_fn D__law_sum (takes_of rfl rfl rfl rfl) (hr.mono l__law_sum) rfl (al_cons al_nil) rfl (s_cons (s_var (i := 0) rfl (.inl rfl)) s_nil)))
    (b_one (s_ret (s_op op_addM br_add (s_op op_addM br_add (s_fn D__law_number (takes_of rfl rfl rfl rfl) (hr.mono l__law_number) rfl (al_cons al_nil) rfl (s_cons (s_callB call_lenM bc_len rfl (F.free 41 _ rfl) rfl (s_cons (s_var (i := 0) rfl (.inl rfl)) s_nil)) s_nil)) (s_callT call_tuple_of bc_tuple rfl (F.free 48 _ rfl) rfl (s_cons (s_var (i := 0) rfl (.inl rfl)) s_nil))) (s_callT call_tuple_of bc_tuple rfl (F.free 48 _ rfl) rfl (s_cons (s_lc (own := [("weight", 2)]) rfl hN (i_any (s_lst (s_cons s_int (s_cons s_int (s_cons s_int (s_cons s_int s_nil)))))) (blkOk_by (by kernel_rfl)) (fun _ _ _ _ _ => (g_name (i := 2) hN rfl (by first | exact .inl rfl | exact .inr rfl) (by first | exact .inr rfl | exact .inl rfl) (by decide))) (fun _ _ _ _ _ => ts_nil) (fun _ _ _ _ _ => (s_op op_mod br_mod (s_op op_fdivW br_div (s_var (i := 1) rfl (by first | exact .inr (.inr rfl) | exact .inl rfl | exact .inr (.inl rfl))) (s_var (i := 2) rfl (by first | exact .inr (.inr rfl) | exact .inl rfl | exact .inr (.inl rfl)))) s_int))) s_nil))))))
def m__law_read : MS :=
  (mSeq (mAsg (mSl (mLc (iRange2 (aCons (mV 1) (aCons (mCall biMin2 (aCons (mCall biLen (aCons (mV 0) aNil)) (aCons (mBin opAdd (mV 1) (mK (.d (.int 7)))) aNil))) aNil))) (gN 6) (mTb (mBin oLt (mBin opIx (mV 0) (mV 6)) (mK (.d (.int 128))))) (mV 6) [6]) oNo (oSo (mK (.d (.int 1))))) (gN 2))
  (mSeq (mIf (mOr (mTb (mBin (opEq true) (mV 2) (mLst aNil))) (mAnd (mTb (mBin (opEq true) (mBin opIx (mV 0) (mBin opIx (mV 2) (mK (.d (.int 0))))) (mK (.d (.int 0))))) (mTb (mBin oGt (mBin opIx (mV 2) (mK (.d (.int 0)))) (mV 1))))) (mRet (mK (.d .none))) mSkip)
  (mSeq (mAsg (mTup (aCons (mK (.d (.int 0))) (aCons (mK (.d (.int 1))) aNil))) (gTp 2 (gsCons (gN 3) (gsCons (gN 4) gsNil))))
  (mSeq (mFor (iAny (mSl (mV 0) (oSo (mV 1)) (oSo (mBin opAdd (mBin opIx (mV 2) (mK (.d (.int 0)))) (mK (.d (.int 1))))))) (gN 5) (mPar 3 4 (aCons (mBin opAdd (mV 3) (mBin opMul (mV 4) (mIfE (mTb (mBin oGt (mV 5) (mK (.d (.int 127))))) (mBin opSub (mV 5) (mK (.d (.int 128)))) (mV 5)))) (aCons (mBin opMul (mV 4) (mK (.d (.int 128)))) aNil))))
  (mRet (mIfE (mTb (mBin oLe (mV 3) (mBin opPow (mK (.d (.int 10))) (mK (.d (.int 12)))))) (mTup (aCons (mV 3) (aCons (mBin opAdd (mBin opIx (mV 2) (mK (.d (.int 0)))) (mK (.d (.int 1)))) aNil))) (mK (.d .none))))))))
theorem B__law_read {k : Nat} (F : Fx fa fn K mg) (G : TabsF K mg base tf) : DefOk P w K mg base (tf.map (tbOf K)) (k + 1) "_law_read" 2 [] (runF 7 (m__law_read)) := by
  refine def_mkC (d := d25) (N := ["octets", "place", "rows", "found", "weight", "one", "k"]) (ps := ["octets", "place"]) F 25 32 rfl rfl rfl ⟨rfl, rfl, rfl, by decide +kernel, rfl, by decide +kernel, by decide +kernel⟩ (bd_all rfl fun _ _ _ _ _ _ us hl => match us, hl with | [_, _], _ => rfl) fun A outer s H E hr => ?_
  have hu := hr.units
  have hu5 := hr.units5
  have hu1 := hr.units1
  have hN : (["octets", "place", "rows", "found", "weight", "one", "k"] : List Str).Nodup := by decide +kernel
  exact (b_cons (s_set (i := 2) hN rfl (.inl rfl) (.inr rfl) (s_sl (s_lc (own := [("k", 6)]) rfl hN (i_range2 rfl (F.free 45 _ rfl) (s_cons (s_var (i := 1) rfl (.inl rfl)) (s_cons (s_callB (call_min2 rfl) bc_min2 rfl (F.free 44 _ rfl) rfl (s_cons (s_callB call_lenM bc_len rfl (F.free 41 _ rfl) rfl (s_cons (s_var (i := 0) rfl (.inr (.inl rfl))) s_nil)) (s_cons (s_op op_addM br_add (s_var (i := 1) rfl (.inl rfl)) s_int) s_nil))) s_nil))) (blkOk_by (by kernel_rfl)) (fun _ _ _ _ _ => (g_name (i := 6) hN rfl (by first | exact .inl rfl | exact .inr rfl) (by first | exact .inr rfl | exact .inl rfl) (by decide))) (fun _ _ _ _ _ => (ts_one (s_tcmp (op_ltU hu) br_ltU (s_ix (s_var (i := 0) rfl (by first | exact .inr (.inr rfl) | exact .inl rfl | exact .inr (.inl rfl))) (s_var (i := 6) rfl (by first | exact .inr (.inr rfl) | exact .inl rfl | exact .inr (.inl rfl)))) s_int rfl))) (fun _ _ _ _ _ => (s_var (i := 6) rfl (by first | exact .inr (.inr rfl) | exact .inl rfl | exact .inr (.inl rfl))))) s_no (s_so s_int)))
    (b_cons (s_if (s_w (w_or (s_tcmp (op_eqM hu) br_eq (s_var (i := 2) rfl (.inl rfl)) (s_lst s_nil) rfl) (w_or1 (s_w (w_and (s_tcmp (op_eqM hu) br_eq (s_ix (s_var (i := 0) rfl (.inr (.inl rfl))) (s_ix (s_var (i := 2) rfl (.inl rfl)) s_int)) s_int rfl) (w_and1 (s_tcmp (op_gtU hu) br_gtU (s_ix (s_var (i := 2) rfl (.inl rfl)) s_int) (s_var (i := 1) rfl (.inl rfl)) rfl))))))) (b_one (s_ret s_non)) b_nil)
    (b_cons (s_asg (vs := [4, 3]) (s_tup (s_cons s_int (s_cons s_int s_nil))) (g_tup rfl (gs_cons (g_name (i := 3) hN rfl (.inl rfl) (.inr rfl) (by decide)) (gs_cons (g_name (i := 4) hN rfl (.inl rfl) (.inr rfl) (by decide)) gs_nil))))
    (b_cons (s_for (vs := [5]) (passes_of rfl) rfl (i_any (s_sl (s_var (i := 0) rfl (.inr (.inl rfl))) (s_so (s_var (i := 1) rfl (.inl rfl))) (s_so (s_op op_addM br_add (s_ix (s_var (i := 2) rfl (.inl rfl)) s_int) s_int)))) (g_name (i := 5) hN rfl (.inl rfl) (.inr rfl) (by decide)) (b_one (s_par (i := 3) (j := 4) rfl hN rfl rfl (by decide) rfl rfl (s_cons (s_op op_addM br_add (s_var (i := 3) rfl (.inl rfl)) (s_op op_mulM br_mul (s_var (i := 4) rfl (.inl rfl)) (s_ifE (s_tcmp (op_gtU hu) br_gtU (s_var (i := 5) rfl (.inl rfl)) s_int rfl) (s_op op_sub br_sub (s_var (i := 5) rfl (.inl rfl)) s_int) (s_var (i := 5) rfl (.inl rfl))))) (s_cons (s_op op_mulM br_mul (s_var (i := 4) rfl (.inl rfl)) s_int) s_nil)) rfl)))
    (b_one (s_ret (s_ifE (s_tcmp (op_leU hu) br_leU (s_var (i := 3) rfl (.inl rfl)) (s_op op_pow br_pow s_int s_int) rfl) (s_tup (s_cons (s_var (i := 3) rfl (.inl rfl)) (s_cons (s_op op_addM br_add (s_ix (s_var (i := 2) rfl (.inl rfl)) s_int) s_int) s_nil))) s_non)))))))
def m__law_plain (f_number_octets : MF) (f_read_number : MF) (f_text_octets : MF) (f_read_text : MF) (f_row_octets : MF) (f_read_row : MF) (f_key_octets : MF) (f_read_key : MF) (f_sum_of : MF) (f_framed : MF) (f_squeezed : MF) (f_unsqueezed : MF) (f_read_frame : MF) (f_is_number_cut : MF) : MS :=
  (mBads 0 [(mCallD f_number_octets [] (aCons (mNeg (mK (.d (.int 1)))) aNil)),
    (mCallD f_number_octets [] (aCons (mK (.d (.int 1000000000001))) aNil)),
    (mCallD f_read_number [] (aCons (mTup aNil) (aCons (mK (.d (.int 0))) aNil))),
    (mCallD f_read_number [] (aCons (mTup (aCons (mK (.d (.int 128))) aNil)) (aCons (mK (.d (.int 0))) aNil))),
    (mCallD f_read_number [] (aCons (mTup (aCons (mK (.d (.int 128))) (aCons (mK (.d (.int 0))) aNil))) (aCons (mK (.d (.int 0))) aNil))),
    (mCallD f_read_number [] (aCons (mBin opMul (mTup (aCons (mK (.d (.int 255))) aNil)) (mK (.d (.int 9)))) (aCons (mK (.d (.int 0))) aNil))),
    (mCallD f_read_number [] (aCons (mTup (aCons (mK (.d (.int 255))) (aCons (mK (.d (.int 255))) (aCons (mK (.d (.int 255))) (aCons (mK (.d (.int 255))) (aCons (mK (.d (.int 255))) (aCons (mK (.d (.int 255))) (aCons (mK (.d (.int 1))) aNil)))))))) (aCons (mK (.d (.int 0))) aNil))),
    (mCallD f_text_octets [] (aCons (mK (.d (.str "~"))) aNil)),
    (mCallD f_read_text [] (aCons (mTup (aCons (mK (.d (.int 2))) (aCons (mK (.d (.int 1))) aNil))) (aCons (mK (.d (.int 0))) aNil))),
    (mCallD f_read_text [] (aCons (mTup (aCons (mK (.d (.int 1))) (aCons (mK (.d (.int 0))) aNil))) (aCons (mK (.d (.int 0))) aNil))),
    (mCallD f_read_text [] (aCons (mTup (aCons (mK (.d (.int 1))) (aCons (mK (.d (.int 75))) aNil))) (aCons (mK (.d (.int 0))) aNil))),
    (mCallD f_row_octets [] (aCons (mTup (aCons (mK (.d (.str "~"))) aNil)) aNil)),
    (mCallD f_read_row [] (aCons (mTup (aCons (mK (.d (.int 2))) (aCons (mK (.d (.int 0))) aNil))) (aCons (mK (.d (.int 0))) aNil))),
    (mCallD f_key_octets [] (aCons (mTup (aCons (mK (.d (.str "~"))) aNil)) aNil)),
    (mCallD f_read_key [] (aCons (mTup (aCons (mK (.d (.int 1))) aNil)) aNil)),
    (mCallD f_read_key [] (aCons (mTup (aCons (mK (.d (.int 75))) (aCons (mK (.d (.int 0))) aNil))) aNil)),
    (mCallD f_sum_of [] (aCons (mTup (aCons (mK (.d (.int 256))) aNil)) aNil)),
    (mCallD f_sum_of [] (aCons (mTup (aCons (mNeg (mK (.d (.int 1)))) aNil)) aNil)),
    (mCallD f_framed [] (aCons (mTup (aCons (mK (.d (.int 256))) aNil)) aNil)),
    (mCallD f_squeezed [] (aCons (mTup (aCons (mK (.d (.str "b"))) (aCons (mK (.d (.str "a"))) aNil))) aNil)),
    (mCallD f_squeezed [] (aCons (mTup (aCons (mK (.d (.str "a"))) (aCons (mK (.d (.str "a"))) aNil))) aNil)),
    (mCallD f_unsqueezed [] (aCons (mTup (aCons (mTup (aCons (mK (.d (.int 1))) (aCons (mK (.d (.str "a"))) aNil))) aNil)) aNil)),
    (mCallD f_unsqueezed [] (aCons (mTup (aCons (mTup (aCons (mK (.d (.int 0))) (aCons (mK (.d (.str "b"))) aNil))) (aCons (mTup (aCons (mK (.d (.int 0))) (aCons (mK (.d (.str "a"))) aNil))) aNil))) aNil)),
    (mCallD f_unsqueezed [] (aCons (mTup (aCons (mTup (aCons (mK (.d (.int 0))) (aCons (mK (.d (.str "ab"))) aNil))) (aCons (mTup (aCons (mK (.d (.int 0))) (aCons (mK (.d (.str "ac"))) aNil))) aNil))) aNil)),
    (mCallD f_unsqueezed [] (aCons (mTup (aCons (mTup (aCons (mNeg (mK (.d (.int 1)))) (aCons (mK (.d (.str "a"))) aNil))) aNil)) aNil))] (inS ["CodeError"]) "CodeError"
  (mSeq (mIf (mTb (mBin (opEq false) (mTup (aCons (mK (.d (.int 1000000000000))) (aCons (mK (.d (.int 65521))) (aCons (mCall biLen (aCons (mK (.d (.str " !#,-./0123456789:;=?ABCDEFGHIJKLMNOPQRSTUVWXYZ_abcdefghijklmnopqrstuvwxyz"))) aNil)) aNil)))) (mTup (aCons (mK (.d (.int 1000000000000))) (aCons (mK (.d (.int 65521))) (aCons (mK (.d (.int 74))) aNil)))))) (mRet (mK (.d (.bool false)))) mSkip)
  (mSeq (mIf (mOr (mTb (mBin (opEq false) (mCall biSortedT (aCons (mK (.d (.str " !#,-./0123456789:;=?ABCDEFGHIJKLMNOPQRSTUVWXYZ_abcdefghijklmnopqrstuvwxyz"))) aNil)) (mCall biListT (aCons (mK (.d (.str " !#,-./0123456789:;=?ABCDEFGHIJKLMNOPQRSTUVWXYZ_abcdefghijklmnopqrstuvwxyz"))) aNil)))) (mTb (mBin (opEq false) (mCallD f_number_octets [] (aCons (mK (.d (.int 300))) aNil)) (mTup (aCons (mK (.d (.int 172))) (aCons (mK (.d (.int 2))) aNil)))))) (mRet (mK (.d (.bool false)))) mSkip)
  (mSeq (mIf (mTb (mBin (opEq false) (mCallD f_text_octets [] (aCons (mK (.d (.str "ab"))) aNil)) (mTup (aCons (mK (.d (.int 2))) (aCons (mK (.d (.int 49))) (aCons (mK (.d (.int 50))) aNil)))))) (mRet (mK (.d (.bool false)))) mSkip)
  (mSeq (mIf (mNot (mAnd (mTb (mBin (opEq true) (mCallD f_row_octets [] (aCons (mTup (aCons (mK (.d (.str "a"))) (aCons (mK (.d (.str ""))) aNil))) aNil)) (mTup (aCons (mK (.d (.int 2))) (aCons (mK (.d (.int 1))) (aCons (mK (.d (.int 49))) (aCons (mK (.d (.int 0))) aNil))))))) (mTb (mBin (opEq true) (mCallD f_key_octets [] (aCons (mTup (aCons (mK (.d (.str "a"))) (aCons (mK (.d (.str "b"))) aNil))) aNil)) (mTup (aCons (mK (.d (.int 49))) (aCons (mK (.d (.int 0))) (aCons (mK (.d (.int 50))) (aCons (mK (.d (.int 0))) aNil))))))))) (mRet (mK (.d (.bool false)))) mSkip)
  (mSeq (mIf (mNot (mAnd (mTb (mBin (opEq true) (mCallD f_sum_of [] (aCons (mTup (aCons (mK (.d (.int 1))) (aCons (mK (.d (.int 2))) (aCons (mK (.d (.int 3))) aNil)))) aNil)) (mK (.d (.int 851975))))) (mTb (mBin (opEq true) (mCallD f_framed [] (aCons (mTup (aCons (mK (.d (.int 5))) aNil)) aNil)) (mTup (aCons (mK (.d (.int 1))) (aCons (mK (.d (.int 5))) (aCons (mK (.d (.int 0))) (aCons (mK (.d (.int 6))) (aCons (mK (.d (.int 0))) (aCons (mK (.d (.int 6))) aNil))))))))))) (mRet (mK (.d (.bool false)))) mSkip)
  (mSeq (mIf (mTb (mBin (opEq false) (mCallD f_squeezed [] (aCons (mTup (aCons (mK (.d (.str "ab"))) (aCons (mK (.d (.str "abc"))) (aCons (mK (.d (.str "b"))) aNil)))) aNil)) (mTup (aCons (mTup (aCons (mK (.d (.int 0))) (aCons (mK (.d (.str "ab"))) aNil))) (aCons (mTup (aCons (mK (.d (.int 2))) (aCons (mK (.d (.str "c"))) aNil))) (aCons (mTup (aCons (mK (.d (.int 0))) (aCons (mK (.d (.str "b"))) aNil))) aNil)))))) (mRet (mK (.d (.bool false)))) mSkip)
  (mSeq (mIf (mNot (mAnd (mTb (mBin (opEq true) (mCallD f_read_frame [] (aCons (mTup (aCons (mK (.d (.int 0))) (aCons (mK (.d (.int 0))) (aCons (mK (.d (.int 0))) (aCons (mK (.d (.int 0))) (aCons (mK (.d (.int 1))) aNil)))))) (aCons (mK (.d (.int 0))) aNil))) (mTup (aCons (mTup aNil) (aCons (mK (.d (.int 5))) aNil))))) (mAnd (mTb (mBin (opEq true) (mCallD f_key_octets [] (aCons (mTup aNil) aNil)) (mTup aNil))) (mTb (mBin (opEq true) (mCallD f_read_key [] (aCons (mTup aNil) aNil)) (mTup aNil)))))) (mRet (mK (.d (.bool false)))) mSkip)
  (mRet (mAndV (mBin (opEq true) (mCallD f_squeezed [] (aCons (mTup aNil) aNil)) (mTup aNil)) (mAndV (mBin (opEq true) (mCallD f_sum_of [] (aCons (mTup aNil) aNil)) (mK (.d (.int 1)))) (mCallD f_is_number_cut [] (aCons (mTup aNil) (aCons (mK (.d (.int 0))) aNil))))))))))))))
theorem B__law_plain {k : Nat} {k_number_octets : Nat} {k_read_number : Nat} {k_text_octets : Nat} {k_read_text : Nat} {k_row_octets : Nat} {k_read_row : Nat} {k_key_octets : Nat} {k_read_key : Nat} {k_sum_of : Nat} {k_framed : Nat} {k_squeezed : Nat} {k_unsqueezed : Nat} {k_read_frame : Nat} {k_is_number_cut : Nat} (F : Fx fa fn K mg) (G : TabsF K mg base tf) {f_number_octets : MF} (D_number_octets : DefOk P w K mg base (tf.map (tbOf K)) k_number_octets "number_octets" 1 [] f_number_octets) (l_number_octets : k_number_octets ≤ k) {f_read_number : MF} (D_read_number : DefOk P w K mg base (tf.map (tbOf K)) k_read_number "read_number" 2 [] f_read_number) (l_read_number : k_read_number ≤ k) {f_text_octets : MF} (D_text_octets : DefOk P w K mg base (tf.map (tbOf K)) k_text_octets "text_octets" 1 [] f_text_octets) (l_text_octets : k_text_octets ≤ k) {f_read_text : MF} (D_read_text : DefOk P w K mg base (tf.map (tbOf K)) k_read_text "read_text" 2 [] f_read_text) (l_read_text : k_read_text ≤ k) {f_row_octets : MF} (D_row_octets : DefOk P w K mg base (tf.map (tbOf K)) k_row_octets "row_octets" 1 [] f_row_octets) (l_row_octets : k_row_octets ≤ k) {f_read_row : MF} (D_read_row : DefOk P w K mg base (tf.map (tbOf K)) k_read_row "read_row" 2 [] f_read_row) (l_read_row : k_read_row ≤ k) {f_key_octets : MF} (D_key_octets : DefOk P w K mg base (tf.map (tbOf K)) k_key_octets "key_octets" 1 [] f_key_octets) (l_key_octets : k_key_octets ≤ k) {f_read_key : MF} (D_read_key : DefOk P w K mg base (tf.map (tbOf K)) k_read_key "read_key" 1 [] f_read_key) (l_read_key : k_read_key ≤ k) {f_sum_of : MF} (D_sum_of : DefOk P w K mg base (tf.map (tbOf K)) k_sum_of "sum_of" 1 [] f_sum_of) (l_sum_of : k_sum_of ≤ k) {f_framed : MF} (D_framed : DefOk P w K mg base (tf.map (tbOf K)) k_framed "framed" 1 [] f_framed) (l_framed : k_framed ≤ k) {f_squeezed : MF} (D_squeezed : DefOk P w K mg base (tf.map (tbOf K)) k_squeezed "squeezed" 1 [] f_squeezed) (l_squeezed : k_squeezed ≤ k) {f_unsqueezed : MF} (D_unsqueezed : DefOk P w K mg base (tf.map (tbOf K)) k_unsqueezed "unsqueezed" 1 [] f_unsqueezed) (l_unsqueezed : k_unsqueezed ≤ k) {f_read_frame : MF} (D_read_frame : DefOk P w K mg base (tf.map (tbOf K)) k_read_frame "read_frame" 2 [] f_read_frame) (l_read_frame : k_read_frame ≤ k) {f_is_number_cut : MF} (D_is_number_cut : DefOk P w K mg base (tf.map (tbOf K)) k_is_number_cut "is_number_cut" 2 [] f_is_number_cut) (l_is_number_cut : k_is_number_cut ≤ k) (T__law_told : Told K mg "_law_told" "what" (He.ga K "_law_told") (He.ga K "CodeError") "CodeError") : DefOk P w K mg base (tf.map (tbOf K)) (k + 2 + 1) "_law_plain" 0 [] (runF 2 (m__law_plain f_number_octets f_read_number f_text_octets f_read_text f_row_octets f_read_row f_key_octets f_read_key f_sum_of f_framed f_squeezed f_unsqueezed f_read_frame f_is_number_cut)) := by
  refine def_mkC (d := d26) (N := ["bad", "f"]) (ps := []) F 26 33 rfl rfl rfl ⟨rfl, rfl, rfl, by decide +kernel, rfl, by decide +kernel, by decide +kernel⟩ (bd_all rfl fun _ _ _ _ _ _ us hl => match us, hl with | [], _ => rfl) fun A outer s H E hr => ?_
  have hu := hr.units
  have hu5 := hr.units5
  have hu1 := hr.units1
  have hN : (["bad", "f"] : List Str).Nodup := by decide +kernel
  exact (s_badsF (iy := 1) (ib := 0) (k := k) rfl hr T__law_told (catch_of F (l := ["CodeError"]) (by intro c hc; simp only [List.mem_cons, List.not_mem_nil, or_false] at hc; rcases hc with hc <;> subst hc <;> first | exact ⟨50, rfl⟩)) (by decide +kernel) (by exact (.cons (lam_at G 4 rfl rfl rfl rfl) (LamX.lamS_by (by kernel_rfl)) rfl (fun _ _ _ _ _ => rfl) (by intro A outer s H E f c' L hr; have hu := hr.units; have hu5 := hr.units5; have hu1 := hr.units1; exact (s_fn D_number_octets (takes_of rfl rfl rfl rfl) (roomE (hr.mono l_number_octets)) rfl (al_cons al_nil) rfl (s_cons (s_neg s_int) s_nil)))
    (.cons (lam_at G 4 rfl rfl rfl rfl) (LamX.lamS_by (by kernel_rfl)) rfl (fun _ _ _ _ _ => rfl) (by intro A outer s H E f c' L hr; have hu := hr.units; have hu5 := hr.units5; have hu1 := hr.units1; exact (s_fn D_number_octets (takes_of rfl rfl rfl rfl) (roomE (hr.mono l_number_octets)) rfl (al_cons al_nil) rfl (s_cons s_int s_nil)))
    (.cons (lam_at G 4 rfl rfl rfl rfl) (LamX.lamS_by (by kernel_rfl)) rfl (fun _ _ _ _ _ => rfl) (by intro A outer s H E f c' L hr; have hu := hr.units; have hu5 := hr.units5; have hu1 := hr.units1; exact (s_fn D_read_number (takes_of rfl rfl rfl rfl) (roomE (hr.mono l_read_number)) rfl (al_cons (al_cons al_nil)) rfl (s_cons (s_tup s_nil) (s_cons s_int s_nil))))
    (.cons (lam_at G 4 rfl rfl rfl rfl) (LamX.lamS_by (by kernel_rfl)) rfl (fun _ _ _ _ _ => rfl) (by intro A outer s H E f c' L hr; have hu := hr.units; have hu5 := hr.units5; have hu1 := hr.units1; exact (s_fn D_read_number (takes_of rfl rfl rfl rfl) (roomE (hr.mono l_read_number)) rfl (al_cons (al_cons al_nil)) rfl (s_cons (s_tup (s_cons s_int s_nil)) (s_cons s_int s_nil))))
    (.cons (lam_at G 4 rfl rfl rfl rfl) (LamX.lamS_by (by kernel_rfl)) rfl (fun _ _ _ _ _ => rfl) (by intro A outer s H E f c' L hr; have hu := hr.units; have hu5 := hr.units5; have hu1 := hr.units1; exact (s_fn D_read_number (takes_of rfl rfl rfl rfl) (roomE (hr.mono l_read_number)) rfl (al_cons (al_cons al_nil)) rfl (s_cons (s_tup (s_cons s_int (s_cons s_int s_nil))) (s_cons s_int s_nil))))
    (.cons (lam_at G 4 rfl rfl rfl rfl) (LamX.lamS_by (by kernel_rfl)) rfl (fun _ _ _ _ _ => rfl) (by intro A outer s H E f c' L hr; have hu := hr.units; have hu5 := hr.units5; have hu1 := hr.units1; exact (s_fn D_read_number (takes_of rfl rfl rfl rfl) (roomE (hr.mono l_read_number)) rfl (al_cons (al_cons al_nil)) rfl (s_cons (s_op op_mulM br_mul (s_tup (s_cons s_int s_nil)) s_int) (s_cons s_int s_nil))))
    (.cons (lam_at G 4 rfl rfl rfl rfl) (LamX.lamS_by (by kernel_rfl)) rfl (fun _ _ _ _ _ => rfl) (by intro A outer s H E f c' L hr; have hu := hr.units; have hu5 := hr.units5; have hu1 := hr.units1; exact (s_fn D_read_number (takes_of rfl rfl rfl rfl) (roomE (hr.mono l_read_number)) rfl (al_cons (al_cons al_nil)) rfl (s_cons (s_tup (s_cons s_int (s_cons s_int (s_cons s_int (s_cons s_int (s_cons s_int (s_cons s_int (s_cons s_int s_nil)))))))) (s_cons s_int s_nil))))
    (.cons (lam_at G 4 rfl rfl rfl rfl) (LamX.lamS_by (by kernel_rfl)) rfl (fun _ _ _ _ _ => rfl) (by intro A outer s H E f c' L hr; have hu := hr.units; have hu5 := hr.units5; have hu1 := hr.units1; exact (s_fn D_text_octets (takes_of rfl rfl rfl rfl) (roomE (hr.mono l_text_octets)) rfl (al_cons al_nil) rfl (s_cons (s_str (by decide +kernel)) s_nil)))
    (.cons (lam_at G 4 rfl rfl rfl rfl) (LamX.lamS_by (by kernel_rfl)) rfl (fun _ _ _ _ _ => rfl) (by intro A outer s H E f c' L hr; have hu := hr.units; have hu5 := hr.units5; have hu1 := hr.units1; exact (s_fn D_read_text (takes_of rfl rfl rfl rfl) (roomE (hr.mono l_read_text)) rfl (al_cons (al_cons al_nil)) rfl (s_cons (s_tup (s_cons s_int (s_cons s_int s_nil))) (s_cons s_int s_nil))))
    (.cons (lam_at G 4 rfl rfl rfl rfl) (LamX.lamS_by (by kernel_rfl)) rfl (fun _ _ _ _ _ => rfl) (by intro A outer s H E f c' L hr; have hu := hr.units; have hu5 := hr.units5; have hu1 := hr.units1; exact (s_fn D_read_text (takes_of rfl rfl rfl rfl) (roomE (hr.mono l_read_text)) rfl (al_cons (al_cons al_nil)) rfl (s_cons (s_tup (s_cons s_int (s_cons s_int s_nil))) (s_cons s_int s_nil))))
    (.cons (lam_at G 4 rfl rfl rfl rfl) (LamX.lamS_by (by kernel_rfl)) rfl (fun _ _ _ _ _ => rfl) (by intro A outer s H E f c' L hr; have hu := hr.units; have hu5 := hr.units5; have hu1 := hr.units1; exact (s_fn D_read_text (takes_of rfl rfl rfl rfl) (roomE (hr.mono l_read_text)) rfl (al_cons (al_cons al_nil)) rfl (s_cons (s_tup (s_cons s_int (s_cons s_int s_nil))) (s_cons s_int s_nil))))
    (.cons (lam_at G 4 rfl rfl rfl rfl) (LamX.lamS_by (by kernel_rfl)) rfl (fun _ _ _ _ _ => rfl) (by intro A outer s H E f c' L hr; have hu := hr.units; have hu5 := hr.units5; have hu1 := hr.units1; exact (s_fn D_row_octets (takes_of rfl rfl rfl rfl) (roomE (hr.mono l_row_octets)) rfl (al_cons al_nil) rfl (s_cons (s_tup (s_cons (s_str (by decide +kernel)) s_nil)) s_nil)))
    (.cons (lam_at G 4 rfl rfl rfl rfl) (LamX.lamS_by (by kernel_rfl)) rfl (fun _ _ _ _ _ => rfl) (by intro A outer s H E f c' L hr; have hu := hr.units; have hu5 := hr.units5; have hu1 := hr.units1; exact (s_fn D_read_row (takes_of rfl rfl rfl rfl) (roomE (hr.mono l_read_row)) rfl (al_cons (al_cons al_nil)) rfl (s_cons (s_tup (s_cons s_int (s_cons s_int s_nil))) (s_cons s_int s_nil))))
    (.cons (lam_at G 4 rfl rfl rfl rfl) (LamX.lamS_by (by kernel_rfl)) rfl (fun _ _ _ _ _ => rfl) (by intro A outer s H E f c' L hr; have hu := hr.units; have hu5 := hr.units5; have hu1 := hr.units1; exact (s_fn D_key_octets (takes_of rfl rfl rfl rfl) (roomE (hr.mono l_key_octets)) rfl (al_cons al_nil) rfl (s_cons (s_tup (s_cons (s_str (by decide +kernel)) s_nil)) s_nil)))
    (.cons (lam_at G 4 rfl rfl rfl rfl) (LamX.lamS_by (by kernel_rfl)) rfl (fun _ _ _ _ _ => rfl) (by intro A outer s H E f c' L hr; have hu := hr.units; have hu5 := hr.units5; have hu1 := hr.units1; exact (s_fn D_read_key (takes_of rfl rfl rfl rfl) (roomE (hr.mono l_read_key)) rfl (al_cons al_nil) rfl (s_cons (s_tup (s_cons s_int s_nil)) s_nil)))
    (.cons (lam_at G 4 rfl rfl rfl rfl) (LamX.lamS_by (by kernel_rfl)) rfl (fun _ _ _ _ _ => rfl) (by intro A outer s H E f c' L hr; have hu := hr.units; have hu5 := hr.units5; have hu1 := hr.units1; exact (s_fn D_read_key (takes_of rfl rfl rfl rfl) (roomE (hr.mono l_read_key)) rfl (al_cons al_nil) rfl (s_cons (s_tup (s_cons s_int (s_cons s_int s_nil))) s_nil)))
    (.cons (lam_at G 4 rfl rfl rfl rfl) (LamX.lamS_by (by kernel_rfl)) rfl (fun _ _ _ _ _ => rfl) (by intro A outer s H E f c' L hr; have hu := hr.units; have hu5 := hr.units5; have hu1 := hr.units1; exact (s_fn D_sum_of (takes_of rfl rfl rfl rfl) (roomE (hr.mono l_sum_of)) rfl (al_cons al_nil) rfl (s_cons (s_tup (s_cons s_int s_nil)) s_nil)))
    (.cons (lam_at G 4 rfl rfl rfl rfl) (LamX.lamS_by (by kernel_rfl)) rfl (fun _ _ _ _ _ => rfl) (by intro A outer s H E f c' L hr; have hu := hr.units; have hu5 := hr.units5; have hu1 := hr.units1; exact (s_fn D_sum_of (takes_of rfl rfl rfl rfl) (roomE (hr.mono l_sum_of)) rfl (al_cons al_nil) rfl (s_cons (s_tup (s_cons (s_neg s_int) s_nil)) s_nil)))
    (.cons (lam_at G 4 rfl rfl rfl rfl) (LamX.lamS_by (by kernel_rfl)) rfl (fun _ _ _ _ _ => rfl) (by intro A outer s H E f c' L hr; have hu := hr.units; have hu5 := hr.units5; have hu1 := hr.units1; exact (s_fn D_framed (takes_of rfl rfl rfl rfl) (roomE (hr.mono l_framed)) rfl (al_cons al_nil) rfl (s_cons (s_tup (s_cons s_int s_nil)) s_nil)))
    (.cons (lam_at G 4 rfl rfl rfl rfl) (LamX.lamS_by (by kernel_rfl)) rfl (fun _ _ _ _ _ => rfl) (by intro A outer s H E f c' L hr; have hu := hr.units; have hu5 := hr.units5; have hu1 := hr.units1; exact (s_fn D_squeezed (takes_of rfl rfl rfl rfl) (roomE (hr.mono l_squeezed)) rfl (al_cons al_nil) rfl (s_cons (s_tup (s_cons (s_str (by decide +kernel)) (s_cons (s_str (by decide +kernel)) s_nil))) s_nil)))
    (.cons (lam_at G 4 rfl rfl rfl rfl) (LamX.lamS_by (by kernel_rfl)) rfl (fun _ _ _ _ _ => rfl) (by intro A outer s H E f c' L hr; have hu := hr.units; have hu5 := hr.units5; have hu1 := hr.units1; exact (s_fn D_squeezed (takes_of rfl rfl rfl rfl) (roomE (hr.mono l_squeezed)) rfl (al_cons al_nil) rfl (s_cons (s_tup (s_cons (s_str (by decide +kernel)) (s_cons (s_str (by decide +kernel)) s_nil))) s_nil)))
    (.cons (lam_at G 4 rfl rfl rfl rfl) (LamX.lamS_by (by kernel_rfl)) rfl (fun _ _ _ _ _ => rfl) (by intro A outer s H E f c' L hr; have hu := hr.units; have hu5 := hr.units5; have hu1 := hr.units1; exact (s_fn D_unsqueezed (takes_of rfl rfl rfl rfl) (roomE (hr.mono l_unsqueezed)) rfl (al_cons al_nil) rfl (s_cons (s_tup (s_cons (s_tup (s_cons s_int (s_cons (s_str (by decide +kernel)) s_nil))) s_nil)) s_nil)))
    (.cons (lam_at G 4 rfl rfl rfl rfl) (LamX.lamS_by (by kernel_rfl)) rfl (fun _ _ _ _ _ => rfl) (by intro A outer s H E f c' L hr; have hu := hr.units; have hu5 := hr.units5; have hu1 := hr.units1; exact (s_fn D_unsqueezed (takes_of rfl rfl rfl rfl) (roomE (hr.mono l_unsqueezed)) rfl (al_cons al_nil) rfl (s_cons (s_tup (s_cons (s_tup (s_cons s_int (s_cons (s_str (by decide +kernel)) s_nil))) (s_cons (s_tup (s_cons s_int (s_cons (s_str (by decide +kernel)) s_nil))) s_nil))) s_nil)))
    (.cons (lam_at G 4 rfl rfl rfl rfl) (LamX.lamS_by (by kernel_rfl)) rfl (fun _ _ _ _ _ => rfl) (by intro A outer s H E f c' L hr; have hu := hr.units; have hu5 := hr.units5; have hu1 := hr.units1; exact (s_fn D_unsqueezed (takes_of rfl rfl rfl rfl) (roomE (hr.mono l_unsqueezed)) rfl (al_cons al_nil) rfl (s_cons (s_tup (s_cons (s_tup (s_cons s_int (s_cons (s_str (by decide +kernel)) s_nil))) (s_cons (s_tup (s_cons s_int (s_cons (s_str (by decide +kernel)) s_nil))) s_nil))) s_nil)))
    (.cons (lam_at G 4 rfl rfl rfl rfl) (LamX.lamS_by (by kernel_rfl)) rfl (fun _ _ _ _ _ => rfl) (by intro A outer s H E f c' L hr; have hu := hr.units; have hu5 := hr.units5; have hu1 := hr.units1; exact (s_fn D_unsqueezed (takes_of rfl rfl rfl rfl) (roomE (hr.mono l_unsqueezed)) rfl (al_cons al_nil) rfl (s_cons (s_tup (s_cons (s_tup (s_cons (s_neg s_int) (s_cons (s_str (by decide +kernel)) s_nil))) s_nil)) s_nil)))
    .nil)))))))))))))))))))))))))) rfl hN (blkOk_by (by kernel_rfl)) rfl (.inl rfl) (.inr rfl) rfl rfl rfl rfl rfl (fun _ _ _ _ _ => rfl) rfl rfl (by simp) (b_cons (s_if (s_tcmp (op_neM hu) br_eq (s_tup (s_cons (s_gint rfl (F.int 5 _ _ rfl)) (s_cons (s_gint rfl (F.int 6 _ _ rfl)) (s_cons (s_callB call_lenM bc_len rfl (F.free 41 _ rfl) rfl (s_cons (s_gstr rfl (F.str 4 _ _ rfl) (by decide +kernel)) s_nil)) s_nil)))) (s_tup (s_cons s_int (s_cons s_int (s_cons s_int s_nil)))) rfl) (b_one (s_ret s_bl)) b_nil)
    (b_cons (s_if (s_w (w_or (s_tcmp (op_neM hu) br_eq (s_callB (cr_sortedT rfl hu) bc_sortedT rfl (F.free 46 _ rfl) rfl (s_cons (s_gstr rfl (F.str 4 _ _ rfl) (by decide +kernel)) s_nil)) (s_callT (cr_listT rfl) bc_listT rfl (F.free 42 _ rfl) rfl (s_cons (s_gstr rfl (F.str 4 _ _ rfl) (by decide +kernel)) s_nil)) rfl) (w_or1 (s_tcmp (op_neM hu) br_eq (s_fn D_number_octets (takes_of rfl rfl rfl rfl) (hr.mono (Nat.le_add_right_of_le l_number_octets)) rfl (al_cons al_nil) rfl (s_cons s_int s_nil)) (s_tup (s_cons s_int (s_cons s_int s_nil))) rfl)))) (b_one (s_ret s_bl)) b_nil)
    (b_cons (s_if (s_tcmp (op_neM hu) br_eq (s_fn D_text_octets (takes_of rfl rfl rfl rfl) (hr.mono (Nat.le_add_right_of_le l_text_octets)) rfl (al_cons al_nil) rfl (s_cons (s_str (by decide +kernel)) s_nil)) (s_tup (s_cons s_int (s_cons s_int (s_cons s_int s_nil)))) rfl) (b_one (s_ret s_bl)) b_nil)
    (b_cons (s_if (s_not (s_w (w_and (s_tcmp (op_eqM hu) br_eq (s_fn D_row_octets (takes_of rfl rfl rfl rfl) (hr.mono (Nat.le_add_right_of_le l_row_octets)) rfl (al_cons al_nil) rfl (s_cons (s_tup (s_cons (s_str (by decide +kernel)) (s_cons (s_str (by decide +kernel)) s_nil))) s_nil)) (s_tup (s_cons s_int (s_cons s_int (s_cons s_int (s_cons s_int s_nil))))) rfl) (w_and1 (s_tcmp (op_eqM hu) br_eq (s_fn D_key_octets (takes_of rfl rfl rfl rfl) (hr.mono (Nat.le_add_right_of_le l_key_octets)) rfl (al_cons al_nil) rfl (s_cons (s_tup (s_cons (s_str (by decide +kernel)) (s_cons (s_str (by decide +kernel)) s_nil))) s_nil)) (s_tup (s_cons s_int (s_cons s_int (s_cons s_int (s_cons s_int s_nil))))) rfl))))) (b_one (s_ret s_bl)) b_nil)
    (b_cons (s_if (s_not (s_w (w_and (s_tcmp (op_eqM hu) br_eq (s_fn D_sum_of (takes_of rfl rfl rfl rfl) (hr.mono (Nat.le_add_right_of_le l_sum_of)) rfl (al_cons al_nil) rfl (s_cons (s_tup (s_cons s_int (s_cons s_int (s_cons s_int s_nil)))) s_nil)) s_int rfl) (w_and1 (s_tcmp (op_eqM hu) br_eq (s_fn D_framed (takes_of rfl rfl rfl rfl) (hr.mono (Nat.le_add_right_of_le l_framed)) rfl (al_cons al_nil) rfl (s_cons (s_tup (s_cons s_int s_nil)) s_nil)) (s_tup (s_cons s_int (s_cons s_int (s_cons s_int (s_cons s_int (s_cons s_int (s_cons s_int s_nil))))))) rfl))))) (b_one (s_ret s_bl)) b_nil)
    (b_cons (s_if (s_tcmp (op_neM hu) br_eq (s_fn D_squeezed (takes_of rfl rfl rfl rfl) (hr.mono (Nat.le_add_right_of_le l_squeezed)) rfl (al_cons al_nil) rfl (s_cons (s_tup (s_cons (s_str (by decide +kernel)) (s_cons (s_str (by decide +kernel)) (s_cons (s_str (by decide +kernel)) s_nil)))) s_nil)) (s_tup (s_cons (s_tup (s_cons s_int (s_cons (s_str (by decide +kernel)) s_nil))) (s_cons (s_tup (s_cons s_int (s_cons (s_str (by decide +kernel)) s_nil))) (s_cons (s_tup (s_cons s_int (s_cons (s_str (by decide +kernel)) s_nil))) s_nil)))) rfl) (b_one (s_ret s_bl)) b_nil)
    (b_cons (s_if (s_not (s_w (w_and (s_tcmp (op_eqM hu) br_eq (s_fn D_read_frame (takes_of rfl rfl rfl rfl) (hr.mono (Nat.le_add_right_of_le l_read_frame)) rfl (al_cons (al_cons al_nil)) rfl (s_cons (s_tup (s_cons s_int (s_cons s_int (s_cons s_int (s_cons s_int (s_cons s_int s_nil)))))) (s_cons s_int s_nil))) (s_tup (s_cons (s_tup s_nil) (s_cons s_int s_nil))) rfl) (w_and (s_tcmp (op_eqM hu) br_eq (s_fn D_key_octets (takes_of rfl rfl rfl rfl) (hr.mono (Nat.le_add_right_of_le l_key_octets)) rfl (al_cons al_nil) rfl (s_cons (s_tup s_nil) s_nil)) (s_tup s_nil) rfl) (w_and1 (s_tcmp (op_eqM hu) br_eq (s_fn D_read_key (takes_of rfl rfl rfl rfl) (hr.mono (Nat.le_add_right_of_le l_read_key)) rfl (al_cons al_nil) rfl (s_cons (s_tup s_nil) s_nil)) (s_tup s_nil) rfl)))))) (b_one (s_ret s_bl)) b_nil)
    (b_one (s_ret (s_andV (s_cmp (op_eqM hu) br_eq (s_fn D_squeezed (takes_of rfl rfl rfl rfl) (hr.mono (Nat.le_add_right_of_le l_squeezed)) rfl (al_cons al_nil) rfl (s_cons (s_tup s_nil) s_nil)) (s_tup s_nil) rfl) (s_andV (s_cmp (op_eqM hu) br_eq (s_fn D_sum_of (takes_of rfl rfl rfl rfl) (hr.mono (Nat.le_add_right_of_le l_sum_of)) rfl (al_cons al_nil) rfl (s_cons (s_tup s_nil) s_nil)) s_int rfl) (s_one (s_fn D_is_number_cut (takes_of rfl rfl rfl rfl) (hr.mono (Nat.le_add_right_of_le l_is_number_cut)) rfl (al_cons (al_cons al_nil)) rfl (s_cons (s_tup s_nil) (s_cons s_int s_nil))))))))))))))))
def m_law (f__law_rounds : MF) (f__law_roll : MF) (f__law_number : MF) (f_number_octets : MF) (f_read_number : MF) (f_number_at : MF) (f__law_read : MF) (f_is_number_cut : MF) (f__law_text : MF) (f_text_octets : MF) (f__law_signs : MF) (f_read_text : MF) (f_row_octets : MF) (f_read_row : MF) (f_key_octets : MF) (f_read_key : MF) (f__law_frame : MF) (f_sum_of : MF) (f__law_sum : MF) (f_framed : MF) (f_read_frame : MF) (f_squeezed : MF) (f_unsqueezed : MF) (f_shared_start : MF) (f__law_plain : MF) : MS :=
  (mSeq (mFor (iAny (mCallD f__law_rounds [] (aCons (mV 0) (aCons (mK (.d (.int 1))) aNil)))) (gN 1) (mSeq (mAsg (mCallD f__law_roll [] (aCons (mV 1) (aCons (mBin opIx (mLst (aCons (mK (.d (.int 200))) (aCons (mK (.d (.int 20000))) (aCons (mK (.d (.int 1000000000001))) aNil)))) (mCallD f__law_roll [] (aCons (mV 1) (aCons (mK (.d (.int 3))) aNil)))) aNil))) (gN 2))
  (mSeq (mPar 4 5 (aCons (mCallD f__law_number [] (aCons (mV 2) aNil)) (aCons (mLc (iRange1 (aCons (mCallD f__law_roll [] (aCons (mV 1) (aCons (mK (.d (.int 4))) aNil))) aNil)) (gN 3) mYes (mCallD f__law_roll [] (aCons (mV 1) (aCons (mK (.d (.int 256))) aNil))) [3]) aNil)))
  (mSeq (mIf (mTb (mBin (opEq false) (mCallD f_number_octets [] (aCons (mV 2) aNil)) (mV 4))) (mRet (mK (.d (.bool false)))) mSkip)
  (mSeq (mIf (mTb (mBin (opEq false) (mCallD f_read_number [] (aCons (mBin opAdd (mBin opAdd (mV 5) (mCall biList (aCons (mV 4) aNil))) (mV 5)) (aCons (mCall biLen (aCons (mV 5) aNil)) aNil))) (mTup (aCons (mV 2) (aCons (mBin opAdd (mCall biLen (aCons (mV 5) aNil)) (mCall biLen (aCons (mV 4) aNil))) aNil))))) (mRet (mK (.d (.bool false)))) mSkip)
  (mSeq (mIf (mTb (mBin (opEq false) (mCallD f_number_at [] (aCons (mV 4) (aCons (mK (.d (.int 0))) (aCons (mBin opSub (mCall biLen (aCons (mV 4) aNil)) (mK (.d (.int 1)))) aNil)))) (mV 2))) (mRet (mK (.d (.bool false)))) mSkip)
  (mSeq (mAsg (mTup (aCons (mLc (iRange1 (aCons (mCallD f__law_roll [] (aCons (mV 1) (aCons (mK (.d (.int 9))) aNil))) aNil)) (gN 3) mYes (mCallD f__law_roll [] (aCons (mV 1) (aCons (mBin opIx (mLst (aCons (mK (.d (.int 256))) (aCons (mK (.d (.int 128))) aNil))) (mCallD f__law_roll [] (aCons (mV 1) (aCons (mK (.d (.int 2))) aNil)))) aNil))) [3]) (aCons (mCallD f__law_roll [] (aCons (mV 1) (aCons (mK (.d (.int 3))) aNil))) aNil))) (gTp 2 (gsCons (gN 25) (gsCons (gN 26) gsNil))))
  (mSeq (mAsg (mCallD f__law_read [] (aCons (mV 25) (aCons (mV 26) aNil))) (gN 6))
  (mSeq (mIf (mTb (mBin (opEq false) (mTold (mCallD f_read_number [] (aCons (mV 25) (aCons (mV 26) aNil))) (inS ["CodeError"]) "CodeError") (mIfE (mTb (mBin (opIsN true) (mV 6) (mK (.d .none)))) (mK (.d (.str "CodeError"))) (mV 6)))) (mRet (mK (.d (.bool false)))) mSkip)
  (mSeq (mIf (mTb (mBin (opEq false) (mCallD f_is_number_cut [] (aCons (mV 25) (aCons (mV 26) aNil))) (mBin (opIsN true) (mV 6) (mK (.d .none))))) (mRet (mK (.d (.bool false)))) mSkip)
  (mSeq (mPar3 7 8 9 (aCons (mCallD f__law_text [] (aCons (mV 1) aNil)) (aCons (mLc (iRange1 (aCons (mCallD f__law_roll [] (aCons (mV 1) (aCons (mK (.d (.int 4))) aNil))) aNil)) (gN 3) mYes (mCallD f__law_text [] (aCons (mV 1) aNil)) [3]) (aCons (mLc (iRange1 (aCons (mCallD f__law_roll [] (aCons (mV 1) (aCons (mK (.d (.int 4))) aNil))) aNil)) (gN 3) mYes (mCallD f__law_text [] (aCons (mV 1) aNil)) [3]) aNil))))
  (mSeq (mIf (mTb (mBin (opEq false) (mCallD f_text_octets [] (aCons (mV 7) aNil)) (mBin opAdd (mCallD f__law_number [] (aCons (mCall biLen (aCons (mV 7) aNil)) aNil)) (mCallD f__law_signs [] (aCons (mV 7) aNil))))) (mRet (mK (.d (.bool false)))) mSkip)
  (mSeq (mIf (mTb (mBin (opEq false) (mCallD f_read_text [] (aCons (mBin opAdd (mCallD f_text_octets [] (aCons (mV 7) aNil)) (mTup (aCons (mK (.d (.int 0))) aNil))) (aCons (mK (.d (.int 0))) aNil))) (mTup (aCons (mV 7) (aCons (mBin opAdd (mCall biLen (aCons (mV 7) aNil)) (mK (.d (.int 1)))) aNil))))) (mRet (mK (.d (.bool false)))) mSkip)
  (mSeq (mAsg (mCallD f__law_number [] (aCons (mCall biLen (aCons (mV 8) aNil)) aNil)) (gN 10))
  (mSeq (mFor (iAny (mV 8)) (gN 11) (mAsg (mBin opAdd (mBin opAdd (mV 10) (mCallD f__law_number [] (aCons (mCall biLen (aCons (mV 11) aNil)) aNil))) (mCallD f__law_signs [] (aCons (mV 11) aNil))) (gN 10)))
  (mSeq (mIf (mOr (mTb (mBin (opEq false) (mCallD f_row_octets [] (aCons (mV 8) aNil)) (mV 10))) (mTb (mBin (opEq false) (mCallD f_read_row [] (aCons (mBin opAdd (mV 10) (mTup (aCons (mK (.d (.int 9))) aNil))) (aCons (mK (.d (.int 0))) aNil))) (mTup (aCons (mCall biTuple (aCons (mV 8) aNil)) (aCons (mCall biLen (aCons (mV 10) aNil)) aNil)))))) (mRet (mK (.d (.bool false)))) mSkip)
  (mSeq (mAsg (mTup aNil) (gN 12))
  (mSeq (mFor (iAny (mV 8)) (gN 11) (mAsg (mBin opAdd (mBin opAdd (mV 12) (mCallD f__law_signs [] (aCons (mV 11) aNil))) (mTup (aCons (mK (.d (.int 0))) aNil))) (gN 12)))
  (mSeq (mAsg (mLc (iAny (mLst (aCons (mV 8) (aCons (mV 9) aNil)))) (gN 27) mYes (mLc (iAny (mV 27)) (gN 11) mYes (mCallD f__law_signs [] (aCons (mV 11) aNil)) [11]) [27]) (gN 13))
  (mSeq (mIf (mOr (mTb (mBin (opEq false) (mCallD f_key_octets [] (aCons (mV 8) aNil)) (mV 12))) (mTb (mBin (opEq false) (mCallD f_read_key [] (aCons (mV 12) aNil)) (mCall biTuple (aCons (mV 8) aNil))))) (mRet (mK (.d (.bool false)))) mSkip)
  (mSeq (mIf (mTb (mBin (opEq false) (mBin oLt (mCallD f_key_octets [] (aCons (mV 8) aNil)) (mCallD f_key_octets [] (aCons (mV 9) aNil))) (mBin oLt (mBin opIx (mV 13) (mK (.d (.int 0)))) (mBin opIx (mV 13) (mK (.d (.int 1))))))) (mRet (mK (.d (.bool false)))) mSkip)
  (mSeq (mAsg (mCall biTuple (aCons (mLc (iRange1 (aCons (mCallD f__law_roll [] (aCons (mV 1) (aCons (mK (.d (.int 20))) aNil))) aNil)) (gN 3) mYes (mCallD f__law_roll [] (aCons (mV 1) (aCons (mK (.d (.int 256))) aNil))) [3]) aNil)) (gN 14))
  (mSeq (mAsg (mCallD f__law_frame [] (aCons (mV 14) aNil)) (gN 15))
  (mSeq (mIf (mOr (mTb (mBin (opEq false) (mCallD f_sum_of [] (aCons (mV 14) aNil)) (mCallD f__law_sum [] (aCons (mV 14) aNil)))) (mTb (mBin (opEq false) (mCallD f_framed [] (aCons (mV 14) aNil)) (mV 15)))) (mRet (mK (.d (.bool false)))) mSkip)
  (mSeq (mIf (mTb (mBin (opEq false) (mCallD f_read_frame [] (aCons (mBin opAdd (mV 15) (mTup (aCons (mK (.d (.int 7))) aNil))) (aCons (mK (.d (.int 0))) aNil))) (mTup (aCons (mV 14) (aCons (mCall biLen (aCons (mV 15) aNil)) aNil))))) (mRet (mK (.d (.bool false)))) mSkip)
  (mSeq (mAsg (mCallD f__law_roll [] (aCons (mV 1) (aCons (mCall biLen (aCons (mV 15) aNil)) aNil))) (gN 16))
  (mSeq (mIf (mTb (mBin (opIsN false) (mCallD f_read_frame [] (aCons (mSl (mV 15) oNo (oSo (mV 16))) (aCons (mK (.d (.int 0))) aNil))) (mK (.d .none)))) (mRet (mK (.d (.bool false)))) mSkip)
  (mSeq (mAsg (mCallD f__law_roll [] (aCons (mV 1) (aCons (mCall biLen (aCons (mV 15) aNil)) aNil))) (gN 3))
  (mSeq (mAsg (mBin opAdd (mBin opAdd (mSl (mV 15) oNo (oSo (mV 3))) (mTup (aCons (mBin opMod (mBin opAdd (mBin opAdd (mBin opIx (mV 15) (mV 3)) (mK (.d (.int 1)))) (mCallD f__law_roll [] (aCons (mV 1) (aCons (mK (.d (.int 255))) aNil)))) (mK (.d (.int 256)))) aNil))) (mSl (mV 15) (oSo (mBin opAdd (mV 3) (mK (.d (.int 1))))) oNo)) (gN 17))
  (mSeq (mAsg (mCallD f__law_read [] (aCons (mV 17) (aCons (mK (.d (.int 0))) aNil))) (gN 18))
  (mSeq (mAsg (mAndV (mBin (opIsN false) (mV 18) (mK (.d .none))) (mAndV (mBin oGe (mCall biLen (aCons (mV 17) aNil)) (mBin opAdd (mBin opAdd (mBin opIx (mV 18) (mK (.d (.int 1)))) (mBin opIx (mV 18) (mK (.d (.int 0))))) (mK (.d (.int 4))))) (mBin (opEq true) (mSl (mCallD f__law_frame [] (aCons (mSl (mV 17) (oSo (mBin opIx (mV 18) (mK (.d (.int 1))))) (oSo (mBin opAdd (mBin opIx (mV 18) (mK (.d (.int 1)))) (mBin opIx (mV 18) (mK (.d (.int 0))))))) aNil)) (oSo (mCall biLen (aCons (mCallD f__law_number [] (aCons (mBin opIx (mV 18) (mK (.d (.int 0)))) aNil)) aNil))) oNo) (mSl (mV 17) (oSo (mBin opIx (mV 18) (mK (.d (.int 1))))) (oSo (mBin opAdd (mBin opAdd (mBin opIx (mV 18) (mK (.d (.int 1)))) (mBin opIx (mV 18) (mK (.d (.int 0))))) (mK (.d (.int 4))))))))) (gN 19))
  (mSeq (mIf (mOr (mTb (mBin (opEq false) (mBin (opIsN false) (mCallD f_read_frame [] (aCons (mV 17) (aCons (mK (.d (.int 0))) aNil))) (mK (.d .none))) (mV 19))) (mAnd (mTb (mV 19)) (mTb (mBin oGe (mV 3) (mCall biLen (aCons (mCallD f__law_number [] (aCons (mCall biLen (aCons (mV 14) aNil)) aNil)) aNil)))))) (mRet (mK (.d (.bool false)))) mSkip)
  (mSeq (mAsg (mCall biSortedD (aCons (mCall biDictP (aCons (mLc (iRange1 (aCons (mCallD f__law_roll [] (aCons (mV 1) (aCons (mK (.d (.int 6))) aNil))) aNil)) (gN 20) mYes (mTup (aCons (mCallD f__law_text [] (aCons (mV 1) aNil)) (aCons (mK (.d (.int 1))) aNil))) [20]) aNil)) aNil)) (gN 21))
  (mSeq (mAsg (mLst aNil) (gN 22))
  (mSeq (mFor (iEnumL (aCons (mV 21) aNil)) (gTp 2 (gsCons (gN 20) (gsCons (gN 11) gsNil))) (mSeq (mAsg (mIfE (mTb (mBin oGt (mV 20) (mK (.d (.int 0))))) (mBin opIx (mV 21) (mBin opSub (mV 20) (mK (.d (.int 1))))) (mK (.d (.str "")))) (gN 23))
  (mSeq (mAsg (mCall biMax (aCons (mLc (iRange1 (aCons (mBin opAdd (mCall biMin2 (aCons (mCall biLen (aCons (mV 11) aNil)) (aCons (mCall biLen (aCons (mV 23) aNil)) aNil))) (mK (.d (.int 1)))) aNil)) (gN 31) (mTb (mBin (opEq true) (mSl (mV 11) oNo (oSo (mV 31))) (mSl (mV 23) oNo (oSo (mV 31))))) (mV 31) [31]) aNil)) (gN 24))
  (mAsg (mBin opAdd (mV 22) (mLst (aCons (mTup (aCons (mV 24) (aCons (mSl (mV 11) (oSo (mV 24)) oNo) aNil))) aNil))) (gN 22)))))
  (mSeq (mIf (mOr (mTb (mBin (opEq false) (mCall biList (aCons (mCallD f_squeezed [] (aCons (mV 21) aNil)) aNil)) (mV 22))) (mTb (mBin (opEq false) (mCall biList (aCons (mCallD f_unsqueezed [] (aCons (mV 22) aNil)) aNil)) (mV 21)))) (mRet (mK (.d (.bool false)))) mSkip)
  (mIf (mTb (mBin (opEq false) (mLc (iZipM (aCons (mBin opAdd (mLst (aCons (mK (.d (.str ""))) aNil)) (mV 21)) (aCons (mV 21) aNil))) (gTp 2 (gsCons (gN 28) (gsCons (gN 29) gsNil))) mYes (mCallD f_shared_start [] (aCons (mV 28) (aCons (mV 29) aNil))) [28, 29]) (mLc (iAny (mV 22)) (gTp 2 (gsCons (gN 24) (gsCons (gN 30) gsNil))) mYes (mV 24) [24, 30]))) (mRet (mK (.d (.bool false)))) mSkip)))))))))))))))))))))))))))))))))))))
  (mRet (mCall0 f__law_plain [])))
theorem B_law {k : Nat} {k__law_rounds : Nat} {k__law_roll : Nat} {k__law_number : Nat} {k_number_octets : Nat} {k_read_number : Nat} {k_number_at : Nat} {k__law_read : Nat} {k_is_number_cut : Nat} {k__law_text : Nat} {k_text_octets : Nat} {k__law_signs : Nat} {k_read_text : Nat} {k_row_octets : Nat} {k_read_row : Nat} {k_key_octets : Nat} {k_read_key : Nat} {k__law_frame : Nat} {k_sum_of : Nat} {k__law_sum : Nat} {k_framed : Nat} {k_read_frame : Nat} {k_squeezed : Nat} {k_unsqueezed : Nat} {k_shared_start : Nat} {k__law_plain : Nat} (F : Fx fa fn K mg) (G : TabsF K mg base tf) {f__law_rounds : MF} (D__law_rounds : DefOk P w K mg base (tf.map (tbOf K)) k__law_rounds "_law_rounds" 2 [] f__law_rounds) (l__law_rounds : k__law_rounds ≤ k) {f__law_roll : MF} (D__law_roll : DefOk P w K mg base (tf.map (tbOf K)) k__law_roll "_law_roll" 2 [] f__law_roll) (l__law_roll : k__law_roll ≤ k) {f__law_number : MF} (D__law_number : DefOk P w K mg base (tf.map (tbOf K)) k__law_number "_law_number" 1 [] f__law_number) (l__law_number : k__law_number ≤ k) {f_number_octets : MF} (D_number_octets : DefOk P w K mg base (tf.map (tbOf K)) k_number_octets "number_octets" 1 [] f_number_octets) (l_number_octets : k_number_octets ≤ k) {f_read_number : MF} (D_read_number : DefOk P w K mg base (tf.map (tbOf K)) k_read_number "read_number" 2 [] f_read_number) (l_read_number : k_read_number ≤ k) {f_number_at : MF} (D_number_at : DefOk P w K mg base (tf.map (tbOf K)) k_number_at "number_at" 3 [] f_number_at) (l_number_at : k_number_at ≤ k) {f__law_read : MF} (D__law_read : DefOk P w K mg base (tf.map (tbOf K)) k__law_read "_law_read" 2 [] f__law_read) (l__law_read : k__law_read ≤ k) {f_is_number_cut : MF} (D_is_number_cut : DefOk P w K mg base (tf.map (tbOf K)) k_is_number_cut "is_number_cut" 2 [] f_is_number_cut) (l_is_number_cut : k_is_number_cut ≤ k) {f__law_text : MF} (D__law_text : DefOk P w K mg base (tf.map (tbOf K)) k__law_text "_law_text" 1 [] f__law_text) (l__law_text : k__law_text ≤ k) {f_text_octets : MF} (D_text_octets : DefOk P w K mg base (tf.map (tbOf K)) k_text_octets "text_octets" 1 [] f_text_octets) (l_text_octets : k_text_octets ≤ k) {f__law_signs : MF} (D__law_signs : DefOk P w K mg base (tf.map (tbOf K)) k__law_signs "_law_signs" 1 [] f__law_signs) (l__law_signs : k__law_signs ≤ k) {f_read_text : MF} (D_read_text : DefOk P w K mg base (tf.map (tbOf K)) k_read_text "read_text" 2 [] f_read_text) (l_read_text : k_read_text ≤ k) {f_row_octets : MF} (D_row_octets : DefOk P w K mg base (tf.map (tbOf K)) k_row_octets "row_octets" 1 [] f_row_octets) (l_row_octets : k_row_octets ≤ k) {f_read_row : MF} (D_read_row : DefOk P w K mg base (tf.map (tbOf K)) k_read_row "read_row" 2 [] f_read_row) (l_read_row : k_read_row ≤ k) {f_key_octets : MF} (D_key_octets : DefOk P w K mg base (tf.map (tbOf K)) k_key_octets "key_octets" 1 [] f_key_octets) (l_key_octets : k_key_octets ≤ k) {f_read_key : MF} (D_read_key : DefOk P w K mg base (tf.map (tbOf K)) k_read_key "read_key" 1 [] f_read_key) (l_read_key : k_read_key ≤ k) {f__law_frame : MF} (D__law_frame : DefOk P w K mg base (tf.map (tbOf K)) k__law_frame "_law_frame" 1 [] f__law_frame) (l__law_frame : k__law_frame ≤ k) {f_sum_of : MF} (D_sum_of : DefOk P w K mg base (tf.map (tbOf K)) k_sum_of "sum_of" 1 [] f_sum_of) (l_sum_of : k_sum_of ≤ k) {f__law_sum : MF} (D__law_sum : DefOk P w K mg base (tf.map (tbOf K)) k__law_sum "_law_sum" 1 [] f__law_sum) (l__law_sum : k__law_sum ≤ k) {f_framed : MF} (D_framed : DefOk P w K mg base (tf.map (tbOf K)) k_framed "framed" 1 [] f_framed) (l_framed : k_framed ≤ k) {f_read_frame : MF} (D_read_frame : DefOk P w K mg base (tf.map (tbOf K)) k_read_frame "read_frame" 2 [] f_read_frame) (l_read_frame : k_read_frame ≤ k) {f_squeezed : MF} (D_squeezed : DefOk P w K mg base (tf.map (tbOf K)) k_squeezed "squeezed" 1 [] f_squeezed) (l_squeezed : k_squeezed ≤ k) {f_unsqueezed : MF} (D_unsqueezed : DefOk P w K mg base (tf.map (tbOf K)) k_unsqueezed "unsqueezed" 1 [] f_unsqueezed) (l_unsqueezed : k_unsqueezed ≤ k) {f_shared_start : MF} (D_shared_start : DefOk P w K mg base (tf.map (tbOf K)) k_shared_start "shared_start" 2 [] f_shared_start) (l_shared_start : k_shared_start ≤ k) {f__law_plain : MF} (D__law_plain : DefOk P w K mg base (tf.map (tbOf K)) k__law_plain "_law_plain" 0 [] f__law_plain) (l__law_plain : k__law_plain ≤ k) (T__law_told : Told K mg "_law_told" "what" (He.ga K "_law_told") (He.ga K "CodeError") "CodeError") {fd : FuncData} (FD : FunD K d27.name d27.qual d27.params d27.body d27.scope (d27.dvs K) (d27.kws K) (He.ga K "law") fd) : FnOk P w K mg base (L2.CX P w) (k + 2 + 1) (He.ga K "law") fd ["script"] (spF K (tf.map (tbOf K)) 1 (runF 32 (m_law f__law_rounds f__law_roll f__law_number f_number_octets f_read_number f_number_at f__law_read f_is_number_cut f__law_text f_text_octets f__law_signs f_read_text f_row_octets f_read_row f_key_octets f_read_key f__law_frame f_sum_of f__law_sum f_framed f_read_frame f_squeezed f_unsqueezed f_shared_start f__law_plain))) := by
  refine fn_mkC (N := ["script", "dice", "number", "k", "octets", "ahead", "due", "text", "row", "other", "coded", "one", "keys", "ranks", "plain", "frame", "cut", "bent", "head", "good", "j", "texts", "rows", "before", "many", "loose", "place", "names", "a", "b", "rest", "size"]) FD ⟨rfl, rfl, rfl, by decide +kernel, rfl, by decide +kernel, by decide +kernel⟩ (p := ("law", none)) rfl fun A outer s H E hr => ?_
  have hu := hr.units
  have hu5 := hr.units5
  have hu1 := hr.units1
  have hN : (["script", "dice", "number", "k", "octets", "ahead", "due", "text", "row", "other", "coded", "one", "keys", "ranks", "plain", "frame", "cut", "bent", "head", "good", "j", "texts", "rows", "before", "many", "loose", "place", "names", "a", "b", "rest", "size"] : List Str).Nodup := by decide +kernel
  exact (b_cons (s_for (vs := [1]) (passes_of rfl) rfl (i_any (s_fn D__law_rounds (takes_of rfl rfl rfl rfl) (hr.mono (Nat.le_add_right_of_le l__law_rounds)) rfl (al_cons (al_cons al_nil)) rfl (s_cons (s_var (i := 0) rfl (.inl rfl)) (s_cons s_int s_nil)))) (g_name (i := 1) hN rfl (.inr rfl) (.inl rfl) (by decide)) (b_cons (s_set (i := 2) hN rfl (.inl rfl) (.inr rfl) (s_fn D__law_roll (takes_of rfl rfl rfl rfl) (hr.mono (Nat.le_add_right_of_le l__law_roll)) rfl (al_cons (al_cons al_nil)) rfl (s_cons (s_var (i := 1) rfl (.inr (.inl rfl))) (s_cons (s_ix (s_lst (s_cons s_int (s_cons s_int (s_cons s_int s_nil)))) (s_fn D__law_roll (takes_of rfl rfl rfl rfl) (hr.mono (Nat.le_add_right_of_le l__law_roll)) rfl (al_cons (al_cons al_nil)) rfl (s_cons (s_var (i := 1) rfl (.inr (.inl rfl))) (s_cons s_int s_nil)))) s_nil))))
    (b_cons (s_par (i := 4) (j := 5) rfl hN rfl rfl (by decide) rfl rfl (s_cons (s_fn D__law_number (takes_of rfl rfl rfl rfl) (hr.mono (Nat.le_add_right_of_le l__law_number)) rfl (al_cons al_nil) rfl (s_cons (s_var (i := 2) rfl (.inl rfl)) s_nil)) (s_cons (s_lc (own := [("k", 3)]) rfl hN (i_range1 rfl (F.free 45 _ rfl) (s_cons (s_fn D__law_roll (takes_of rfl rfl rfl rfl) (hr.mono (Nat.le_add_right_of_le l__law_roll)) rfl (al_cons (al_cons al_nil)) rfl (s_cons (s_var (i := 1) rfl (.inr (.inl rfl))) (s_cons s_int s_nil))) s_nil)) (blkOk_by (by kernel_rfl)) (fun _ _ _ _ _ => (g_name (i := 3) hN rfl (by first | exact .inl rfl | exact .inr rfl) (by first | exact .inr rfl | exact .inl rfl) (by decide))) (fun _ _ _ _ _ => ts_nil) (fun _ _ _ _ _ => (s_fn D__law_roll takes0 (hr.mono (Nat.le_add_right_of_le l__law_roll)) rfl (al_cons (al_cons al_nil)) rfl (s_cons (s_var (i := 1) rfl (by first | exact .inr (.inr rfl) | exact .inl rfl | exact .inr (.inl rfl))) (s_cons s_int s_nil))))) s_nil)) rfl)
    (b_cons (s_if (s_tcmp (op_neM hu) br_eq (s_fn D_number_octets (takes_of rfl rfl rfl rfl) (hr.mono (Nat.le_add_right_of_le l_number_octets)) rfl (al_cons al_nil) rfl (s_cons (s_var (i := 2) rfl (.inl rfl)) s_nil)) (s_var (i := 4) rfl (.inl rfl)) rfl) (b_one (s_ret s_bl)) b_nil)
    (b_cons (s_if (s_tcmp (op_neM hu) br_eq (s_fn D_read_number (takes_of rfl rfl rfl rfl) (hr.mono (Nat.le_add_right_of_le l_read_number)) rfl (al_cons (al_cons al_nil)) rfl (s_cons (s_op op_addM br_add (s_op op_addM br_add (s_var (i := 5) rfl (.inl rfl)) (s_callT call_list_of bc_list rfl (F.free 42 _ rfl) rfl (s_cons (s_var (i := 4) rfl (.inl rfl)) s_nil))) (s_var (i := 5) rfl (.inl rfl))) (s_cons (s_callB call_lenM bc_len rfl (F.free 41 _ rfl) rfl (s_cons (s_var (i := 5) rfl (.inl rfl)) s_nil)) s_nil))) (s_tup (s_cons (s_var (i := 2) rfl (.inl rfl)) (s_cons (s_op op_addM br_add (s_callB call_lenM bc_len rfl (F.free 41 _ rfl) rfl (s_cons (s_var (i := 5) rfl (.inl rfl)) s_nil)) (s_callB call_lenM bc_len rfl (F.free 41 _ rfl) rfl (s_cons (s_var (i := 4) rfl (.inl rfl)) s_nil))) s_nil))) rfl) (b_one (s_ret s_bl)) b_nil)
    (b_cons (s_if (s_tcmp (op_neM hu) br_eq (s_fn D_number_at (takes_of rfl rfl rfl rfl) (hr.mono (Nat.le_add_right_of_le l_number_at)) rfl (al_cons (al_cons (al_cons al_nil))) rfl (s_cons (s_var (i := 4) rfl (.inl rfl)) (s_cons s_int (s_cons (s_op op_sub br_sub (s_callB call_lenM bc_len rfl (F.free 41 _ rfl) rfl (s_cons (s_var (i := 4) rfl (.inl rfl)) s_nil)) s_int) s_nil)))) (s_var (i := 2) rfl (.inl rfl)) rfl) (b_one (s_ret s_bl)) b_nil)
    (b_cons (s_asg (vs := [26, 25]) (s_tup (s_cons (s_lc (own := [("k", 3)]) rfl hN (i_range1 rfl (F.free 45 _ rfl) (s_cons (s_fn D__law_roll (takes_of rfl rfl rfl rfl) (hr.mono (Nat.le_add_right_of_le l__law_roll)) rfl (al_cons (al_cons al_nil)) rfl (s_cons (s_var (i := 1) rfl (.inr (.inl rfl))) (s_cons s_int s_nil))) s_nil)) (blkOk_by (by kernel_rfl)) (fun _ _ _ _ _ => (g_name (i := 3) hN rfl (by first | exact .inl rfl | exact .inr rfl) (by first | exact .inr rfl | exact .inl rfl) (by decide))) (fun _ _ _ _ _ => ts_nil) (fun _ _ _ _ _ => (s_fn D__law_roll takes0 (hr.mono (Nat.le_add_right_of_le l__law_roll)) rfl (al_cons (al_cons al_nil)) rfl (s_cons (s_var (i := 1) rfl (by first | exact .inr (.inr rfl) | exact .inl rfl | exact .inr (.inl rfl))) (s_cons (s_ix (s_lst (s_cons s_int (s_cons s_int s_nil))) (s_fn D__law_roll takes0 (hr.mono (Nat.le_add_right_of_le l__law_roll)) rfl (al_cons (al_cons al_nil)) rfl (s_cons (s_var (i := 1) rfl (by first | exact .inr (.inr rfl) | exact .inl rfl | exact .inr (.inl rfl))) (s_cons s_int s_nil)))) s_nil))))) (s_cons (s_fn D__law_roll (takes_of rfl rfl rfl rfl) (hr.mono (Nat.le_add_right_of_le l__law_roll)) rfl (al_cons (al_cons al_nil)) rfl (s_cons (s_var (i := 1) rfl (.inr (.inl rfl))) (s_cons s_int s_nil))) s_nil))) (g_tup rfl (gs_cons (g_name (i := 25) hN rfl (.inr rfl) (.inl rfl) (by decide)) (gs_cons (g_name (i := 26) hN rfl (.inr rfl) (.inl rfl) (by decide)) gs_nil))))
    (b_cons (s_set (i := 6) hN rfl (.inl rfl) (.inr rfl) (s_fn D__law_read (takes_of rfl rfl rfl rfl) (hr.mono (Nat.le_add_right_of_le l__law_read)) rfl (al_cons (al_cons al_nil)) rfl (s_cons (s_var (i := 25) rfl (.inr (.inl rfl))) (s_cons (s_var (i := 26) rfl (.inr (.inl rfl))) s_nil))))
    (b_cons (s_if (s_tcmp (op_neM hu) br_eq (s_told (k := k) T__law_told hr rfl (lam_at G 5 rfl rfl rfl rfl) (LamX.lamS_by (by kernel_rfl)) rfl (fun _ _ _ _ _ => rfl) (catch_of F (l := ["CodeError"]) (by intro c hc; simp only [List.mem_cons, List.not_mem_nil, or_false] at hc; rcases hc with hc <;> subst hc <;> first | exact ⟨50, rfl⟩)) (by decide +kernel) (by intro A outer s H E f c' L hr; have hu := hr.units; have hu5 := hr.units5; have hu1 := hr.units1; exact (s_fn D_read_number (takes_of rfl rfl rfl rfl) (roomE (hr.mono l_read_number)) rfl (al_cons (al_cons al_nil)) rfl (s_cons (s_var (i := 25) rfl (by first | exact .inr (.inr rfl) | exact .inl rfl | exact .inr (.inl rfl))) (s_cons (s_var (i := 26) rfl (by first | exact .inr (.inr rfl) | exact .inl rfl | exact .inr (.inl rfl))) s_nil))))) (s_ifE (s_tcmp op_isN br_isN (s_var (i := 6) rfl (.inl rfl)) s_non rfl) (s_str (by decide +kernel)) (s_var (i := 6) rfl (.inl rfl))) rfl) (b_one (s_ret s_bl)) b_nil)
    (b_cons (s_if (s_tcmp (op_neM hu) br_eq (s_fn D_is_number_cut (takes_of rfl rfl rfl rfl) (hr.mono (Nat.le_add_right_of_le l_is_number_cut)) rfl (al_cons (al_cons al_nil)) rfl (s_cons (s_var (i := 25) rfl (.inr (.inl rfl))) (s_cons (s_var (i := 26) rfl (.inr (.inl rfl))) s_nil))) (s_cmp op_isN br_isN (s_var (i := 6) rfl (.inl rfl)) s_non rfl) rfl) (b_one (s_ret s_bl)) b_nil)
    (b_cons (s_par3 (i := 7) (j := 8) (l := 9) (fun ta h => ps_par3 rfl hN rfl rfl rfl (by decide) (by decide) (by decide) rfl rfl rfl h rfl) (s_cons (s_fn D__law_text (takes_of rfl rfl rfl rfl) (hr.mono (Nat.le_add_right_of_le l__law_text)) rfl (al_cons al_nil) rfl (s_cons (s_var (i := 1) rfl (.inr (.inl rfl))) s_nil)) (s_cons (s_lc (own := [("k", 3)]) rfl hN (i_range1 rfl (F.free 45 _ rfl) (s_cons (s_fn D__law_roll (takes_of rfl rfl rfl rfl) (hr.mono (Nat.le_add_right_of_le l__law_roll)) rfl (al_cons (al_cons al_nil)) rfl (s_cons (s_var (i := 1) rfl (.inr (.inl rfl))) (s_cons s_int s_nil))) s_nil)) (blkOk_by (by kernel_rfl)) (fun _ _ _ _ _ => (g_name (i := 3) hN rfl (by first | exact .inl rfl | exact .inr rfl) (by first | exact .inr rfl | exact .inl rfl) (by decide))) (fun _ _ _ _ _ => ts_nil) (fun _ _ _ _ _ => (s_fn D__law_text takes0 (hr.mono (Nat.le_add_right_of_le l__law_text)) rfl (al_cons al_nil) rfl (s_cons (s_var (i := 1) rfl (by first | exact .inr (.inr rfl) | exact .inl rfl | exact .inr (.inl rfl))) s_nil)))) (s_cons (s_lc (own := [("k", 3)]) rfl hN (i_range1 rfl (F.free 45 _ rfl) (s_cons (s_fn D__law_roll (takes_of rfl rfl rfl rfl) (hr.mono (Nat.le_add_right_of_le l__law_roll)) rfl (al_cons (al_cons al_nil)) rfl (s_cons (s_var (i := 1) rfl (.inr (.inl rfl))) (s_cons s_int s_nil))) s_nil)) (blkOk_by (by kernel_rfl)) (fun _ _ _ _ _ => (g_name (i := 3) hN rfl (by first | exact .inl rfl | exact .inr rfl) (by first | exact .inr rfl | exact .inl rfl) (by decide))) (fun _ _ _ _ _ => ts_nil) (fun _ _ _ _ _ => (s_fn D__law_text takes0 (hr.mono (Nat.le_add_right_of_le l__law_text)) rfl (al_cons al_nil) rfl (s_cons (s_var (i := 1) rfl (by first | exact .inr (.inr rfl) | exact .inl rfl | exact .inr (.inl rfl))) s_nil)))) s_nil))))
    (b_cons (s_if (s_tcmp (op_neM hu) br_eq (s_fn D_text_octets (takes_of rfl rfl rfl rfl) (hr.mono (Nat.le_add_right_of_le l_text_octets)) rfl (al_cons al_nil) rfl (s_cons (s_var (i := 7) rfl (.inl rfl)) s_nil)) (s_op op_addM br_add (s_fn D__law_number (takes_of rfl rfl rfl rfl) (hr.mono (Nat.le_add_right_of_le l__law_number)) rfl (al_cons al_nil) rfl (s_cons (s_callB call_lenM bc_len rfl (F.free 41 _ rfl) rfl (s_cons (s_var (i := 7) rfl (.inl rfl)) s_nil)) s_nil)) (s_fn D__law_signs (takes_of rfl rfl rfl rfl) (hr.mono (Nat.le_add_right_of_le l__law_signs)) rfl (al_cons al_nil) rfl (s_cons (s_var (i := 7) rfl (.inl rfl)) s_nil))) rfl) (b_one (s_ret s_bl)) b_nil)
    (b_cons (s_if (s_tcmp (op_neM hu) br_eq (s_fn D_read_text (takes_of rfl rfl rfl rfl) (hr.mono (Nat.le_add_right_of_le l_read_text)) rfl (al_cons (al_cons al_nil)) rfl (s_cons (s_op op_addM br_add (s_fn D_text_octets (takes_of rfl rfl rfl rfl) (hr.mono (Nat.le_add_right_of_le l_text_octets)) rfl (al_cons al_nil) rfl (s_cons (s_var (i := 7) rfl (.inl rfl)) s_nil)) (s_tup (s_cons s_int s_nil))) (s_cons s_int s_nil))) (s_tup (s_cons (s_var (i := 7) rfl (.inl rfl)) (s_cons (s_op op_addM br_add (s_callB call_lenM bc_len rfl (F.free 41 _ rfl) rfl (s_cons (s_var (i := 7) rfl (.inl rfl)) s_nil)) s_int) s_nil))) rfl) (b_one (s_ret s_bl)) b_nil)
    (b_cons (s_set (i := 10) hN rfl (.inl rfl) (.inr rfl) (s_fn D__law_number (takes_of rfl rfl rfl rfl) (hr.mono (Nat.le_add_right_of_le l__law_number)) rfl (al_cons al_nil) rfl (s_cons (s_callB call_lenM bc_len rfl (F.free 41 _ rfl) rfl (s_cons (s_var (i := 8) rfl (.inl rfl)) s_nil)) s_nil)))
    (b_cons (s_for (vs := [11]) (passes_of rfl) rfl (i_any (s_var (i := 8) rfl (.inl rfl))) (g_name (i := 11) hN rfl (.inr rfl) (.inl rfl) (by decide)) (b_one (s_set (i := 10) hN rfl (.inl rfl) (.inr rfl) (s_op op_addM br_add (s_op op_addM br_add (s_var (i := 10) rfl (.inl rfl)) (s_fn D__law_number (takes_of rfl rfl rfl rfl) (hr.mono (Nat.le_add_right_of_le l__law_number)) rfl (al_cons al_nil) rfl (s_cons (s_callB call_lenM bc_len rfl (F.free 41 _ rfl) rfl (s_cons (s_var (i := 11) rfl (.inr (.inl rfl))) s_nil)) s_nil))) (s_fn D__law_signs (takes_of rfl rfl rfl rfl) (hr.mono (Nat.le_add_right_of_le l__law_signs)) rfl (al_cons al_nil) rfl (s_cons (s_var (i := 11) rfl (.inr (.inl rfl))) s_nil))))))
    (b_cons (s_if (s_w (w_or (s_tcmp (op_neM hu) br_eq (s_fn D_row_octets (takes_of rfl rfl rfl rfl) (hr.mono (Nat.le_add_right_of_le l_row_octets)) rfl (al_cons al_nil) rfl (s_cons (s_var (i := 8) rfl (.inl rfl)) s_nil)) (s_var (i := 10) rfl (.inl rfl)) rfl) (w_or1 (s_tcmp (op_neM hu) br_eq (s_fn D_read_row (takes_of rfl rfl rfl rfl) (hr.mono (Nat.le_add_right_of_le l_read_row)) rfl (al_cons (al_cons al_nil)) rfl (s_cons (s_op op_addM br_add (s_var (i := 10) rfl (.inl rfl)) (s_tup (s_cons s_int s_nil))) (s_cons s_int s_nil))) (s_tup (s_cons (s_callT call_tuple_of bc_tuple rfl (F.free 48 _ rfl) rfl (s_cons (s_var (i := 8) rfl (.inl rfl)) s_nil)) (s_cons (s_callB call_lenM bc_len rfl (F.free 41 _ rfl) rfl (s_cons (s_var (i := 10) rfl (.inl rfl)) s_nil)) s_nil))) rfl)))) (b_one (s_ret s_bl)) b_nil)
    (b_cons (s_set (i := 12) hN rfl (.inl rfl) (.inr rfl) (s_tup s_nil))
    (b_cons (s_for (vs := [11]) (passes_of rfl) rfl (i_any (s_var (i := 8) rfl (.inl rfl))) (g_name (i := 11) hN rfl (.inr rfl) (.inl rfl) (by decide)) (b_one (s_set (i := 12) hN rfl (.inl rfl) (.inr rfl) (s_op op_addM br_add (s_op op_addM br_add (s_var (i := 12) rfl (.inl rfl)) (s_fn D__law_signs (takes_of rfl rfl rfl rfl) (hr.mono (Nat.le_add_right_of_le l__law_signs)) rfl (al_cons al_nil) rfl (s_cons (s_var (i := 11) rfl (.inr (.inl rfl))) s_nil))) (s_tup (s_cons s_int s_nil))))))
    (b_cons (s_setLc (i := 13) (own := [("names", 27)]) rfl hN rfl rfl rfl (i_any (s_lst (s_cons (s_var (i := 8) rfl (.inl rfl)) (s_cons (s_var (i := 9) rfl (.inl rfl)) s_nil)))) (blkOk_by (by kernel_rfl)) (fun _ _ _ _ _ => (g_name (i := 27) hN rfl (by first | exact .inl rfl | exact .inr rfl) (by first | exact .inr rfl | exact .inl rfl) (by decide))) (fun _ _ _ _ _ => ts_nil) (fun _ _ _ _ _ => (s_lc (own := [("one", 11)]) rfl hN (i_any (s_var (i := 27) rfl (by first | exact .inr (.inr rfl) | exact .inl rfl | exact .inr (.inl rfl)))) (blkOk_by (by kernel_rfl)) (fun _ _ _ _ _ => (g_name (i := 11) hN rfl (by first | exact .inl rfl | exact .inr rfl) (by first | exact .inr rfl | exact .inl rfl) (by decide))) (fun _ _ _ _ _ => ts_nil) (fun _ _ _ _ _ => (s_fn D__law_signs takes0 (hr.mono (Nat.le_add_right_of_le l__law_signs)) rfl (al_cons al_nil) rfl (s_cons (s_var (i := 11) rfl (by first | exact .inr (.inr rfl) | exact .inl rfl | exact .inr (.inl rfl))) s_nil))))))
    (b_cons (s_if (s_w (w_or (s_tcmp (op_neM hu) br_eq (s_fn D_key_octets (takes_of rfl rfl rfl rfl) (hr.mono (Nat.le_add_right_of_le l_key_octets)) rfl (al_cons al_nil) rfl (s_cons (s_var (i := 8) rfl (.inl rfl)) s_nil)) (s_var (i := 12) rfl (.inl rfl)) rfl) (w_or1 (s_tcmp (op_neM hu) br_eq (s_fn D_read_key (takes_of rfl rfl rfl rfl) (hr.mono (Nat.le_add_right_of_le l_read_key)) rfl (al_cons al_nil) rfl (s_cons (s_var (i := 12) rfl (.inl rfl)) s_nil)) (s_callT call_tuple_of bc_tuple rfl (F.free 48 _ rfl) rfl (s_cons (s_var (i := 8) rfl (.inl rfl)) s_nil)) rfl)))) (b_one (s_ret s_bl)) b_nil)
    (b_cons (s_if (s_tcmp (op_neM hu) br_eq (s_cmp (op_ltU hu) br_ltU (s_fn D_key_octets (takes_of rfl rfl rfl rfl) (hr.mono (Nat.le_add_right_of_le l_key_octets)) rfl (al_cons al_nil) rfl (s_cons (s_var (i := 8) rfl (.inl rfl)) s_nil)) (s_fn D_key_octets (takes_of rfl rfl rfl rfl) (hr.mono (Nat.le_add_right_of_le l_key_octets)) rfl (al_cons al_nil) rfl (s_cons (s_var (i := 9) rfl (.inl rfl)) s_nil)) rfl) (s_cmp (op_ltU hu) br_ltU (s_ix (s_var (i := 13) rfl (.inl rfl)) s_int) (s_ix (s_var (i := 13) rfl (.inl rfl)) s_int) rfl) rfl) (b_one (s_ret s_bl)) b_nil)
    (b_cons (s_set (i := 14) hN rfl (.inl rfl) (.inr rfl) (s_callT call_tuple_of bc_tuple rfl (F.free 48 _ rfl) rfl (s_cons (s_lc (own := [("k", 3)]) rfl hN (i_range1 rfl (F.free 45 _ rfl) (s_cons (s_fn D__law_roll (takes_of rfl rfl rfl rfl) (hr.mono (Nat.le_add_right_of_le l__law_roll)) rfl (al_cons (al_cons al_nil)) rfl (s_cons (s_var (i := 1) rfl (.inr (.inl rfl))) (s_cons s_int s_nil))) s_nil)) (blkOk_by (by kernel_rfl)) (fun _ _ _ _ _ => (g_name (i := 3) hN rfl (by first | exact .inl rfl | exact .inr rfl) (by first | exact .inr rfl | exact .inl rfl) (by decide))) (fun _ _ _ _ _ => ts_nil) (fun _ _ _ _ _ => (s_fn D__law_roll takes0 (hr.mono (Nat.le_add_right_of_le l__law_roll)) rfl (al_cons (al_cons al_nil)) rfl (s_cons (s_var (i := 1) rfl (by first | exact .inr (.inr rfl) | exact .inl rfl | exact .inr (.inl rfl))) (s_cons s_int s_nil))))) s_nil)))
    (b_cons (s_set (i := 15) hN rfl (.inl rfl) (.inr rfl) (s_fn D__law_frame (takes_of rfl rfl rfl rfl) (hr.mono (Nat.le_add_right_of_le l__law_frame)) rfl (al_cons al_nil) rfl (s_cons (s_var (i := 14) rfl (.inl rfl)) s_nil)))
    (b_cons (s_if (s_w (w_or (s_tcmp (op_neM hu) br_eq (s_fn D_sum_of (takes_of rfl rfl rfl rfl) (hr.mono (Nat.le_add_right_of_le l_sum_of)) rfl (al_cons al_nil) rfl (s_cons (s_var (i := 14) rfl (.inl rfl)) s_nil)) (s_fn D__law_sum (takes_of rfl rfl rfl rfl) (hr.mono (Nat.le_add_right_of_le l__law_sum)) rfl (al_cons al_nil) rfl (s_cons (s_var (i := 14) rfl (.inl rfl)) s_nil)) rfl) (w_or1 (s_tcmp (op_neM hu) br_eq (s_fn D_framed (takes_of rfl rfl rfl rfl) (hr.mono (Nat.le_add_right_of_le l_framed)) rfl (al_cons al_nil) rfl (s_cons (s_var (i := 14) rfl (.inl rfl)) s_nil)) (s_var (i := 15) rfl (.inl rfl)) rfl)))) (b_one (s_ret s_bl)) b_nil)
    (b_cons (s_if (s_tcmp (op_neM hu) br_eq (s_fn D_read_frame (takes_of rfl rfl rfl rfl) (hr.mono (Nat.le_add_right_of_le l_read_frame)) rfl (al_cons (al_cons al_nil)) rfl (s_cons (s_op op_addM br_add (s_var (i := 15) rfl (.inl rfl)) (s_tup (s_cons s_int s_nil))) (s_cons s_int s_nil))) (s_tup (s_cons (s_var (i := 14) rfl (.inl rfl)) (s_cons (s_callB call_lenM bc_len rfl (F.free 41 _ rfl) rfl (s_cons (s_var (i := 15) rfl (.inl rfl)) s_nil)) s_nil))) rfl) (b_one (s_ret s_bl)) b_nil)
    (b_cons (s_set (i := 16) hN rfl (.inl rfl) (.inr rfl) (s_fn D__law_roll (takes_of rfl rfl rfl rfl) (hr.mono (Nat.le_add_right_of_le l__law_roll)) rfl (al_cons (al_cons al_nil)) rfl (s_cons (s_var (i := 1) rfl (.inr (.inl rfl))) (s_cons (s_callB call_lenM bc_len rfl (F.free 41 _ rfl) rfl (s_cons (s_var (i := 15) rfl (.inl rfl)) s_nil)) s_nil))))
    (b_cons (s_if (s_tcmp op_notN br_notN (s_fn D_read_frame (takes_of rfl rfl rfl rfl) (hr.mono (Nat.le_add_right_of_le l_read_frame)) rfl (al_cons (al_cons al_nil)) rfl (s_cons (s_sl (s_var (i := 15) rfl (.inl rfl)) s_no (s_so (s_var (i := 16) rfl (.inl rfl)))) (s_cons s_int s_nil))) s_non rfl) (b_one (s_ret s_bl)) b_nil)
    (b_cons (s_set (i := 3) hN rfl (.inl rfl) (.inr rfl) (s_fn D__law_roll (takes_of rfl rfl rfl rfl) (hr.mono (Nat.le_add_right_of_le l__law_roll)) rfl (al_cons (al_cons al_nil)) rfl (s_cons (s_var (i := 1) rfl (.inr (.inl rfl))) (s_cons (s_callB call_lenM bc_len rfl (F.free 41 _ rfl) rfl (s_cons (s_var (i := 15) rfl (.inl rfl)) s_nil)) s_nil))))
    (b_cons (s_set (i := 17) hN rfl (.inl rfl) (.inr rfl) (s_op op_addM br_add (s_op op_addM br_add (s_sl (s_var (i := 15) rfl (.inl rfl)) s_no (s_so (s_var (i := 3) rfl (.inl rfl)))) (s_tup (s_cons (s_op op_mod br_mod (s_op op_addM br_add (s_op op_addM br_add (s_ix (s_var (i := 15) rfl (.inl rfl)) (s_var (i := 3) rfl (.inl rfl))) s_int) (s_fn D__law_roll (takes_of rfl rfl rfl rfl) (hr.mono (Nat.le_add_right_of_le l__law_roll)) rfl (al_cons (al_cons al_nil)) rfl (s_cons (s_var (i := 1) rfl (.inr (.inl rfl))) (s_cons s_int s_nil)))) s_int) s_nil))) (s_sl (s_var (i := 15) rfl (.inl rfl)) (s_so (s_op op_addM br_add (s_var (i := 3) rfl (.inl rfl)) s_int)) s_no)))
    (b_cons (s_set (i := 18) hN rfl (.inl rfl) (.inr rfl) (s_fn D__law_read (takes_of rfl rfl rfl rfl) (hr.mono (Nat.le_add_right_of_le l__law_read)) rfl (al_cons (al_cons al_nil)) rfl (s_cons (s_var (i := 17) rfl (.inl rfl)) (s_cons s_int s_nil))))
    (b_cons (s_set (i := 19) hN rfl (.inl rfl) (.inr rfl) (s_andV (s_cmp op_notN br_notN (s_var (i := 18) rfl (.inl rfl)) s_non rfl) (s_andV (s_cmp (op_geU hu) br_geU (s_callB call_lenM bc_len rfl (F.free 41 _ rfl) rfl (s_cons (s_var (i := 17) rfl (.inl rfl)) s_nil)) (s_op op_addM br_add (s_op op_addM br_add (s_ix (s_var (i := 18) rfl (.inl rfl)) s_int) (s_ix (s_var (i := 18) rfl (.inl rfl)) s_int)) s_int) rfl) (s_one (s_cmp (op_eqM hu) br_eq (s_sl (s_fn D__law_frame (takes_of rfl rfl rfl rfl) (hr.mono (Nat.le_add_right_of_le l__law_frame)) rfl (al_cons al_nil) rfl (s_cons (s_sl (s_var (i := 17) rfl (.inl rfl)) (s_so (s_ix (s_var (i := 18) rfl (.inl rfl)) s_int)) (s_so (s_op op_addM br_add (s_ix (s_var (i := 18) rfl (.inl rfl)) s_int) (s_ix (s_var (i := 18) rfl (.inl rfl)) s_int)))) s_nil)) (s_so (s_callB call_lenM bc_len rfl (F.free 41 _ rfl) rfl (s_cons (s_fn D__law_number (takes_of rfl rfl rfl rfl) (hr.mono (Nat.le_add_right_of_le l__law_number)) rfl (al_cons al_nil) rfl (s_cons (s_ix (s_var (i := 18) rfl (.inl rfl)) s_int) s_nil)) s_nil))) s_no) (s_sl (s_var (i := 17) rfl (.inl rfl)) (s_so (s_ix (s_var (i := 18) rfl (.inl rfl)) s_int)) (s_so (s_op op_addM br_add (s_op op_addM br_add (s_ix (s_var (i := 18) rfl (.inl rfl)) s_int) (s_ix (s_var (i := 18) rfl (.inl rfl)) s_int)) s_int))) rfl)))))
    (b_cons (s_if (s_w (w_or (s_tcmp (op_neM hu) br_eq (s_cmp op_notN br_notN (s_fn D_read_frame (takes_of rfl rfl rfl rfl) (hr.mono (Nat.le_add_right_of_le l_read_frame)) rfl (al_cons (al_cons al_nil)) rfl (s_cons (s_var (i := 17) rfl (.inl rfl)) (s_cons s_int s_nil))) s_non rfl) (s_var (i := 19) rfl (.inl rfl)) rfl) (w_or1 (s_w (w_and (s_val (s_var (i := 19) rfl (.inl rfl))) (w_and1 (s_tcmp (op_geU hu) br_geU (s_var (i := 3) rfl (.inl rfl)) (s_callB call_lenM bc_len rfl (F.free 41 _ rfl) rfl (s_cons (s_fn D__law_number (takes_of rfl rfl rfl rfl) (hr.mono (Nat.le_add_right_of_le l__law_number)) rfl (al_cons al_nil) rfl (s_cons (s_callB call_lenM bc_len rfl (F.free 41 _ rfl) rfl (s_cons (s_var (i := 14) rfl (.inl rfl)) s_nil)) s_nil)) s_nil)) rfl))))))) (b_one (s_ret s_bl)) b_nil)
    (b_cons (s_set (i := 21) hN rfl (.inl rfl) (.inr rfl) (s_callB (call_sortedD rfl) bc_sortedD rfl (F.free 46 _ rfl) rfl (s_cons (s_callT (call_dictP rfl) bc_dictP rfl (F.free 38 _ rfl) rfl (s_cons (s_lc (own := [("j", 20)]) rfl hN (i_range1 rfl (F.free 45 _ rfl) (s_cons (s_fn D__law_roll (takes_of rfl rfl rfl rfl) (hr.mono (Nat.le_add_right_of_le l__law_roll)) rfl (al_cons (al_cons al_nil)) rfl (s_cons (s_var (i := 1) rfl (.inr (.inl rfl))) (s_cons s_int s_nil))) s_nil)) (blkOk_by (by kernel_rfl)) (fun _ _ _ _ _ => (g_name (i := 20) hN rfl (by first | exact .inl rfl | exact .inr rfl) (by first | exact .inr rfl | exact .inl rfl) (by decide))) (fun _ _ _ _ _ => ts_nil) (fun _ _ _ _ _ => (s_tup (s_cons (s_fn D__law_text takes0 (hr.mono (Nat.le_add_right_of_le l__law_text)) rfl (al_cons al_nil) rfl (s_cons (s_var (i := 1) rfl (by first | exact .inr (.inr rfl) | exact .inl rfl | exact .inr (.inl rfl))) s_nil)) (s_cons s_int s_nil))))) s_nil)) s_nil)))
    (b_cons (s_set (i := 22) hN rfl (.inl rfl) (.inr rfl) (s_lst s_nil))
    (b_cons (s_for (vs := [11, 20]) (passes_of rfl) rfl (i_enum rfl (F.free 39 _ rfl) (s_cons (s_var (i := 21) rfl (.inl rfl)) s_nil)) (g_tup rfl (gs_cons (g_name (i := 20) hN rfl (.inl rfl) (.inr rfl) (by decide)) (gs_cons (g_name (i := 11) hN rfl (.inr rfl) (.inl rfl) (by decide)) gs_nil))) (b_cons (s_set (i := 23) hN rfl (.inr rfl) (.inl rfl) (s_ifE (s_tcmp (op_gtU hu) br_gtU (s_var (i := 20) rfl (.inl rfl)) s_int rfl) (s_ix (s_var (i := 21) rfl (.inl rfl)) (s_op op_sub br_sub (s_var (i := 20) rfl (.inl rfl)) s_int)) (s_str (by decide +kernel))))
    (b_cons (s_set (i := 24) hN rfl (.inl rfl) (.inr rfl) (s_callB (cr_max rfl) bc_max rfl (F.free 43 _ rfl) rfl (s_cons (s_lc (own := [("size", 31)]) rfl hN (i_range1 rfl (F.free 45 _ rfl) (s_cons (s_op op_addM br_add (s_callB (call_min2 rfl) bc_min2 rfl (F.free 44 _ rfl) rfl (s_cons (s_callB call_lenM bc_len rfl (F.free 41 _ rfl) rfl (s_cons (s_var (i := 11) rfl (.inr (.inl rfl))) s_nil)) (s_cons (s_callB call_lenM bc_len rfl (F.free 41 _ rfl) rfl (s_cons (s_var (i := 23) rfl (.inr (.inl rfl))) s_nil)) s_nil))) s_int) s_nil)) (blkOk_by (by kernel_rfl)) (fun _ _ _ _ _ => (g_name (i := 31) hN rfl (by first | exact .inl rfl | exact .inr rfl) (by first | exact .inr rfl | exact .inl rfl) (by decide))) (fun _ _ _ _ _ => (ts_one (s_tcmp (op_eqM hu) br_eq (s_sl (s_var (i := 11) rfl (by first | exact .inr (.inr rfl) | exact .inl rfl | exact .inr (.inl rfl))) s_no (s_so (s_var (i := 31) rfl (by first | exact .inr (.inr rfl) | exact .inl rfl | exact .inr (.inl rfl))))) (s_sl (s_var (i := 23) rfl (by first | exact .inr (.inr rfl) | exact .inl rfl | exact .inr (.inl rfl))) s_no (s_so (s_var (i := 31) rfl (by first | exact .inr (.inr rfl) | exact .inl rfl | exact .inr (.inl rfl))))) rfl))) (fun _ _ _ _ _ => (s_var (i := 31) rfl (by first | exact .inr (.inr rfl) | exact .inl rfl | exact .inr (.inl rfl))))) s_nil)))
    (b_one (s_set (i := 22) hN rfl (.inl rfl) (.inr rfl) (s_op op_addM br_add (s_var (i := 22) rfl (.inl rfl)) (s_lst (s_cons (s_tup (s_cons (s_var (i := 24) rfl (.inl rfl)) (s_cons (s_sl (s_var (i := 11) rfl (.inr (.inl rfl))) (s_so (s_var (i := 24) rfl (.inl rfl))) s_no) s_nil))) s_nil))))))))
    (b_cons (s_if (s_w (w_or (s_tcmp (op_neM hu) br_eq (s_callT call_list_of bc_list rfl (F.free 42 _ rfl) rfl (s_cons (s_fn D_squeezed (takes_of rfl rfl rfl rfl) (hr.mono (Nat.le_add_right_of_le l_squeezed)) rfl (al_cons al_nil) rfl (s_cons (s_var (i := 21) rfl (.inl rfl)) s_nil)) s_nil)) (s_var (i := 22) rfl (.inl rfl)) rfl) (w_or1 (s_tcmp (op_neM hu) br_eq (s_callT call_list_of bc_list rfl (F.free 42 _ rfl) rfl (s_cons (s_fn D_unsqueezed (takes_of rfl rfl rfl rfl) (hr.mono (Nat.le_add_right_of_le l_unsqueezed)) rfl (al_cons al_nil) rfl (s_cons (s_var (i := 22) rfl (.inl rfl)) s_nil)) s_nil)) (s_var (i := 21) rfl (.inl rfl)) rfl)))) (b_one (s_ret s_bl)) b_nil)
    (b_one (s_if (s_tcmp (op_neM hu) br_eq (s_lc (own := [("a", 28), ("b", 29)]) rfl hN (i_zip rfl (F.free 49 _ rfl) (s_cons (s_op op_addM br_add (s_lst (s_cons (s_str (by decide +kernel)) s_nil)) (s_var (i := 21) rfl (.inl rfl))) (s_cons (s_var (i := 21) rfl (.inl rfl)) s_nil))) (blkOk_by (by kernel_rfl)) (fun _ _ _ _ _ => (g_tup rfl (gs_cons (g_name (i := 28) hN rfl (by first | exact .inl rfl | exact .inr rfl) (by first | exact .inr rfl | exact .inl rfl) (by decide)) (gs_cons (g_name (i := 29) hN rfl (by first | exact .inl rfl | exact .inr rfl) (by first | exact .inr rfl | exact .inl rfl) (by decide)) gs_nil)))) (fun _ _ _ _ _ => ts_nil) (fun _ _ _ _ _ => (s_fn D_shared_start takes0 (hr.mono (Nat.le_add_right_of_le l_shared_start)) rfl (al_cons (al_cons al_nil)) rfl (s_cons (s_var (i := 28) rfl (by first | exact .inr (.inr rfl) | exact .inl rfl | exact .inr (.inl rfl))) (s_cons (s_var (i := 29) rfl (by first | exact .inr (.inr rfl) | exact .inl rfl | exact .inr (.inl rfl))) s_nil))))) (s_lc (own := [("many", 24), ("rest", 30)]) rfl hN (i_any (s_var (i := 22) rfl (.inl rfl))) (blkOk_by (by kernel_rfl)) (fun _ _ _ _ _ => (g_tup rfl (gs_cons (g_name (i := 24) hN rfl (by first | exact .inl rfl | exact .inr rfl) (by first | exact .inr rfl | exact .inl rfl) (by decide)) (gs_cons (g_name (i := 30) hN rfl (by first | exact .inl rfl | exact .inr rfl) (by first | exact .inr rfl | exact .inl rfl) (by decide)) gs_nil)))) (fun _ _ _ _ _ => ts_nil) (fun _ _ _ _ _ => (s_var (i := 24) rfl (by first | exact .inr (.inr rfl) | exact .inl rfl | exact .inr (.inl rfl))))) rfl) (b_one (s_ret s_bl)) b_nil))))))))))))))))))))))))))))))))))))))
    (b_one (s_ret (s_fn0 D__law_plain (takes_of rfl rfl rfl rfl) (hr.mono (Nat.le_add_right_of_le l__law_plain)) rfl rfl))))
theorem TT__law_told (F : Fx fa fn K mg) : Told K mg "_law_told" "what" (He.ga K "_law_told") (He.ga K "CodeError") "CodeError" := told_of (d := d19) (Ng := ["what"]) F 19 26 2 rfl rfl rfl rfl rfl rfl rfl ⟨rfl, rfl, rfl, by decide +kernel, rfl, by decide +kernel, by decide +kernel⟩ rfl rfl (.inl rfl) rfl (fun _ _ _ _ _ _ us hl => match us, hl with | [_], _ => rfl)
end K01

set_option Elab.async false
set_option linter.all false
set_option maxRecDepth 100000
set_option maxHeartbeats 0
namespace K01
open PySem PySem.Spec PyProof.Rows L2 Mi
variable {P : Program} {w : World} {K : PySem.W.Frag} {mg : Str → Option Value} {base : Heap}
def r_number_octets : MF := trim (runF 2 (m_number_octets))
theorem D_number_octets (F : Fx fa fn K mg) (G : TabsF K mg base tf) : DefOk P w K mg base (tf.map (tbOf K)) 1 "number_octets" 1 [] r_number_octets := (B_number_octets (k := 0) F G).sim (trim_sim _)
def r_read_number : MF := trim (runF 5 (m_read_number))
theorem D_read_number (F : Fx fa fn K mg) (G : TabsF K mg base tf) : DefOk P w K mg base (tf.map (tbOf K)) 1 "read_number" 2 [] r_read_number := (B_read_number (k := 0) F G).sim (trim_sim _)
def r_text_octets : MF := trim (runF 2 (m_text_octets r_number_octets))
theorem D_text_octets (F : Fx fa fn K mg) (G : TabsF K mg base tf) : DefOk P w K mg base (tf.map (tbOf K)) 3 "text_octets" 1 [] r_text_octets := (B_text_octets (k := 1) F G (D_number_octets F G) (by decide)).sim (trim_sim _)
def r_read_text : MF := trim (runF 5 (m_read_text r_read_number))
theorem D_read_text (F : Fx fa fn K mg) (G : TabsF K mg base tf) : DefOk P w K mg base (tf.map (tbOf K)) 3 "read_text" 2 [] r_read_text := (B_read_text (k := 1) F G (D_read_number F G) (by decide)).sim (trim_sim _)
def r_row_octets : MF := trim (runF 3 (m_row_octets r_number_octets r_text_octets))
theorem D_row_octets (F : Fx fa fn K mg) (G : TabsF K mg base tf) : DefOk P w K mg base (tf.map (tbOf K)) 4 "row_octets" 1 [] r_row_octets := (B_row_octets (k := 3) F G (D_number_octets F G) (by decide) (D_text_octets F G) (by decide)).sim (trim_sim _)
def r_read_row : MF := trim (runF 6 (m_read_row r_read_number r_read_text))
theorem D_read_row (F : Fx fa fn K mg) (G : TabsF K mg base tf) : DefOk P w K mg base (tf.map (tbOf K)) 4 "read_row" 2 [] r_read_row := (B_read_row (k := 3) F G (D_read_number F G) (by decide) (D_read_text F G) (by decide)).sim (trim_sim _)
def r_key_octets : MF := trim (runF 3 (m_key_octets r_text_octets r_number_octets))
theorem D_key_octets (F : Fx fa fn K mg) (G : TabsF K mg base tf) : DefOk P w K mg base (tf.map (tbOf K)) 4 "key_octets" 1 [] r_key_octets := (B_key_octets (k := 3) F G (D_text_octets F G) (by decide) (D_number_octets F G) (by decide)).sim (trim_sim _)
def r_read_key : MF := trim (runF 4 (m_read_key))
theorem D_read_key (F : Fx fa fn K mg) (G : TabsF K mg base tf) : DefOk P w K mg base (tf.map (tbOf K)) 2 "read_key" 1 [] r_read_key := (B_read_key (k := 0) F G).sim (trim_sim _)
def r_sum_of : MF := trim (runF 4 (m_sum_of))
theorem D_sum_of (F : Fx fa fn K mg) (G : TabsF K mg base tf) : DefOk P w K mg base (tf.map (tbOf K)) 1 "sum_of" 1 [] r_sum_of := (B_sum_of (k := 0) F G).sim (trim_sim _)
def r_framed : MF := trim (runF 4 (m_framed r_sum_of r_number_octets))
theorem D_framed (F : Fx fa fn K mg) (G : TabsF K mg base tf) : DefOk P w K mg base (tf.map (tbOf K)) 2 "framed" 1 [] r_framed := (B_framed (k := 1) F G (D_sum_of F G) (by decide) (D_number_octets F G) (by decide)).sim (trim_sim _)
def r_number_at : MF := trim (runF 6 (m_number_at))
theorem D_number_at (F : Fx fa fn K mg) (G : TabsF K mg base tf) : DefOk P w K mg base (tf.map (tbOf K)) 1 "number_at" 3 [] r_number_at := (B_number_at (k := 0) F G).sim (trim_sim _)
def r_is_number_cut : MF := trim (runF 3 (m_is_number_cut r_number_at))
theorem D_is_number_cut (F : Fx fa fn K mg) (G : TabsF K mg base tf) : DefOk P w K mg base (tf.map (tbOf K)) 2 "is_number_cut" 2 [] r_is_number_cut := (B_is_number_cut (k := 1) F G (D_number_at F G) (by decide)).sim (trim_sim _)
def r_read_frame : MF := trim (runF 7 (m_read_frame r_is_number_cut r_read_number r_sum_of))
theorem D_read_frame (F : Fx fa fn K mg) (G : TabsF K mg base tf) : DefOk P w K mg base (tf.map (tbOf K)) 3 "read_frame" 2 [] r_read_frame := (B_read_frame (k := 2) F G (D_is_number_cut F G) (by decide) (D_read_number F G) (by decide) (D_sum_of F G) (by decide)).sim (trim_sim _)
def r_shared_start : MF := trim (runF 3 (m_shared_start))
theorem D_shared_start (F : Fx fa fn K mg) (G : TabsF K mg base tf) : DefOk P w K mg base (tf.map (tbOf K)) 1 "shared_start" 2 [] r_shared_start := (B_shared_start (k := 0) F G).sim (trim_sim _)
def r_squeezed : MF := trim (runF 7 (m_squeezed r_shared_start))
theorem D_squeezed (F : Fx fa fn K mg) (G : TabsF K mg base tf) : DefOk P w K mg base (tf.map (tbOf K)) 3 "squeezed" 1 [] r_squeezed := (B_squeezed (k := 1) F G (D_shared_start F G) (by decide)).sim (trim_sim _)
def r_unsqueezed : MF := trim (runF 6 (m_unsqueezed r_shared_start))
theorem D_unsqueezed (F : Fx fa fn K mg) (G : TabsF K mg base tf) : DefOk P w K mg base (tf.map (tbOf K)) 2 "unsqueezed" 1 [] r_unsqueezed := (B_unsqueezed (k := 1) F G (D_shared_start F G) (by decide)).sim (trim_sim _)
def r__law_dice : MF := trim (runF 1 (m__law_dice))
theorem D__law_dice (F : Fx fa fn K mg) (G : TabsF K mg base tf) : DefOk P w K mg base (tf.map (tbOf K)) 1 "_law_dice" 1 [] r__law_dice := (B__law_dice (k := 0) F G).sim (trim_sim _)
def z__law_roll : MF := fun _ _ => .bad
def y__law_roll : MF := runF 3 (m__law_roll z__law_roll)
def r__law_roll : MF := trim (runF 3 (m__law_roll y__law_roll))
theorem D__law_roll (F : Fx fa fn K mg) (G : TabsF K mg base tf) : DefOk P w K mg base (tf.map (tbOf K)) 3 "_law_roll" 2 [] r__law_roll := by
  have Z : DefOk P w K mg base (tf.map (tbOf K)) 1 "_law_roll" 2 [] z__law_roll := def_bad (d := d17) (N := ["dice", "many", "found"]) (ps := ["dice", "many"]) F 17 24 rfl rfl rfl ⟨rfl, rfl, rfl, by decide +kernel, rfl, by decide +kernel, by decide +kernel⟩ (bd_all rfl fun _ _ _ _ _ _ us hl => match us, hl with | [_, _], _ => rfl)
  have Y := B__law_roll (k := 1) F G Z (by decide)
  exact (B__law_roll (k := 2) F G Y (by decide)).sim (trim_sim _)
def r__law_rounds : MF := trim (runF 4 (m__law_rounds r__law_dice))
theorem D__law_rounds (F : Fx fa fn K mg) (G : TabsF K mg base tf) : DefOk P w K mg base (tf.map (tbOf K)) 2 "_law_rounds" 2 [] r__law_rounds := (B__law_rounds (k := 1) F G (D__law_dice F G) (by decide)).sim (trim_sim _)
def r__law_number : MF := trim (runF 2 (m__law_number))
theorem D__law_number (F : Fx fa fn K mg) (G : TabsF K mg base tf) : DefOk P w K mg base (tf.map (tbOf K)) 1 "_law_number" 1 [] r__law_number := (B__law_number (k := 0) F G).sim (trim_sim _)
def r__law_text : MF := trim (runF 2 (m__law_text r__law_roll))
theorem D__law_text (F : Fx fa fn K mg) (G : TabsF K mg base tf) : DefOk P w K mg base (tf.map (tbOf K)) 4 "_law_text" 1 [] r__law_text := (B__law_text (k := 3) F G (D__law_roll F G) (by decide)).sim (trim_sim _)
def r__law_signs : MF := trim (runF 4 (m__law_signs))
theorem D__law_signs (F : Fx fa fn K mg) (G : TabsF K mg base tf) : DefOk P w K mg base (tf.map (tbOf K)) 1 "_law_signs" 1 [] r__law_signs := (B__law_signs (k := 0) F G).sim (trim_sim _)
def r__law_sum : MF := trim (runF 4 (m__law_sum))
theorem D__law_sum (F : Fx fa fn K mg) (G : TabsF K mg base tf) : DefOk P w K mg base (tf.map (tbOf K)) 1 "_law_sum" 1 [] r__law_sum := (B__law_sum (k := 0) F G).sim (trim_sim _)
def r__law_frame : MF := trim (runF 3 (m__law_frame r__law_sum r__law_number))
theorem D__law_frame (F : Fx fa fn K mg) (G : TabsF K mg base tf) : DefOk P w K mg base (tf.map (tbOf K)) 2 "_law_frame" 1 [] r__law_frame := (B__law_frame (k := 1) F G (D__law_sum F G) (by decide) (D__law_number F G) (by decide)).sim (trim_sim _)
def r__law_read : MF := trim (runF 7 (m__law_read))
theorem D__law_read (F : Fx fa fn K mg) (G : TabsF K mg base tf) : DefOk P w K mg base (tf.map (tbOf K)) 1 "_law_read" 2 [] r__law_read := (B__law_read (k := 0) F G).sim (trim_sim _)
def r__law_plain : MF := iso (trim (runF 2 (m__law_plain r_number_octets r_read_number r_text_octets r_read_text r_row_octets r_read_row r_key_octets r_read_key r_sum_of r_framed r_squeezed r_unsqueezed r_read_frame r_is_number_cut)))
theorem D__law_plain (F : Fx fa fn K mg) (G : TabsF K mg base tf) : DefOk P w K mg base (tf.map (tbOf K)) 7 "_law_plain" 0 [] r__law_plain := ((B__law_plain (k := 4) F G (D_number_octets F G) (by decide) (D_read_number F G) (by decide) (D_text_octets F G) (by decide) (D_read_text F G) (by decide) (D_row_octets F G) (by decide) (D_read_row F G) (by decide) (D_key_octets F G) (by decide) (D_read_key F G) (by decide) (D_sum_of F G) (by decide) (D_framed F G) (by decide) (D_squeezed F G) (by decide) (D_unsqueezed F G) (by decide) (D_read_frame F G) (by decide) (D_is_number_cut F G) (by decide) (TT__law_told F)).sim (trim_sim _)).iso
def r_law : MF := runF 32 (m_law r__law_rounds r__law_roll r__law_number r_number_octets r_read_number r_number_at r__law_read r_is_number_cut r__law_text r_text_octets r__law_signs r_read_text r_row_octets r_read_row r_key_octets r_read_key r__law_frame r_sum_of r__law_sum r_framed r_read_frame r_squeezed r_unsqueezed r_shared_start r__law_plain)
theorem D_law (F : Fx fa fn K mg) (G : TabsF K mg base tf) {fd : FuncData} (FD : FunD K d27.name d27.qual d27.params d27.body d27.scope (d27.dvs K) (d27.kws K) (He.ga K "law") fd) : FnOk P w K mg base (L2.CX P w) 10 (He.ga K "law") fd ["script"] (spF K (tf.map (tbOf K)) 1 r_law) := B_law (k := 7) F G (D__law_rounds F G) (by decide) (D__law_roll F G) (by decide) (D__law_number F G) (by decide) (D_number_octets F G) (by decide) (D_read_number F G) (by decide) (D_number_at F G) (by decide) (D__law_read F G) (by decide) (D_is_number_cut F G) (by decide) (D__law_text F G) (by decide) (D_text_octets F G) (by decide) (D__law_signs F G) (by decide) (D_read_text F G) (by decide) (D_row_octets F G) (by decide) (D_read_row F G) (by decide) (D_key_octets F G) (by decide) (D_read_key F G) (by decide) (D__law_frame F G) (by decide) (D_sum_of F G) (by decide) (D__law_sum F G) (by decide) (D_framed F G) (by decide) (D_read_frame F G) (by decide) (D_squeezed F G) (by decide) (D_unsqueezed F G) (by decide) (D_shared_start F G) (by decide) (D__law_plain F G) (by decide) (TT__law_told F) FD
end K01

set_option linter.all false
set_option maxRecDepth 100000
namespace K01
/-! numbers -/
def ocs : Nat → Int → List Int × Int
  | 0, n => ([], n)
  | f + 1, n => if 128 ≤ n then (let p := ocs f (n / 128); ((128 + n % 128) :: p.1, p.2)) else ([], n)
def octs (n : Int) : List Int := (ocs 6 n).1 ++ [(ocs 6 n).2]
def dg (x : Int) : Int := if 128 ≤ x then x - 128 else x
def vl : List Int → Int
  | [] => 0
  | x :: r => dg x + 128 * vl r
def ld : Nat → List Int → Nat
  | 0, _ => 0
  | _ + 1, [] => 0
  | c + 1, x :: r => if 128 ≤ x then ld c r + 1 else 0
def rdN (l : List Int) (p : Nat) : Option (Int × Nat) :=
  match (l.drop p)[ld 6 (l.drop p)]? with
  | none => none
  | some x => if 128 ≤ x then none else if x = 0 ∧ 0 < ld 6 (l.drop p) then none else
      if 1000000000000 < vl ((l.drop p).take (ld 6 (l.drop p) + 1)) then none else some (vl ((l.drop p).take (ld 6 (l.drop p) + 1)), p + ld 6 (l.drop p) + 1)
theorem ocs_facts : ∀ (f : Nat) (n : Int), 0 ≤ n → n < 128 ^ (f + 1) → (∀ x ∈ (ocs f n).1, 128 ≤ x ∧ x < 256) ∧ 0 ≤ (ocs f n).2 ∧ (ocs f n).2 < 128 ∧
    (ocs f n).1.length ≤ f ∧ ((ocs f n).2 = 0 → (ocs f n).1 = [] ∧ n = 0) ∧ ∀ b, ld f ((ocs f n).1 ++ (ocs f n).2 :: b) = (ocs f n).1.length ∧ vl ((ocs f n).1 ++ [(ocs f n).2]) = n
  | 0, n, h0, h1 => by
    simp at h1
    refine ⟨by simp [ocs], by simpa [ocs] using h0, by simpa [ocs] using h1, by simp [ocs], fun h => ⟨by simp [ocs], by simpa [ocs] using h⟩, fun b => ⟨by simp [ocs, ld], ?_⟩⟩
    simp [ocs, vl, dg]; omega
  | f + 1, n, h0, h1 => by
    unfold ocs
    by_cases h : 128 ≤ n
    · have h2 : n / 128 < 128 ^ (f + 1) := by
        have : n < 128 ^ (f + 1) * 128 := by rw [← Int.pow_succ]; exact h1
        omega
      obtain ⟨a1, a2, a3, a4, a5, a6⟩ := ocs_facts f (n / 128) (by omega) h2
      simp only [h, if_true]
      refine ⟨fun x hx => ?_, a2, a3, by simpa using a4, fun q => ?_, fun b => ⟨?_, ?_⟩⟩
      · rcases List.mem_cons.mp hx with hx | hx
        · subst hx; omega
        · exact a1 x hx
      · have := (a5 q).2; omega
      · have : 128 ≤ 128 + n % 128 := by omega
        simp [ld, this, (a6 b).1]
      · simp only [List.cons_append, vl, (a6 b).2, dg]
        have : 128 ≤ 128 + n % 128 := by omega
        rw [if_pos this]; omega
    · simp only [h, if_false]
      refine ⟨by simp, h0, by omega, by simp, fun q => ⟨by simp, q⟩, fun b => ⟨by simp [ld, h], ?_⟩⟩
      simp [vl, dg, h]
theorem octs_ne (n : Int) : octs n ≠ [] := by simp [octs]
theorem octs_len (n : Int) (h0 : 0 ≤ n) (h1 : n ≤ 1000000000000) : (octs n).length = (ocs 6 n).1.length + 1 ∧ (octs n).length ≤ 7 := by
  obtain ⟨_, _, _, a4, _⟩ := ocs_facts 6 n h0 (by simp; omega)
  simp [octs]; omega
theorem octs_mem (n : Int) (h0 : 0 ≤ n) (h1 : n ≤ 1000000000000) : ∀ x ∈ octs n, 0 ≤ x ∧ x < 256 := by
  obtain ⟨a1, a2, a3, _⟩ := ocs_facts 6 n h0 (by simp; omega)
  intro x hx
  rcases List.mem_append.mp hx with hx | hx
  · have := a1 x hx; omega
  · simp at hx; subst hx; omega
theorem octs_small (n : Int) (h0 : 0 ≤ n) (h1 : n < 128) : octs n = [n] := by
  have : ¬ 128 ≤ n := by omega
  simp [octs, ocs, this]
theorem octs_vl (n : Int) (h0 : 0 ≤ n) (h1 : n ≤ 1000000000000) : vl (octs n) = n := by
  obtain ⟨_, _, _, _, _, a6⟩ := ocs_facts 6 n h0 (by simp; omega)
  exact (a6 []).2
theorem rdN_octs (a b : List Int) (n : Int) (h0 : 0 ≤ n) (h1 : n ≤ 1000000000000) : rdN (a ++ octs n ++ b) a.length = some (n, a.length + (octs n).length) := by
  obtain ⟨a1, a2, a3, a4, a5, a6⟩ := ocs_facts 6 n h0 (by simp; omega)
  have e : (a ++ octs n ++ b).drop a.length = (ocs 6 n).1 ++ (ocs 6 n).2 :: b := by
    rw [List.append_assoc, List.drop_left]; simp [octs]
  have e2 : ((ocs 6 n).1 ++ (ocs 6 n).2 :: b).take ((ocs 6 n).1.length + 1) = (ocs 6 n).1 ++ [(ocs 6 n).2] := by
    rw [List.take_append, List.take_of_length_le (by omega)]; simp
  have e3 : ((ocs 6 n).1 ++ (ocs 6 n).2 :: b)[(ocs 6 n).1.length]? = some (ocs 6 n).2 := by simp
  unfold rdN
  rw [e, (a6 b).1, e2, e3, (a6 b).2]
  simp only
  rw [if_neg (by omega), if_neg (fun q => by have := (a5 q.1).1; rw [this] at q; simp at q), if_neg (by omega)]
  simp [octs, Nat.add_assoc]
theorem ld_le : ∀ (c : Nat) (l : List Int), ld c l ≤ c ∧ ld c l ≤ l.length
  | 0, l => by simp [ld]
  | c + 1, [] => by simp [ld]
  | c + 1, x :: r => by
    have := ld_le c r
    unfold ld; split
    · simp; omega
    · simp
theorem ld_big : ∀ (c : Nat) (l : List Int) (i : Nat), i < ld c l → ∃ x, l[i]? = some x ∧ 128 ≤ x
  | 0, l, i, h => by simp [ld] at h
  | c + 1, [], i, h => by simp [ld] at h
  | c + 1, x :: r, i, h => by
    unfold ld at h
    split at h
    · cases i with
      | zero => exact ⟨x, rfl, by assumption⟩
      | succ i => simpa using ld_big c r i (by omega)
    · omega
theorem ld_stop : ∀ (c : Nat) (l : List Int) (x : Int), ld c l < c → l[ld c l]? = some x → x < 128
  | 0, l, x, h, _ => by omega
  | c + 1, [], x, h, e => by simp at e
  | c + 1, y :: r, x, h, e => by
    unfold ld at h e
    split at h
    · rename_i q
      rw [if_pos q] at e
      exact ld_stop c r x (by omega) (by simpa using e)
    · rename_i q
      rw [if_neg q] at e
      simp at e; omega
theorem vl_bound : ∀ (l : List Int), (∀ x ∈ l, 0 ≤ x ∧ x < 256) → 0 ≤ vl l ∧ vl l < 128 ^ l.length
  | [], _ => by simp [vl]
  | x :: r, h => by
    have h1 := vl_bound r (fun y hy => h y (by simp [hy]))
    have h2 := h x (by simp)
    have : 0 ≤ dg x ∧ dg x < 128 := by unfold dg; split <;> omega
    have e : (128 : Int) ^ (x :: r).length = 128 ^ r.length * 128 := by simp [Int.pow_succ]
    simp only [vl]; rw [e]
    omega
theorem rdN_some {l : List Int} {p : Nat} {m : Int} {q : Nat} (hl : ∀ x ∈ l, 0 ≤ x ∧ x < 256) (h : rdN l p = some (m, q)) : 0 ≤ m ∧ m ≤ 1000000000000 ∧ p < q ∧ q ≤ l.length ∧ q ≤ p + 7 := by
  unfold rdN at h
  split at h
  · cases h
  · rename_i x hx
    split at h
    · cases h
    · split at h
      · cases h
      · split at h
        · cases h
        · simp only [Option.some.injEq, Prod.mk.injEq] at h
          obtain ⟨rfl, rfl⟩ := h
          have k1 := (List.getElem?_eq_some_iff.mp hx).1
          have k2 := ld_le 6 (l.drop p)
          have := vl_bound ((l.drop p).take (ld 6 (l.drop p) + 1)) (fun y hy => hl y (List.mem_of_mem_drop (List.mem_of_mem_take hy)))
          simp at k1 
          omega
/-! sums -/
def sumP (l : List Int) : Int × Int := l.foldl (fun (p : Int × Int) x => ((p.1 + x) % 65521, (p.2 + (p.1 + x) % 65521) % 65521)) (1, 0)
def sumO (l : List Int) : Int := (sumP l).2 * 65536 + (sumP l).1
/-- as the law adds up -/
def sumL (l : List Int) : Int := ((List.range l.length).map fun k => 1 + (l.take (k + 1)).sum).sum % 65521 * 65536 + (1 + l.sum) % 65521
theorem sumP_snoc (l : List Int) (x : Int) : sumP (l ++ [x]) = (((sumP l).1 + x) % 65521, ((sumP l).2 + ((sumP l).1 + x) % 65521) % 65521) := by simp [sumP]
theorem sumP_eq (l : List Int) : sumP l = ((1 + l.sum) % 65521, ((List.range l.length).map fun k => 1 + (l.take (k + 1)).sum).sum % 65521) := by
  have : ∀ (n : Nat) (l : List Int), l.length = n → sumP l = ((1 + l.sum) % 65521, ((List.range l.length).map fun k => 1 + (l.take (k + 1)).sum).sum % 65521) := by
    intro n
    induction n with
    | zero => intro l h; have : l = [] := List.length_eq_zero_iff.mp h; subst this; rfl
    | succ n ih =>
      intro l h
      have hne : l ≠ [] := by intro q; subst q; simp at h
      obtain ⟨r, x, rfl⟩ : ∃ r x, l = r ++ [x] := ⟨l.dropLast, l.getLast hne, (List.dropLast_concat_getLast hne).symm⟩
      have hr : r.length = n := by simpa using h
      rw [sumP_snoc, ih r hr]
      have e1 : (List.range (r ++ [x]).length).map (fun k => 1 + ((r ++ [x]).take (k + 1)).sum) = (List.range r.length).map (fun k => 1 + (r.take (k + 1)).sum) ++ [1 + (r.sum + x)] := by
        rw [List.length_append, List.length_singleton, List.range_succ, List.map_append]
        congr 1
        · refine List.map_congr_left fun k hk => ?_
          have : k + 1 ≤ r.length := by simpa [Nat.succ_le_iff] using hk
          rw [List.take_append_of_le_length this]
        · simp only [List.map_cons, List.map_nil]; rw [List.take_of_length_le (by simp)]; simp
      rw [e1]
      simp only [List.sum_append, List.sum_cons, List.sum_nil]
      refine Prod.ext ?_ ?_
      · simp only; omega
      · simp only; omega
  exact this _ l rfl
theorem sumO_eq (l : List Int) : sumO l = sumL l := by unfold sumO sumL; rw [sumP_eq]
theorem sumO_bound (l : List Int) : 0 ≤ sumO l ∧ sumO l < 65521 * 65536 := by
  unfold sumO; rw [sumP_eq]; simp only; omega
def tail4 (s : Int) : List Int := [s / 16777216 % 256, s / 65536 % 256, s / 256 % 256, s % 256]
def be (l : List Int) : Int := l.foldl (fun w x => w * 256 + x) 0
theorem be_tail (s : Int) (h0 : 0 ≤ s) (h1 : s < 65521 * 65536) : be (tail4 s) = s := by
  simp [be, tail4]; omega
theorem tail_be (l : List Int) (hl : l.length = 4) (h : ∀ x ∈ l, 0 ≤ x ∧ x < 256) : tail4 (be l) = l := by
  match l, hl with
  | [a, b, c, d], _ =>
    have ha := h a (by simp); have hb := h b (by simp); have hc := h c (by simp); have hd := h d (by simp)
    simp only [be, tail4, List.foldl, List.cons.injEq, and_true]
    omega
theorem tail4_mem (s : Int) : ∀ x ∈ tail4 s, 0 ≤ x ∧ x < 256 := by
  intro x hx; simp [tail4] at hx; omega
def frame (l : List Int) : List Int := octs l.length ++ l ++ tail4 (sumO l)
/-- what is read of a frame -/
def rdF (l : List Int) (p : Nat) : Option (List Int × Nat) := match rdN l p with
  | none => none
  | some (m, q) => if ((l.drop q).take m.toNat).length < m.toNat ∨ ((l.drop (q + m.toNat)).take 4).length < 4 then none
    else if be ((l.drop (q + m.toNat)).take 4) = sumO ((l.drop q).take m.toNat) then some ((l.drop q).take m.toNat, q + m.toNat + 4) else none
theorem rdF_frame (l b : List Int) (hl : l.length ≤ 1000000000000) : rdF (frame l ++ b) 0 = some (l, (frame l).length) := by
  have e := rdN_octs [] (l ++ tail4 (sumO l) ++ b) (l.length : Int) (by omega) (by omega)
  have e0 : frame l ++ b = [] ++ octs l.length ++ (l ++ tail4 (sumO l) ++ b) := by simp [frame]
  have d1 : (frame l ++ b).drop (octs l.length).length = l ++ (tail4 (sumO l) ++ b) := by
    rw [e0]; simp
  have d2 : (frame l ++ b).drop ((octs l.length).length + l.length) = tail4 (sumO l) ++ b := by
    rw [← List.drop_drop, d1]; simp
  unfold rdF
  rw [e0, List.length_nil] at *
  rw [e]
  simp only [List.length_nil, Nat.zero_add, Int.toNat_natCast]
  rw [d1, d2]
  have t1 : (l ++ (tail4 (sumO l) ++ b)).take l.length = l := by simp
  have t2 : (tail4 (sumO l) ++ b).take 4 = tail4 (sumO l) := by simp [tail4]
  rw [t1, t2, if_neg (by simp [tail4]), be_tail _ (sumO_bound l).1 (sumO_bound l).2, if_pos rfl]
  simp [frame, tail4, Nat.add_assoc]
theorem frame_len (l : List Int) : (frame l).length = (octs l.length).length + l.length + 4 := by simp [frame, tail4]; omega
theorem rdF_cut (l : List Int) (c : Nat) (hl : l.length < 128) (hc : c < (frame l).length) : rdF ((frame l).take c) 0 = none := by
  have ho : octs (l.length : Int) = [(l.length : Int)] := octs_small _ (by omega) (by omega)
  have hf : frame l = (l.length : Int) :: (l ++ tail4 (sumO l)) := by simp [frame, ho]
  rw [hf] at hc ⊢
  cases c with
  | zero => rfl
  | succ c =>
    have e := rdN_octs [] ((l ++ tail4 (sumO l)).take c) (l.length : Int) (by omega) (by omega)
    have : rdN (((l.length : Int) :: (l ++ tail4 (sumO l))).take (c + 1)) 0 = some ((l.length : Int), 1) := by
      rw [List.take_succ_cons]
      simpa [ho] using e
    unfold rdF
    rw [this]
    simp only [Int.toNat_natCast]
    rw [if_pos]
    simp only [List.length_cons, List.length_append, tail4, List.length_nil] at hc
    simp [tail4] 
    omega
/-- one octet is another one -/
theorem sumO_set (l : List Int) (k : Nat) (v : Int) (hk : k < l.length) (hl : ∀ x ∈ l, 0 ≤ x ∧ x < 256) (hv : 0 ≤ v ∧ v < 256) (hne : v ≠ l[k]) : sumO (l.set k v) ≠ sumO l := by
  have h1 : (l.set k v).sum = l.sum + (v - l[k]) := by
    clear hl hne hv
    induction l generalizing k with
    | nil => simp at hk
    | cons x r ih =>
      cases k with
      | zero => simp; omega
      | succ k => 
        have := ih k (by simpa using hk)
        simp [this]; omega
  have h2 := hl l[k] (List.getElem_mem hk)
  intro q
  unfold sumO at q
  rw [sumP_eq, sumP_eq] at q
  simp only at q
  rw [h1] at q
  have a1 := Int.emod_nonneg (1 + (l.sum + (v - l[k]))) (b := 65521) (by omega)
  have a2 := Int.emod_lt_of_pos (1 + (l.sum + (v - l[k]))) (b := 65521) (by omega)
  have a3 := Int.emod_nonneg (1 + l.sum) (b := 65521) (by omega)
  have a4 := Int.emod_lt_of_pos (1 + l.sum) (b := 65521) (by omega)
  have : (1 + (l.sum + (v - l[k]))) % 65521 = (1 + l.sum) % 65521 := by omega
  omega
theorem rdF_bent (l : List Int) (k : Nat) (v : Int) (hl : l.length < 128) (ha : ∀ x ∈ l, 0 ≤ x ∧ x < 256) (hk : k < (frame l).length) (h1 : 1 ≤ k) (hv : 0 ≤ v ∧ v < 256) (hne : v ≠ (frame l)[k]) : rdF ((frame l).set k v) 0 = none := by
  have ho : octs (l.length : Int) = [(l.length : Int)] := octs_small _ (by omega) (by omega)
  have hf : frame l = (l.length : Int) :: (l ++ tail4 (sumO l)) := by simp [frame, ho]
  obtain ⟨k, rfl⟩ : ∃ j, k = j + 1 := ⟨k - 1, by omega⟩
  have hne' : v ≠ (l ++ tail4 (sumO l))[k]'(by rw [hf] at hk; simpa using hk) := by
    intro q; apply hne; rw [q]; simp [hf]
  rw [hf] at hk ⊢
  rw [List.set_cons_succ]
  have e := rdN_octs [] ((l ++ tail4 (sumO l)).set k v) (l.length : Int) (by omega) (by omega)
  have e1 : rdN ((l.length : Int) :: (l ++ tail4 (sumO l)).set k v) 0 = some ((l.length : Int), 1) := by simpa [ho] using e
  unfold rdF
  rw [e1]
  simp only [Int.toNat_natCast, List.drop_succ_cons, List.drop_zero]
  rw [show 1 + l.length = l.length + 1 from Nat.add_comm _ _, List.drop_succ_cons]
  have hk2 : k < l.length + 4 := by simpa [tail4] using hk
  by_cases hkl : k < l.length
  · have s1 : (l ++ tail4 (sumO l)).set k v = l.set k v ++ tail4 (sumO l) := by rw [List.set_append_left _ _ hkl]
    rw [s1]
    have t1 : (l.set k v ++ tail4 (sumO l)).take l.length = l.set k v := by rw [List.take_append_of_le_length (by simp)]; simp [List.take_of_length_le]
    have t2 : ((l.set k v ++ tail4 (sumO l)).drop l.length).take 4 = tail4 (sumO l) := by
      rw [List.drop_append_of_le_length (by simp)]; simp [List.drop_of_length_le, tail4]
    rw [t1, t2, be_tail _ (sumO_bound l).1 (sumO_bound l).2]
    have hne2 : v ≠ l[k] := by intro q; apply hne'; rw [q]; simp [List.getElem_append_left hkl]
    have := sumO_set l k v hkl ha hv hne2
    split
    · rfl
    · rw [if_neg (Ne.symm this)]
  · have s1 : (l ++ tail4 (sumO l)).set k v = l ++ (tail4 (sumO l)).set (k - l.length) v := by rw [List.set_append_right _ _ (by omega)]
    rw [s1]
    have t1 : (l ++ (tail4 (sumO l)).set (k - l.length) v).take l.length = l := by simp
    have t2 : ((l ++ (tail4 (sumO l)).set (k - l.length) v).drop l.length).take 4 = (tail4 (sumO l)).set (k - l.length) v := by
      simp [tail4, List.take_of_length_le]
    rw [t1, t2]
    have hj : k - l.length < (tail4 (sumO l)).length := by simp [tail4]; omega
    have hne2 : v ≠ (tail4 (sumO l))[k - l.length] := by intro q; apply hne'; rw [q]; rw [List.getElem_append_right (by omega)]
    split
    · rfl
    · rw [if_neg]
      intro q
      have m4 : ∀ x ∈ (tail4 (sumO l)).set (k - l.length) v, 0 ≤ x ∧ x < 256 := by
        intro x hx
        rcases List.mem_or_eq_of_mem_set hx with hx | hx
        · exact tail4_mem _ x hx
        · subst hx; exact hv
      have := tail_be _ (by simp [tail4]) m4
      rw [q] at this
      apply hne2
      have q2 := congrArg (fun z => z[k - l.length]?) this
      simp only [List.getElem?_set_self hj, List.getElem?_eq_getElem hj, Option.some.injEq] at q2
      exact q2.symm
/-! orders -/
def lxI : List Int → List Int → Bool
  | [], [] => false
  | [], _ :: _ => true
  | _ :: _, [] => false
  | x :: xs, y :: ys => if x = y then lxI xs ys else decide (x < y)
def lxR : List (List Int) → List (List Int) → Bool
  | [], [] => false
  | [], _ :: _ => true
  | _ :: _, [] => false
  | x :: xs, y :: ys => if x = y then lxR xs ys else lxI x y
def keyF (rows : List (List Int)) : List Int := rows.flatMap fun r => r ++ [0]
theorem lxI_pre : ∀ (p u v : List Int), lxI (p ++ u) (p ++ v) = lxI u v
  | [], _, _ => rfl
  | x :: p, u, v => by simp [lxI, lxI_pre p u v]
theorem lxI_zero : ∀ (x y u v : List Int), (∀ i ∈ x, 1 ≤ i) → (∀ i ∈ y, 1 ≤ i) → x ≠ y → lxI (x ++ 0 :: u) (y ++ 0 :: v) = lxI x y
  | [], [], _, _, _, _, h => absurd rfl h
  | [], b :: y, u, v, _, hy, _ => by
    have := hy b (by simp)
    have h1 : ¬ 0 = b := by omega
    simp [lxI, h1]; omega
  | a :: x, [], u, v, hx, _, _ => by
    have := hx a (by simp)
    have h1 : ¬ a = 0 := by omega
    have h2 : ¬ a < 0 := by omega
    simp [lxI, h1, h2]
  | a :: x, b :: y, u, v, hx, hy, h => by
    simp only [List.cons_append, lxI]
    by_cases e : a = b
    · rw [if_pos e, if_pos e]
      exact lxI_zero x y u v (fun i hi => hx i (by simp [hi])) (fun i hi => hy i (by simp [hi])) (fun q => h (by rw [e, q]))
    · rw [if_neg e, if_neg e]
theorem lx_keys : ∀ (a b : List (List Int)), (∀ r ∈ a, ∀ i ∈ r, 1 ≤ i) → (∀ r ∈ b, ∀ i ∈ r, 1 ≤ i) → lxI (keyF a) (keyF b) = lxR a b
  | [], [], _, _ => rfl
  | [], y :: b, _, _ => by
    show lxI [] (y ++ [0] ++ keyF b) = true
    cases y <;> rfl
  | x :: a, [], _, _ => by
    show lxI (x ++ [0] ++ keyF a) [] = false
    cases x <;> rfl
  | x :: a, y :: b, ha, hb => by
    have e1 : keyF (x :: a) = x ++ 0 :: keyF a := by simp [keyF]
    have e2 : keyF (y :: b) = y ++ 0 :: keyF b := by simp [keyF]
    rw [e1, e2]
    unfold lxR
    by_cases e : x = y
    · rw [if_pos e, e, lxI_pre]
      simp only [lxI, if_true]
      exact lx_keys a b (fun r hr => ha r (by simp [hr])) (fun r hr => hb r (by simp [hr]))
    · rw [if_neg e]
      exact lxI_zero x y _ _ (ha x (by simp)) (hb y (by simp)) e
/-! beginnings -/
def cp : List Nat → List Nat → Nat
  | x :: a, y :: b => if x = y then cp a b + 1 else 0
  | _, _ => 0
theorem cp_le : ∀ (a b : List Nat), cp a b ≤ a.length ∧ cp a b ≤ b.length
  | [], b => by simp [cp]
  | x :: a, [] => by simp [cp]
  | x :: a, y :: b => by
    have := cp_le a b
    unfold cp; split <;> simp <;> omega
theorem cp_nil (b : List Nat) : cp [] b = 0 := by simp [cp]
theorem cp_take : ∀ (a b : List Nat), a.take (cp a b) = b.take (cp a b)
  | [], b => by simp [cp]
  | x :: a, [] => by simp [cp]
  | x :: a, y :: b => by
    unfold cp; split
    · rename_i h; simp [h, cp_take a b]
    · simp
theorem cp_comm : ∀ (a b : List Nat), cp a b = cp b a
  | [], [] => rfl
  | [], y :: b => by simp [cp]
  | x :: a, [] => by simp [cp]
  | x :: a, y :: b => by
    unfold cp
    by_cases h : x = y
    · rw [if_pos h, if_pos h.symm, cp_comm a b]
    · rw [if_neg h, if_neg (fun q => h q.symm)]
theorem cp_iff : ∀ (a b : List Nat) (s : Nat), s ≤ a.length → s ≤ b.length → (a.take s = b.take s ↔ s ≤ cp a b)
  | a, b, 0, _, _ => by simp
  | [], b, s + 1, h, _ => by simp at h
  | x :: a, [], s + 1, _, h => by simp at h
  | x :: a, y :: b, s + 1, h1, h2 => by
    have := cp_iff a b s (by simpa using h1) (by simpa using h2)
    unfold cp
    by_cases h : x = y
    · rw [if_pos h]; simp [h, this]
    · rw [if_neg h]; simp [h]
theorem cp_next : ∀ (a b : List Nat) (i : Nat), i < a.length → i < b.length → a.take i = b.take i → (a[i]? = b[i]? ↔ i < cp a b)
  | [], b, i, h, _, _ => by simp at h
  | x :: a, [], i, _, h, _ => by simp at h
  | x :: a, y :: b, 0, _, _, _ => by unfold cp; by_cases h : x = y <;> simp [h]
  | x :: a, y :: b, i + 1, h1, h2, h3 => by
    simp only [List.take_succ_cons, List.cons.injEq] at h3
    have := cp_next a b i (by simpa using h1) (by simpa using h2) h3.2
    unfold cp
    rw [if_pos h3.1]; simp [this]
theorem filter_range : ∀ (n c : Nat), c < n → ((List.range n).filter fun s => decide (s ≤ c)) = List.range (c + 1) := by
  intro n c h
  induction n with
  | zero => omega
  | succ n ih =>
    rw [List.range_succ, List.filter_append]
    by_cases q : c < n
    · rw [ih q]
      simp; omega
    · have : c = n := by omega
      subst this
      have e : (List.range c).filter (fun s => decide (s ≤ c)) = List.range c := List.filter_eq_self.mpr fun s hs => by have := List.mem_range.mp hs; simp; omega
      rw [e, List.range_succ]; simp
theorem law_sizes (a b : List Nat) : ((List.range (min a.length b.length + 1)).filter fun s => decide (a.take s = b.take s)) = List.range (cp a b + 1) := by
  have h := cp_le a b
  rw [← filter_range (min a.length b.length + 1) (cp a b) (by omega)]
  refine List.filter_congr fun s hs => ?_
  have := List.mem_range.mp hs
  simp only [decide_eq_decide]
  exact cp_iff a b s (by omega) (by omega)
theorem sq_back (a b : List Nat) : a.take (cp a b) ++ b.drop (cp a b) = b := by rw [cp_take]; exact List.take_append_drop _ _
end K01

set_option Elab.async false
set_option linter.all false
set_option maxRecDepth 100000
set_option maxHeartbeats 1000000
namespace K01
open PySem PySem.Spec PyProof.Rows L2 Mi
theorem at_end {hc : Cells} {o : AO} : (hc ++ [o])[hc.length]? = some o := by simp
theorem set_end {hc : Cells} {o u : AO} : (hc ++ [o]).set hc.length u = hc ++ [u] := by simp
abbrev oI (t : Bool) (l : List Int) : PV := pQ t (pIs l)
theorem ix_oI (t : Bool) (l : List Int) (i : Nat) (h : Cells) (x : Int) (e : l[i]? = some x) : opIx (oI t l) (nI i) h = .ok (pI x) h := ix_pQ t _ i h (.int x) (by simp [e])
theorem len_oI (t : Bool) (l : List Int) (h : Cells) : biLen [oI t l] h = .ok (nI l.length) h := by rw [len_pQ]; simp
/-! ## number_octets -/
abbrev cN : ME Bool := mTb (mBin oGe (mV 0) (mK (.d (.int 128))))
abbrev bN : MS := mSeq (mExp (mMeth tyL meAppend (mV 1) (aCons (mBin opAdd (mK (.d (.int 128))) (mBin opMod (mV 0) (mK (.d (.int 128))))) aNil))) (mAug 0 opDiv (mK (.d (.int 128))))
theorem cN_eq (n : Int) (v : Option PV) (h : Cells) : cN [some (pI n), v] h = .ok (decide (128 ≤ n)) h := by simp
theorem bN_eq (n : Int) (hc : Cells) (xs : List PV) (hx : xs.length < sizeLine) : bN [some (pI n), some (.r hc.length)] (hc ++ [.lst xs]) = .nx [some (pI (n / 128)), some (.r hc.length)] (hc ++ [.lst (xs ++ [pI (128 + n % 128)])]) := by
  simp [bN, mSeq_eq, tyL, meAppend, hx, asL, vmod, vdiv]
theorem wN_eq : ∀ (f : Nat) (n : Int) (g : Nat) (hc : Cells) (xs : List PV), n < 128 ^ (f + 1) → f < g → xs.length + f < sizeLine →
    mWh cN bN g [some (pI n), some (.r hc.length)] (hc ++ [.lst xs]) = .nx [some (pI (ocs f n).2), some (.r hc.length)] (hc ++ [.lst (xs ++ (ocs f n).1.map pI)])
  | f, n, 0, _, _, _, hg, _ => absurd hg (by omega)
  | 0, n, g + 1, hc, xs, hn, _, _ => by
    have : ¬ 128 ≤ n := by simp at hn; omega
    rw [mWh_succ, cN_eq]
    simp [this, ocs]
  | f + 1, n, g + 1, hc, xs, hn, hg, hx => by
    rw [mWh_succ, cN_eq]
    by_cases h : 128 ≤ n
    · simp only [toS_ok, h, decide_true, if_true]
      rw [bN_eq n hc xs (by omega)]
      have h2 : n / 128 < 128 ^ (f + 1) := by
        have : n < 128 ^ (f + 1) * 128 := by rw [← Int.pow_succ]; exact hn
        omega
      simp only
      rw [wN_eq f (n / 128) g hc (xs ++ [pI (128 + n % 128)]) h2 (by omega) (by simp; omega)]
      simp [ocs, h]
    · simp [h, ocs]
theorem ocs_len : ∀ (f : Nat) (n : Int), (ocs f n).1.length ≤ f
  | 0, n => by simp [ocs]
  | f + 1, n => by
    have := ocs_len f (n / 128)
    unfold ocs
    split
    · simp; omega
    · simp
theorem s_no (n : Int) (hc : Cells) (w : wfB hc = true) (h0 : 0 ≤ n) (h1 : n ≤ 1000000000000) : r_number_octets [pI n] hc = .ok (pT (pIs (octs n))) hc := by
  have W := wN_eq 6 n FU hc [] (by simp; omega) (by decide) (by decide)
  refine trim_ok (g := [.lst ((ocs 6 n).1.map pI)]) (runF_rt ?_) w rfl
  unfold m_number_octets
  have e1 : (mIf (mNot (mTb (mChain oLe oLe (mK (.d (.int 0))) (mV 0) (mK (.d (.int 1000000000000)))))) (mRaise "CodeError") mSkip) [some (pI n), none] hc = .nx [some (pI n), none] hc := by
    simp [h0, h1]
  have e2 : (mAsg (mCell aNil) (gN 1)) [some (pI n), none] hc = .nx [some (pI n), some (.r hc.length)] (hc ++ [.lst []]) := by simp
  have l1 : (ocs 6 n).1.length + 1 ≤ sizeLine := Nat.le_trans (Nat.succ_le_succ (ocs_len 6 n)) (by decide)
  have a1 : mkL [pI (ocs 6 n).2] = pL [.int (ocs 6 n).2] := rfl
  have a2 : opAdd (.r hc.length) (pL [.int (ocs 6 n).2]) (hc ++ [.lst ((ocs 6 n).1.map pI)]) = .ok (pL (pIs (octs n))) (hc ++ [.lst ((ocs 6 n).1.map pI)]) := by
    simp only [opAdd, asL, at_end, List.map_cons, List.map_nil, List.length_map, List.length_cons, List.length_nil, l1, if_true]
    have : (ocs 6 n).1.map pI ++ [pI (ocs 6 n).2] = (pIs (octs n)).map .d := by simp [octs]
    rw [this, mkL_map]
  simp only [List.map_cons, List.map_nil, List.length_cons, List.length_nil, Nat.reduceAdd, Nat.reduceSub, List.replicate, List.cons_append, List.nil_append]
  rw [seq_nx e1, seq_nx e2, seq_nx W]
  simp [a1, a2, tuple_pL, sz]
/-! ## the number that is read -/
def oc8 (l : List Int) : Prop := ∀ x ∈ l, 0 ≤ x ∧ x < 256
theorem oc8.at {l : List Int} (o : oc8 l) {i : Nat} {x : Int} (e : l[i]? = some x) : 0 ≤ x ∧ x < 256 := o x (List.mem_of_getElem? e)
theorem pow_small (k : Nat) (h : k ≤ 6) : (0 : Int) < 128 ^ k ∧ (128 : Int) ^ k ≤ 4398046511104 := by
  have : k = 0 ∨ k = 1 ∨ k = 2 ∨ k = 3 ∨ k = 4 ∨ k = 5 ∨ k = 6 := by omega
  rcases this with h | h | h | h | h | h | h <;> subst h <;> decide
abbrev eR (t : Bool) (l : List Int) (q : Nat) (F W : Int) (p : Nat) : Sl := [some (oI t l), some (nI q), some (pI F), some (pI W), some (nI p)]
abbrev cR : ME Bool := mAnd (mTb (mBin oLt (mV 1) (mCall biLen (aCons (mV 0) aNil)))) (mAnd (mTb (mBin oGe (mBin opIx (mV 0) (mV 1)) (mK (.d (.int 128))))) (mTb (mBin oLt (mBin opSub (mV 1) (mV 4)) (mK (.d (.int 6))))))
abbrev bR : MS := mSeq (mAug 2 iadd (mBin opMul (mBin opSub (mBin opIx (mV 0) (mV 1)) (mK (.d (.int 128)))) (mV 3)))
  (mSeq (mAug 3 imul (mK (.d (.int 128))))
  (mAug 1 iadd (mK (.d (.int 1)))))
theorem cR_out (t : Bool) (l : List Int) (q : Nat) (F W : Int) (p : Nat) (h : Cells) (hq : l.length ≤ q) : cR (eR t l q F W p) h = .ok false h := by
  simp [len_oI, show ¬ q < l.length by omega]
theorem cR_in (t : Bool) (l : List Int) (q : Nat) (F W : Int) (p : Nat) (h : Cells) {x : Int} (hx : l[q]? = some x) : cR (eR t l q F W p) h = .ok (decide (128 ≤ x) && decide ((q : Int) - p < 6)) h := by
  have hq := (List.getElem?_eq_some_iff.mp hx).1
  simp only [cR, eR, mAnd_eq, mTb_eq, mBin_eq, mV_1, mV_0, mCall_eq, aCons_eq, aNil_eq, bind_ok, len_oI, vlt, ix_oI t l q h x hx, mK_eq, vge, mV_4, vsub, show ((q : Int) < (l.length : Nat)) by omega, decide_true, if_true]
  by_cases h1 : 128 ≤ x <;> simp [h1]
theorem bR_eq (t : Bool) (l : List Int) (q : Nat) (F W : Int) (p : Nat) (h : Cells) {x : Int} (hx : l[q]? = some x) (o : 0 ≤ x ∧ x < 256) : bR (eR t l q F W p) h = .nx (eR t l (q + 1) (F + (x - 128) * W) (W * 128) p) h := by
  have m : mulOk (x - 128) W = true := mulOk_l (by omega) (by omega)
  have m2 : mulOk W 128 = true := mulOk_r (by omega) (by omega)
  simp [bR, mSeq_eq, ix_oI t l q h x hx, vmul _ _ _ m, vimul _ _ _ m2]
/-- the loop, from the place p + k on: c turns are left -/
theorem wR_eq (t : Bool) (l : List Int) (o : oc8 l) (p : Nat) (h : Cells) : ∀ (c k : Nat) (g : Nat) (F : Int), k + c = 6 → c < g →
    mWh cR bR g (eR t l (p + k) F (128 ^ k) p) h =
      .nx (eR t l (p + k + ld c (l.drop (p + k))) (F + 128 ^ k * vl ((l.drop (p + k)).take (ld c (l.drop (p + k))))) (128 ^ (k + ld c (l.drop (p + k)))) p) h
  | c, k, 0, F, _, hg => absurd hg (by omega)
  | c, k, g + 1, F, hk, hg => by
    by_cases hl : p + k < l.length
    · obtain ⟨x, hx⟩ : ∃ x, l[p + k]? = some x := ⟨_, List.getElem?_eq_getElem hl⟩
      have hd : l.drop (p + k) = x :: l.drop (p + k + 1) := by rw [List.drop_eq_getElem_cons hl]; congr 1; have := List.getElem?_eq_getElem hl; rw [hx] at this; exact (Option.some.inj this).symm
      have b8 := o.at hx
      have hc := cR_in t l (p + k) F (128 ^ k) p h hx
      by_cases h1 : 128 ≤ x
      · cases c with
        | zero =>
          have e : (decide (128 ≤ x) && decide (((p + k : Nat) : Int) - p < 6)) = false := by simp [h1]; omega
          rw [e] at hc
          rw [wh_stop hc (by omega)]
          simp [ld, vl]
        | succ c =>
          have e : (decide (128 ≤ x) && decide (((p + k : Nat) : Int) - p < 6)) = true := by simp [h1]; omega
          rw [e] at hc
          have ih := wR_eq t l o p h c (k + 1) g (F + (x - 128) * 128 ^ k) (by omega) (by omega)
          rw [Int.pow_succ, ← Nat.add_assoc] at ih
          rw [wh_turn hc (bR_eq t l (p + k) F (128 ^ k) p h hx b8), ih]
          have hd1 : ld (c + 1) (l.drop (p + k)) = ld c (l.drop (p + k + 1)) + 1 := by rw [hd, ld, if_pos h1]
          have hd2 : (l.drop (p + k)).take (ld c (l.drop (p + k + 1)) + 1) = x :: (l.drop (p + k + 1)).take (ld c (l.drop (p + k + 1))) := by rw [hd]; rfl
          rw [hd1, hd2]
          have hv : dg x = x - 128 := by simp [dg, h1]
          have e3 : F + (x - 128) * 128 ^ k + 128 ^ k * 128 * vl ((l.drop (p + k + 1)).take (ld c (l.drop (p + k + 1)))) = F + 128 ^ k * vl (x :: (l.drop (p + k + 1)).take (ld c (l.drop (p + k + 1)))) := by
            simp only [vl, hv]
            rw [Int.mul_add, Int.mul_comm (x - 128), ← Int.mul_assoc]; omega
          rw [e3]
          have e4 : p + k + 1 + ld c (l.drop (p + k + 1)) = p + k + (ld c (l.drop (p + k + 1)) + 1) := by omega
          have e5 : k + 1 + ld c (l.drop (p + k + 1)) = k + (ld c (l.drop (p + k + 1)) + 1) := by omega
          rw [e4, e5]
      · have e0 : ld c (l.drop (p + k)) = 0 := by rw [hd]; cases c <;> simp [ld, h1]
        have e : (decide (128 ≤ x) && decide (((p + k : Nat) : Int) - p < 6)) = false := by simp [h1]
        rw [e] at hc
        rw [wh_stop hc (by omega), e0]
        simp [vl]
    · have e0 : ld c (l.drop (p + k)) = 0 := by rw [List.drop_of_length_le (by omega)]; cases c <;> simp [ld]
      rw [wh_stop (cR_out t l (p + k) F _ p h (by omega)) (by omega), e0]
      simp [vl]
theorem vl_snoc : ∀ (a : List Int) (x : Int), vl (a ++ [x]) = vl a + 128 ^ a.length * dg x
  | [], x => by simp [vl]
  | y :: a, x => by
    simp only [List.cons_append, vl, vl_snoc a x, List.length_cons, Int.pow_succ]
    rw [Int.mul_add, Int.mul_comm (128 ^ a.length) 128, Int.mul_assoc]; omega
/-- the test behind the loop -/
abbrev cE : ME Bool := mOr (mTb (mBin oGe (mV 1) (mCall biLen (aCons (mV 0) aNil)))) (mOr (mTb (mBin oGe (mBin opIx (mV 0) (mV 1)) (mK (.d (.int 128))))) (mAnd (mTb (mBin (opEq true) (mBin opIx (mV 0) (mV 1)) (mK (.d (.int 0))))) (mTb (mBin oGt (mV 1) (mV 4)))))
theorem cE_out (t : Bool) (l : List Int) (q : Nat) (F W : Int) (p : Nat) (h : Cells) (hq : l.length ≤ q) : cE (eR t l q F W p) h = .ok true h := by
  simp [len_oI, hq]
theorem cE_in (t : Bool) (l : List Int) (q : Nat) (F W : Int) (p : Nat) (h : Cells) {x : Int} (hx : l[q]? = some x) : cE (eR t l q F W p) h = .ok (decide (128 ≤ x ∨ x = 0 ∧ p < q)) h := by
  have hq := (List.getElem?_eq_some_iff.mp hx).1
  simp only [cE, eR, mOr_eq, mAnd_eq, mTb_eq, mBin_eq, mV_1, mV_0, mCall_eq, aCons_eq, aNil_eq, bind_ok, len_oI, vge, ix_oI t l q h x hx, mK_eq, veq, vgt, mV_4, show ¬ ((l.length : Nat) ≤ (q : Int)) by omega, decide_false]
  by_cases h1 : 128 ≤ x
  · simp [h1]
  · by_cases h2 : x = 0 <;> simp [h1, h2]
/-- what read_number comes to -/
def rdO (h : Cells) : Option (Int × Nat) → Out PV
  | some (n, q) => .ok (pT [.int n, .int q]) h
  | none => .ex "CodeError" h
theorem s_rd (t : Bool) (l : List Int) (o : oc8 l) (p : Nat) (h : Cells) : r_read_number [oI t l, nI p] h = rdO h (rdN l p) := by
  have W := wR_eq t l o p h 6 0 FU 0 (by omega) (by decide)
  simp only [Nat.add_zero, Nat.zero_add, Int.pow_zero, Int.zero_add, Int.one_mul] at W
  have kl := ld_le 6 (l.drop p)
  have pw := pow_small _ kl.1
  have body : m_read_number [some (oI t l), some (nI p), none, none, none] h = (match rdN l p with
    | some (n, q) => .rt (pT [.int n, .int q]) h
    | none => .ex "CodeError" h) := by
    unfold m_read_number
    have e1 : mPar3 2 3 4 (aCons (mK (.d (.int 0))) (aCons (mK (.d (.int 1))) (aCons (mV 1) aNil))) [some (oI t l), some (nI p), none, none, none] h = .nx (eR t l p 0 1 p) h := by simp
    rw [seq_nx e1, seq_nx W]
    generalize hk : ld 6 (l.drop p) = k at *
    generalize hF : vl ((l.drop p).take k) = F at *
    generalize hW : (128 : Int) ^ k = M at *
    unfold rdN
    rw [hk]
    by_cases hl : p + k < l.length
    · obtain ⟨x, hx⟩ : ∃ x, l[p + k]? = some x := ⟨_, List.getElem?_eq_getElem hl⟩
      have hx2 : (l.drop p)[k]? = some x := by simpa using hx
      have b8 := o.at hx
      have hc := cE_in t l (p + k) F M p h hx
      rw [hx2]
      simp only
      by_cases h1 : 128 ≤ x
      · rw [if_pos h1, seq_ex ((if_yes (h1 := h) (hc.trans (by simp [h1]))).trans (mRaise_eq _ _ _))]
      · by_cases h2 : x = 0 ∧ 0 < k
        · rw [if_neg h1, if_pos h2, seq_ex ((if_yes (h1 := h) (hc.trans (by simp [h2]))).trans (mRaise_eq _ _ _))]
        · rw [if_neg h1, if_neg h2, seq_nx (if_no (h1 := h) (hc.trans (by rw [decide_eq_false (by omega)])))]
          have hv : vl ((l.drop p).take (k + 1)) = F + x * M := by
            have e1 : (l.drop p).take (k + 1) = (l.drop p).take k ++ [x] := by rw [List.take_add_one, hx2]; rfl
            rw [e1, vl_snoc, List.length_take, Nat.min_eq_left kl.2, hF, hW, Int.mul_comm]
            simp [dg, h1]
          rw [hv]
          have m : mulOk x M = true := mulOk_l (by omega) (by omega)
          have s2 : mAug 2 iadd (mBin opMul (mBin opIx (mV 0) (mV 1)) (mV 3)) (eR t l (p + k) F M p) h = .nx (eR t l (p + k) (F + x * M) M p) h := by
            simp only [eR, mAug_2, mBin_eq, mV_0, mV_1, mV_3, bind_ok, ix_oI t l (p + k) h x hx, vmul _ _ _ m, toS_ok, viadd]
          rw [seq_nx s2]
          by_cases h3 : 1000000000000 < F + x * M
          · rw [if_pos h3, seq_ex]
            simp [h3]
          · rw [if_neg h3, seq_nx (if_no (h1 := h) (by simp [h3]))]
            simp [sz, mkT, allD]
    · have hx2 : (l.drop p)[k]? = none := List.getElem?_eq_none (by rw [List.length_drop]; omega)
      rw [hx2, seq_ex ((if_yes (cE_out t l (p + k) F M p h (by omega))).trans (mRaise_eq _ _ _))]
  have E : runF 5 m_read_number [oI t l, nI p] h = rdO h (rdN l p) := by
    unfold runF
    simp only [List.map_cons, List.map_nil, List.length_cons, List.length_nil, Nat.reduceAdd, Nat.reduceSub, List.replicate, List.cons_append, List.nil_append]
    rw [body]
    cases rdN l p with
    | none => rfl
    | some v => rfl
  cases q : rdN l p with
  | none => rw [q] at E; exact trim_sameX E rfl
  | some v => rw [q] at E; exact trim_same E rfl
end K01

set_option Elab.async false
set_option linter.all false
set_option maxRecDepth 100000
set_option maxHeartbeats 1000000
namespace K01
open PySem PySem.Spec PyProof.Rows L2 Mi
theorem ret_K (p : PV) (e : Sl) (h : Cells) : mRet (mK p) e h = .rt p h := rfl
/-! ## number_at -/
abbrev bA : MS := mSeq (mAug 3 iadd (mBin opMul (mBin opMod (mV 5) (mK (.d (.int 128)))) (mV 4))) (mAug 4 imul (mK (.d (.int 128))))
theorem dg_mod {x : Int} (o : 0 ≤ x ∧ x < 256) : x % 128 = dg x := by unfold dg; split <;> omega
theorem bA_eq (a b c : Option PV) (F W x : Int) (v : Option PV) (h : Cells) (o : 0 ≤ x ∧ x < 256) : ∃ e1, gN 5 (pI x) [a, b, c, some (pI F), some (pI W), v] h = some (e1, h) ∧ bA e1 h = .nx [a, b, c, some (pI (F + dg x * W)), some (pI (W * 128)), some (pI x)] h := by
  refine ⟨[a, b, c, some (pI F), some (pI W), some (pI x)], rfl, ?_⟩
  have d := dg_mod o
  have d2 : dg x < 128 := by rw [← d]; omega
  have m : mulOk (dg x) W = true := mulOk_l (by omega) (by omega)
  have m2 : mulOk W 128 = true := mulOk_r (by omega) (by omega)
  simp only [bA, mSeq_eq, mAug_3, mAug_4, mBin_eq, mV_5, mV_4, mK_eq, bind_ok, vmod _ _ _ (show (0 : Int) < 128 by omega), d, vmul _ _ _ m, toS_ok, viadd, vimul _ _ _ m2]
theorem fA_eq (a b c : Option PV) (h : Cells) (all : List PV) : ∀ (l : List Int) (F W : Int) (v : Option PV), oc8 l → ∃ v' W', forL (gN 5) bA none all (l.map pI) [a, b, c, some (pI F), some (pI W), v] h = .nx [a, b, c, some (pI (F + W * vl l)), some (pI W'), v'] h
  | [], F, W, v, _ => ⟨v, W, by simp [vl]⟩
  | x :: r, F, W, v, o => by
    obtain ⟨e1, g1, g2⟩ := bA_eq a b c F W x v h (o x (by simp))
    obtain ⟨v', W', ih⟩ := fA_eq a b c h all r (F + dg x * W) (W * 128) (some (pI x)) (fun y hy => o y (by simp [hy]))
    refine ⟨v', W', ?_⟩
    rw [List.map_cons, forL_cons, g1]
    simp only
    rw [g2]
    simp only
    rw [ih]
    have : F + dg x * W + W * 128 * vl r = F + W * vl (x :: r) := by simp only [vl]; rw [Int.mul_add, Int.mul_comm (dg x), Int.mul_assoc]; omega
    rw [this]
theorem oc8.drop {l : List Int} (o : oc8 l) (n : Nat) : oc8 (l.drop n) := fun x hx => o x (List.mem_of_mem_drop hx)
theorem oc8.take {l : List Int} (o : oc8 l) (n : Nat) : oc8 (l.take n) := fun x hx => o x (List.mem_of_mem_take hx)
theorem s_nat (t : Bool) (l : List Int) (o : oc8 l) (a b : Nat) (h : Cells) : r_number_at [oI t l, nI a, nI b] h = .ok (pI (vl ((l.drop a).take (b + 1 - a)))) h := by
  refine trim_same (runF_rt ?_) rfl
  unfold m_number_at
  have e1 : mAsg (mTup (aCons (mK (.d (.int 0))) (aCons (mK (.d (.int 1))) aNil))) (gTp 2 (gsCons (gN 3) (gsCons (gN 4) gsNil))) [some (oI t l), some (nI a), some (nI b), none, none, none] h = .nx [some (oI t l), some (nI a), some (nI b), some (pI 0), some (pI 1), none] h := by
    simp [sz, mkT, allD, gTp]
  have sl : mSl (mV 0) (oSo (mV 1)) (oSo (mBin opAdd (mV 2) (mK (.d (.int 1))))) [some (oI t l), some (nI a), some (nI b), some (pI 0), some (pI 1), none] h = .ok (oI t ((l.drop a).take (b + 1 - a))) h := by
    have := cut_nn (pIs l) a (b + 1)
    simp only [mSl_eq, mV_0, bind_ok, oSo_eq, mV_1, mBin_eq, mV_2, mK_eq, vadd]
    rw [sl_pQ]
    rw [show ((b : Int) + 1) = ((b + 1 : Nat) : Int) by omega, this]
    simp only [oI, pIs, List.map_take, List.map_drop]
  obtain ⟨v', W', f⟩ := fA_eq (some (oI t l)) (some (nI a)) (some (nI b)) h ((((l.drop a).take (b + 1 - a))).map pI) ((l.drop a).take (b + 1 - a)) 0 1 none ((o.drop a).take _)
  have e2 := (mFor_eq (g := gN 5) (b := bA) (any_pQ sl)).trans ((congrArg (fun z => forL (gN 5) bA none z z _ h) (pI_map _)).trans f)
  simp only [List.map_cons, List.map_nil, List.length_cons, List.length_nil, Nat.reduceAdd, Nat.reduceSub, List.replicate, List.cons_append, List.nil_append]
  rw [seq_nx e1, seq_nx e2]
  simp
/-! ## is_number_cut -/
abbrev eC (t : Bool) (l : List Int) (q p : Nat) : Sl := [some (oI t l), some (nI q), some (nI p)]
abbrev cC : ME Bool := mAnd (mTb (mBin oLt (mV 1) (mCall biLen (aCons (mV 0) aNil)))) (mAnd (mTb (mBin oGe (mBin opIx (mV 0) (mV 1)) (mK (.d (.int 128))))) (mTb (mBin oLt (mBin opSub (mV 1) (mV 2)) (mK (.d (.int 6))))))
theorem cC_out (t : Bool) (l : List Int) (q p : Nat) (h : Cells) (hq : l.length ≤ q) : cC (eC t l q p) h = .ok false h := by
  simp [len_oI, show ¬ q < l.length by omega]
theorem cC_in (t : Bool) (l : List Int) (q p : Nat) (h : Cells) {x : Int} (hx : l[q]? = some x) : cC (eC t l q p) h = .ok (decide (128 ≤ x) && decide ((q : Int) - p < 6)) h := by
  have hq := (List.getElem?_eq_some_iff.mp hx).1
  simp only [cC, eC, mAnd_eq, mTb_eq, mBin_eq, mV_1, mV_0, mCall_eq, aCons_eq, aNil_eq, bind_ok, len_oI, vlt, ix_oI t l q h x hx, mK_eq, vge, mV_2, vsub, show ((q : Int) < (l.length : Nat)) by omega, decide_true, if_true]
  by_cases h1 : 128 ≤ x <;> simp [h1]
theorem wC_eq (t : Bool) (l : List Int) (p : Nat) (h : Cells) : ∀ (c k : Nat) (g : Nat), k + c = 6 → c < g →
    mWh cC (mAug 1 iadd (mK (.d (.int 1)))) g (eC t l (p + k) p) h = .nx (eC t l (p + k + ld c (l.drop (p + k))) p) h
  | c, k, 0, _, hg => absurd hg (by omega)
  | c, k, g + 1, hk, hg => by
    by_cases hl : p + k < l.length
    · obtain ⟨x, hx⟩ : ∃ x, l[p + k]? = some x := ⟨_, List.getElem?_eq_getElem hl⟩
      have hd : l.drop (p + k) = x :: l.drop (p + k + 1) := by rw [List.drop_eq_getElem_cons hl]; congr 1; have := List.getElem?_eq_getElem hl; rw [hx] at this; exact (Option.some.inj this).symm
      have hc := cC_in t l (p + k) p h hx
      by_cases h1 : 128 ≤ x
      · cases c with
        | zero =>
          have e : (decide (128 ≤ x) && decide (((p + k : Nat) : Int) - p < 6)) = false := by simp [h1]; omega
          rw [e] at hc
          rw [wh_stop hc (by omega)]
          simp [ld]
        | succ c =>
          have e : (decide (128 ≤ x) && decide (((p + k : Nat) : Int) - p < 6)) = true := by simp [h1]; omega
          rw [e] at hc
          have ih := wC_eq t l p h c (k + 1) g (by omega) (by omega)
          rw [← Nat.add_assoc] at ih
          have b : mAug 1 iadd (mK (.d (.int 1))) (eC t l (p + k) p) h = .nx (eC t l (p + k + 1) p) h := by simp
          rw [wh_turn hc b, ih]
          have hd1 : ld (c + 1) (l.drop (p + k)) = ld c (l.drop (p + k + 1)) + 1 := by rw [hd, ld, if_pos h1]
          rw [hd1]
          have e4 : p + k + 1 + ld c (l.drop (p + k + 1)) = p + k + (ld c (l.drop (p + k + 1)) + 1) := by omega
          rw [e4]
      · have e0 : ld c (l.drop (p + k)) = 0 := by rw [hd]; cases c <;> simp [ld, h1]
        have e : (decide (128 ≤ x) && decide (((p + k : Nat) : Int) - p < 6)) = false := by simp [h1]
        rw [e] at hc
        rw [wh_stop hc (by omega), e0]
        simp
    · have e0 : ld c (l.drop (p + k)) = 0 := by rw [List.drop_of_length_le (by omega)]; cases c <;> simp [ld]
      rw [wh_stop (cC_out t l (p + k) p h (by omega)) (by omega), e0]
      simp
abbrev cD : ME Bool := mOr (mTb (mBin oGe (mV 1) (mCall biLen (aCons (mV 0) aNil)))) (mOr (mTb (mBin oGe (mBin opIx (mV 0) (mV 1)) (mK (.d (.int 128))))) (mAnd (mTb (mBin (opEq true) (mBin opIx (mV 0) (mV 1)) (mK (.d (.int 0))))) (mTb (mBin oGt (mV 1) (mV 2)))))
theorem cD_out (t : Bool) (l : List Int) (q p : Nat) (h : Cells) (hq : l.length ≤ q) : cD (eC t l q p) h = .ok true h := by
  simp [len_oI, hq]
theorem cD_in (t : Bool) (l : List Int) (q p : Nat) (h : Cells) {x : Int} (hx : l[q]? = some x) : cD (eC t l q p) h = .ok (decide (128 ≤ x ∨ x = 0 ∧ p < q)) h := by
  have hq := (List.getElem?_eq_some_iff.mp hx).1
  simp only [cD, eC, mOr_eq, mAnd_eq, mTb_eq, mBin_eq, mV_1, mV_0, mCall_eq, aCons_eq, aNil_eq, bind_ok, len_oI, vge, ix_oI t l q h x hx, mK_eq, veq, vgt, mV_2, show ¬ ((l.length : Nat) ≤ (q : Int)) by omega, decide_false]
  by_cases h1 : 128 ≤ x
  · simp [h1]
  · by_cases h2 : x = 0 <;> simp [h1, h2]
theorem s_cut (t : Bool) (l : List Int) (o : oc8 l) (p : Nat) (h : Cells) : r_is_number_cut [oI t l, nI p] h = .ok (pB (rdN l p).isNone) h := by
  have W := wC_eq t l p h 6 0 FU (by omega) (by decide)
  simp only [Nat.add_zero] at W
  refine trim_same (runF_rt ?_) rfl
  unfold m_is_number_cut
  simp only [List.map_cons, List.map_nil, List.length_cons, List.length_nil, Nat.reduceAdd, Nat.reduceSub, List.replicate, List.cons_append, List.nil_append]
  have e1 : mAsg (mV 1) (gN 2) [some (oI t l), some (nI p), none] h = .nx (eC t l p p) h := by simp
  rw [seq_nx e1, seq_nx W]
  unfold rdN
  generalize hk : ld 6 (l.drop p) = k at *
  by_cases hl : p + k < l.length
  · obtain ⟨x, hx⟩ : ∃ x, l[p + k]? = some x := ⟨_, List.getElem?_eq_getElem hl⟩
    have hx2 : (l.drop p)[k]? = some x := by simpa using hx
    have hc := cD_in t l (p + k) p h hx
    rw [hx2]
    simp only
    by_cases h1 : 128 ≤ x
    · rw [if_pos h1, seq_rt ((if_yes (h1 := h) (hc.trans (by simp [h1]))).trans (ret_K _ _ _))]; rfl
    · by_cases h2 : x = 0 ∧ 0 < k
      · rw [if_neg h1, if_pos h2, seq_rt ((if_yes (h1 := h) (hc.trans (by simp [h2]))).trans (ret_K _ _ _))]; rfl
      · rw [if_neg h1, if_neg h2, seq_nx (if_no (h1 := h) (hc.trans (by rw [decide_eq_false (by omega)])))]
        have e : (p + k + 1 - p) = k + 1 := by omega
        simp [s_nat t l o p (p + k) h, e]
        by_cases h3 : 1000000000000 < vl ((l.drop p).take (k + 1)) <;> simp [h3]
  · have hx2 : (l.drop p)[k]? = none := List.getElem?_eq_none (by rw [List.length_drop]; omega)
    rw [hx2, seq_rt ((if_yes (cD_out t l (p + k) p h (by omega))).trans (ret_K _ _ _))]; rfl
/-! ## sums -/
abbrev bS : MS := mSeq (mIf (mNot (mTb (mChain oLe oLe (mK (.d (.int 0))) (mV 3) (mK (.d (.int 255)))))) (mRaise "CodeError") mSkip)
  (mSeq (mAsg (mBin opMod (mBin opAdd (mV 1) (mV 3)) (mK (.d (.int 65521)))) (gN 1))
  (mAsg (mBin opMod (mBin opAdd (mV 2) (mV 1)) (mK (.d (.int 65521)))) (gN 2)))
theorem bS_eq (a : Option PV) (x lo hi : Int) (h : Cells) (o : 0 ≤ x ∧ x < 256) : bS [a, some (pI lo), some (pI hi), some (pI x)] h = .nx [a, some (pI ((lo + x) % 65521)), some (pI ((hi + (lo + x) % 65521) % 65521)), some (pI x)] h := by
  have : x ≤ 255 := by omega
  unfold bS
  rw [seq_nx (if_no (h1 := h) (by simp [o.1, this]))]
  simp [mSeq_eq, vmod]
theorem fS_eq (a : Option PV) (h : Cells) (all : List PV) : ∀ (l : List Int) (lo hi : Int) (v : Option PV), oc8 l → ∃ v', forL (gN 3) bS none all (l.map pI) [a, some (pI lo), some (pI hi), v] h =
    .nx [a, some (pI (l.foldl (fun (p : Int × Int) x => ((p.1 + x) % 65521, (p.2 + (p.1 + x) % 65521) % 65521)) (lo, hi)).1), some (pI (l.foldl (fun (p : Int × Int) x => ((p.1 + x) % 65521, (p.2 + (p.1 + x) % 65521) % 65521)) (lo, hi)).2), v'] h
  | [], lo, hi, v, _ => ⟨v, by simp⟩
  | x :: r, lo, hi, v, o => by
    obtain ⟨v', ih⟩ := fS_eq a h all r ((lo + x) % 65521) ((hi + (lo + x) % 65521) % 65521) (some (pI x)) (fun y hy => o y (by simp [hy]))
    refine ⟨v', ?_⟩
    rw [List.map_cons, forL_cons]
    simp only [gN_eq, List.set_cons_succ, List.set_cons_zero]
    rw [bS_eq a x lo hi h (o x (by simp))]
    simp only
    rw [ih]
    simp
theorem s_sum (t : Bool) (l : List Int) (o : oc8 l) (h : Cells) : r_sum_of [oI t l] h = .ok (pI (sumO l)) h := by
  refine trim_same (runF_rt ?_) rfl
  unfold m_sum_of
  simp only [List.map_cons, List.map_nil, List.length_cons, List.length_nil, Nat.reduceAdd, Nat.reduceSub, List.replicate, List.cons_append, List.nil_append]
  have e1 : mAsg (mTup (aCons (mK (.d (.int 1))) (aCons (mK (.d (.int 0))) aNil))) (gTp 2 (gsCons (gN 1) (gsCons (gN 2) gsNil))) [some (oI t l), none, none, none] h = .nx [some (oI t l), some (pI 1), some (pI 0), none] h := by
    simp [sz, mkT, allD, gTp]
  obtain ⟨v', f⟩ := fS_eq (some (oI t l)) h (l.map pI) l 1 0 none o
  have e2 := (mFor_eq (g := gN 3) (b := bS) (any_pQ (f := mV 0) (e := [some (oI t l), some (pI 1), some (pI 0), none]) (h := h) rfl)).trans ((congrArg (fun z => forL (gN 3) bS none z z _ h) (pI_map _)).trans f)
  rw [seq_nx e1, seq_nx e2]
  have m : ∀ x : Int, mulOk x 65536 = true := fun x => mulOk_r (by omega) (by omega)
  simp [vmul _ _ _ (m _), sumO, sumP]
theorem oc8.app {a b : List Int} (x : oc8 a) (y : oc8 b) : oc8 (a ++ b) := fun z hz => (List.mem_append.mp hz).elim (x z) (y z)
end K01

set_option Elab.async false
set_option linter.all false
set_option maxRecDepth 100000
set_option maxHeartbeats 1000000
namespace K01
open PySem PySem.Spec PyProof.Rows L2 Mi
/-! ## framed -/
theorem tail4_oc (s : Int) : oc8 (tail4 s) := tail4_mem s
abbrev bF : MS := mSeq (mAsg (mBin opAdd (mLst (aCons (mBin opMod (mV 1) (mK (.d (.int 256)))) aNil)) (mV 2)) (gN 2)) (mAug 1 opDiv (mK (.d (.int 256))))
theorem bF_eq (a : Option PV) (s : Int) (tl : List Int) (v : Option PV) (h : Cells) (q : tl.length ≤ 100) : bF [a, some (pI s), some (pL (pIs tl)), v] h = .nx [a, some (pI (s / 256)), some (pL (pIs (s % 256 :: tl))), v] h := by
  have e : mkL [pI (s % 256)] = pL (pIs [s % 256]) := rfl
  unfold bF
  rw [seq_nx (e1 := [a, some (pI s), some (pL (pIs (s % 256 :: tl))), v]) (h1 := h)]
  · simp [vdiv]
  · simp only [mAsg_eq, mBin_eq, mLst_eq, aCons_eq, mV_1, mK_eq, bind_ok, aNil_eq, vmod _ _ _ (show (0 : Int) < 256 by omega), List.length_cons, List.length_nil, sz 1 (by omega), mV_2, e, Nat.zero_add, if_true]
    rw [add_pL _ _ _ (sz _ (by simp; omega))]
    rfl
theorem s_no' (n : Nat) (hc : Cells) (w : wfB hc = true) (h1 : n ≤ 1000000) : r_number_octets [nI n] hc = .ok (pT (pIs (octs n))) hc := s_no n hc w (by omega) (by omega)
theorem octs_len' (n : Nat) (h : n ≤ 1000000) : (octs n).length ≤ 7 := (octs_len n (by omega) (by omega)).2
theorem s_framed (l : List Int) (o : oc8 l) (h : Cells) (w : wfB h = true) (q : l.length ≤ 1000) : r_framed [pT (pIs l)] h = .ok (pT (pIs (frame l))) h := by
  refine trim_same (runF_rt ?_) rfl
  unfold m_framed
  simp only [List.map_cons, List.map_nil, List.length_cons, List.length_nil, Nat.reduceAdd, Nat.reduceSub, List.replicate, List.cons_append, List.nil_append]
  have hs : r_sum_of [pT (pIs l)] h = .ok (pI (sumO l)) h := s_sum true l o h
  have e1 : mAsg (mCallD r_sum_of [] (aCons (mV 0) aNil)) (gN 1) [some (pT (pIs l)), none, none, none] h = .nx [some (pT (pIs l)), some (pI (sumO l)), none, none] h := by simp [hs]
  have e2 : mAsg (mLst aNil) (gN 2) [some (pT (pIs l)), some (pI (sumO l)), none, none] h = .nx [some (pT (pIs l)), some (pI (sumO l)), some (pL (pIs [])), none] h := by simp [sz, mkL, allD]
  have e3 : mFor (iRange1 (aCons (mK (.d (.int 4))) aNil)) (gN 3) bF [some (pT (pIs l)), some (pI (sumO l)), some (pL (pIs [])), none] h = .nx [some (pT (pIs l)), some (pI (sumO l / 256 / 256 / 256 / 256)), some (pL (pIs (tail4 (sumO l)))), some (pI 3)] h := by
    have r : iRange1 (aCons (mK (.d (.int 4))) aNil) [some (pT (pIs l)), some (pI (sumO l)), some (pL (pIs [])), none] h = .ok ([pI 0, pI 1, pI 2, pI 3], none) h := rfl
    rw [mFor_eq r]
    simp only [forL_cons, gN_eq, List.set_cons_succ, List.set_cons_zero, bF_eq _ _ _ _ _ (show ([] : List Int).length ≤ 100 by simp)]
    rw [bF_eq _ _ _ _ _ (by simp)]
    simp only [List.set_cons_succ, List.set_cons_zero]
    rw [bF_eq _ _ _ _ _ (by simp)]
    simp only [List.set_cons_succ, List.set_cons_zero]
    rw [bF_eq _ _ _ _ _ (by simp)]
    have : [sumO l / 256 / 256 / 256 % 256, sumO l / 256 / 256 % 256, sumO l / 256 % 256, sumO l % 256] = tail4 (sumO l) := by
      simp only [tail4, List.cons.injEq, and_true]; omega
    simp only [this, forL_nil]
  rw [seq_nx e1, seq_nx e2, seq_nx e3]
  have a := octs_len' l.length (by omega)
  simp only [mRet_eq, mBin_eq, mCallD_eq, mCall_eq, aCons_eq, mV_0, bind_ok, aNil_eq, len_pT, List.length_map, List.append_nil, s_no' l.length h w (by omega), tuple_pT, mV_2, tuple_pL]
  rw [add_pT _ _ _ (sz _ (by simp; omega))]
  simp only [bind_ok, toS_ok]
  rw [add_pT _ _ _ (sz _ (by simp [tail4]; omega))]
  simp [frame]
/-! ## read_frame -/
theorem fB_eq (a b c d e : Option PV) (h : Cells) (all : List PV) : ∀ (l : List Int) (F : Int) (v : Option PV), oc8 l → ∃ v', forL (gN 6) (mAsg (mBin opAdd (mBin opMul (mV 5) (mK (.d (.int 256)))) (mV 6)) (gN 5)) none all (l.map pI) [a, b, c, d, e, some (pI F), v] h = .nx [a, b, c, d, e, some (pI (l.foldl (fun w x => w * 256 + x) F)), v'] h
  | [], F, v, _ => ⟨v, rfl⟩
  | x :: r, F, v, o => by
    obtain ⟨v', ih⟩ := fB_eq a b c d e h all r (F * 256 + x) (some (pI x)) (fun y hy => o y (by simp [hy]))
    refine ⟨v', ?_⟩
    rw [List.map_cons, forL_cons]
    have m : mulOk F 256 = true := mulOk_r (by omega) (by omega)
    have s : mAsg (mBin opAdd (mBin opMul (mV 5) (mK (.d (.int 256)))) (mV 6)) (gN 5) [a, b, c, d, e, some (pI F), some (pI x)] h = .nx [a, b, c, d, e, some (pI (F * 256 + x)), some (pI x)] h := by
      simp [vmul _ _ _ m]
    simp only [gN_eq, List.set_cons_succ, List.set_cons_zero]
    rw [s]
    simp only
    rw [ih]
    rfl
def rfO (h : Cells) : Option (List Int × Nat) → Out PV
  | some (x, q) => .ok (pT [.tuple (pIs x), .int q]) h
  | none => .ok pN h
theorem rdO_get {h : Cells} {l : List Int} {p : Nat} (t : Bool) (o : oc8 l) {k q : Nat} (e : rdN l p = some ((k : Int), q)) : r_read_number [oI t l, nI p] h = .ok (pT [.int k, .int q]) h := by rw [s_rd t l o p h, e]; rfl
theorem sl_oI (t : Bool) (l : List Int) (a b : Nat) (h : Cells) : opSl (oI t l) (some (a : Int)) (some (b : Int)) h = .ok (oI t ((l.drop a).take (b - a))) h := by
  rw [sl_pQ, cut_nn]; simp only [oI, pIs, List.map_take, List.map_drop]
theorem s_rf (t : Bool) (l : List Int) (o : oc8 l) (p : Nat) (h : Cells) : r_read_frame [oI t l, nI p] h = rfO h (rdF l p) := by
  suffices E : ∃ v, rfO h (rdF l p) = .ok v h ∧ m_read_frame r_is_number_cut r_read_number r_sum_of [some (oI t l), some (nI p), none, none, none, none, none] h = .rt v h by
    obtain ⟨v, e1, e2⟩ := E
    rw [e1]
    exact trim_same (runF_rt e2) rfl
  unfold m_read_frame rdF
  have c1 : ∀ E : Sl, mTb (mCallD r_is_number_cut [] (aCons (mV 0) (aCons (mV 1) aNil))) (some (oI t l) :: some (nI p) :: E) h = .ok (rdN l p).isNone h := fun E => by simp [s_cut t l o p h]
  cases hr : rdN l p with
  | none =>
    refine ⟨pN, rfl, ?_⟩
    rw [seq_rt ((if_yes (h1 := h) ((c1 _).trans (by rw [hr]; rfl))).trans (ret_K _ _ _))]
  | some mq =>
    obtain ⟨m, q⟩ := mq
    obtain ⟨m0, m1, m2, m3, m4⟩ := rdN_some o hr
    obtain ⟨k, rfl⟩ : ∃ k : Nat, m = k := ⟨m.toNat, by omega⟩
    rw [seq_nx (if_no (h1 := h) ((c1 _).trans (by rw [hr]; rfl)))]
    have e2 : mAsg (mCallD r_read_number [] (aCons (mV 0) (aCons (mV 1) aNil))) (gTp 2 (gsCons (gN 2) (gsCons (gN 1) gsNil))) [some (oI t l), some (nI p), none, none, none, none, none] h = .nx [some (oI t l), some (nI q), some (nI k), none, none, none, none] h := by
      simp [rdO_get t o hr, gTp, asT]
    rw [seq_nx e2]
    simp only [Int.toNat_natCast]
    generalize hA : (l.drop q).take k = A
    generalize hB : (l.drop (q + k)).take 4 = B
    have sl1 := sl_oI t l q (q + k) h
    have sl2 := sl_oI t l (q + k) (q + k + 4) h
    rw [show q + k - q = k by omega, hA] at sl1
    rw [show q + k + 4 - (q + k) = 4 by omega, hB] at sl2
    have oA : oc8 A := hA ▸ (o.drop q).take k
    have oB : oc8 B := hB ▸ (o.drop _).take 4
    have e3 : mPar 3 4 (aCons (mCall biTuple (aCons (mSl (mV 0) (oSo (mV 1)) (oSo (mBin opAdd (mV 1) (mV 2)))) aNil)) (aCons (mSl (mV 0) (oSo (mBin opAdd (mV 1) (mV 2))) (oSo (mBin opAdd (mBin opAdd (mV 1) (mV 2)) (mK (.d (.int 4)))))) aNil)) [some (oI t l), some (nI q), some (nI k), none, none, none, none] h = .nx [some (oI t l), some (nI q), some (nI k), some (pT (pIs A)), some (oI t B), none, none] h := by
      simp only [mPar_eq, aCons_eq, mCall_eq, mSl_eq, mV_0, mV_1, mV_2, oSo_eq, mBin_eq, bind_ok, vadd, mK_eq, aNil_eq]
      rw [show ((q : Int) + (k : Nat)) = ((q + k : Nat) : Int) by omega, show (((q + k : Nat) : Int) + 4) = ((q + k + 4 : Nat) : Int) by omega, sl1]
      simp only [bind_ok, tuple_pQ]
      rw [sl2]
      simp
    rw [seq_nx e3]
    have c4 : mOr (mTb (mBin oLt (mCall biLen (aCons (mV 3) aNil)) (mV 2))) (mTb (mBin oLt (mCall biLen (aCons (mV 4) aNil)) (mK (.d (.int 4))))) [some (oI t l), some (nI q), some (nI k), some (pT (pIs A)), some (oI t B), none, none] h = .ok (decide (A.length < k ∨ B.length < 4)) h := by
      simp only [mOr_eq, mTb_eq, mBin_eq, mCall_eq, aCons_eq, mV_3, mV_2, mV_4, bind_ok, aNil_eq, len_pT, List.length_map, vlt, len_oI, mK_eq]
      by_cases x1 : A.length < k
      · simp [x1]
      · simp [x1]; omega
    by_cases h1 : A.length < k ∨ B.length < 4
    · rw [if_pos h1]
      refine ⟨pN, rfl, ?_⟩
      rw [seq_rt ((if_yes (h1 := h) (c4.trans (by simp [h1]))).trans (ret_K _ _ _))]
    · rw [if_neg h1]
      rw [seq_nx (if_no (h1 := h) (c4.trans (by simp [h1])))]
      have e5 : mAsg (mK (.d (.int 0))) (gN 5) [some (oI t l), some (nI q), some (nI k), some (pT (pIs A)), some (oI t B), none, none] h = .nx [some (oI t l), some (nI q), some (nI k), some (pT (pIs A)), some (oI t B), some (pI 0), none] h := by simp
      obtain ⟨v', f⟩ := fB_eq (some (oI t l)) (some (nI q)) (some (nI k)) (some (pT (pIs A))) (some (oI t B)) h (B.map pI) B 0 none oB
      have e6 := (mFor_eq (g := gN 6) (b := mAsg (mBin opAdd (mBin opMul (mV 5) (mK (.d (.int 256)))) (mV 6)) (gN 5)) (any_pQ (f := mV 4) (e := [some (oI t l), some (nI q), some (nI k), some (pT (pIs A)), some (oI t B), some (pI 0), none]) (h := h) rfl)).trans ((congrArg (fun z => forL (gN 6) _ none z z _ h) (pI_map _)).trans f)
      rw [seq_nx e5, seq_nx e6]
      have hs : r_sum_of [pT (pIs A)] h = .ok (pI (sumO A)) h := s_sum true A oA h
      change ∃ v, _ ∧ mRet _ [_, _, _, _, _, some (pI (be B)), _] h = _
      by_cases h2 : be B = sumO A
      · refine ⟨pT [.tuple (pIs A), .int (q + k + 4 : Nat)], by rw [if_pos h2]; rfl, ?_⟩
        simp [hs, h2, sz, mkT, allD]
      · refine ⟨pN, by rw [if_neg h2]; rfl, ?_⟩
        simp [hs, h2]
/-! ## texts -/
abbrev SG : Str := " !#,-./0123456789:;=?ABCDEFGHIJKLMNOPQRSTUVWXYZ_abcdefghijklmnopqrstuvwxyz"
def sg (i : Nat) : Nat := SG.cps.toList.getD i 0
def tx (is : List Nat) : Str := ⟨(is.map sg).toArray⟩
def one (i : Nat) : Str := ⟨#[sg i]⟩
def sgs (is : List Nat) : List Int := is.map fun i : Nat => (i : Int) + 1
def txOk (is : List Nat) : Prop := is.length ≤ 100 ∧ ∀ i ∈ is, i < 74
theorem SG_len : SG.cps.toList.length = 74 := by decide +kernel
theorem SG_size : SG.length = 74 := SG_len
theorem tx_len (is : List Nat) : (tx is).length = is.length := by simp [tx, Str.length]
theorem tx_cps (is : List Nat) : (tx is).cps.toList = is.map sg := by simp [tx]
theorem sgs_len (is : List Nat) : (sgs is).length = is.length := by simp [sgs]
theorem sgs_mem {is : List Nat} (k : txOk is) : ∀ x ∈ sgs is, 1 ≤ x ∧ x ≤ 74 := by
  intro x hx
  simp only [sgs, List.mem_map] at hx
  obtain ⟨i, hi, rfl⟩ := hx
  have := k.2 i hi
  omega
theorem sgs_oc {is : List Nat} (k : txOk is) : oc8 (sgs is) := fun x hx => by have := sgs_mem k x hx; omega
theorem sg_mem (i : Nat) (h : i < 74) : sg i ∈ SG.cps.toList := by
  unfold sg
  rw [List.getD_eq_getElem?_getD, List.getElem?_eq_getElem (by rw [SG_len]; exact h)]
  exact List.getElem_mem _
theorem in_one (k : Bool) (i : Nat) (h : i < 74) (c : Cells) : opIn k (pS (one i)) (pS SG) c = .ok (pB k) c := by
  have : sg i ∈ SG.cps.toList := sg_mem i h
  simp [opIn, one, this]
theorem occ_one : ∀ i < 74, Builtin.Str.occurrences SG (one i) 0 SG.length 1 = [i] := by decide +kernel
theorem index_one (i : Nat) (h : i < 74) (c : Cells) : meIndexS (pS SG) [pS (one i)] c = .ok (nI i) c := by
  simp only [meIndexS, pS]; rw [occ_one i h]
theorem tx_walk (is : List Nat) : ((tx is).cps.toList.map fun c => pS ⟨#[c]⟩) = is.map fun i => pS (one i) := by
  rw [tx_cps, List.map_map]; rfl
theorem s_to (is : List Nat) (k : txOk is) (h : Cells) (w : wfB h = true) : r_text_octets [pS (tx is)] h = .ok (pT (pIs (octs is.length ++ sgs is))) h := by
  refine trim_same (runF_rt ?_) rfl
  unfold m_text_octets
  simp only [List.map_cons, List.map_nil, List.length_cons, List.length_nil, Nat.reduceAdd, Nat.reduceSub, List.replicate, List.cons_append, List.nil_append]
  have it : iAny (mV 0) [some (pS (tx is)), none] h = .ok (is.map (fun i => pS (one i)), none) h := by rw [any_str (x := tx is) rfl, tx_walk]
  have g1 := gen_pure (g := gN 1) (fe := mBin (opIn false) (mV 1) (mK (pS SG))) (all := is.map (fun i => pS (one i))) (e := [some (pS (tx is)), none]) (h := h) (fun i => pS (one i)) (fun _ => pB false) is (fun i hi => ⟨_, rfl, by
    simp [in_one false i (k.2 i hi)]⟩)
  have g2 := gen_pure (g := gN 1) (fe := mBin opAdd (mMeth tyS meIndexS (mK (pS SG)) (aCons (mV 1) aNil)) (mK (.d (.int 1)))) (all := is.map (fun i => pS (one i))) (e := [some (pS (tx is)), none]) (h := h) (fun i => pS (one i)) (fun i => pI ((i : Int) + 1)) is (fun i hi => ⟨_, rfl, by
    simp [index_one i (k.2 i hi), tyS]⟩)
  have c1 := (mGen_eq (own := [1]) (c := cAny) it g1).trans (cAny_pure (fun _ => false) is h)
  have ha : (is.any fun _ => false) = false := by simp
  rw [ha] at c1
  have c2 := mGen_eq (own := [1]) (c := cTup) it g2
  rw [seq_nx (if_no (h1 := h) (by rw [mTb_eq, c1]; rfl))]
  have a := octs_len' is.length (by have := k.1; omega)
  have b := k.1
  have c3 : cTup (is.map fun i : Nat => (pI ((i : Int) + 1), h)) h = .ok (pT (pIs (sgs is))) h := by
    unfold cTup
    rw [if_pos (sz _ (by simp; omega))]
    have : ((is.map fun i : Nat => (pI ((i : Int) + 1), h)).map (·.1)) = (pIs (sgs is)).map .d := by simp [sgs]
    rw [this, mkT_map]
  rw [c3] at c2
  simp only [mRet_eq, mBin_eq, mCallD_eq, mCall_eq, aCons_eq, mV_0, bind_ok, aNil_eq, len_str (tx is) h (sz _ (by rw [tx_len]; omega)), tx_len, List.append_nil, s_no' is.length h w (by omega)]
  rw [c2]
  simp only [bind_ok]
  rw [add_pT _ _ _ (sz _ (by simp [sgs]; omega))]
  simp
/-- a sign at its place -/
theorem SG_at (i : Nat) (h : i < 74) (c : Cells) : opIx (pS SG) (nI i) c = .ok (pS (one i)) c := by
  have e : atI SG.cps.toList (i : Int) = some (sg i) := by
    rw [Mi.atI_nat]; unfold sg; rw [List.getD_eq_getElem?_getD, List.getElem?_eq_getElem (by rw [SG_len]; exact h)]; rfl
  have l : SG.length ≤ sizeLine := sz _ (by rw [SG_size]; omega)
  simp only [opIx, l, if_true, e, one]
theorem asStrs_map (l : List Str) : asStrs (l.map pS) = some l := by
  induction l with
  | nil => rfl
  | cons x r ih => simp [asStrs, ih]
end K01

set_option Elab.async false
set_option linter.all false
set_option maxRecDepth 100000
set_option maxHeartbeats 1000000
namespace K01
open PySem PySem.Spec PyProof.Rows L2 Mi
/-! ## read_text -/
theorem join_one (is : List Nat) : Str.join "" (is.map one) = tx is := by
  apply PySem.W.str_of_cps
  rw [tx_cps]
  show TL.tl (Str.join "" (is.map one)) = is.map sg
  have e : TL.tl "" = [] := by decide +kernel
  rw [TL.tl_join, e]
  induction is with
  | nil => rfl
  | cons i r ih =>
    cases r with
    | nil => rfl
    | cons j r => 
      simp only [List.map_cons] at ih ⊢
      simp only [TL.joinL]
      rw [ih]
      rfl
theorem meJoin_one (is : List Nat) (k : txOk is) (h : Cells) : meJoin (pS "") [pL ((is.map one).map .str)] h = .ok (pS (tx is)) h := by
  have e : asS (pL ((is.map one).map .str)) h = some ((is.map one).map pS) := by simp [asS]
  have l0 : ((is.map one).map (·.length)).sum = is.length := by
    clear e k
    induction is with
    | nil => rfl
    | cons i r ih => simp only [List.map_cons, List.sum_cons, ih, List.length_cons]; have : (one i).length = 1 := rfl; omega
  have l1 : ("" : Str).length = 0 := by decide +kernel
  simp only [meJoin, pS, e, asStrs_map, l0, l1, Nat.mul_zero, Nat.add_zero]
  rw [if_pos (by have := k.1; omega), join_one]
theorem lay_one (is : List Nat) (k : txOk is) : PyData.strOk (tx is) = true := by
  have lt : ∀ i < 74, sg i < 0x110000 := by decide +kernel
  unfold PyData.strOk
  rw [Array.all_eq_true']
  intro c hc
  have : c ∈ (tx is).cps.toList := by simpa using hc
  rw [tx_cps] at this
  obtain ⟨i, hi, rfl⟩ := List.mem_map.mp this
  have := k.2 i hi
  simpa using lt i this
theorem SG_l (h : Cells) : biLen [pS SG] h = .ok (pI 74) h := by rw [len_str _ _ (sz _ (by rw [SG_size]; omega)), SG_size]; rfl
theorem s_rt (t : Bool) (l : List Int) (o : oc8 l) (p : Nat) (is : List Nat) (k : txOk is) (q : Nat) (h : Cells) (e : rdN l p = some ((is.length : Int), q)) (f : (l.drop q).take is.length = sgs is) : r_read_text [oI t l, nI p] h = .ok (pT [.str (tx is), .int (q + is.length : Nat)]) h := by
  refine trim_same (runF_rt ?_) rfl
  unfold m_read_text
  simp only [List.map_cons, List.map_nil, List.length_cons, List.length_nil, Nat.reduceAdd, Nat.reduceSub, List.replicate, List.cons_append, List.nil_append]
  have e1 : mAsg (mCallD r_read_number [] (aCons (mV 0) (aCons (mV 1) aNil))) (gTp 2 (gsCons (gN 2) (gsCons (gN 1) gsNil))) [some (oI t l), some (nI p), none, none, none] h = .nx [some (oI t l), some (nI q), some (nI is.length), none, none] h := by
    simp [rdO_get t o e, gTp, asT]
  have sl1 := sl_oI t l q (q + is.length) h
  rw [show q + is.length - q = is.length by omega, f] at sl1
  have e2 : mAsg (mSl (mV 0) (oSo (mV 1)) (oSo (mBin opAdd (mV 1) (mV 2)))) (gN 3) [some (oI t l), some (nI q), some (nI is.length), none, none] h = .nx [some (oI t l), some (nI q), some (nI is.length), some (oI t (sgs is)), none] h := by
    simp only [mAsg_eq, mSl_eq, mV_0, mV_1, mV_2, oSo_eq, mBin_eq, bind_ok, vadd]
    rw [show ((q : Int) + (is.length : Nat)) = ((q + is.length : Nat) : Int) by omega, sl1]
    simp
  rw [seq_nx e1, seq_nx e2]
  have it : iAny (mV 3) [some (oI t l), some (nI q), some (nI is.length), some (oI t (sgs is)), none] h = .ok (is.map (fun i : Nat => pI ((i : Int) + 1)), none) h := by
    rw [any_pQ (t := t) (ds := pIs (sgs is)) rfl, pI_map]; simp [sgs]
  have g1 := gen_pure (g := gN 4) (fe := mNotV (mChain oLe oLe (mK (.d (.int 1))) (mV 4) (mCall biLen (aCons (mK (.d (.str SG))) aNil)))) (all := is.map (fun i : Nat => pI ((i : Int) + 1))) (e := [some (oI t l), some (nI q), some (nI is.length), some (oI t (sgs is)), none]) (h := h) (fun i : Nat => pI ((i : Int) + 1)) (fun _ => pB false) is (fun i hi => ⟨_, rfl, by
    have b1 : (1 : Int) ≤ (i : Int) + 1 := by omega
    have b2 : (i : Int) + 1 ≤ 74 := by have := k.2 i hi; omega
    simp [SG_l, b1, b2]⟩)
  have c1 := (mGen_eq (own := [4]) (c := cAny) it g1).trans (cAny_pure (fun _ => false) is h)
  have ha : (is.any fun _ => false) = false := by simp
  rw [ha] at c1
  have c0 : mTb (mBin oLt (mCall biLen (aCons (mV 3) aNil)) (mV 2)) [some (oI t l), some (nI q), some (nI is.length), some (oI t (sgs is)), none] h = .ok false h := by simp [len_oI, sgs_len]
  have c0' := congrArg (fun o : Out PV => o.bind fun v h1 => match v with
    | .d (.bool b) => Out.ok b h1
    | _ => .bad) c1
  rw [seq_nx (if_no (h1 := h) (by rw [mOr_eq, c0]; exact c0'))]
  have kl := k.1
  have lc := lc_all (g := gN 4) (fe := mBin opIx (mK (.d (.str SG))) (mBin opSub (mV 4) (mK (.d (.int 1))))) (all := is.map (fun i : Nat => pI ((i : Int) + 1))) (e := [some (oI t l), some (nI q), some (nI is.length), some (oI t (sgs is)), none]) (h := h) (fun i : Nat => pI ((i : Int) + 1)) (fun i => pS (one i)) is [] (fun i hi => ⟨_, rfl, by
    simp [SG_at i (k.2 i hi)]⟩) (sz _ (by simp; omega))
  have c2 := (mLc_eq (vs := [4]) it).trans lc
  have e3 : mkL ([] ++ is.map fun i => pS (one i)) = pL ((is.map one).map .str) := by
    have : (is.map fun i => pS (one i)) = ((is.map one).map PyData.str).map .d := by simp [List.map_map, Function.comp_def]
    rw [List.nil_append, this, mkL_map]
  rw [e3] at c2
  simp only [mRet_eq, mTup_eq, aCons_eq, mMeth_eq, mK_eq, bind_ok, tyS, if_true, c2, aNil_eq, meJoin_one is k, mBin_eq, mV_1, mV_2, vadd, List.length_cons, List.length_nil, Nat.zero_add, Nat.reduceAdd, sz 2 (by omega), toS_ok]
  rfl
/-! ## rows -/
def rowOk (rows : List (List Nat)) : Prop := rows.length ≤ 100 ∧ ∀ r ∈ rows, txOk r
def txs (rows : List (List Nat)) : List PyData := rows.map fun is => .str (tx is)
def coded (is : List Nat) : List Int := octs is.length ++ sgs is
def rowF (rows : List (List Nat)) : List Int := octs rows.length ++ rows.flatMap coded
theorem coded_len {is : List Nat} (k : txOk is) : (coded is).length ≤ 107 := by
  have := octs_len' is.length (by have := k.1; omega)
  have := k.1
  simp [coded, sgs]; omega
theorem coded_oc {is : List Nat} (k : txOk is) : oc8 (coded is) := oc8.app (octs_mem _ (by omega) (by have := k.1; omega)) (sgs_oc k)
theorem flat_len : ∀ (rows : List (List Nat)), (∀ r ∈ rows, txOk r) → (rows.flatMap coded).length ≤ 107 * rows.length
  | [], _ => by simp
  | r :: rows, h => by
    have := flat_len rows (fun x hx => h x (by simp [hx]))
    have := coded_len (h r (by simp))
    simp only [List.flatMap_cons, List.length_append, List.length_cons]; omega
theorem flat_oc : ∀ (rows : List (List Nat)), (∀ r ∈ rows, txOk r) → oc8 (rows.flatMap coded)
  | [], _ => by intro x hx; simp at hx
  | r :: rows, h => by
    rw [List.flatMap_cons]
    exact oc8.app (coded_oc (h r (by simp))) (flat_oc rows (fun x hx => h x (by simp [hx])))
theorem rowF_oc {rows : List (List Nat)} (k : rowOk rows) : oc8 (rowF rows) := oc8.app (octs_mem _ (by omega) (by have := k.1; omega)) (flat_oc rows k.2)
theorem fRow_eq (a : Option PV) (h : Cells) (w : wfB h = true) (all : List PV) : ∀ (rows : List (List Nat)) (acc : List Int) (v : Option PV), (∀ r ∈ rows, txOk r) → acc.length + 107 * rows.length ≤ 100000 →
    ∃ v', forL (gN 2) (mAug 1 iadd (mCallD r_text_octets [] (aCons (mV 2) aNil))) none all ((txs rows).map .d) [a, some (pT (pIs acc)), v] h = .nx [a, some (pT (pIs (acc ++ rows.flatMap coded))), v'] h
  | [], acc, v, _, _ => ⟨v, by simp [txs]⟩
  | r :: rows, acc, v, k, b => by
    have kr := k r (by simp)
    have cl := coded_len kr
    simp only [List.length_cons] at b
    obtain ⟨v', ih⟩ := fRow_eq a h w all rows (acc ++ coded r) (some (pS (tx r))) (fun x hx => k x (by simp [hx])) (by simp; omega)
    refine ⟨v', ?_⟩
    have s : mAug 1 iadd (mCallD r_text_octets [] (aCons (mV 2) aNil)) [a, some (pT (pIs acc)), some (pS (tx r))] h = .nx [a, some (pT (pIs (acc ++ coded r))), some (pS (tx r))] h := by
      simp only [mAug_1, mCallD_eq, aCons_eq, mV_2, bind_ok, aNil_eq, List.append_nil, s_to r kr h w, toS_ok]
      rw [iadd_pT _ _ _ (sz _ (by simp only [List.length_map]; unfold coded at cl; omega))]
      simp [coded]
    show forL _ _ none all (pS (tx r) :: (txs rows).map .d) _ h = _
    rw [forL_cons]
    simp only [gN_eq, List.set_cons_succ, List.set_cons_zero]
    rw [s]
    simp only
    rw [ih]
    simp
theorem s_ro (t : Bool) (rows : List (List Nat)) (k : rowOk rows) (h : Cells) (w : wfB h = true) : r_row_octets [pQ t (txs rows)] h = .ok (pT (pIs (rowF rows))) h := by
  refine trim_same (runF_rt ?_) rfl
  unfold m_row_octets
  simp only [List.map_cons, List.map_nil, List.length_cons, List.length_nil, Nat.reduceAdd, Nat.reduceSub, List.replicate, List.cons_append, List.nil_append]
  have kl := k.1
  have e1 : mAsg (mCallD r_number_octets [] (aCons (mCall biLen (aCons (mV 0) aNil)) aNil)) (gN 1) [some (pQ t (txs rows)), none, none] h = .nx [some (pQ t (txs rows)), some (pT (pIs (octs rows.length))), none] h := by
    have : (txs rows).length = rows.length := by simp [txs]
    simp [len_pQ, this, s_no' rows.length h w (by omega)]
  have ol := octs_len' rows.length (by omega)
  obtain ⟨v', f⟩ := fRow_eq (some (pQ t (txs rows))) h w ((txs rows).map .d) rows (octs rows.length) none k.2 (by omega)
  have e2 := (mFor_eq (g := gN 2) (b := mAug 1 iadd (mCallD r_text_octets [] (aCons (mV 2) aNil))) (any_pQ (t := t) (f := mV 0) (e := [some (pQ t (txs rows)), some (pT (pIs (octs rows.length))), none]) (h := h) rfl)).trans f
  rw [seq_nx e1, seq_nx e2]
  simp [rowF]
/-! ### read_row -/
abbrev bRR : MS := mSeq (mAsg (mCallD r_read_text [] (aCons (mV 0) (aCons (mV 1) aNil))) (gTp 2 (gsCons (gN 5) (gsCons (gN 1) gsNil)))) (mExp (mMeth tyL meAppend (mV 3) (aCons (mV 5) aNil)))
theorem fRR_eq (t : Bool) (l : List Int) (o : oc8 l) (c : Option PV) (hc : Cells) (all : List PV) : ∀ (rows : List (List Nat)) (xs : List PV) (p : Nat) (acc : List PyData) (v u : Option PV) (post : List Int), (∀ r ∈ rows, txOk r) → l.drop p = rows.flatMap coded ++ post → p ≤ l.length → xs.length = rows.length → acc.length + rows.length ≤ 1000 →
    ∃ v' u', forL (gN 4) bRR none all xs [some (oI t l), some (nI p), c, some (.r hc.length), v, u] (hc ++ [.lst (acc.map .d)]) = .nx [some (oI t l), some (nI (p + (rows.flatMap coded).length)), c, some (.r hc.length), v', u'] (hc ++ [.lst ((acc ++ txs rows).map .d)])
  | [], xs, p, acc, v, u, post, _, _, _, hx, _ => by
    have : xs = [] := List.length_eq_zero_iff.mp (by simpa using hx)
    subst this
    exact ⟨v, u, by simp [txs]⟩
  | r :: rows, [], _, _, _, _, _, _, _, _, hx, _ => by simp at hx
  | r :: rows, x :: xs, p, acc, v, u, post, k, hd, hp, hx, hs => by
    have kr := k r (by simp)
    have cl := coded_len kr
    have rl := kr.1
    have ol := octs_len r.length (by omega) (by omega)
    have hd' : l.drop p = octs r.length ++ (sgs r ++ (rows.flatMap coded ++ post)) := by rw [hd]; simp [coded]
    have hl : l = l.take p ++ octs r.length ++ (sgs r ++ (rows.flatMap coded ++ post)) := by
      conv => lhs; rw [← List.take_append_drop p l, hd']
      rw [List.append_assoc]
    have hlen : (l.take p).length = p := by rw [List.length_take]; omega
    have e : rdN l p = some ((r.length : Int), p + (octs r.length).length) := by
      have := rdN_octs (l.take p) (sgs r ++ (rows.flatMap coded ++ post)) (r.length : Int) (by omega) (by omega)
      rw [← hl, hlen] at this
      exact this
    have f : (l.drop (p + (octs r.length).length)).take r.length = sgs r := by
      rw [← List.drop_drop, hd']
      simp only [List.drop_left]
      rw [List.take_append_of_le_length (by rw [sgs_len]; omega), List.take_of_length_le (by rw [sgs_len]; omega)]
    have R := s_rt t l o p r kr _ (hc ++ [.lst (acc.map .d)]) e f
    have cl2 : (coded r).length = (octs r.length).length + r.length := by simp [coded, sgs]
    have hn : l.drop (p + (coded r).length) = rows.flatMap coded ++ post := by
      rw [← List.drop_drop, hd]; simp
    have hle : p + (coded r).length ≤ l.length := by
      have := congrArg List.length hd
      simp only [List.length_drop, List.flatMap_cons, List.length_append] at this
      omega
    simp only [List.length_cons] at hx hs
    obtain ⟨v', u', ih⟩ := fRR_eq t l o c hc all rows xs (p + (coded r).length) (acc ++ [.str (tx r)]) (some x) (some (pS (tx r))) post (fun y hy => k y (by simp [hy])) hn hle (by omega) (by simp; omega)
    refine ⟨v', u', ?_⟩
    have b1 : mAsg (mCallD r_read_text [] (aCons (mV 0) (aCons (mV 1) aNil))) (gTp 2 (gsCons (gN 5) (gsCons (gN 1) gsNil))) [some (oI t l), some (nI p), c, some (.r hc.length), some x, u] (hc ++ [.lst (acc.map .d)]) =
        .nx [some (oI t l), some (nI (p + (coded r).length)), c, some (.r hc.length), some x, some (pS (tx r))] (hc ++ [.lst (acc.map .d)]) := by
      simp [R, gTp, asT, cl2, Nat.add_assoc]
    have b2 : mExp (mMeth tyL meAppend (mV 3) (aCons (mV 5) aNil)) [some (oI t l), some (nI (p + (coded r).length)), c, some (.r hc.length), some x, some (pS (tx r))] (hc ++ [.lst (acc.map .d)]) =
        .nx [some (oI t l), some (nI (p + (coded r).length)), c, some (.r hc.length), some x, some (pS (tx r))] (hc ++ [.lst ((acc ++ [PyData.str (tx r)]).map PV.d)]) := by
      have : acc.length < sizeLine := Nat.lt_of_lt_of_le (show acc.length < 1000 by omega) (by decide)
      simp [tyL, asL, meAppend, this]
    rw [forL_cons]
    simp only [gN_eq, List.set_cons_succ, List.set_cons_zero]
    rw [show bRR = mSeq _ _ from rfl, seq_nx b1, b2]
    simp only
    rw [ih]
    simp [txs, Nat.add_assoc]
theorem smallR_nat (n : Nat) (h : n ≤ 1000000) : smallR (n : Int) = true := by
  unfold smallR
  have a : (-(2 ^ 62) : Int) ≤ n := Int.le_trans (by decide) (Int.natCast_nonneg n)
  have b : (n : Int) < 2 ^ 62 := Int.lt_of_le_of_lt (show (n : Int) ≤ 1000000 by omega) (by decide)
  rw [decide_eq_true a, decide_eq_true b]; rfl
theorem range1_go {g : ME (List PV)} {e : Sl} {h h1 : Cells} (j : Int) (q : g e h = .ok [pI j] h1) : iRange1 g e h = if smallR j then .ok (rngL 0 j.toNat, none) h1 else .bad := by
  unfold iRange1
  rw [q]
  rfl
theorem range1_nat {g : ME (List PV)} {e : Sl} {h h1 : Cells} {n : Nat} (q : g e h = .ok [nI n] h1) (b : n ≤ 1000000) : iRange1 g e h = .ok (rngL 0 n, none) h1 := by
  rw [range1_go _ q, if_pos (smallR_nat n b), Int.toNat_natCast]
theorem tuple_cell {n : Nat} {h : Cells} {ds : List PyData} (q : h[n]? = some (.lst (ds.map .d))) : biTuple [.r n] h = .ok (pT ds) h := by
  simp only [biTuple, asL, q, mkT_map]
theorem mkT_2 (a b : PyData) : mkT [.d a, .d b] = pT [a, b] := rfl
theorem s_rr (t : Bool) (rows : List (List Nat)) (k : rowOk rows) (post : List Int) (po : oc8 post) (h : Cells) (w : wfB h = true) : r_read_row [oI t (rowF rows ++ post), nI 0] h = .ok (pT [.tuple (txs rows), .int ((rowF rows).length : Nat)]) h := by
  have o : oc8 (rowF rows ++ post) := oc8.app (rowF_oc k) po
  have kl := k.1
  have ol := octs_len rows.length (by omega) (by omega)
  have e : rdN (rowF rows ++ post) 0 = some ((rows.length : Int), (octs rows.length).length) := by
    have := rdN_octs [] (rows.flatMap coded ++ post) (rows.length : Int) (by omega) (by omega)
    simpa [rowF] using this
  refine trim_ok (g := [.lst ((txs rows).map .d)]) (runF_rt ?_) w rfl
  unfold m_read_row
  simp only [List.map_cons, List.map_nil, List.length_cons, List.length_nil, Nat.reduceAdd, Nat.reduceSub, List.replicate, List.cons_append, List.nil_append]
  have e1 : mAsg (mCallD r_read_number [] (aCons (mV 0) (aCons (mV 1) aNil))) (gTp 2 (gsCons (gN 2) (gsCons (gN 1) gsNil))) [some (oI t (rowF rows ++ post)), some (nI 0), none, none, none, none] h =
      .nx [some (oI t (rowF rows ++ post)), some (nI (octs rows.length).length), some (nI rows.length), none, none, none] h := by
    have := rdO_get (h := h) t o e
    simp [this, gTp, asT]
  have e2 : mAsg (mCell aNil) (gN 3) [some (oI t (rowF rows ++ post)), some (nI (octs rows.length).length), some (nI rows.length), none, none, none] h =
      .nx [some (oI t (rowF rows ++ post)), some (nI (octs rows.length).length), some (nI rows.length), some (.r h.length), none, none] (h ++ [.lst (([] : List PyData).map .d)]) := by simp
  have r : iRange1 (aCons (mV 2) aNil) [some (oI t (rowF rows ++ post)), some (nI (octs rows.length).length), some (nI rows.length), some (.r h.length), none, none] (h ++ [.lst (([] : List PyData).map .d)]) = .ok (rngL 0 rows.length, none) (h ++ [.lst (([] : List PyData).map .d)]) := by
    exact range1_nat (by simp) (by omega)
  obtain ⟨v', u', f⟩ := fRR_eq t (rowF rows ++ post) o (some (nI rows.length)) h (rngL 0 rows.length) rows (rngL 0 rows.length) (octs rows.length).length [] none none post k.2 (by simp [rowF]) (by simp [rowF]) (by simp [rngL]) (by simp; omega)
  have e3 := (mFor_eq (g := gN 4) (b := bRR) r).trans f
  rw [seq_nx e1, seq_nx e2, seq_nx e3]
  have : (octs rows.length).length + (rows.flatMap coded).length = (rowF rows).length := by simp [rowF]
  rw [this]
  have tc := tuple_cell (n := h.length) (h := h ++ [.lst ((txs rows).map .d)]) (ds := txs rows) at_end
  simp only [mRet_eq, mTup_eq, aCons_eq, mCall_eq, mV_3, mV_1, bind_ok, aNil_eq, List.nil_append, tc, List.length_cons, List.length_nil, Nat.zero_add, Nat.reduceAdd, sz 2 (by omega), if_true, mkT_2, toS_ok]
end K01

set_option Elab.async false
set_option linter.all false
set_option maxRecDepth 100000
set_option maxHeartbeats 1000000
namespace K01
open PySem PySem.Spec PyProof.Rows L2 Mi
mutual
theorem bd_mono {n m : Nat} (h : n ≤ m) : ∀ x : PV, x.bd n = true → x.bd m = true
  | .d _, _ => by simp [PV.bd]
  | .r k, q => by simp [PV.bd] at q ⊢; omega
  | .ls xs, q => by simp [PV.bd] at q ⊢; exact bds_mono h xs q
  | .tp xs, q => by simp [PV.bd] at q ⊢; exact bds_mono h xs q
  | .cl _, _ => by simp [PV.bd]
  | .sc _, _ => by simp [PV.bd]
theorem bds_mono {n m : Nat} (h : n ≤ m) : ∀ xs : List PV, bds n xs = true → bds m xs = true
  | [], _ => by simp [bds]
  | x :: r, q => by
    simp only [bds, Bool.and_eq_true] at q ⊢
    exact ⟨bd_mono h x q.1, bds_mono h r q.2⟩
end
theorem abd_mono {n m : Nat} (h : n ≤ m) (o : AO) (q : AO.bd n o = true) : AO.bd m o = true := by
  cases o with
  | lst xs => exact bds_mono h _ q
  | dk xs => exact bds_mono h _ q
  | dt xs => exact bds_mono h _ q
  | ins c xs => exact bds_mono h _ q
theorem wfB_snoc {h : Cells} (w : wfB h = true) (ds : List PyData) : wfB (h ++ [.lst (ds.map .d)]) = true := by
  unfold wfB
  rw [List.all_eq_true]
  intro o ho
  rcases List.mem_append.mp ho with q | q
  · exact abd_mono (by simp) o (wfB_all w o q)
  · simp only [List.mem_singleton] at q; subst q; exact bds_map _ ds
theorem iadd_cell {h : Cells} {xs ys : List PyData} (q : xs.length + ys.length ≤ sizeLine) : iadd (.r h.length) (pL ys) (h ++ [.lst (xs.map .d)]) = .ok (.r h.length) (h ++ [.lst ((xs ++ ys).map .d)]) := by
  have e : (h ++ [AO.lst (xs.map .d)])[h.length]? = some (.lst (xs.map .d)) := at_end
  have s : (h ++ [AO.lst (xs.map .d)]).set h.length (.lst ((xs ++ ys).map .d)) = h ++ [.lst ((xs ++ ys).map .d)] := set_end
  simp only [iadd, e, asL, List.length_map, q, if_true, ← List.map_append, s]
theorem app_cell {h : Cells} {xs : List PyData} {y : PyData} (q : xs.length < sizeLine) : meAppend (.r h.length) [.d y] (h ++ [.lst (xs.map .d)]) = .ok pN (h ++ [.lst ((xs ++ [y]).map .d)]) := by
  have e : (h ++ [AO.lst (xs.map .d)])[h.length]? = some (.lst (xs.map .d)) := at_end
  have s : (h ++ [AO.lst (xs.map .d)]).set h.length (.lst (xs.map .d ++ [.d y])) = h ++ [.lst (xs.map .d ++ [.d y])] := set_end
  simp only [meAppend, e, List.length_map, q, if_true, s, List.map_append, List.map_cons, List.map_nil]
theorem tyL_cell {h : Cells} {xs : List PV} : tyL (.r h.length) (h ++ [.lst xs]) = true := by simp [tyL, asL]
/-! ## keys -/
abbrev xK : ME PV := mBin opAdd (mCall biList (aCons (mSl (mCallD r_text_octets [] (aCons (mV 2) aNil)) (oSo (mCall biLen (aCons (mCallD r_number_octets [] (aCons (mCall biLen (aCons (mV 2) aNil)) aNil)) aNil))) oNo) aNil)) (mLst (aCons (mK (.d (.int 0))) aNil))
theorem xK_eq (a b : Option PV) (r : List Nat) (k : txOk r) (h : Cells) (w : wfB h = true) : xK [a, b, some (pS (tx r))] h = .ok (pL (pIs (sgs r ++ [0]))) h := by
  have kl := k.1
  have e1 : biLen [pS (tx r)] h = .ok (nI r.length) h := by rw [len_str (tx r) h (sz _ (by rw [tx_len]; omega)), tx_len]
  have e2 : cutL (pIs (octs r.length ++ sgs r)) (some ((octs r.length).length : Int)) none = pIs (sgs r) := by
    rw [cut_n, ← List.map_drop, List.drop_left]
  have e3 : mkL [pI 0] = pL (pIs [0]) := rfl
  simp only [xK, mBin_eq, mCall_eq, aCons_eq, mSl_eq, mCallD_eq, mV_2, bind_ok, aNil_eq, List.append_nil, s_to r k h w, oSo_eq, e1, s_no' r.length h w (by omega), len_pT, List.length_map, oNo_eq, sl_pT, e2, list_pT, mLst_eq, mK_eq, List.length_cons, List.length_nil, Nat.zero_add, sz 1 (by omega), if_true, e3]
  rw [add_pL _ _ _ (sz _ (by simp [sgs]; omega))]
  simp
theorem keyF_cons (r : List Int) (rows : List (List Int)) : keyF (r :: rows) = (r ++ [0]) ++ keyF rows := by simp [keyF]
theorem fK_eq (a : Option PV) (h : Cells) (w : wfB h = true) (all : List PV) : ∀ (rows : List (List Nat)) (acc : List Int) (v : Option PV), (∀ r ∈ rows, txOk r) → acc.length + 101 * rows.length ≤ 100000 →
    ∃ v', forL (gN 2) (mAug 1 iadd xK) none all ((txs rows).map .d) [a, some (.r h.length), v] (h ++ [.lst ((pIs acc).map .d)]) = .nx [a, some (.r h.length), v'] (h ++ [.lst ((pIs (acc ++ keyF (rows.map sgs))).map .d)])
  | [], acc, v, _, _ => ⟨v, by simp [txs, keyF]⟩
  | r :: rows, acc, v, k, b => by
    have kr := k r (by simp)
    have rl := kr.1
    simp only [List.length_cons] at b
    obtain ⟨v', ih⟩ := fK_eq a h w all rows (acc ++ (sgs r ++ [0])) (some (pS (tx r))) (fun x hx => k x (by simp [hx])) (by simp [sgs]; omega)
    refine ⟨v', ?_⟩
    have s : mAug 1 iadd xK [a, some (.r h.length), some (pS (tx r))] (h ++ [.lst ((pIs acc).map .d)]) = .nx [a, some (.r h.length), some (pS (tx r))] (h ++ [.lst ((pIs (acc ++ (sgs r ++ [0]))).map .d)]) := by
      rw [mAug_1, xK_eq _ _ r kr _ (wfB_snoc w _)]
      simp only [toS_ok]
      rw [iadd_cell (sz _ (by simp [sgs]; omega))]
      simp
    show forL _ _ none all (pS (tx r) :: (txs rows).map .d) _ _ = _
    rw [forL_cons]
    simp only [gN_eq, List.set_cons_succ, List.set_cons_zero]
    rw [s]
    simp only
    rw [ih, List.map_cons, keyF_cons, List.append_assoc]
theorem s_ko (t : Bool) (rows : List (List Nat)) (k : rowOk rows) (h : Cells) (w : wfB h = true) : r_key_octets [pQ t (txs rows)] h = .ok (pT (pIs (keyF (rows.map sgs)))) h := by
  obtain ⟨v', f⟩ := fK_eq (some (pQ t (txs rows))) h w ((txs rows).map .d) rows [] none k.2 (by have := k.1; simp; omega)
  refine trim_ok (g := [.lst ((pIs (keyF (rows.map sgs))).map .d)]) (runF_rt ?_) w rfl
  unfold m_key_octets
  simp only [List.map_cons, List.map_nil, List.length_cons, List.length_nil, Nat.reduceAdd, Nat.reduceSub, List.replicate, List.cons_append, List.nil_append]
  have e1 : mAsg (mCell aNil) (gN 1) [some (pQ t (txs rows)), none, none] h = .nx [some (pQ t (txs rows)), some (.r h.length), none] (h ++ [.lst ((pIs []).map .d)]) := by simp
  have e2 := (mFor_eq (g := gN 2) (b := mAug 1 iadd xK) (any_pQ (t := t) (f := mV 0) (e := [some (pQ t (txs rows)), some (.r h.length), none]) (h := h ++ [.lst ((pIs []).map .d)]) rfl)).trans f
  rw [seq_nx e1, seq_nx e2]
  have tc := tuple_cell (n := h.length) (h := h ++ [.lst ((pIs (keyF (rows.map sgs))).map .d)]) (ds := pIs (keyF (rows.map sgs))) at_end
  simp only [mRet_eq, mCall_eq, aCons_eq, mV_1, bind_ok, aNil_eq, tc, toS_ok, List.nil_append]
/-! ### read_key -/
abbrev bRK : MS := mIf (mTb (mBin (opEq true) (mV 3) (mK (.d (.int 0))))) (mSeq (mExp (mMeth tyL meAppend (mV 1) (aCons (mV 2) aNil))) (mAsg (mK (.d (.str ""))) (gN 2))) (mAug 2 iadd (mBin opIx (mK (.d (.str SG))) (mBin opSub (mV 3) (mK (.d (.int 1))))))
theorem tx_snoc (is : List Nat) (i : Nat) : tx is ++ one i = tx (is ++ [i]) := by
  apply PySem.W.str_of_cps
  show TL.tl (tx is ++ one i) = _
  rw [TL.tl_append, tx_cps]
  show (tx is).cps.toList ++ [sg i] = _
  rw [tx_cps]; simp
theorem tx_nil : tx [] = "" := by decide +kernel
theorem fRK_in (a : Option PV) (hc : Cells) (all rest : List PV) : ∀ (is pre : List Nat) (u : Option PV), (∀ i ∈ is, i < 74) → pre.length + is.length ≤ 1000 →
    ∃ u', forL (gN 3) bRK none all (((sgs is).map pI) ++ rest) [a, some (.r hc.length), some (pS (tx pre)), u] hc' = forL (gN 3) bRK none all rest [a, some (.r hc.length), some (pS (tx (pre ++ is))), u'] hc'
  | [], pre, u, _, _ => ⟨u, by simp [sgs]⟩
  | i :: is, pre, u, k, b => by
    simp only [List.length_cons] at b
    obtain ⟨u', ih⟩ := fRK_in (hc' := hc') a hc all rest is (pre ++ [i]) (some (pI ((i : Int) + 1))) (fun j hj => k j (by simp [hj])) (by simp; omega)
    refine ⟨u', ?_⟩
    have s : bRK [a, some (.r hc.length), some (pS (tx pre)), some (pI ((i : Int) + 1))] hc' = .nx [a, some (.r hc.length), some (pS (tx (pre ++ [i]))), some (pI ((i : Int) + 1))] hc' := by
      have n0 : (((i : Int) + 1) == 0) = false := by simp; omega
      have c : mTb (mBin (opEq true) (mV 3) (mK (.d (.int 0)))) [a, some (.r hc.length), some (pS (tx pre)), some (pI ((i : Int) + 1))] hc' = .ok false hc' := by
        simp only [mTb_eq, mBin_eq, mV_3, bind_ok, mK_eq, veq, if_true, n0]
      unfold bRK mIf
      rw [c]
      simp only [toS_ok]
      rw [if_neg (by simp)]
      have e : ((i : Int) + 1 - 1) = i := by omega
      simp only [mAug_2, mBin_eq, mK_eq, bind_ok, mV_3, vsub, e, SG_at i (k i (by simp)), toS_ok]
      have l : (tx pre).length + (one i).length ≤ sizeLine := sz _ (by rw [tx_len]; show _ + 1 ≤ _; omega)
      simp only [iadd, l, if_true, tx_snoc, toS_ok]
    show forL _ _ none all (pI ((i : Int) + 1) :: ((sgs is).map pI ++ rest)) _ _ = _
    rw [forL_cons]
    simp only [gN_eq, List.set_cons_succ, List.set_cons_zero]
    rw [s]
    simp only
    rw [ih]
    simp
theorem fRK_eq (a : Option PV) (hc : Cells) (all : List PV) : ∀ (rows : List (List Nat)) (acc : List PyData) (u : Option PV), (∀ r ∈ rows, txOk r) → acc.length + rows.length ≤ 1000 →
    ∃ u', forL (gN 3) bRK none all ((keyF (rows.map sgs)).map pI) [a, some (.r hc.length), some (pS (tx [])), u] (hc ++ [.lst (acc.map .d)]) = .nx [a, some (.r hc.length), some (pS (tx [])), u'] (hc ++ [.lst ((acc ++ txs rows).map .d)])
  | [], acc, u, _, _ => ⟨u, by simp [keyF, txs]⟩
  | r :: rows, acc, u, k, b => by
    have kr := k r (by simp)
    simp only [List.length_cons] at b
    obtain ⟨u1, i1⟩ := fRK_in (hc' := hc ++ [.lst (acc.map .d)]) a hc all (pI 0 :: (keyF (rows.map sgs)).map pI) r [] u kr.2 (by have := kr.1; simp; omega)
    obtain ⟨u', ih⟩ := fRK_eq a hc all rows (acc ++ [.str (tx r)]) (some (pI 0)) (fun x hx => k x (by simp [hx])) (by simp; omega)
    refine ⟨u', ?_⟩
    have e : (keyF ((r :: rows).map sgs)).map pI = (sgs r).map pI ++ pI 0 :: (keyF (rows.map sgs)).map pI := by rw [List.map_cons, keyF_cons]; simp
    rw [e, i1, forL_cons]
    simp only [gN_eq, List.set_cons_succ, List.set_cons_zero, List.nil_append]
    have s : bRK [a, some (.r hc.length), some (pS (tx r)), some (pI 0)] (hc ++ [.lst (acc.map .d)]) = .nx [a, some (.r hc.length), some (pS (tx [])), some (pI 0)] (hc ++ [.lst ((acc ++ [PyData.str (tx r)]).map .d)]) := by
      have c : mTb (mBin (opEq true) (mV 3) (mK (.d (.int 0)))) [a, some (.r hc.length), some (pS (tx r)), some (pI 0)] (hc ++ [.lst (acc.map .d)]) = .ok true (hc ++ [.lst (acc.map .d)]) := by simp
      unfold bRK
      rw [if_yes c]
      have l : acc.length < sizeLine := Nat.lt_of_lt_of_le (show acc.length < 1001 by omega) (by decide)
      have e1 : mExp (mMeth tyL meAppend (mV 1) (aCons (mV 2) aNil)) [a, some (.r hc.length), some (pS (tx r)), some (pI 0)] (hc ++ [.lst (acc.map .d)]) = .nx [a, some (.r hc.length), some (pS (tx r)), some (pI 0)] (hc ++ [.lst ((acc ++ [PyData.str (tx r)]).map .d)]) := by
        simp only [mExp_eq, mMeth_eq, mV_1, bind_ok, tyL_cell, if_true, aCons_eq, mV_2, aNil_eq, app_cell l, toS_ok]
      rw [seq_nx e1, tx_nil]
      rfl
    rw [s]
    simp only
    rw [ih]
    simp [txs]
theorem keyF_oc {rows : List (List Nat)} (k : ∀ r ∈ rows, txOk r) : ∀ x ∈ keyF (rows.map sgs), 0 ≤ x ∧ x ≤ 74 := by
  intro x hx
  simp only [keyF, List.mem_flatMap, List.mem_map] at hx
  obtain ⟨l, ⟨r, hr, rfl⟩, hx⟩ := hx
  rcases List.mem_append.mp hx with q | q
  · have := sgs_mem (k r hr) x q; omega
  · simp at q; omega
theorem keyF_last {rows : List (List Nat)} (h : rows ≠ []) : (keyF (rows.map sgs)).getLast? = some 0 := by
  obtain ⟨rs, r, rfl⟩ : ∃ rs r, rows = rs ++ [r] := ⟨rows.dropLast, rows.getLast h, (List.dropLast_concat_getLast h).symm⟩
  simp [keyF]
theorem atI_last {γ : Type} (xs : List γ) (x : γ) (h : xs.getLast? = some x) : atI xs (-1) = some x := by
  have hne : xs ≠ [] := by intro q; subst q; simp at h
  have hl : 0 < xs.length := List.length_pos_iff.mpr hne
  unfold atI ixN
  rw [if_neg (by omega), if_pos (by omega)]
  simp only [Option.bind_some]
  rw [List.getLast?_eq_getElem?] at h
  rw [← h]
  congr 1
  omega
theorem s_rk (rows : List (List Nat)) (k : rowOk rows) (h : Cells) (w : wfB h = true) : r_read_key [pT (pIs (keyF (rows.map sgs)))] h = .ok (pT (txs rows)) h := by
  refine trim_ok (g := [.lst ((txs rows).map .d)]) (runF_rt ?_) w rfl
  unfold m_read_key
  simp only [List.map_cons, List.map_nil, List.length_cons, List.length_nil, Nat.reduceAdd, Nat.reduceSub, List.replicate, List.cons_append, List.nil_append]
  have it : ∀ E : Sl, ∀ hh : Cells, iAny (mV 0) (some (pT (pIs (keyF (rows.map sgs)))) :: E) hh = .ok ((keyF (rows.map sgs)).map pI, none) hh := fun E hh => by
    rw [any_pT (ds := pIs (keyF (rows.map sgs))) rfl, pI_map]
  have g1 := gen_pure (g := gN 3) (fe := mNotV (mChain oLe oLe (mK (.d (.int 0))) (mV 3) (mCall biLen (aCons (mK (.d (.str SG))) aNil)))) (all := (keyF (rows.map sgs)).map pI) (e := [some (pT (pIs (keyF (rows.map sgs)))), none, none, none]) (h := h) pI (fun _ => pB false) (keyF (rows.map sgs)) (fun x hx => ⟨_, rfl, by
    obtain ⟨b1, b2⟩ := keyF_oc k.2 x hx
    simp [SG_l, b1, b2]⟩)
  have c1 := (mGen_eq (own := [3]) (c := cAny) (it [none, none, none] h) g1).trans (cAny_pure (fun _ => false) (keyF (rows.map sgs)) h)
  have ha : ((keyF (rows.map sgs)).any fun _ => false) = false := by simp
  rw [ha] at c1
  have c0 : mAnd (mTb (mBin oGt (mCall biLen (aCons (mV 0) aNil)) (mK (.d (.int 0))))) (mTb (mBin (opEq false) (mBin opIx (mV 0) (mNeg (mK (.d (.int 1))))) (mK (.d (.int 0))))) [some (pT (pIs (keyF (rows.map sgs)))), none, none, none] h = .ok false h := by
    by_cases hr : rows = []
    · subst hr; rfl
    · have l := atI_last _ _ (keyF_last hr)
      have l2 : atI ((pIs (keyF (rows.map sgs))).map PV.d) (-1) = some (pI 0) := by
        apply atI_last
        rw [pI_map, List.getLast?_map, keyF_last hr]; rfl
      have ix : opIx (pT (pIs (keyF (rows.map sgs)))) (pI (-1)) h = .ok (pI 0) h := by
        simp only [opIx, asS, asL, asT, l2]
      have p : (keyF (rows.map sgs)).length ≠ 0 := by
        intro q; have := keyF_last hr; rw [List.length_eq_zero_iff.mp q] at this; simp at this
      simp only [mAnd_eq, mTb_eq, mBin_eq, mCall_eq, aCons_eq, mV_0, bind_ok, aNil_eq, len_pT, List.length_map, mK_eq, vgt, mNeg_eq, ix, veq]
      simp
  have c1' := congrArg (fun o : Out PV => o.bind fun v h1 => match v with
    | .d (.bool b) => Out.ok b h1
    | _ => .bad) c1
  rw [seq_nx (if_no (h1 := h) (by rw [mOr_eq, c0]; exact c1'))]
  have e2 : mPar 1 2 (aCons (mCell aNil) (aCons (mK (.d (.str ""))) aNil)) [some (pT (pIs (keyF (rows.map sgs)))), none, none, none] h = .nx [some (pT (pIs (keyF (rows.map sgs)))), some (.r h.length), some (pS (tx [])), none] (h ++ [.lst (([] : List PyData).map .d)]) := by
    rw [tx_nil]; simp
  obtain ⟨u', f⟩ := fRK_eq (some (pT (pIs (keyF (rows.map sgs))))) h ((keyF (rows.map sgs)).map pI) rows [] none k.2 (by have := k.1; simp; omega)
  have e3 := (mFor_eq (g := gN 3) (b := bRK) (it [some (.r h.length), some (pS (tx [])), none] (h ++ [.lst (([] : List PyData).map .d)]))).trans f
  rw [seq_nx e2, seq_nx e3]
  have tc := tuple_cell (n := h.length) (h := h ++ [.lst ((txs rows).map .d)]) (ds := txs rows) at_end
  simp only [mRet_eq, mCall_eq, aCons_eq, mV_1, bind_ok, aNil_eq, tc, toS_ok, List.nil_append]
end K01

set_option Elab.async false
set_option linter.all false
set_option maxRecDepth 100000
set_option maxHeartbeats 1000000
namespace K01
open PySem PySem.Spec PyProof.Rows L2 Mi
/-! ## shared_start -/
abbrev cl (x : Str) : List Nat := x.cps.toList
theorem cl_len (x : Str) : x.length = (cl x).length := by simp [Str.length]
theorem ix_str (x : Str) (i : Nat) (h : Cells) (c : Nat) (e : (cl x)[i]? = some c) (q : x.length ≤ sizeLine) : opIx (pS x) (nI i) h = .ok (pS ⟨#[c]⟩) h := by
  have : atI x.cps.toList (i : Int) = some c := by rw [Mi.atI_nat]; exact e
  simp only [opIx, q, if_true, this]
theorem eq_strs (k : Bool) (x y : Str) (h : Cells) : opEq k (pS x) (pS y) h = .ok (pB (if k then x == y else !(x == y))) h := by
  rw [Mi.eq_data _ _ _ _ (by simp [PyData.depth])]; simp only [PyData.eqv]
theorem min2 (i j : Nat) (h : Cells) : biMin2 [nI i, nI j] h = .ok (nI (min i j)) h := by
  simp only [biMin2, nI, pI]
  by_cases q : (j : Int) < i
  · rw [if_pos q]; congr 3; omega
  · rw [if_neg q]; congr 3; omega
abbrev cSS : ME Bool := mAnd (mTb (mBin oLt (mV 2) (mCall biMin2 (aCons (mCall biLen (aCons (mV 0) aNil)) (aCons (mCall biLen (aCons (mV 1) aNil)) aNil))))) (mTb (mBin (opEq true) (mBin opIx (mV 0) (mV 2)) (mBin opIx (mV 1) (mV 2))))
theorem cSS_eq (a b : Str) (la : a.length ≤ 1000) (lb : b.length ≤ 1000) (i : Nat) (h : Cells) : cSS [some (pS a), some (pS b), some (nI i)] h = .ok (decide (i < min a.length b.length ∧ (cl a)[i]? = (cl b)[i]?)) h := by
  have sa : a.length ≤ sizeLine := sz _ (by omega)
  have sb : b.length ≤ sizeLine := sz _ (by omega)
  have e1 : mTb (mBin oLt (mV 2) (mCall biMin2 (aCons (mCall biLen (aCons (mV 0) aNil)) (aCons (mCall biLen (aCons (mV 1) aNil)) aNil)))) [some (pS a), some (pS b), some (nI i)] h = .ok (decide (i < min a.length b.length)) h := by
    simp only [mTb_eq, mBin_eq, mCall_eq, aCons_eq, mV_0, mV_1, mV_2, bind_ok, aNil_eq, len_str _ _ sa, len_str _ _ sb, min2, vlt]
    have : decide ((i : Int) < ((min a.length b.length : Nat) : Int)) = decide (i < min a.length b.length) := by rw [decide_eq_decide]; omega
    rw [this]
  simp only [cSS, mAnd_eq]
  rw [e1]
  simp only [bind_ok]
  by_cases q : i < min a.length b.length
  · have ha : i < (cl a).length := by rw [← cl_len]; omega
    have hb : i < (cl b).length := by rw [← cl_len]; omega
    have ia := List.getElem?_eq_getElem ha
    have ib := List.getElem?_eq_getElem hb
    simp only [q, decide_true, if_true, mTb_eq, mBin_eq, mV_0, mV_1, mV_2, bind_ok, ix_str a i h _ ia sa, ix_str b i h _ ib sb, eq_strs, true_and]
    rw [ia, ib]
    congr 1
    have : ((⟨#[(cl a)[i]]⟩ : Str) == ⟨#[(cl b)[i]]⟩) = decide ((cl a)[i] = (cl b)[i]) := by
      by_cases z : (cl a)[i] = (cl b)[i]
      · rw [z]; simp
      · have : (⟨#[(cl a)[i]]⟩ : Str) ≠ ⟨#[(cl b)[i]]⟩ := fun y => z (by simpa using y)
        rw [decide_eq_false z]; exact beq_eq_false_iff_ne.mpr this
    rw [this]; simp
  · simp [q]
theorem wSS_eq (a b : Str) (la : a.length ≤ 1000) (lb : b.length ≤ 1000) (h : Cells) : ∀ (d i g : Nat), i + d = cp (cl a) (cl b) → d < g → mWh cSS (mAug 2 iadd (mK (.d (.int 1)))) g [some (pS a), some (pS b), some (nI i)] h = .nx [some (pS a), some (pS b), some (nI (cp (cl a) (cl b)))] h
  | d, i, 0, _, hg => absurd hg (by omega)
  | d, i, g + 1, hd, hg => by
    have c := cSS_eq a b la lb i h
    have le := cp_le (cl a) (cl b)
    rw [← cl_len, ← cl_len] at le
    have tk : (cl a).take i = (cl b).take i := (cp_iff (cl a) (cl b) i (by rw [← cl_len]; omega) (by rw [← cl_len]; omega)).mpr (by omega)
    cases d with
    | zero =>
      have : ¬ (i < min a.length b.length ∧ (cl a)[i]? = (cl b)[i]?) := fun ⟨q1, q2⟩ => by
        have := (cp_next (cl a) (cl b) i (by rw [← cl_len]; omega) (by rw [← cl_len]; omega) tk).mp q2
        omega
      rw [decide_eq_false this] at c
      rw [wh_stop c (by omega)]
      have : i = cp (cl a) (cl b) := by omega
      rw [this]
    | succ d =>
      have : i < min a.length b.length ∧ (cl a)[i]? = (cl b)[i]? := ⟨by omega, (cp_next (cl a) (cl b) i (by rw [← cl_len]; omega) (by rw [← cl_len]; omega) tk).mpr (by omega)⟩
      rw [decide_eq_true this] at c
      have b1 : mAug 2 iadd (mK (.d (.int 1))) [some (pS a), some (pS b), some (nI i)] h = .nx [some (pS a), some (pS b), some (nI (i + 1))] h := by simp
      rw [wh_turn c b1]
      exact wSS_eq a b la lb h d (i + 1) g (by omega) (by omega)
theorem s_ss (a b : Str) (la : a.length ≤ 1000) (lb : b.length ≤ 1000) (h : Cells) : r_shared_start [pS a, pS b] h = .ok (nI (cp (cl a) (cl b))) h := by
  have le := cp_le (cl a) (cl b)
  rw [← cl_len, ← cl_len] at le
  refine trim_same (runF_rt ?_) rfl
  unfold m_shared_start
  simp only [List.map_cons, List.map_nil, List.length_cons, List.length_nil, Nat.reduceAdd, Nat.reduceSub, List.replicate, List.cons_append, List.nil_append]
  have e1 : mAsg (mK (.d (.int 0))) (gN 2) [some (pS a), some (pS b), none] h = .nx [some (pS a), some (pS b), some (nI 0)] h := by simp
  rw [seq_nx e1, seq_nx (wSS_eq a b la lb h (cp (cl a) (cl b)) 0 FU (by omega) (Nat.lt_of_le_of_lt (show cp (cl a) (cl b) ≤ 1000 by omega) (by decide)))]
  simp
/-! ## squeezed -/
def strD (ts : List Str) : List PyData := ts.map .str
/-- texts that ascend, none too long -/
def Asc : List Str → Prop
  | [] => True
  | [x] => x.length ≤ 1000
  | x :: y :: r => x.length ≤ 1000 ∧ ltS x y = true ∧ Asc (y :: r)
theorem Asc.tail {x : Str} : ∀ {r : List Str}, Asc (x :: r) → Asc r
  | [], _ => trivial
  | _ :: _, h => h.2.2
theorem Asc.head {x : Str} : ∀ {r : List Str}, Asc (x :: r) → x.length ≤ 1000
  | [], h => h
  | _ :: _, h => h.1
def dropS (x : Str) (k : Nat) : Str := cutS x (some (k : Int)) none
theorem dropS_cl (x : Str) (k : Nat) : cl (dropS x k) = (cl x).drop k := by
  show (((x.cps.toList.drop _).take _).toArray).toList = _
  have e : HT.sIx x.length 0 (some (k : Int)) = min k x.length := sIx_some _ _ _
  rw [e, HT.sIx_none]
  show ((cl x).drop _).take _ = _
  rw [cl_len]
  by_cases q : k ≤ (cl x).length
  · rw [Nat.min_eq_left q, List.take_of_length_le (by simp)]
  · rw [Nat.min_eq_right (by omega)]; simp [List.drop_of_length_le (show (cl x).length ≤ k by omega)]
def takeS (x : Str) (k : Nat) : Str := cutS x none (some (k : Int))
theorem takeS_cl (x : Str) (k : Nat) : cl (takeS x k) = (cl x).take k := by
  show (((x.cps.toList.drop _).take _).toArray).toList = _
  have e : HT.sIx x.length x.length (some (k : Int)) = min k x.length := sIx_some _ _ _
  rw [e, HT.sIx_none]
  show ((cl x).drop _).take _ = _
  rw [cl_len]
  by_cases q : k ≤ (cl x).length
  · rw [Nat.min_eq_left q]; simp
  · rw [Nat.min_eq_right (by omega), List.take_of_length_le (show (cl x).length ≤ k by omega)]; simp only [List.drop_zero, Nat.sub_zero]; exact List.take_of_length_le (Nat.le_refl _)
/-- rows of texts, one of them ahead -/
def sqR (ahead : Str) : List Str → List PyData
  | [] => []
  | t :: r => .tuple [.int (cp (cl ahead) (cl t) : Nat), .str (dropS t (cp (cl ahead) (cl t)))] :: sqR t r
theorem ge_str (x y : Str) (h : Cells) : oGe (pS x) (pS y) h = .ok (pB (!ltS x y)) h := rfl
theorem le_str (x y : Str) (h : Cells) : oLe (pS x) (pS y) h = .ok (pB (!ltS y x)) h := rfl
theorem asc_any : ∀ {ts : List Str}, Asc ts → ((ts.zip (ts.drop 1)).any fun p => !ltS p.1 p.2) = false
  | [], _ => rfl
  | [_], _ => rfl
  | x :: y :: r, h => by
    have := asc_any h.2.2
    simp only [List.drop_succ_cons, List.drop_zero, List.zip_cons_cons, List.any_cons, h.2.1, Bool.not_true, Bool.false_or] at this ⊢
    exact this
abbrev bSQ : MS := mSeq (mAsg (mCallD r_shared_start [] (aCons (mV 2) (aCons (mV 3) aNil))) (gN 4))
  (mSeq (mExp (mMeth tyL meAppend (mV 1) (aCons (mTup (aCons (mV 4) (aCons (mSl (mV 3) (oSo (mV 4)) oNo) aNil))) aNil)))
  (mAsg (mV 3) (gN 2)))
theorem sl_drop (x : Str) (k : Nat) (h : Cells) (q : x.length ≤ 1000) : opSl (pS x) (some (k : Int)) none h = .ok (pS (dropS x k)) h := by
  simp only [opSl, sz x.length (by omega), if_true]; rfl
theorem sl_take (x : Str) (k : Nat) (h : Cells) (q : x.length ≤ 1000) : opSl (pS x) none (some (k : Int)) h = .ok (pS (takeS x k)) h := by
  simp only [opSl, sz x.length (by omega), if_true]; rfl
theorem fSQ_eq (a y z : Option PV) (hc : Cells) (all : List PV) : ∀ (ts : List Str) (ahead : Str) (acc : List PyData) (u v : Option PV), ahead.length ≤ 1000 → (∀ t ∈ ts, t.length ≤ 1000) → acc.length + ts.length ≤ 1000 →
    ∃ A u' v', forL (gN 3) bSQ none all ((strD ts).map .d) [a, some (.r hc.length), some (pS ahead), u, v, y, z] (hc ++ [.lst (acc.map .d)]) = .nx [a, some (.r hc.length), A, u', v', y, z] (hc ++ [.lst ((acc ++ sqR ahead ts).map .d)])
  | [], ahead, acc, u, v, _, _, _ => ⟨_, u, v, by simp [strD, sqR]; rfl⟩
  | t :: ts, ahead, acc, u, v, la, lt, b => by
    have l1 := lt t (by simp)
    simp only [List.length_cons] at b
    obtain ⟨A, u', v', ih⟩ := fSQ_eq a y z hc all ts t (acc ++ [.tuple [.int (cp (cl ahead) (cl t) : Nat), .str (dropS t (cp (cl ahead) (cl t)))]]) (some (pS t)) (some (nI (cp (cl ahead) (cl t)))) l1 (fun x hx => lt x (by simp [hx])) (by simp; omega)
    refine ⟨A, u', v', ?_⟩
    have sl : acc.length < sizeLine := Nat.lt_of_lt_of_le (show acc.length < 1001 by omega) (by decide)
    have s1 : mAsg (mCallD r_shared_start [] (aCons (mV 2) (aCons (mV 3) aNil))) (gN 4) [a, some (.r hc.length), some (pS ahead), some (pS t), v, y, z] (hc ++ [.lst (acc.map .d)]) = .nx [a, some (.r hc.length), some (pS ahead), some (pS t), some (nI (cp (cl ahead) (cl t))), y, z] (hc ++ [.lst (acc.map .d)]) := by
      simp [s_ss ahead t la l1]
    have s2 : mExp (mMeth tyL meAppend (mV 1) (aCons (mTup (aCons (mV 4) (aCons (mSl (mV 3) (oSo (mV 4)) oNo) aNil))) aNil)) [a, some (.r hc.length), some (pS ahead), some (pS t), some (nI (cp (cl ahead) (cl t))), y, z] (hc ++ [.lst (acc.map .d)]) =
        .nx [a, some (.r hc.length), some (pS ahead), some (pS t), some (nI (cp (cl ahead) (cl t))), y, z] (hc ++ [.lst ((acc ++ [PyData.tuple [.int (cp (cl ahead) (cl t) : Nat), .str (dropS t (cp (cl ahead) (cl t)))]]).map PV.d)]) := by
      simp only [mExp_eq, mMeth_eq, mV_1, bind_ok, tyL_cell, if_true, aCons_eq, mTup_eq, mV_4, mSl_eq, mV_3, oSo_eq, oNo_eq, aNil_eq, sl_drop _ _ _ l1, List.length_cons, List.length_nil, Nat.zero_add, Nat.reduceAdd, sz 2 (by omega), mkT_2, app_cell sl, toS_ok]
    show forL _ _ none all (pS t :: (strD ts).map .d) _ _ = _
    rw [forL_cons]
    simp only [gN_eq, List.set_cons_succ, List.set_cons_zero]
    rw [show bSQ = mSeq _ (mSeq _ _) from rfl, seq_nx s1, seq_nx s2]
    simp only [mAsg_eq, mV_3, toS_ok, gN_eq, List.set_cons_succ, List.set_cons_zero]
    rw [ih]
    simp [sqR]
theorem Asc.all : ∀ {ts : List Str}, Asc ts → ∀ t ∈ ts, t.length ≤ 1000
  | [], _, t, h => by simp at h
  | x :: r, a, t, h => by
    rcases List.mem_cons.mp h with h | h
    · subst h; exact a.head
    · exact Asc.all a.tail t h
theorem s_sq (ts : List Str) (ac : Asc ts) (b : ts.length ≤ 500) (h : Cells) (w : wfB h = true) : r_squeezed [pL (strD ts)] h = .ok (pT (sqR "" ts)) h := by
  refine trim_ok (g := [.lst ((sqR "" ts).map .d)]) (runF_rt ?_) w rfl
  unfold m_squeezed
  simp only [List.map_cons, List.map_nil, List.length_cons, List.length_nil, Nat.reduceAdd, Nat.reduceSub, List.replicate, List.cons_append, List.nil_append]
  have it : iZipM (aCons (mV 0) (aCons (mSl (mV 0) (oSo (mK (.d (.int 1)))) oNo) aNil)) [some (pL (strD ts)), none, none, none, none, none, none] h = .ok ((ts.zip (ts.drop 1)).map (fun p : Str × Str => pT [.str p.1, .str p.2]), none) h := by
    have e : cutL (strD ts) (some 1) none = strD (ts.drop 1) := by
      have := cut_n (strD ts) 1
      simp only [strD, List.map_drop] at this ⊢
      exact this
    have ez : zipP ((strD ts).map .d) ((strD (ts.drop 1)).map .d) = (ts.zip (ts.drop 1)).map (fun p : Str × Str => pT [.str p.1, .str p.2]) := by
      unfold zipP strD
      rw [List.map_map, List.map_map, List.zip_map, List.map_map]
      rfl
    simp only [iZipM, aCons_eq, mV_0, mSl_eq, oSo_eq, mK_eq, oNo_eq, bind_ok, aNil_eq, sl_pL, e, asF]
    rw [ez]
  have g1 := gen_pure (g := gTp 2 (gsCons (gN 5) (gsCons (gN 6) gsNil))) (fe := mBin oGe (mV 5) (mV 6)) (all := (ts.zip (ts.drop 1)).map (fun p : Str × Str => pT [.str p.1, .str p.2])) (e := [some (pL (strD ts)), none, none, none, none, none, none]) (h := h) (fun p : Str × Str => pT [.str p.1, .str p.2]) (fun p => pB (!ltS p.1 p.2)) (ts.zip (ts.drop 1)) (fun p hp => ⟨[some (pL (strD ts)), none, none, none, none, some (pS p.1), some (pS p.2)], by simp [gTp], by simp [ge_str]⟩)
  have c1 := (mGen_eq (own := [5, 6]) (c := cAny) it g1).trans (cAny_pure (fun p : Str × Str => !ltS p.1 p.2) _ h)
  rw [asc_any ac] at c1
  have c1' := congrArg (fun o : Out PV => o.bind fun v h1 => match v with
    | .d (.bool b) => Out.ok b h1
    | _ => .bad) c1
  rw [seq_nx (if_no (h1 := h) c1')]
  have e2 : mPar 1 2 (aCons (mCell aNil) (aCons (mK (.d (.str ""))) aNil)) [some (pL (strD ts)), none, none, none, none, none, none] h = .nx [some (pL (strD ts)), some (.r h.length), some (pS ""), none, none, none, none] (h ++ [.lst (([] : List PyData).map .d)]) := by simp
  obtain ⟨A, u', v', f⟩ := fSQ_eq (some (pL (strD ts))) none none h ((strD ts).map .d) ts "" [] none none (by decide +kernel) ac.all (by simp; omega)
  have e3 := (mFor_eq (g := gN 3) (b := bSQ) (any_pL (f := mV 0) (e := [some (pL (strD ts)), some (.r h.length), some (pS ""), none, none, none, none]) (h := h ++ [.lst (([] : List PyData).map .d)]) rfl)).trans f
  rw [seq_nx e2, seq_nx e3]
  have tc := tuple_cell (n := h.length) (h := h ++ [.lst ((sqR "" ts).map .d)]) (ds := sqR "" ts) at_end
  simp only [mRet_eq, mCall_eq, aCons_eq, mV_1, bind_ok, aNil_eq, tc, toS_ok, List.nil_append]
/-! ## unsqueezed -/
abbrev bUS : MS := mSeq (mIf (mNot (mTb (mChain oLe oLe (mK (.d (.int 0))) (mV 3) (mCall biLen (aCons (mV 2) aNil))))) (mRaise "CodeError") mSkip)
  (mSeq (mAsg (mBin opAdd (mSl (mV 2) oNo (oSo (mV 3))) (mV 4)) (gN 5))
  (mSeq (mIf (mAnd (mTb (mBin (opEq false) (mV 1) (mLst aNil))) (mOr (mTb (mBin oLe (mV 5) (mV 2))) (mTb (mBin (opEq false) (mCallD r_shared_start [] (aCons (mV 2) (aCons (mV 5) aNil))) (mV 3))))) (mRaise "CodeError") mSkip)
  (mSeq (mExp (mMeth tyL meAppend (mV 1) (aCons (mV 5) aNil)))
  (mAsg (mV 5) (gN 2)))))
theorem back_str (a t : Str) : takeS a (cp (cl a) (cl t)) ++ dropS t (cp (cl a) (cl t)) = t := by
  apply PySem.W.str_of_cps
  show TL.tl (_ ++ _) = _
  rw [TL.tl_append]
  show cl (takeS _ _) ++ cl (dropS _ _) = cl t
  rw [takeS_cl, dropS_cl, sq_back]
theorem strD_depth : ∀ ts : List Str, PyData.depthAll (strD ts) = 0
  | [] => by simp [strD, PyData.depthAll]
  | t :: r => by
    have := strD_depth r
    simp only [strD, List.map_cons, PyData.depthAll, PyData.depth] at this ⊢
    rw [this]; rfl
theorem ne_empty {hc : Cells} (acc : List Str) : mTb (mBin (opEq false) (mV 1) (mLst aNil)) (a :: some (.r hc.length) :: E) (hc ++ [.lst ((strD acc).map .d)]) = .ok (!acc.isEmpty) (hc ++ [.lst ((strD acc).map .d)]) := by
  have e1 : asX (.r hc.length) (hc ++ [.lst ((strD acc).map .d)]) = some (.list (strD acc)) := by
    have e : (hc ++ [AO.lst ((strD acc).map .d)])[hc.length]? = some (.lst ((strD acc).map .d)) := at_end
    simp only [asX, e, allD_map]; rfl
  have e2 : mkL [] = pL [] := rfl
  have e3 : opEq false (.r hc.length) (pL []) (hc ++ [.lst ((strD acc).map .d)]) = .ok (pB (!acc.isEmpty)) (hc ++ [.lst ((strD acc).map .d)]) := by
    have e4 : asX (pL []) (hc ++ [.lst ((strD acc).map .d)]) = some (.list []) := rfl
    simp only [opEq, e1, e4]
    rw [if_pos (by simp [PyData.depth, strD_depth, PyData.depthAll])]
    cases acc with
    | nil => simp [strD, PyData.eqv, PyData.eqvAll]
    | cons x r => simp [strD, PyData.eqv, PyData.eqvAll]
  simp only [mTb_eq, mBin_eq, mV_1, mLst_eq, aNil_eq, bind_ok, List.length_nil, sz 0 (by omega), if_true, e2, e3]
theorem fUS_eq (a : Option PV) (hc : Cells) (all : List PV) : ∀ (ts : List Str) (ahead : Str) (acc : List Str) (u v x : Option PV), ahead.length ≤ 1000 → (acc = [] ∨ Asc (ahead :: ts)) → (∀ t ∈ ts, t.length ≤ 1000) → Asc ts → acc.length + ts.length ≤ 1000 →
    ∃ A u' v' x', forL (gTp 2 (gsCons (gN 3) (gsCons (gN 4) gsNil))) bUS none all ((sqR ahead ts).map .d) [a, some (.r hc.length), some (pS ahead), u, v, x] (hc ++ [.lst ((strD acc).map .d)]) = .nx [a, some (.r hc.length), A, u', v', x'] (hc ++ [.lst ((strD (acc ++ ts)).map .d)])
  | [], ahead, acc, u, v, x, _, _, _, _, _ => ⟨_, u, v, x, by simp [sqR]; rfl⟩
  | t :: ts, ahead, acc, u, v, x, la, lc, lt, ac, b => by
    have l1 := lt t (by simp)
    simp only [List.length_cons] at b
    obtain ⟨A, u', v', x', ih⟩ := fUS_eq a hc all ts t (acc ++ [t]) (some (nI (cp (cl ahead) (cl t)))) (some (pS (dropS t (cp (cl ahead) (cl t))))) (some (pS t)) l1 (.inr ac) (fun x hx => lt x (by simp [hx])) ac.tail (by simp; omega)
    refine ⟨A, u', v', x', ?_⟩
    generalize hk : cp (cl ahead) (cl t) = k at *
    generalize hH : hc ++ [AO.lst ((strD acc).map .d)] = H at *
    have le := cp_le (cl ahead) (cl t)
    rw [hk, ← cl_len, ← cl_len] at le
    have bk := back_str ahead t
    rw [hk] at bk
    have sl : (strD acc).length < sizeLine := Nat.lt_of_lt_of_le (show _ < 1001 by simp [strD]; omega) (by decide)
    have c1 : mNot (mTb (mChain oLe oLe (mK (.d (.int 0))) (mV 3) (mCall biLen (aCons (mV 2) aNil)))) [a, some (.r hc.length), some (pS ahead), some (nI k), some (pS (dropS t k)), x] H = .ok false H := by
      have : (k : Int) ≤ ahead.length := by omega
      simp [len_str ahead _ (sz _ (by omega)), this]
    have s2 : mAsg (mBin opAdd (mSl (mV 2) oNo (oSo (mV 3))) (mV 4)) (gN 5) [a, some (.r hc.length), some (pS ahead), some (nI k), some (pS (dropS t k)), x] H = .nx [a, some (.r hc.length), some (pS ahead), some (nI k), some (pS (dropS t k)), some (pS t)] H := by
      simp only [mAsg_eq, mBin_eq, mSl_eq, mV_2, oNo_eq, oSo_eq, mV_3, mV_4, bind_ok, sl_take _ _ _ la]
      rw [vadd_str _ _ _ (sz _ (by rw [cl_len, cl_len, takeS_cl, dropS_cl, List.length_take, List.length_drop, ← cl_len, ← cl_len]; omega)), bk]
      simp
    have c3 : mAnd (mTb (mBin (opEq false) (mV 1) (mLst aNil))) (mOr (mTb (mBin oLe (mV 5) (mV 2))) (mTb (mBin (opEq false) (mCallD r_shared_start [] (aCons (mV 2) (aCons (mV 5) aNil))) (mV 3)))) [a, some (.r hc.length), some (pS ahead), some (nI k), some (pS (dropS t k)), some (pS t)] H = .ok false H := by
      rw [mAnd_eq, ← hH, ne_empty acc, hH]
      cases acc with
      | nil => rfl
      | cons y acc =>
        rcases lc with lc | lc
        · cases lc
        · have lt2 : ltS ahead t = true := lc.2.1
          simp [le_str, lt2, s_ss ahead t la l1, hk]
    have s4 : mExp (mMeth tyL meAppend (mV 1) (aCons (mV 5) aNil)) [a, some (.r hc.length), some (pS ahead), some (nI k), some (pS (dropS t k)), some (pS t)] H = .nx [a, some (.r hc.length), some (pS ahead), some (nI k), some (pS (dropS t k)), some (pS t)] (hc ++ [.lst ((strD (acc ++ [t])).map .d)]) := by
      rw [← hH]
      simp only [mExp_eq, mMeth_eq, mV_1, bind_ok, tyL_cell, if_true, aCons_eq, mV_5, aNil_eq, app_cell sl, toS_ok]
      simp [strD]
    have gt : gTp 2 (gsCons (gN 3) (gsCons (gN 4) gsNil)) (pT [.int k, .str (dropS t k)]) [a, some (.r hc.length), some (pS ahead), u, v, x] H = some ([a, some (.r hc.length), some (pS ahead), some (nI k), some (pS (dropS t k)), x], H) := by simp [gTp]
    show forL _ _ none all ((sqR ahead (t :: ts)).map .d) _ _ = _
    rw [sqR, hk, List.map_cons, forL_cons, gt]
    simp only
    rw [show bUS = mSeq _ (mSeq _ (mSeq _ (mSeq _ _))) from rfl, seq_nx (if_no c1), seq_nx s2, seq_nx (if_no c3), seq_nx s4]
    simp only [mAsg_eq, mV_5, toS_ok, gN_eq, List.set_cons_succ, List.set_cons_zero]
    rw [ih]
    simp
theorem s_us (ts : List Str) (ac : Asc ts) (b : ts.length ≤ 500) (h : Cells) (w : wfB h = true) : r_unsqueezed [pL (sqR "" ts)] h = .ok (pT (strD ts)) h := by
  refine trim_ok (g := [.lst ((strD ts).map .d)]) (runF_rt ?_) w rfl
  unfold m_unsqueezed
  simp only [List.map_cons, List.map_nil, List.length_cons, List.length_nil, Nat.reduceAdd, Nat.reduceSub, List.replicate, List.cons_append, List.nil_append]
  have e2 : mPar 1 2 (aCons (mCell aNil) (aCons (mK (.d (.str ""))) aNil)) [some (pL (sqR "" ts)), none, none, none, none, none] h = .nx [some (pL (sqR "" ts)), some (.r h.length), some (pS ""), none, none, none] (h ++ [.lst ((strD []).map .d)]) := by simp [strD]
  obtain ⟨A, u', v', x', f⟩ := fUS_eq (some (pL (sqR "" ts))) h ((sqR "" ts).map .d) ts "" [] none none none (by decide +kernel) (.inl rfl) ac.all ac (by simp; omega)
  have e3 := (mFor_eq (g := gTp 2 (gsCons (gN 3) (gsCons (gN 4) gsNil))) (b := bUS) (any_pL (f := mV 0) (e := [some (pL (sqR "" ts)), some (.r h.length), some (pS ""), none, none, none]) (h := h ++ [.lst ((strD []).map .d)]) rfl)).trans f
  rw [seq_nx e2, seq_nx e3]
  have tc := tuple_cell (n := h.length) (h := h ++ [.lst ((strD ts).map .d)]) (ds := strD ts) at_end
  simp only [mRet_eq, mCall_eq, aCons_eq, mV_1, bind_ok, aNil_eq, tc, toS_ok, List.nil_append]
end K01

set_option Elab.async false
set_option linter.all false
set_option maxRecDepth 100000
set_option maxHeartbeats 1000000
namespace K01
open PySem PySem.Spec PyProof.Rows L2 Mi
/-! ## dice -/
abbrev Dh (a b c : Int) : Cells := [.lst [pI a, pI b, pI c]]
theorem wfD (a b c : Int) : wfB (Dh a b c) = true := rfl
/-- a roll came to v, the dice moved on -/
def Rolled (o : Out PV) (P : PV → Prop) : Prop := ∃ v a b c, o = .ok v (Dh a b c) ∧ P v
def isI (m : Int) (v : PV) : Prop := ∃ i : Int, v = pI i ∧ 0 ≤ i ∧ i < m
theorem roll_low (f : MF) (a b c m : Int) (h1 : 1 ≤ m) (h2 : m ≤ 100000000) : Rolled (runF 3 (m__law_roll f) [.r 0, pI m] (Dh a b c)) (isI m) := by
  have hm : 0 < m := by omega
  have hm2 : m < 18446744073709551616 := by omega
  have c0 : mOr (mTb (mBin (opEq true) (mBin opIx (mV 0) (mK (.d (.int 2)))) (mK (.d (.int 2))))) (mAnd (mTb (mBin (opEq true) (mBin opIx (mV 0) (mK (.d (.int 2)))) (mK (.d (.int 1))))) (mTb (mBin oGt (mBin opIx (mV 0) (mK (.d (.int 0)))) (mK (.d (.int 0)))))) [some (.r 0), some (pI m), none] (Dh a b c) = .ok (c == 2 || (c == 1 && decide (0 < a))) (Dh a b c) := by
    have i2 : opIx (.r 0) (.d (.int 2)) (Dh a b c) = .ok (pI c) (Dh a b c) := rfl
    have i0 : opIx (.r 0) (.d (.int 0)) (Dh a b c) = .ok (pI a) (Dh a b c) := rfl
    simp only [mOr_eq, mAnd_eq, mTb_eq, mBin_eq, mV_0, mK_eq, bind_ok, i2, i0, veq, vgt, if_true]
    cases (c == 2) <;> cases (c == 1) <;> rfl
  by_cases q : (c == 2 || (c == 1 && decide (0 < a))) = true
  · rw [q] at c0
    refine ⟨pI (a % m), a / m, b, c, runF_rt ?_, a % m, rfl, Int.emod_nonneg _ (by omega), Int.emod_lt_of_pos _ hm⟩
    unfold m__law_roll
    simp only [List.map_cons, List.map_nil, List.length_cons, List.length_nil, Nat.reduceAdd, Nat.reduceSub, List.replicate, List.cons_append, List.nil_append]
    refine seq_rt ((if_yes c0).trans ?_)
    have e1 : mAsg (mBin opMod (mCall biInt (aCons (mBin opIx (mV 0) (mK (.d (.int 0)))) aNil)) (mV 1)) (gN 2) [some (.r 0), some (pI m), none] (Dh a b c) = .nx [some (.r 0), some (pI m), some (pI (a % m))] (Dh a b c) := by
      have i0 : opIx (.r 0) (.d (.int 0)) (Dh a b c) = .ok (pI a) (Dh a b c) := rfl
      have bi : biInt [pI a] (Dh a b c) = .ok (pI a) (Dh a b c) := rfl
      simp only [mAsg_eq, mBin_eq, mCall_eq, aCons_eq, mV_0, mV_1, mK_eq, bind_ok, i0, aNil_eq, bi, vmod _ _ _ hm, toS_ok, gN_eq, List.set_cons_succ, List.set_cons_zero]
    have e2 : mAsg (mBin opDiv (mBin opIx (mV 0) (mK (.d (.int 0)))) (mV 1)) (gIx (mV 0) (mK (.d (.int 0)))) [some (.r 0), some (pI m), some (pI (a % m))] (Dh a b c) = .nx [some (.r 0), some (pI m), some (pI (a % m))] (Dh (a / m) b c) := by
      have i0 : opIx (.r 0) (.d (.int 0)) (Dh a b c) = .ok (pI a) (Dh a b c) := rfl
      simp only [mAsg_eq, mBin_eq, mV_0, mV_1, mK_eq, bind_ok, i0, vdiv _ _ _ hm hm2, toS_ok]
      rfl
    rw [seq_nx e1, seq_nx e2]
    rfl
  · have q' : (c == 2 || (c == 1 && decide (0 < a))) = false := by simpa using q
    rw [q'] at c0
    refine ⟨pI ((a * 48271 + b * 69621 + 11) % 2147483647 / 7 % m), (a * 48271 + b * 69621 + 11) % 2147483647, b + 1, 0, runF_rt ?_, _, rfl, Int.emod_nonneg _ (by omega), Int.emod_lt_of_pos _ hm⟩
    unfold m__law_roll
    simp only [List.map_cons, List.map_nil, List.length_cons, List.length_nil, Nat.reduceAdd, Nat.reduceSub, List.replicate, List.cons_append, List.nil_append]
    rw [seq_nx (if_no c0)]
    have e1 : mAsg (mK (.d (.int 0))) (gIx (mV 0) (mK (.d (.int 2)))) [some (.r 0), some (pI m), none] (Dh a b c) = .nx [some (.r 0), some (pI m), none] (Dh a b 0) := rfl
    rw [seq_nx e1]
    have c1 : mTb (mBin oGt (mV 1) (mK (.d (.int 100000000)))) [some (.r 0), some (pI m), none] (Dh a b 0) = .ok false (Dh a b 0) := by
      simp only [mTb_eq, mBin_eq, mV_1, mK_eq, bind_ok, vgt, show ¬ (100000000 < m) by omega, decide_false]
    rw [seq_nx (if_no c1)]
    have e2 : mAsg (mBin opMod (mCall biInt (aCons (mBin opAdd (mBin opAdd (mBin opMul (mBin opIx (mV 0) (mK (.d (.int 0)))) (mK (.d (.int 48271)))) (mBin opMul (mBin opIx (mV 0) (mK (.d (.int 1)))) (mK (.d (.int 69621))))) (mK (.d (.int 11)))) aNil)) (mK (.d (.int 2147483647)))) (gIx (mV 0) (mK (.d (.int 0)))) [some (.r 0), some (pI m), none] (Dh a b 0) = .nx [some (.r 0), some (pI m), none] (Dh ((a * 48271 + b * 69621 + 11) % 2147483647) b 0) := by
      have i0 : opIx (.r 0) (.d (.int 0)) (Dh a b 0) = .ok (pI a) (Dh a b 0) := rfl
      have i1 : opIx (.r 0) (.d (.int 1)) (Dh a b 0) = .ok (pI b) (Dh a b 0) := rfl
      have bi : ∀ x : Int, biInt [pI x] (Dh a b 0) = .ok (pI x) (Dh a b 0) := fun _ => rfl
      have m1 : mulOk a 48271 = true := mulOk_r (by omega) (by omega)
      have m2 : mulOk b 69621 = true := mulOk_r (by omega) (by omega)
      simp only [mAsg_eq, mBin_eq, mCall_eq, aCons_eq, mV_0, mK_eq, bind_ok, i0, i1, aNil_eq, vmul _ _ _ m1, vmul _ _ _ m2, vadd, bi, vmod _ _ _ (show (0 : Int) < 2147483647 by omega), toS_ok]
      rfl
    rw [seq_nx e2]
    generalize (a * 48271 + b * 69621 + 11) % 2147483647 = x
    have e3 : mAsg (mBin opAdd (mBin opIx (mV 0) (mK (.d (.int 1)))) (mK (.d (.int 1)))) (gIx (mV 0) (mK (.d (.int 1)))) [some (.r 0), some (pI m), none] (Dh x b 0) = .nx [some (.r 0), some (pI m), none] (Dh x (b + 1) 0) := rfl
    rw [seq_nx e3]
    have i0 : opIx (.r 0) (.d (.int 0)) (Dh x (b + 1) 0) = .ok (pI x) (Dh x (b + 1) 0) := rfl
    have bi : ∀ x' : Int, biInt [pI x'] (Dh x (b + 1) 0) = .ok (pI x') (Dh x (b + 1) 0) := fun _ => rfl
    simp only [mRet_eq, mBin_eq, mCall_eq, aCons_eq, mV_0, mV_1, mK_eq, bind_ok, i0, aNil_eq, vdiv _ _ _ (show (0 : Int) < 7 by omega) (show (7 : Int) < 18446744073709551616 by omega), bi, vmod _ _ _ hm, toS_ok]
theorem roll_high (f : MF) (k : ∀ a b c m, 1 ≤ m → m ≤ 100000000 → Rolled (f [.r 0, pI m] (Dh a b c)) (isI m)) (a b c m : Int) (h1 : 1 ≤ m) (h2 : m ≤ 1000000000001) : Rolled (runF 3 (m__law_roll f) [.r 0, pI m] (Dh a b c)) (isI m) := by
  by_cases hl : m ≤ 100000000
  · exact roll_low f a b c m h1 hl
  have hm : 0 < m := by omega
  have hm2 : m < 18446744073709551616 := by omega
  have c0 : mOr (mTb (mBin (opEq true) (mBin opIx (mV 0) (mK (.d (.int 2)))) (mK (.d (.int 2))))) (mAnd (mTb (mBin (opEq true) (mBin opIx (mV 0) (mK (.d (.int 2)))) (mK (.d (.int 1))))) (mTb (mBin oGt (mBin opIx (mV 0) (mK (.d (.int 0)))) (mK (.d (.int 0)))))) [some (.r 0), some (pI m), none] (Dh a b c) = .ok (c == 2 || (c == 1 && decide (0 < a))) (Dh a b c) := by
    have i2 : opIx (.r 0) (.d (.int 2)) (Dh a b c) = .ok (pI c) (Dh a b c) := rfl
    have i0 : opIx (.r 0) (.d (.int 0)) (Dh a b c) = .ok (pI a) (Dh a b c) := rfl
    simp only [mOr_eq, mAnd_eq, mTb_eq, mBin_eq, mV_0, mK_eq, bind_ok, i2, i0, veq, vgt, if_true]
    cases (c == 2) <;> cases (c == 1) <;> rfl
  by_cases q : (c == 2 || (c == 1 && decide (0 < a))) = true
  · rw [q] at c0
    refine ⟨pI (a % m), a / m, b, c, runF_rt ?_, a % m, rfl, Int.emod_nonneg _ (by omega), Int.emod_lt_of_pos _ hm⟩
    unfold m__law_roll
    simp only [List.map_cons, List.map_nil, List.length_cons, List.length_nil, Nat.reduceAdd, Nat.reduceSub, List.replicate, List.cons_append, List.nil_append]
    refine seq_rt ((if_yes c0).trans ?_)
    have e1 : mAsg (mBin opMod (mCall biInt (aCons (mBin opIx (mV 0) (mK (.d (.int 0)))) aNil)) (mV 1)) (gN 2) [some (.r 0), some (pI m), none] (Dh a b c) = .nx [some (.r 0), some (pI m), some (pI (a % m))] (Dh a b c) := by
      have i0 : opIx (.r 0) (.d (.int 0)) (Dh a b c) = .ok (pI a) (Dh a b c) := rfl
      have bi : biInt [pI a] (Dh a b c) = .ok (pI a) (Dh a b c) := rfl
      simp only [mAsg_eq, mBin_eq, mCall_eq, aCons_eq, mV_0, mV_1, mK_eq, bind_ok, i0, aNil_eq, bi, vmod _ _ _ hm, toS_ok, gN_eq, List.set_cons_succ, List.set_cons_zero]
    have e2 : mAsg (mBin opDiv (mBin opIx (mV 0) (mK (.d (.int 0)))) (mV 1)) (gIx (mV 0) (mK (.d (.int 0)))) [some (.r 0), some (pI m), some (pI (a % m))] (Dh a b c) = .nx [some (.r 0), some (pI m), some (pI (a % m))] (Dh (a / m) b c) := by
      have i0 : opIx (.r 0) (.d (.int 0)) (Dh a b c) = .ok (pI a) (Dh a b c) := rfl
      simp only [mAsg_eq, mBin_eq, mV_0, mV_1, mK_eq, bind_ok, i0, vdiv _ _ _ hm hm2, toS_ok]
      rfl
    rw [seq_nx e1, seq_nx e2]
    rfl
  · have q' : (c == 2 || (c == 1 && decide (0 < a))) = false := by simpa using q
    rw [q'] at c0
    obtain ⟨v1, a1, b1, c1, r1, i1, rfl, l1, u1⟩ := k a b 0 (m / 100000000 + 1) (by omega) (by omega)
    obtain ⟨v2, a2, b2, c2, r2, i2, rfl, l2, u2⟩ := k a1 b1 c1 100000000 (by omega) (by omega)
    refine ⟨pI ((i1 * 100000000 + i2) % m), a2, b2, c2, runF_rt ?_, _, rfl, Int.emod_nonneg _ (by omega), Int.emod_lt_of_pos _ hm⟩
    unfold m__law_roll
    simp only [List.map_cons, List.map_nil, List.length_cons, List.length_nil, Nat.reduceAdd, Nat.reduceSub, List.replicate, List.cons_append, List.nil_append]
    rw [seq_nx (if_no c0)]
    have e1 : mAsg (mK (.d (.int 0))) (gIx (mV 0) (mK (.d (.int 2)))) [some (.r 0), some (pI m), none] (Dh a b c) = .nx [some (.r 0), some (pI m), none] (Dh a b 0) := rfl
    rw [seq_nx e1]
    have c1' : mTb (mBin oGt (mV 1) (mK (.d (.int 100000000)))) [some (.r 0), some (pI m), none] (Dh a b 0) = .ok true (Dh a b 0) := by
      simp only [mTb_eq, mBin_eq, mV_1, mK_eq, bind_ok, vgt, show (100000000 < m) by omega, decide_true]
    have bi : ∀ (x' : Int) (h : Cells), biInt [pI x'] h = .ok (pI x') h := fun _ _ => rfl
    have m1 : mulOk i1 100000000 = true := mulOk_r (by omega) (by omega)
    refine seq_rt ((if_yes c1').trans ?_)
    simp only [mRet_eq, mBin_eq, mCall_eq, mCallD_eq, aCons_eq, mV_0, mV_1, mK_eq, bind_ok, aNil_eq, List.append_nil, vdiv _ _ _ (show (0 : Int) < 100000000 by omega) (show (100000000 : Int) < 18446744073709551616 by omega), vadd, r1, vmul _ _ _ m1, r2, bi, vmod _ _ _ hm, toS_ok]
theorem trim_rolled {f : MF} {m : Int} {ps : List PV} {a b c : Int} {P : PV → Prop} (h : Rolled (f ps (Dh a b c)) P) : Rolled (trim f ps (Dh a b c)) P := by
  obtain ⟨v, a1, b1, c1, e, p⟩ := h
  exact ⟨v, a1, b1, c1, trim_same e rfl, p⟩
theorem s_roll (a b c m : Int) (h1 : 1 ≤ m) (h2 : m ≤ 1000000000001) : Rolled (r__law_roll [.r 0, pI m] (Dh a b c)) (isI m) :=
  trim_rolled (m := m) (roll_high _ (fun a b c m h1 h2 => roll_low _ a b c m h1 h2) a b c m h1 h2)
theorem s_dice (n : Int) : ∃ a b c, r__law_dice [pI n] [] = .ok (.r 0) (Dh a b c) := by
  have e : ∃ a b c, runF 1 m__law_dice [pI n] [] = .ok (.r 0) (Dh a b c) := by
    by_cases q : -10 < n ∧ n < 10
    · refine ⟨if n < 0 then -n else n, 0, 2, runF_rt ?_⟩
      unfold m__law_dice
      refine seq_rt ((if_yes (h1 := []) ?_).trans ?_)
      · simp [q.1, q.2]
      · simp [biAbs, sz]
    · have p : (10 : Int) ^ (18 : Nat) = 1000000000000000000 := by decide
      have ow : opPow (pI 10) (pI 18) [] = .ok (pI 1000000000000000000) [] := rfl
      refine ⟨n, 1 + n % 1009, if 1000000000000000000 ≤ n then 1 else 0, runF_rt ?_⟩
      unfold m__law_dice
      rw [seq_nx (if_no (h1 := []) ?_)]
      · have bi : biInt [pI n] [] = .ok (pI n) [] := rfl
        have bb : biInt [pB (decide (1000000000000000000 ≤ n))] [] = .ok (pI (if 1000000000000000000 ≤ n then 1 else 0)) [] := by
          simp [biInt]
        simp only [List.map_cons, List.map_nil, List.length_cons, List.length_nil, Nat.sub_self, List.replicate, List.cons_append, List.nil_append, mRet_eq, mCell_eq, aCons_eq, mV_0, bind_ok, mBin_eq, mK_eq, mCall_eq, aNil_eq, bi, vmod _ _ _ (show (0 : Int) < 1009 by omega), vadd, ow, vge, bb, Nat.zero_add, Nat.reduceAdd, sz 3 (by omega), if_true, toS_ok]
      · by_cases q1 : -10 < n
        · simp [q1, show ¬ n < 10 by omega]
        · simp [q1]
  obtain ⟨a, b, c, e⟩ := e
  refine ⟨a, b, c, ?_⟩
  unfold r__law_dice trim
  rw [e]; rfl
theorem s_rounds (ns : List Int) : ∃ a b c, r__law_rounds [.sc ns, pI 1] [] = .ok (.ls [.r 0]) (Dh a b c) := by
  suffices e : ∃ a b c, runF 4 (m__law_rounds r__law_dice) [.sc ns, pI 1] [] = .ok (.ls [.r 0]) (Dh a b c) by
    obtain ⟨a, b, c, e⟩ := e
    refine ⟨a, b, c, ?_⟩
    unfold r__law_rounds trim
    rw [e]; rfl
  have fin : ∀ n : Int, ∃ a b c, mRet (mLc (iAny (mV 2)) (gN 3) mYes (mCallD r__law_dice [] (aCons (mV 3) aNil)) [3]) [some (.sc ns), some (pI 1), some (pL (pIs [n])), none] [] = .rt (.ls [.r 0]) (Dh a b c) := fun n => by
    obtain ⟨a, b, c, d⟩ := s_dice n
    refine ⟨a, b, c, ?_⟩
    have it := any_pL (f := mV 2) (e := [some (.sc ns), some (pI 1), some (pL (pIs [n])), none]) (h := []) (ds := pIs [n]) rfl
    rw [mRet_eq, mLc_eq it]
    simp only [lcL, List.map_cons, List.map_nil, gd_none, if_true, wipeE, List.set_cons_succ, List.set_cons_zero, gN_eq, mYes, calm_ok, mCallD_eq, aCons_eq, mV_3, bind_ok, aNil_eq, List.append_nil, d, List.length_nil, sz _ (show 0 + 1 ≤ 16777216 by omega)]
    rfl
  have s1 : mAsg (mSl (mV 0) oNo (oSo (mV 1))) (gN 2) [some (.sc ns), some (pI 1), none, none] [] = .nx [some (.sc ns), some (pI 1), some (pL (pIs (ns.take 1))), none] [] := by
    have := cut_to ns 1
    simp only [mAsg_eq, mSl_eq, mV_0, mV_1, oNo_eq, oSo_eq, bind_ok, opSl, toS_ok, gN_eq, List.set_cons_succ, List.set_cons_zero]
    rw [show (1 : Int) = ((1 : Nat) : Int) from rfl, this]
  have cq : ∀ l : List Int, mTb (mBin (opEq true) (mV 2) (mLst aNil)) [some (.sc ns), some (pI 1), some (pL (pIs l)), none] [] = .ok (decide (l = [])) [] := fun l => by
    have : mkL [] = pL (pIs []) := rfl
    simp only [mTb_eq, mBin_eq, mV_2, mLst_eq, aNil_eq, bind_ok, List.length_nil, sz 0 (by omega), if_true, this, eq_ints_l]
  have go : ∀ n, ∃ E, (runF 4 (m__law_rounds r__law_dice) [.sc ns, pI 1] [] = match mRet (mLc (iAny (mV 2)) (gN 3) mYes (mCallD r__law_dice [] (aCons (mV 3) aNil)) [3]) [some (.sc ns), some (pI 1), some (pL (pIs [n])), none] [] with
      | .rt v h => .ok v h
      | _ => E) ∨ ns.take 1 ≠ [n] ∧ (ns ≠ [] ∨ n ≠ 0) := fun n => by
    refine ⟨.bad, ?_⟩
    by_cases q : ns.take 1 = [n] ∨ (ns = [] ∧ n = 0)
    · left
      obtain ⟨a, b, c, f⟩ := fin n
      rw [f]
      refine runF_rt ?_
      unfold m__law_rounds
      simp only [List.map_cons, List.map_nil, List.length_cons, List.length_nil, Nat.reduceAdd, Nat.reduceSub, List.replicate, List.cons_append, List.nil_append]
      rw [seq_nx s1]
      rcases q with q | ⟨q, rfl⟩
      · rw [q, seq_nx (if_no (h1 := []) ((cq [n]).trans (by simp))), f]
      · subst q
        have : mAsg (mLst (aCons (mK (.d (.int 0))) aNil)) (gN 2) [some (.sc []), some (pI 1), some (pL (pIs [])), none] [] = .nx [some (.sc []), some (pI 1), some (pL (pIs [0])), none] [] := by
          have e : mkL [pI 0] = pL (pIs [0]) := rfl
          simp only [mAsg_eq, mLst_eq, aCons_eq, mK_eq, bind_ok, aNil_eq, List.length_cons, List.length_nil, Nat.zero_add, sz 1 (by omega), if_true, e, toS_ok, gN_eq, List.set_cons_succ, List.set_cons_zero]
        have c2 := (cq []).trans (show _ = Out.ok true [] by simp)
        rw [List.take_nil, seq_nx ((if_yes c2).trans this), f]
    · right
      exact ⟨fun x => q (.inl x), by by_cases z : ns = []; exact .inr (fun w => q (.inr ⟨z, w⟩)); exact .inl z⟩
  have key : ∃ n, ns.take 1 = [n] ∨ (ns = [] ∧ n = 0) := by
    cases ns with
    | nil => exact ⟨0, .inr ⟨rfl, rfl⟩⟩
    | cons n r => exact ⟨n, .inl rfl⟩
  obtain ⟨n, kn⟩ := key
  obtain ⟨E, g⟩ := go n
  rcases g with g | ⟨g1, g2⟩
  · obtain ⟨a, b, c, f⟩ := fin n
    rw [f] at g
    exact ⟨a, b, c, g⟩
  · rcases kn with kn | ⟨kn, kz⟩
    · exact absurd kn g1
    · rcases g2 with g2 | g2
      · exact absurd kn g2
      · exact absurd kz g2
end K01

set_option Elab.async false
set_option linter.all false
set_option maxRecDepth 100000
set_option maxHeartbeats 1000000
namespace K01
open PySem PySem.Spec PyProof.Rows L2 Mi
/-! ## the law's number -/
abbrev bLN : MS := mPar 1 0 (aCons (mBin opAdd (mV 1) (mLst (aCons (mBin opSub (mBin opAdd (mK (.d (.int 128))) (mV 0)) (mBin opMul (mBin opDiv (mV 0) (mK (.d (.int 128)))) (mK (.d (.int 128))))) aNil))) (aCons (mBin opDiv (mV 0) (mK (.d (.int 128)))) aNil))
theorem bLN_eq (n : Int) (xs : List Int) (h : Cells) (hx : xs.length ≤ 100) : bLN [some (pI n), some (pL (pIs xs))] h = .nx [some (pI (n / 128)), some (pL (pIs (xs ++ [128 + n % 128])))] h := by
  have m : mulOk (n / 128) 128 = true := mulOk_r (by omega) (by omega)
  have e : mkL [pI (128 + n - n / 128 * 128)] = pL (pIs [128 + n % 128]) := by
    have : 128 + n - n / 128 * 128 = 128 + n % 128 := by omega
    rw [this]; rfl
  simp only [bLN, mPar_eq, aCons_eq, mBin_eq, mV_0, mV_1, mLst_eq, mK_eq, bind_ok, vadd, vdiv _ _ _ (show (0 : Int) < 128 by omega) (show (128 : Int) < 18446744073709551616 by omega), vmul _ _ _ m, vsub, aNil_eq, List.length_cons, List.length_nil, Nat.zero_add, sz 1 (by omega), if_true, e]
  rw [add_pL _ _ _ (sz _ (by simp; omega))]
  simp
theorem wLN_eq : ∀ (f : Nat) (n : Int) (g : Nat) (h : Cells) (xs : List Int), n < 128 ^ (f + 1) → f < g → xs.length + f ≤ 100 →
    mWh (mTb (mBin oGt (mV 0) (mK (.d (.int 127))))) bLN g [some (pI n), some (pL (pIs xs))] h = .nx [some (pI (ocs f n).2), some (pL (pIs (xs ++ (ocs f n).1)))] h
  | f, n, 0, _, _, _, hg, _ => absurd hg (by omega)
  | 0, n, g + 1, h, xs, hn, _, _ => by
    have : ¬ 127 < n := by simp at hn; omega
    rw [wh_stop (h1 := h) (by simp [this]) (by omega)]
    simp [ocs]
  | f + 1, n, g + 1, h, xs, hn, hg, hx => by
    by_cases q : 128 ≤ n
    · have h2 : n / 128 < 128 ^ (f + 1) := by
        have : n < 128 ^ (f + 1) * 128 := by rw [← Int.pow_succ]; exact hn
        omega
      rw [wh_turn (h1 := h) (by simp [show 127 < n by omega]) (bLN_eq n xs h (by omega)), wLN_eq f (n / 128) g h _ h2 (by omega) (by simp; omega)]
      simp [ocs, q]
    · rw [wh_stop (h1 := h) (by simp [show ¬ 127 < n by omega]) (by omega)]
      simp [ocs, q]
theorem s_ln (n : Int) (h : Cells) (h1 : n ≤ 1000000000000) : r__law_number [pI n] h = .ok (pT (pIs (octs n))) h := by
  refine trim_same (runF_rt ?_) rfl
  unfold m__law_number
  simp only [List.map_cons, List.map_nil, List.length_cons, List.length_nil, Nat.reduceAdd, Nat.reduceSub, List.replicate, List.cons_append, List.nil_append]
  have e1 : mAsg (mLst aNil) (gN 1) [some (pI n), none] h = .nx [some (pI n), some (pL (pIs []))] h := by
    have : mkL [] = pL (pIs []) := rfl
    simp only [mAsg_eq, mLst_eq, aNil_eq, bind_ok, List.length_nil, sz 0 (by omega), if_true, this, toS_ok, gN_eq, List.set_cons_succ, List.set_cons_zero]
  have W := wLN_eq 6 n FU h [] (by simp; omega) (by decide) (by simp)
  rw [seq_nx e1, seq_nx W]
  have e : mkL [pI (ocs 6 n).2] = pL (pIs [(ocs 6 n).2]) := rfl
  have := ocs_len 6 n
  simp only [List.nil_append, mRet_eq, mCall_eq, aCons_eq, mBin_eq, mV_0, mV_1, mLst_eq, bind_ok, aNil_eq, List.length_cons, List.length_nil, Nat.zero_add, sz 1 (by omega), if_true, e]
  rw [add_pL _ _ _ (sz _ (by simp; omega))]
  simp [tuple_pL, octs]
/-! ## a drawn text -/
def isT (v : PV) : Prop := ∃ is : List Nat, v = pS (tx is) ∧ is.length ≤ 5 ∧ ∀ i ∈ is, i < 74
theorem isT.ok {is : List Nat} (h : is.length ≤ 5 ∧ ∀ i ∈ is, i < 74) : txOk is := ⟨by omega, h.2⟩
abbrev ID (h : Cells) : Prop := ∃ a b c, h = Dh a b c
theorem roll_call {m : Int} (h1 : 1 ≤ m) (h2 : m ≤ 1000000000001) {f : ME PV} {e : Sl} {h : Cells} (i : ID h) (q : ∃ h', f e h = .ok (pI m) h' ∧ ID h') (d : mV k e h = .ok (.r 0) h) : ∃ h' v, mCallD r__law_roll [] (aCons (mV k) (aCons f aNil)) e h = .ok v h' ∧ isI m v ∧ ID h' := by
  obtain ⟨h', q1, a', b', c', rfl⟩ := q
  obtain ⟨v, a1, b1, c1, r, p⟩ := s_roll a' b' c' m h1 h2
  refine ⟨_, v, ?_, p, a1, b1, c1, rfl⟩
  simp only [mCallD_eq, aCons_eq, d, bind_ok, q1, aNil_eq, List.append_nil, r]
theorem roll_K {m : Int} (h1 : 1 ≤ m) (h2 : m ≤ 1000000000001) {e : Sl} {h : Cells} (i : ID h) (d : mV k e h = .ok (.r 0) h) : ∃ h' v, mCallD r__law_roll [] (aCons (mV k) (aCons (mK (.d (.int m))) aNil)) e h = .ok v h' ∧ isI m v ∧ ID h' :=
  roll_call h1 h2 i ⟨h, rfl, i⟩ d
/-- one of two -/
theorem pick2 (x y : Int) {e : Sl} {h : Cells} (i : ID h) (d : mV k e h = .ok (.r 0) h) : ∃ h' m, mBin opIx (mLst (aCons (mK (.d (.int x))) (aCons (mK (.d (.int y))) aNil))) (mCallD r__law_roll [] (aCons (mV k) (aCons (mK (.d (.int 2))) aNil))) e h = .ok (pI m) h' ∧ (m = x ∨ m = y) ∧ ID h' := by
  obtain ⟨h', v, q, ⟨j, rfl, l, u⟩, i'⟩ := roll_K (m := 2) (by omega) (by omega) i d
  have e2 : mkL [pI x, pI y] = pL [.int x, .int y] := rfl
  have c : j = 0 ∨ j = 1 := by omega
  simp only [mBin_eq, mLst_eq, aCons_eq, mK_eq, bind_ok, aNil_eq, List.length_cons, List.length_nil, Nat.zero_add, Nat.reduceAdd, sz 2 (by omega), if_true, e2]
  rw [mCallD_eq, aCons_eq] at q
  rcases c with rfl | rfl
  · refine ⟨h', x, ?_, .inl rfl, i'⟩
    simp only [mCallD_eq] at q ⊢
    simp only [aCons_eq, mK_eq, aNil_eq, bind_ok] at q ⊢
    rw [q]; rfl
  · refine ⟨h', y, ?_, .inr rfl, i'⟩
    simp only [mCallD_eq] at q ⊢
    simp only [aCons_eq, mK_eq, aNil_eq, bind_ok] at q ⊢
    rw [q]; rfl
/-- many draws -/
theorem draws {n : Nat} {fe : ME PV} {e : Sl} {h h1 : Cells} {fi : ME (List PV)} {j : Nat} (P : PV → Prop) (q : fi e h = .ok [nI n] h1) (b : n ≤ 1000000) (i : ID h1) (k : ∀ v h, ID h → ∃ h' w, fe ((wipeE e [j]).set j (some v)) h = .ok w h' ∧ P w ∧ ID h') :
    ∃ vs h', mLc (iRange1 fi) (gN j) mYes fe [j] e h = .ok (mkL vs) h' ∧ ID h' ∧ vs.length = n ∧ ∀ v ∈ vs, P v := by
  obtain ⟨vs, h', a1, a2, a3, a4⟩ := lc_inv (g := gN j) (fe := fe) (all := rngL 0 n) (e := wipeE e [j]) ID P (rngL 0 n) [] h1 (fun x _ h i => by
    obtain ⟨h', w, w1, w2, w3⟩ := k x h i
    exact ⟨_, _, w, h', rfl, w1, w2, w3⟩) (sz _ (by simp [rngL]; omega)) i
  refine ⟨vs, h', ?_, a2, by simpa [rngL] using a3, a4⟩
  rw [mLc_eq (range1_nat q b), a1]; rfl
theorem all_ex {P : PV → Prop} {γ : Type} {f : γ → PV} {Q : γ → Prop} (k : ∀ v, P v → ∃ i, v = f i ∧ Q i) : ∀ (vs : List PV), (∀ v ∈ vs, P v) → ∃ is : List γ, vs = is.map f ∧ is.length = vs.length ∧ ∀ i ∈ is, Q i
  | [], _ => ⟨[], rfl, rfl, by simp⟩
  | v :: vs, h => by
    obtain ⟨i, rfl, q⟩ := k v (h v (by simp))
    obtain ⟨is, rfl, l, a⟩ := all_ex k vs (fun w hw => h w (by simp [hw]))
    exact ⟨i :: is, rfl, by simp, fun j hj => by rcases List.mem_cons.mp hj with rfl | hj; exact q; exact a j hj⟩
theorem s_text (a b c : Int) : Rolled (r__law_text [.r 0] (Dh a b c)) isT := by
  refine trim_rolled (m := 0) ?_
  have i0 : ID (Dh a b c) := ⟨a, b, c, rfl⟩
  obtain ⟨h1, v1, q1, ⟨n, rfl, n0, n1⟩, i1⟩ := roll_K (k := 0) (e := [some (.r 0), none]) (m := 6) (by omega) (by omega) i0 rfl
  obtain ⟨N, rfl⟩ : ∃ N : Nat, n = N := ⟨n.toNat, by omega⟩
  obtain ⟨vs, h2, d1, ⟨a2, b2, c2, rfl⟩, d3, d4⟩ := draws (j := 1) (e := [some (.r 0), none]) (fi := aCons (mCallD r__law_roll [] (aCons (mV 0) (aCons (mK (.d (.int 6))) aNil))) aNil) (h := Dh a b c)
    (fe := mBin opIx (mK (.d (.str SG))) (mCallD r__law_roll [] (aCons (mV 0) (aCons (mBin opIx (mLst (aCons (mK (.d (.int 3))) (aCons (mK (.d (.int 74))) aNil))) (mCallD r__law_roll [] (aCons (mV 0) (aCons (mK (.d (.int 2))) aNil)))) aNil))))
    (fun v => ∃ i : Nat, v = pS (one i) ∧ i < 74) (by rw [aCons_eq, q1]; rfl) (by omega) i1 (fun v h i => by
      obtain ⟨h', m, p1, p2, p3⟩ := pick2 (k := 0) 3 74 (e := [some (.r 0), some v]) i rfl
      obtain ⟨h'', w, w1, ⟨j, rfl, j0, j1⟩, w3⟩ := roll_call (k := 0) (m := m) (by omega) (by omega) i ⟨h', p1, p3⟩ rfl
      obtain ⟨J, rfl⟩ : ∃ J : Nat, j = J := ⟨j.toNat, by omega⟩
      refine ⟨h'', pS (one J), ?_, ⟨J, rfl, by omega⟩, w3⟩
      show mBin _ _ _ [some (.r 0), some v] h = _
      rw [mBin_eq, mK_eq]
      simp only [bind_ok]
      rw [w1]
      exact SG_at J (by omega) _)
  obtain ⟨is, rfl, l, ha⟩ := all_ex (f := fun i : Nat => pS (one i)) (Q := fun i => i < 74) (fun v h => h) vs d4
  have lk : is.length ≤ 5 := by rw [l, d3]; omega
  refine ⟨pS (tx is), a2, b2, c2, runF_rt ?_, is, rfl, lk, ha⟩
  unfold m__law_text
  have e3 : mkL (is.map fun i => pS (one i)) = pL ((is.map one).map .str) := by
    have : (is.map fun i => pS (one i)) = ((is.map one).map PyData.str).map .d := by simp [List.map_map, Function.comp_def]
    rw [this, mkL_map]
  rw [e3] at d1
  simp only [List.map_cons, List.map_nil, List.length_cons, List.length_nil, Nat.reduceAdd, Nat.reduceSub, List.replicate, List.cons_append, List.nil_append, mRet_eq, mMeth_eq, mK_eq, bind_ok, tyS, if_true, aCons_eq]
  rw [show (.d (.str (" !#,-./0123456789:;=?ABCDEFGHIJKLMNOPQRSTUVWXYZ_abcdefghijklmnopqrstuvwxyz" : Str)) : PV) = .d (.str SG) from rfl, d1]
  simp only [bind_ok, aNil_eq, meJoin_one is (isT.ok ⟨lk, ha⟩), toS_ok]
/-! ## the law's signs -/
def enumSG : List (Nat × Nat) := SG.cps.toList.mapIdx fun i c => (i, c)
theorem signs_filter : ∀ i < 74, ((enumSG.filter fun p => p.2 == sg i).map fun p => p.1 + 1) = [i + 1] := by decide +kernel
theorem enum_len : enumSG.length = 74 := by rw [enumSG, List.length_mapIdx, SG_len]
theorem inner_signs (i : Nat) (hi : i < 74) (a : Option PV) (u v : Option PV) (h : Cells) : mLc (iEnumT (aCons (mK (.d (.str SG))) aNil)) (gTp 2 (gsCons (gN 2) (gsCons (gN 3) gsNil))) (mTb (mBin (opEq true) (mV 3) (mV 1))) (mBin opAdd (mV 2) (mK (.d (.int 1)))) [2, 3] [a, some (pS (one i)), u, v] h = .ok (pL [.int (i + 1)]) h := by
  have it : iEnumT (aCons (mK (.d (.str SG))) aNil) [a, some (pS (one i)), u, v] h = .ok (enumSG.map (fun p => pT [.int (p.1 : Nat), .str ⟨#[p.2]⟩]), none) h := by
    have : (SG.cps.toList.mapIdx fun i c => mkT [.d (.int (i : Nat)), .d (.str ⟨#[c]⟩)]) = enumSG.map (fun p => pT [.int (p.1 : Nat), .str ⟨#[p.2]⟩]) := by
      unfold enumSG
      apply List.ext_getElem
      · simp
      · intro n h1 h2; simp [mkT_2]
    simp only [iEnumT, aCons_eq, mK_eq, bind_ok, aNil_eq]
    rw [← this]
  have lc := lc_pure (g := gTp 2 (gsCons (gN 2) (gsCons (gN 3) gsNil))) (t := mTb (mBin (opEq true) (mV 3) (mV 1))) (fe := mBin opAdd (mV 2) (mK (.d (.int 1)))) (all := enumSG.map (fun p => pT [.int (p.1 : Nat), .str ⟨#[p.2]⟩])) (e := [a, some (pS (one i)), none, none]) (h := h)
    (fun p : Nat × Nat => pT [.int (p.1 : Nat), .str ⟨#[p.2]⟩]) (fun p => p.2 == sg i) (fun p => nI (p.1 + 1)) enumSG [] (fun p _ => ⟨[a, some (pS (one i)), some (nI p.1), some (pS ⟨#[p.2]⟩)], by simp [gTp], by
      have : ((⟨#[p.2]⟩ : Str) == one i) = (p.2 == sg i) := by
        by_cases z : p.2 = sg i
        · rw [z]; simp [one]
        · have : (⟨#[p.2]⟩ : Str) ≠ one i := fun y => z (by simpa [one] using y)
          rw [beq_eq_false_iff_ne.mpr this, beq_eq_false_iff_ne.mpr z]
      simp only [mTb_eq, mBin_eq, mV_3, mV_1, bind_ok, eq_strs, if_true, this], fun _ => by simp⟩) (sz _ (by rw [enum_len]; simp))
  rw [mLc_eq it]
  have w : wipeE [a, some (pS (one i)), u, v] [2, 3] = [a, some (pS (one i)), none, none] := rfl
  rw [w, lc]
  have e : ((enumSG.filter fun p => p.2 == sg i).map fun p => nI (p.1 + 1)) = [nI (i + 1)] := by
    have := congrArg (List.map fun n : Nat => nI n) (signs_filter i hi)
    rw [List.map_map] at this
    exact this
  rw [e]
  rfl
theorem s_ls (is : List Nat) (k : txOk is) (h : Cells) : r__law_signs [pS (tx is)] h = .ok (pT (pIs (sgs is))) h := by
  refine trim_same (runF_rt ?_) rfl
  unfold m__law_signs
  simp only [List.map_cons, List.map_nil, List.length_cons, List.length_nil, Nat.reduceAdd, Nat.reduceSub, List.replicate, List.cons_append, List.nil_append]
  have it : iAny (mV 0) [some (pS (tx is)), none, none, none] h = .ok (is.map (fun i => pS (one i)), none) h := by rw [any_str (x := tx is) rfl, tx_walk]
  have lc := lc_all (g := gN 1) (fe := mBin opIx (mLc (iEnumT (aCons (mK (.d (.str SG))) aNil)) (gTp 2 (gsCons (gN 2) (gsCons (gN 3) gsNil))) (mTb (mBin (opEq true) (mV 3) (mV 1))) (mBin opAdd (mV 2) (mK (.d (.int 1)))) [2, 3]) (mK (.d (.int 0)))) (all := is.map (fun i => pS (one i))) (e := [some (pS (tx is)), none, none, none]) (h := h) (fun i => pS (one i)) (fun i : Nat => pI ((i : Int) + 1)) is [] (fun i hi => ⟨_, rfl, by
    show mBin _ _ _ [some (pS (tx is)), some (pS (one i)), none, none] h = _
    rw [mBin_eq, inner_signs i (k.2 i hi)]
    rfl⟩) (sz _ (by have := k.1; simp; omega))
  have c := (mLc_eq (vs := [1]) it).trans lc
  have e : mkL ([] ++ is.map fun i : Nat => pI ((i : Int) + 1)) = pL (pIs (sgs is)) := by
    have : (is.map fun i : Nat => pI ((i : Int) + 1)) = (pIs (sgs is)).map .d := by simp [sgs]
    rw [List.nil_append, this, mkL_map]
  rw [e] at c
  rw [mRet_eq, mCall_eq, aCons_eq, c]
  simp [tuple_pL]
/-! ## the law's sum and frame -/
theorem s_lsum (t : Bool) (l : List Int) (b : l.length ≤ 100000) (h : Cells) : r__law_sum [oI t l] h = .ok (pI (sumL l)) h := by
  refine trim_same (runF_rt ?_) rfl
  unfold m__law_sum
  simp only [List.map_cons, List.map_nil, List.length_cons, List.length_nil, Nat.reduceAdd, Nat.reduceSub, List.replicate, List.cons_append, List.nil_append]
  have e1 : mAsg (mBin opAdd (mK (.d (.int 1))) (mCall biSumA (aCons (mV 0) aNil))) (gN 1) [some (oI t l), none, none, none] h = .nx [some (oI t l), some (pI (1 + l.sum)), none, none] h := by
    simp [sum_pQ]
  have r : iRange1 (aCons (mCall biLen (aCons (mV 0) aNil)) aNil) [some (oI t l), some (pI (1 + l.sum)), none, none] h = .ok ((List.range l.length).map (fun k : Nat => pI (0 + (k : Int))), none) h :=
    range1_nat (by simp [len_oI]) (by omega)
  have lc := lc_all (g := gN 3) (fe := mBin opAdd (mK (.d (.int 1))) (mCall biSumA (aCons (mSl (mV 0) oNo (oSo (mBin opAdd (mV 3) (mK (.d (.int 1)))))) aNil))) (all := (List.range l.length).map (fun k : Nat => pI (0 + (k : Int)))) (e := [some (oI t l), some (pI (1 + l.sum)), none, none]) (h := h) (fun k : Nat => pI (0 + (k : Int))) (fun k : Nat => pI (1 + (l.take (k + 1)).sum)) (List.range l.length) [] (fun k _ => ⟨_, rfl, by
    have e : opSl (oI t l) none (some (0 + (k : Int) + 1)) h = .ok (oI t (l.take (k + 1))) h := by
      rw [show (0 + (k : Int) + 1) = ((k + 1 : Nat) : Int) by omega, sl_pQ, cut_to]
      simp only [oI, pIs, List.map_take]
    simp only [List.set_cons_succ, List.set_cons_zero, mBin_eq, mK_eq, mCall_eq, aCons_eq, mSl_eq, mV_0, oNo_eq, oSo_eq, mV_3, bind_ok, vadd, e, aNil_eq, sum_pQ]⟩) (sz _ (by simp; omega))
  have c := (mLc_eq (vs := [3]) r).trans lc
  have ek : mkL ([] ++ (List.range l.length).map fun k : Nat => pI (1 + (l.take (k + 1)).sum)) = pL (pIs ((List.range l.length).map fun k : Nat => 1 + (l.take (k + 1)).sum)) := by
    have : ((List.range l.length).map fun k : Nat => pI (1 + (l.take (k + 1)).sum)) = (pIs ((List.range l.length).map fun k : Nat => 1 + (l.take (k + 1)).sum)).map .d := by simp
    rw [List.nil_append, this, mkL_map]
  rw [ek] at c
  rw [seq_nx e1]
  have e2 : mAsg (mCall biSumA (aCons (mLc (iRange1 (aCons (mCall biLen (aCons (mV 0) aNil)) aNil)) (gN 3) mYes (mBin opAdd (mK (.d (.int 1))) (mCall biSumA (aCons (mSl (mV 0) oNo (oSo (mBin opAdd (mV 3) (mK (.d (.int 1)))))) aNil))) [3]) aNil)) (gN 2) [some (oI t l), some (pI (1 + l.sum)), none, none] h = .nx [some (oI t l), some (pI (1 + l.sum)), some (pI ((List.range l.length).map fun k : Nat => 1 + (l.take (k + 1)).sum).sum), none] h := by
    rw [mAsg_eq, mCall_eq, aCons_eq, c]
    have := sum_pQ false ((List.range l.length).map fun k : Nat => 1 + (l.take (k + 1)).sum) h
    simp only [pQ] at this
    simp only [bind_ok, aNil_eq]
    rw [show biSumA [pL (pIs ((List.range l.length).map fun k : Nat => 1 + (l.take (k + 1)).sum))] h = _ from this]
    rfl
  rw [seq_nx e2]
  have m1 : ∀ x : Int, mulOk x 65536 = true := fun x => mulOk_r (by omega) (by omega)
  simp only [mRet_eq, mBin_eq, mV_1, mV_2, mK_eq, bind_ok, vmod _ _ _ (show (0 : Int) < 65521 by omega), vmul _ _ _ (m1 _), vadd, toS_ok]
  rfl
theorem s_lf (l : List Int) (b : l.length ≤ 10000) (h : Cells) : r__law_frame [pT (pIs l)] h = .ok (pT (pIs (frame l))) h := by
  refine trim_same (runF_rt ?_) rfl
  unfold m__law_frame
  simp only [List.map_cons, List.map_nil, List.length_cons, List.length_nil, Nat.reduceAdd, Nat.reduceSub, List.replicate, List.cons_append, List.nil_append]
  have hs : r__law_sum [pT (pIs l)] h = .ok (pI (sumO l)) h := by rw [sumO_eq]; exact s_lsum true l (by omega) h
  have e1 : mAsg (mCallD r__law_sum [] (aCons (mV 0) aNil)) (gN 1) [some (pT (pIs l)), none, none] h = .nx [some (pT (pIs l)), some (pI (sumO l)), none] h := by simp [hs]
  rw [seq_nx e1]
  have ew : mkL [pI 16777216, pI 65536, pI 256, pI 1] = pL (pIs [16777216, 65536, 256, 1]) := rfl
  have it : iAny (mLst (aCons (mK (.d (.int 16777216))) (aCons (mK (.d (.int 65536))) (aCons (mK (.d (.int 256))) (aCons (mK (.d (.int 1))) aNil))))) [some (pT (pIs l)), some (pI (sumO l)), none] h = .ok (([16777216, 65536, 256, 1] : List Int).map pI, none) h := by
    rw [any_pL (ds := pIs [16777216, 65536, 256, 1]) (h1 := h), pI_map]
    simp only [mLst_eq, aCons_eq, mK_eq, aNil_eq, bind_ok, List.length_cons, List.length_nil, Nat.zero_add, Nat.reduceAdd, sz 4 (by omega), if_true, ew]
  have lc := lc_all (g := gN 2) (fe := mBin opMod (mBin opDiv (mV 1) (mV 2)) (mK (.d (.int 256)))) (all := ([16777216, 65536, 256, 1] : List Int).map pI) (e := [some (pT (pIs l)), some (pI (sumO l)), none]) (h := h) pI (fun w : Int => pI (sumO l / w % 256)) [16777216, 65536, 256, 1] [] (fun w hw => ⟨_, rfl, by
    have w1 : 0 < w ∧ w < 18446744073709551616 := by simp at hw; omega
    simp only [List.set_cons_succ, List.set_cons_zero, mBin_eq, mV_1, mV_2, bind_ok, vdiv _ _ _ w1.1 w1.2, mK_eq, vmod _ _ _ (show (0 : Int) < 256 by omega)]⟩) (sz _ (by simp))
  have c := (mLc_eq (vs := [2]) it).trans lc
  have ek : mkL ([] ++ ([16777216, 65536, 256, 1] : List Int).map fun w : Int => pI (sumO l / w % 256)) = pL (pIs (tail4 (sumO l))) := by
    have : (([16777216, 65536, 256, 1] : List Int).map fun w : Int => pI (sumO l / w % 256)) = (pIs (tail4 (sumO l))).map .d := by simp [tail4]
    rw [List.nil_append, this, mkL_map]
  rw [ek] at c
  have ol := octs_len' l.length (by omega)
  rw [mRet_eq, mBin_eq, mBin_eq]
  simp only [mCallD_eq, mCall_eq, aCons_eq, mV_0, bind_ok, aNil_eq, len_pT, List.length_map, List.append_nil, s_ln (l.length : Int) h (by omega), tuple_pT]
  rw [add_pT _ _ _ (sz _ (by simp; omega))]
  simp only [bind_ok]
  rw [c]
  simp only [bind_ok, tuple_pL]
  rw [add_pT _ _ _ (sz _ (by simp [tail4]; omega))]
  simp [frame]
end K01

set_option Elab.async false
set_option linter.all false
set_option maxRecDepth 100000
set_option maxHeartbeats 1000000
namespace K01
open PySem PySem.Spec PyProof.Rows L2 Mi
/-! ## the law's reading -/
theorem filt_first (r : List Int) : (((List.range (min r.length 7)).filter fun j => decide (r.getD j 0 < 128)).take 1) = match r[ld 6 r]? with
    | some x => if 128 ≤ x then [] else [ld 6 r]
    | none => [] := by
  have kl := ld_le 6 r
  have big : ∀ j ∈ List.range (ld 6 r), ¬ (r.getD j 0 < 128) := fun j hj => by
    obtain ⟨x, e, b⟩ := ld_big 6 r j (List.mem_range.mp hj)
    rw [List.getD_eq_getElem?_getD, e]; simp; omega
  have f0 : (List.range (ld 6 r)).filter (fun j => decide (r.getD j 0 < 128)) = [] := List.filter_eq_nil_iff.mpr fun j hj => by simpa using big j hj
  by_cases q : ld 6 r < min r.length 7
  · obtain ⟨x, hx⟩ : ∃ x, r[ld 6 r]? = some x := ⟨_, List.getElem?_eq_getElem (by omega)⟩
    have sp : List.range (min r.length 7) = List.range (ld 6 r) ++ ld 6 r :: (List.range (min r.length 7 - (ld 6 r + 1))).map (fun i => ld 6 r + 1 + i) := by
      rw [show min r.length 7 = (ld 6 r + 1) + (min r.length 7 - (ld 6 r + 1)) by omega, List.range_add, List.range_succ]
      simp
    have gx : r.getD (ld 6 r) 0 = x := by rw [List.getD_eq_getElem?_getD, hx]; rfl
    rw [sp, List.filter_append, f0, hx]
    simp only [List.nil_append]
    by_cases b : 128 ≤ x
    · rw [if_pos b]
      have k6 : ld 6 r = 6 := by
        by_cases z : ld 6 r < 6
        · have := ld_stop 6 r x z hx; omega
        · omega
      have : min r.length 7 - (ld 6 r + 1) = 0 := by omega
      rw [this, List.filter_cons, gx]
      simp [show ¬ x < 128 by omega]
    · rw [if_neg b, List.filter_cons, gx]
      simp [show x < 128 by omega]
  · have : r.length ≤ ld 6 r := by omega
    have e : r.length = ld 6 r := by omega
    rw [List.getElem?_eq_none this]
    have : min r.length 7 = ld 6 r := by omega
    rw [this, f0]; rfl
theorem range2_go {g : ME (List PV)} {e : Sl} {h h1 : Cells} (i j : Int) (q : g e h = .ok [pI i, pI j] h1) : iRange2 g e h = if smallR i && smallR j then .ok (rngL i (j - i).toNat, none) h1 else .bad := by
  unfold iRange2
  rw [q]
  rfl
theorem range2_nat {g : ME (List PV)} {e : Sl} {h h1 : Cells} {i j : Nat} (q : g e h = .ok [nI i, nI j] h1) (b : i ≤ 1000000) (c : j ≤ 1000000) : iRange2 g e h = .ok (rngL i (j - i), none) h1 := by
  rw [range2_go _ _ q, smallR_nat i b, smallR_nat j c]
  simp only [Bool.and_self, if_true]
  rw [show ((j : Int) - i).toNat = j - i by omega]
abbrev bLR : MS := mPar 3 4 (aCons (mBin opAdd (mV 3) (mBin opMul (mV 4) (mIfE (mTb (mBin oGt (mV 5) (mK (.d (.int 127))))) (mBin opSub (mV 5) (mK (.d (.int 128)))) (mV 5)))) (aCons (mBin opMul (mV 4) (mK (.d (.int 128)))) aNil))
theorem bLR_eq (a b c g : Option PV) (F W x : Int) (h : Cells) (o : 0 ≤ x ∧ x < 256) : bLR [a, b, c, some (pI F), some (pI W), some (pI x), g] h = .nx [a, b, c, some (pI (F + W * dg x)), some (pI (W * 128)), some (pI x), g] h := by
  have d2 : 0 ≤ dg x ∧ dg x < 128 := by unfold dg; split <;> omega
  have m : mulOk W (dg x) = true := mulOk_r (by omega) (by omega)
  have m2 : mulOk W 128 = true := mulOk_r (by omega) (by omega)
  have e : mIfE (mTb (mBin oGt (mV 5) (mK (.d (.int 127))))) (mBin opSub (mV 5) (mK (.d (.int 128)))) (mV 5) [a, b, c, some (pI F), some (pI W), some (pI x), g] h = .ok (pI (dg x)) h := by
    unfold dg
    by_cases q : 128 ≤ x
    · simp [q, show 127 < x by omega]
    · simp [q, show ¬ 127 < x by omega]
  simp only [bLR, mPar_eq, aCons_eq, mBin_eq, mV_3, mV_4, bind_ok, e, vmul _ _ _ m, vadd, mK_eq, vmul _ _ _ m2, aNil_eq, toS_ok, List.set_cons_succ, List.set_cons_zero]
theorem fLR_eq (a b c g : Option PV) (h : Cells) (all : List PV) : ∀ (l : List Int) (F W : Int) (v : Option PV), oc8 l → ∃ v' W', forL (gN 5) bLR none all (l.map pI) [a, b, c, some (pI F), some (pI W), v, g] h = .nx [a, b, c, some (pI (F + W * vl l)), some (pI W'), v', g] h
  | [], F, W, v, _ => ⟨v, W, by simp [vl]⟩
  | x :: r, F, W, v, o => by
    obtain ⟨v', W', ih⟩ := fLR_eq a b c g h all r (F + W * dg x) (W * 128) (some (pI x)) (fun y hy => o y (by simp [hy]))
    refine ⟨v', W', ?_⟩
    rw [List.map_cons, forL_cons]
    simp only [gN_eq, List.set_cons_succ, List.set_cons_zero]
    rw [bLR_eq a b c g F W x h (o x (by simp))]
    simp only
    rw [ih]
    have : F + W * dg x + W * 128 * vl r = F + W * vl (x :: r) := by simp only [vl]; rw [Int.mul_add, Int.mul_assoc]; omega
    rw [this]
def rlO (h : Cells) : Option (Int × Nat) → Out PV
  | some (n, q) => .ok (pT [.int n, .int q]) h
  | none => .ok pN h
theorem s_lr (t : Bool) (l : List Int) (o : oc8 l) (p : Nat) (bl : l.length ≤ 100000) (bp : p ≤ 100000) (h : Cells) : r__law_read [oI t l, nI p] h = rlO h (rdN l p) := by
  suffices E : ∃ v, rlO h (rdN l p) = .ok v h ∧ m__law_read [some (oI t l), some (nI p), none, none, none, none, none] h = .rt v h by
    obtain ⟨v, e1, e2⟩ := E
    rw [e1]
    exact trim_same (runF_rt e2) rfl
  unfold m__law_read rdN
  have kl := ld_le 6 (l.drop p)
  have hmin : min l.length (p + 7) - p = min (l.drop p).length 7 := by rw [List.length_drop]; omega
  have r : iRange2 (aCons (mV 1) (aCons (mCall biMin2 (aCons (mCall biLen (aCons (mV 0) aNil)) (aCons (mBin opAdd (mV 1) (mK (.d (.int 7)))) aNil))) aNil)) [some (oI t l), some (nI p), none, none, none, none, none] h = .ok ((List.range (min (l.drop p).length 7)).map (fun j : Nat => pI ((p : Int) + (j : Int))), none) h := by
    have m := min2 l.length (p + 7) h
    rw [← hmin]
    refine range2_nat ?_ (by omega) (by omega)
    simp only [aCons_eq, mV_1, mCall_eq, mV_0, bind_ok, aNil_eq, len_oI, mBin_eq, mK_eq, vadd]
    rw [show ((p : Int) + 7) = ((p + 7 : Nat) : Int) by omega, m]
    rfl
  have lc := lc_pure (g := gN 6) (t := mTb (mBin oLt (mBin opIx (mV 0) (mV 6)) (mK (.d (.int 128))))) (fe := mV 6) (all := (List.range (min (l.drop p).length 7)).map (fun j : Nat => pI ((p : Int) + (j : Int)))) (e := [some (oI t l), some (nI p), none, none, none, none, none]) (h := h)
    (fun j : Nat => pI ((p : Int) + (j : Int))) (fun j => decide ((l.drop p).getD j 0 < 128)) (fun j : Nat => pI ((p : Int) + (j : Int))) (List.range (min (l.drop p).length 7)) [] (fun j hj => ⟨_, rfl, by
      have hl : p + j < l.length := by have := List.mem_range.mp hj; rw [List.length_drop] at this; omega
      have hx : l[p + j]? = some l[p + j] := List.getElem?_eq_getElem hl
      have i : opIx (oI t l) (pI ((p : Int) + (j : Int))) h = .ok (pI l[p + j]) h := by rw [← Int.natCast_add]; exact ix_oI t l (p + j) h _ hx
      have gd : (l.drop p).getD j 0 = l[p + j] := by rw [List.getD_eq_getElem?_getD, List.getElem?_drop, hx]; rfl
      simp only [List.set_cons_succ, List.set_cons_zero, mTb_eq, mBin_eq, mV_0, mV_6, bind_ok, i, mK_eq, vlt, gd], fun _ => by simp⟩) (sz _ (by simp; omega))
  have c := (mLc_eq (vs := [6]) r).trans lc
  have ff := filt_first (l.drop p)
  generalize hr : ((List.range (min (l.drop p).length 7)).filter fun j => decide ((l.drop p).getD j 0 < 128)) = fr at c ff
  have ek : mkL ([] ++ fr.map fun j : Nat => pI ((p : Int) + (j : Int))) = pL (pIs (fr.map fun j : Nat => (p : Int) + (j : Int))) := by
    have : (fr.map fun j : Nat => pI ((p : Int) + (j : Int))) = (pIs (fr.map fun j : Nat => (p : Int) + (j : Int))).map .d := by simp
    rw [List.nil_append, this, mkL_map]
  rw [ek] at c
  have e1 : ∀ rows : List Int, (pIs rows = (pIs (fr.map fun j : Nat => (p : Int) + (j : Int))).take 1) → mAsg (mSl (mLc (iRange2 (aCons (mV 1) (aCons (mCall biMin2 (aCons (mCall biLen (aCons (mV 0) aNil)) (aCons (mBin opAdd (mV 1) (mK (.d (.int 7)))) aNil))) aNil))) (gN 6) (mTb (mBin oLt (mBin opIx (mV 0) (mV 6)) (mK (.d (.int 128))))) (mV 6) [6]) oNo (oSo (mK (.d (.int 1))))) (gN 2) [some (oI t l), some (nI p), none, none, none, none, none] h = .nx [some (oI t l), some (nI p), some (pL (pIs rows)), none, none, none, none] h := fun rows hrows => by
    rw [mAsg_eq, mSl_eq, c]
    have := cut_to (pIs (fr.map fun j : Nat => (p : Int) + (j : Int))) 1
    simp only [bind_ok, oNo_eq, oSo_eq, mK_eq, sl_pL]
    rw [show (1 : Int) = ((1 : Nat) : Int) from rfl, this, ← hrows]
    rfl
  have em : mkL [] = pL (pIs []) := rfl
  have none_case : ∀ X : MS, fr.take 1 = [] → ∃ v, rlO h none = .ok v h ∧ (mSeq (mAsg (mSl (mLc (iRange2 (aCons (mV 1) (aCons (mCall biMin2 (aCons (mCall biLen (aCons (mV 0) aNil)) (aCons (mBin opAdd (mV 1) (mK (.d (.int 7)))) aNil))) aNil))) (gN 6) (mTb (mBin oLt (mBin opIx (mV 0) (mV 6)) (mK (.d (.int 128))))) (mV 6) [6]) oNo (oSo (mK (.d (.int 1))))) (gN 2))
  (mSeq (mIf (mOr (mTb (mBin (opEq true) (mV 2) (mLst aNil))) (mAnd (mTb (mBin (opEq true) (mBin opIx (mV 0) (mBin opIx (mV 2) (mK (.d (.int 0))))) (mK (.d (.int 0))))) (mTb (mBin oGt (mBin opIx (mV 2) (mK (.d (.int 0)))) (mV 1))))) (mRet (mK (.d .none))) mSkip) X)) [some (oI t l), some (nI p), none, none, none, none, none] h = .rt v h := fun X hf => by
    refine ⟨pN, rfl, ?_⟩
    rw [seq_nx (e1 [] (by rw [← List.map_take, ← List.map_take, hf]; rfl))]
    refine seq_rt ((if_yes (h1 := h) ?_).trans (ret_K _ _ _))
    simp only [mOr_eq, mTb_eq, mBin_eq, mV_2, mLst_eq, aNil_eq, bind_ok, List.length_nil, sz 0 (by omega), if_true, em, eq_ints_l, decide_true]
  generalize hk : ld 6 (l.drop p) = k at *
  cases hx : (l.drop p)[k]? with
  | none =>
    rw [hx] at ff
    exact none_case _ ff
  | some x =>
    rw [hx] at ff
    simp only at ff ⊢
    have hx1 : l[p + k]? = some x := by rw [List.getElem?_drop] at hx; exact hx
    have b8 := o.at hx1
    by_cases h1 : 128 ≤ x
    · rw [if_pos h1] at ff ⊢
      exact none_case _ ff
    · rw [if_neg h1] at ff ⊢
      have E1 := e1 [((p + k : Nat) : Int)] (by rw [← List.map_take, ← List.map_take, ff]; simp)
      rw [seq_nx E1]
      have ix := ix_oI t l (p + k) h x hx1
      have i2 : opIx (pL (pIs [((p + k : Nat) : Int)])) (pI 0) h = .ok (nI (p + k)) h := rfl
      have cnd : mOr (mTb (mBin (opEq true) (mV 2) (mLst aNil))) (mAnd (mTb (mBin (opEq true) (mBin opIx (mV 0) (mBin opIx (mV 2) (mK (.d (.int 0))))) (mK (.d (.int 0))))) (mTb (mBin oGt (mBin opIx (mV 2) (mK (.d (.int 0)))) (mV 1)))) [some (oI t l), some (nI p), some (pL (pIs [((p + k : Nat) : Int)])), none, none, none, none] h = .ok (decide (x = 0 ∧ 0 < k)) h := by
        have e0 : mTb (mBin (opEq true) (mV 2) (mLst aNil)) [some (oI t l), some (nI p), some (pL (pIs [((p + k : Nat) : Int)])), none, none, none, none] h = .ok false h := by
          simp only [mTb_eq, mBin_eq, mV_2, mLst_eq, aNil_eq, bind_ok, List.length_nil, sz 0 (by omega), if_true, em, eq_ints_l]; rfl
        rw [mOr_eq, e0]
        simp only [bind_ok, mAnd_eq, mTb_eq, mBin_eq, mV_0, mV_1, mV_2, mK_eq, i2, ix, veq, vgt, if_true]
        by_cases z : x = 0
        · simp [z]; omega
        · simp [z]
      by_cases h2 : x = 0 ∧ 0 < k
      · rw [if_pos h2]
        exact ⟨pN, rfl, seq_rt ((if_yes (cnd.trans (by rw [decide_eq_true h2]))).trans (ret_K _ _ _))⟩
      · rw [if_neg h2, seq_nx (if_no (cnd.trans (by rw [decide_eq_false h2])))]
        have e3 : mAsg (mTup (aCons (mK (.d (.int 0))) (aCons (mK (.d (.int 1))) aNil))) (gTp 2 (gsCons (gN 3) (gsCons (gN 4) gsNil))) [some (oI t l), some (nI p), some (pL (pIs [((p + k : Nat) : Int)])), none, none, none, none] h = .nx [some (oI t l), some (nI p), some (pL (pIs [((p + k : Nat) : Int)])), some (pI 0), some (pI 1), none, none] h := by
          simp [sz, mkT_2, gTp]
        have sl := sl_oI t l p (p + k + 1) h
        rw [show p + k + 1 - p = k + 1 by omega] at sl
        have slm : mSl (mV 0) (oSo (mV 1)) (oSo (mBin opAdd (mBin opIx (mV 2) (mK (.d (.int 0)))) (mK (.d (.int 1))))) [some (oI t l), some (nI p), some (pL (pIs [((p + k : Nat) : Int)])), some (pI 0), some (pI 1), none, none] h = .ok (oI t ((l.drop p).take (k + 1))) h := by
          simp only [mSl_eq, mV_0, mV_1, mV_2, oSo_eq, mBin_eq, mK_eq, bind_ok, i2, vadd]
          rw [show (((p + k : Nat) : Int) + 1) = ((p + k + 1 : Nat) : Int) by omega, sl]
        obtain ⟨v', W', f⟩ := fLR_eq (some (oI t l)) (some (nI p)) (some (pL (pIs [((p + k : Nat) : Int)]))) none h (((l.drop p).take (k + 1)).map pI) ((l.drop p).take (k + 1)) 0 1 none ((o.drop p).take _)
        have e4 := (mFor_eq (g := gN 5) (b := bLR) (any_pQ slm)).trans ((congrArg (fun z => forL (gN 5) bLR none z z _ h) (pI_map _)).trans f)
        rw [seq_nx e3, seq_nx e4]
        rw [Int.zero_add, Int.one_mul]
        generalize vl ((l.drop p).take (k + 1)) = V
        have pw : opPow (pI 10) (pI 12) h = .ok (pI 1000000000000) h := rfl
        by_cases h3 : 1000000000000 < V
        · rw [if_pos h3]
          refine ⟨pN, rfl, ?_⟩
          simp [pw, show ¬ V ≤ 1000000000000 by omega]
        · rw [if_neg h3]
          refine ⟨pT [.int V, .int (p + k + 1 : Nat)], rfl, ?_⟩
          simp only [mRet_eq, mIfE_eq, mTb_eq, mBin_eq, mV_3, mK_eq, bind_ok, pw, vle, show V ≤ 1000000000000 by omega, decide_true, if_true, mTup_eq, aCons_eq, mV_2, i2, vadd, aNil_eq, List.length_cons, List.length_nil, Nat.zero_add, Nat.reduceAdd, sz 2 (by omega), mkT_2, toS_ok]
          rw [show (((p + k : Nat) : Int) + 1) = ((p + k + 1 : Nat) : Int) by omega]
end K01

set_option Elab.async false
set_option linter.all false
set_option maxRecDepth 100000
set_option maxHeartbeats 1000000
namespace K01
open PySem PySem.Spec PyProof.Rows L2 Mi
/-! ## the law's frame of names -/
theorem mV_ne {i j : Nat} (q : i ≠ j) (x : Option PV) (e : Sl) (h : Cells) : mV j (e.set i x) h = mV j e h := by unfold mV; rw [List.getElem?_set_ne q]
theorem mV_eq {i : Nat} {e : Sl} (q : i < e.length) (p : PV) (h : Cells) : mV i (e.set i (some p)) h = .ok p h := by unfold mV; rw [List.getElem?_set_self q]
structure Ev (e : Sl) : Prop where
  len : e.length = 32
  dice : ∀ h, mV 1 e h = .ok (.r 0) h
theorem Ev.set {e : Sl} (v : Ev e) (i : Nat) (q : i ≠ 1) (x : Option PV) : Ev (e.set i x) := ⟨by rw [List.length_set]; exact v.len, fun h => by rw [mV_ne q]; exact v.dice h⟩
theorem Ev.put {e : Sl} (v : Ev e) {i : Nat} (q : i < 32) (p : PV) (h : Cells) : mV i (e.set i (some p)) h = .ok p h := mV_eq (by rw [v.len]; exact q) p h
mutual
/-- no table in it -/
def nD : PyData → Bool
  | .none => true
  | .bool _ => true
  | .int _ => true
  | .str _ => true
  | .list xs => nDs xs
  | .tuple xs => nDs xs
  | .dict _ => false
def nDs : List PyData → Bool
  | [] => true
  | x :: r => nD x && nDs r
end
mutual
theorem eqv_nD : ∀ d : PyData, nD d = true → PyData.eqv d d = true
  | .none, _ => by simp [PyData.eqv]
  | .bool _, _ => by simp [PyData.eqv]
  | .int _, _ => by simp [PyData.eqv]
  | .str _, _ => by simp [PyData.eqv]
  | .list xs, h => by simp only [PyData.eqv]; exact eqv_nDs xs (by simpa [nD] using h)
  | .tuple xs, h => by simp only [PyData.eqv]; exact eqv_nDs xs (by simpa [nD] using h)
  | .dict _, h => by simp [nD] at h
theorem eqv_nDs : ∀ ds : List PyData, nDs ds = true → PyData.eqvAll ds ds = true
  | [], _ => by simp [PyData.eqvAll]
  | x :: xs, h => by
    simp only [nDs, Bool.and_eq_true] at h
    simp [PyData.eqvAll, eqv_nD x h.1, eqv_nDs xs h.2]
end
theorem nDs_of {ds : List PyData} (h : ∀ d ∈ ds, nD d = true) : nDs ds = true := by
  induction ds with
  | nil => rfl
  | cons x r ih => simp only [nDs, Bool.and_eq_true]; exact ⟨h x (by simp), ih fun d hd => h d (by simp [hd])⟩
theorem nDs_ints (l : List Int) : nDs (pIs l) = true := nDs_of fun d hd => by obtain ⟨i, _, rfl⟩ := List.mem_map.mp hd; rfl
theorem nDs_txs (l : List (List Nat)) : nDs (txs l) = true := nDs_of fun d hd => by obtain ⟨i, _, rfl⟩ := List.mem_map.mp hd; rfl
theorem nDs_strD (l : List Str) : nDs (strD l) = true := nDs_of fun d hd => by obtain ⟨i, _, rfl⟩ := List.mem_map.mp hd; rfl
theorem depth_le {ds : List PyData} {n : Nat} (h : ∀ d ∈ ds, d.depth ≤ n) : PyData.depthAll ds ≤ n := by
  induction ds with
  | nil => simp [PyData.depthAll]
  | cons x r ih =>
    have := h x (by simp)
    have := ih fun d hd => h d (by simp [hd])
    simp only [PyData.depthAll]; omega
theorem depth_txs (l : List (List Nat)) : PyData.depthAll (txs l) ≤ 0 := depth_le fun d hd => by obtain ⟨i, _, rfl⟩ := List.mem_map.mp hd; simp [PyData.depth]
/-- two that are alike -/
theorem ck {X Y : ME PV} {e : Sl} {h h1 h2 : Cells} {x : PyData} (qx : X e h = .ok (.d x) h1) (qy : Y e h1 = .ok (.d x) h2) (n : nD x = true) (d : x.depth ≤ 64) : mTb (mBin (opEq false) X Y) e h = .ok false h2 := by
  simp only [mTb_eq, mBin_eq, qx, bind_ok, qy]
  rw [Mi.eq_data _ _ _ _ (by omega), eqv_nD x n]; rfl
theorem or_no {f g : ME Bool} {e : Sl} {h h1 h2 : Cells} (a : f e h = .ok false h1) (b : g e h1 = .ok false h2) : mOr f g e h = .ok false h2 := by
  rw [mOr_eq, a]; exact b
theorem d_ints (l : List Int) : (PyData.tuple (pIs l)).depth ≤ 64 := by simp [PyData.depth, depth_ints]
theorem call1 {g : MF} {f1 : ME PV} {e : Sl} {h h1 : Cells} {v1 : PV} {o : Out PV} (q1 : f1 e h = .ok v1 h1) (q : g [v1] h1 = o) : mCallD g [] (aCons f1 aNil) e h = o := by
  simp only [mCallD_eq, aCons_eq, q1, bind_ok, aNil_eq, List.append_nil, q]
theorem call2 {g : MF} {f1 f2 : ME PV} {e : Sl} {h h1 h2 : Cells} {v1 v2 : PV} {o : Out PV} (q1 : f1 e h = .ok v1 h1) (q2 : f2 e h1 = .ok v2 h2) (q : g [v1, v2] h2 = o) : mCallD g [] (aCons f1 (aCons f2 aNil)) e h = o := by
  simp only [mCallD_eq, aCons_eq, q1, q2, bind_ok, aNil_eq, List.append_nil, q]
theorem call3 {g : MF} {f1 f2 f3 : ME PV} {e : Sl} {h h1 h2 h3 : Cells} {v1 v2 v3 : PV} {o : Out PV} (q1 : f1 e h = .ok v1 h1) (q2 : f2 e h1 = .ok v2 h2) (q3 : f3 e h2 = .ok v3 h3) (q : g [v1, v2, v3] h3 = o) : mCallD g [] (aCons f1 (aCons f2 (aCons f3 aNil))) e h = o := by
  simp only [mCallD_eq, aCons_eq, q1, q2, q3, bind_ok, aNil_eq, List.append_nil, q]
theorem asg_N {f : ME PV} {i : Nat} {e : Sl} {h h1 : Cells} {v : PV} (q : f e h = .ok v h1) : mAsg f (gN i) e h = .nx (e.set i (some v)) h1 := by rw [mAsg_eq, q]; rfl
theorem len1 {f : ME PV} {e : Sl} {h h1 : Cells} {v : PV} {o : Out PV} (q1 : f e h = .ok v h1) (q : biLen [v] h1 = o) : mCall biLen (aCons f aNil) e h = o := by
  simp only [mCall_eq, aCons_eq, q1, bind_ok, aNil_eq, q]
/-! ### draws -/
theorem pick3 (x y z : Int) {k : Nat} {e : Sl} {h : Cells} (i : ID h) (d : mV k e h = .ok (.r 0) h) : ∃ h' m, mBin opIx (mLst (aCons (mK (.d (.int x))) (aCons (mK (.d (.int y))) (aCons (mK (.d (.int z))) aNil)))) (mCallD r__law_roll [] (aCons (mV k) (aCons (mK (.d (.int 3))) aNil))) e h = .ok (pI m) h' ∧ (m = x ∨ m = y ∨ m = z) ∧ ID h' := by
  obtain ⟨h', v, q, ⟨j, rfl, l, u⟩, i'⟩ := roll_K (m := 3) (by omega) (by omega) i d
  have e2 : mkL [pI x, pI y, pI z] = pL [.int x, .int y, .int z] := rfl
  have c : j = 0 ∨ j = 1 ∨ j = 2 := by omega
  simp only [mBin_eq, mLst_eq, aCons_eq, mK_eq, bind_ok, aNil_eq, List.length_cons, List.length_nil, Nat.zero_add, Nat.reduceAdd, sz 3 (by omega), if_true, e2]
  simp only [mCallD_eq, aCons_eq, mK_eq, aNil_eq, bind_ok] at q ⊢
  rcases c with rfl | rfl | rfl
  · refine ⟨h', x, ?_, .inl rfl, i'⟩
    rw [q]; rfl
  · refine ⟨h', y, ?_, .inr (.inl rfl), i'⟩
    rw [q]; rfl
  · refine ⟨h', z, ?_, .inr (.inr rfl), i'⟩
    rw [q]; rfl
theorem mkL_ints (l : List Int) : mkL (l.map pI) = pL (pIs l) := by rw [← pI_map, mkL_map]
/-- many whole numbers -/
theorem draw_ints (K : Int) (k1 : 1 ≤ K) (k2 : K ≤ 100000) {fe : ME PV} {e : Sl} {h : Cells} (v : Ev e) (i : ID h) (M : Int) (k : ∀ e h, Ev e → ID h → ∃ h' w, fe e h = .ok w h' ∧ isI M w ∧ ID h') :
    ∃ (A : List Int) (h' : Cells), mLc (iRange1 (aCons (mCallD r__law_roll [] (aCons (mV 1) (aCons (mK (.d (.int K))) aNil))) aNil)) (gN 3) mYes fe [3] e h = .ok (pL (pIs A)) h' ∧ ID h' ∧ (A.length : Int) < K ∧ ∀ x ∈ A, 0 ≤ x ∧ x < M := by
  obtain ⟨h1, v1, q1, ⟨n, rfl, n0, n1⟩, i1⟩ := roll_K (k := 1) (e := e) (m := K) (by omega) (by omega) i (v.dice h)
  obtain ⟨N, rfl⟩ : ∃ N : Nat, n = N := ⟨n.toNat, by omega⟩
  obtain ⟨vs, h2, d1, d2, d3, d4⟩ := draws (j := 3) (e := e) (fi := aCons (mCallD r__law_roll [] (aCons (mV 1) (aCons (mK (.d (.int K))) aNil))) aNil) (h := h) (fe := fe) (isI M) (by rw [aCons_eq, q1]; rfl) (by omega) i1
    (fun w h i => k _ h ((v.set 3 (by omega) none).set 3 (by omega) (some w)) i)
  obtain ⟨A, rfl, l, ha⟩ := all_ex (f := pI) (Q := fun x => 0 ≤ x ∧ x < M) (fun v h => h) vs d4
  rw [mkL_ints] at d1
  exact ⟨A, h2, d1, d2, by omega, ha⟩
/-- many texts -/
theorem draw_texts (K : Int) (k1 : 1 ≤ K) (k2 : K ≤ 100) {e : Sl} {h : Cells} (v : Ev e) (i : ID h) :
    ∃ (R : List (List Nat)) (h' : Cells), mLc (iRange1 (aCons (mCallD r__law_roll [] (aCons (mV 1) (aCons (mK (.d (.int K))) aNil))) aNil)) (gN 3) mYes (mCallD r__law_text [] (aCons (mV 1) aNil)) [3] e h = .ok (pL (txs R)) h' ∧ ID h' ∧ (R.length : Int) < K ∧ ∀ r ∈ R, r.length ≤ 5 ∧ ∀ i ∈ r, i < 74 := by
  obtain ⟨h1, v1, q1, ⟨n, rfl, n0, n1⟩, i1⟩ := roll_K (k := 1) (e := e) (m := K) (by omega) (by omega) i (v.dice h)
  obtain ⟨N, rfl⟩ : ∃ N : Nat, n = N := ⟨n.toNat, by omega⟩
  obtain ⟨vs, h2, d1, d2, d3, d4⟩ := draws (j := 3) (e := e) (fi := aCons (mCallD r__law_roll [] (aCons (mV 1) (aCons (mK (.d (.int K))) aNil))) aNil) (h := h) (fe := mCallD r__law_text [] (aCons (mV 1) aNil)) isT (by rw [aCons_eq, q1]; rfl) (by omega) i1
    (fun w h i => by
      obtain ⟨a, b, c, rfl⟩ := i
      obtain ⟨x, a1, b1, c1, r, p⟩ := s_text a b c
      refine ⟨_, x, ?_, p, a1, b1, c1, rfl⟩
      have := ((v.set 3 (by omega) none).set 3 (by omega) (some w)).dice (Dh a b c)
      show mCallD r__law_text [] (aCons (mV 1) aNil) ((e.set 3 none).set 3 (some w)) (Dh a b c) = _
      simp only [mCallD_eq, aCons_eq, this, bind_ok, aNil_eq, List.append_nil, r])
  obtain ⟨R, rfl, l, ha⟩ := all_ex (f := fun is => pS (tx is)) (Q := fun is : List Nat => is.length ≤ 5 ∧ ∀ i ∈ is, i < 74) (fun v h => h) vs d4
  have e1 : mkL (R.map fun is => pS (tx is)) = pL (txs R) := by
    have : (R.map fun is => pS (tx is)) = (txs R).map .d := by simp [txs]
    rw [this, mkL_map]
  rw [e1] at d1
  exact ⟨R, h2, d1, d2, by omega, ha⟩
theorem one_text {e : Sl} {h : Cells} (v : Ev e) (i : ID h) : ∃ is h', mCallD r__law_text [] (aCons (mV 1) aNil) e h = .ok (pS (tx is)) h' ∧ ID h' ∧ is.length ≤ 5 ∧ ∀ i ∈ is, i < 74 := by
  obtain ⟨a, b, c, rfl⟩ := i
  obtain ⟨x, a1, b1, c1, r, is, rfl, p⟩ := s_text a b c
  refine ⟨is, _, ?_, ⟨a1, b1, c1, rfl⟩, p⟩
  simp only [mCallD_eq, aCons_eq, v.dice, bind_ok, aNil_eq, List.append_nil, r]
theorem ID.wf {h : Cells} (i : ID h) : wfB h = true := by obtain ⟨a, b, c, rfl⟩ := i; rfl
/-! ### numbers -/
abbrev rf : MS := mRet (mK (.d (.bool false)))
abbrev stN1 : MS := mAsg (mCallD r__law_roll [] (aCons (mV 1) (aCons (mBin opIx (mLst (aCons (mK (.d (.int 200))) (aCons (mK (.d (.int 20000))) (aCons (mK (.d (.int 1000000000001))) aNil)))) (mCallD r__law_roll [] (aCons (mV 1) (aCons (mK (.d (.int 3))) aNil)))) aNil))) (gN 2)
abbrev stN2 : MS := mPar 4 5 (aCons (mCallD r__law_number [] (aCons (mV 2) aNil)) (aCons (mLc (iRange1 (aCons (mCallD r__law_roll [] (aCons (mV 1) (aCons (mK (.d (.int 4))) aNil))) aNil)) (gN 3) mYes (mCallD r__law_roll [] (aCons (mV 1) (aCons (mK (.d (.int 256))) aNil))) [3]) aNil))
abbrev stN3 : MS := mIf (mTb (mBin (opEq false) (mCallD r_number_octets [] (aCons (mV 2) aNil)) (mV 4))) rf mSkip
abbrev stN4 : MS := mIf (mTb (mBin (opEq false) (mCallD r_read_number [] (aCons (mBin opAdd (mBin opAdd (mV 5) (mCall biList (aCons (mV 4) aNil))) (mV 5)) (aCons (mCall biLen (aCons (mV 5) aNil)) aNil))) (mTup (aCons (mV 2) (aCons (mBin opAdd (mCall biLen (aCons (mV 5) aNil)) (mCall biLen (aCons (mV 4) aNil))) aNil))))) rf mSkip
abbrev stN5 : MS := mIf (mTb (mBin (opEq false) (mCallD r_number_at [] (aCons (mV 4) (aCons (mK (.d (.int 0))) (aCons (mBin opSub (mCall biLen (aCons (mV 4) aNil)) (mK (.d (.int 1)))) aNil)))) (mV 2))) rf mSkip
theorem gN_ok {X : MS} {e e' : Sl} {h h' : Cells} (q : X e h = .nx e' h') (R : MS) : mSeq X R e h = R e' h' := seq_nx q
theorem G1 (e : Sl) (h : Cells) (v : Ev e) (i : ID h) (R : MS) : ∃ e' h', Ev e' ∧ ID h' ∧ mSeq stN1 (mSeq stN2 (mSeq stN3 (mSeq stN4 (mSeq stN5 R)))) e h = R e' h' := by
  obtain ⟨h1, m, p1, p2, p3⟩ := pick3 (k := 1) 200 20000 1000000000001 (e := e) i (v.dice h)
  obtain ⟨h2, w, w1, ⟨n, rfl, n0, n1⟩, w3⟩ := roll_call (k := 1) (m := m) (by omega) (by omega) i ⟨h1, p1, p3⟩ (v.dice h)
  have nb : n ≤ 1000000000000 := by omega
  have s1 : stN1 e h = .nx (e.set 2 (some (pI n))) h2 := by rw [stN1, mAsg_eq, w1]; rfl
  have v1 := v.set 2 (by omega) (some (pI n))
  obtain ⟨A, h3, d1, d2, d3, d4⟩ := draw_ints 4 (by omega) (by omega) (fe := mCallD r__law_roll [] (aCons (mV 1) (aCons (mK (.d (.int 256))) aNil))) v1 w3 256 (fun e h v i => roll_K (by omega) (by omega) i (v.dice h))
  have al : A.length ≤ 3 := by omega
  have aa : oc8 A := d4
  have g2 : ∀ h, mV 2 (e.set 2 (some (pI n))) h = .ok (pI n) h := v.put (by omega) _
  have s2 : stN2 (e.set 2 (some (pI n))) h2 = .nx (((e.set 2 (some (pI n))).set 4 (some (pT (pIs (octs n))))).set 5 (some (pL (pIs A)))) h3 := by
    have : mCallD r__law_number [] (aCons (mV 2) aNil) (e.set 2 (some (pI n))) h2 = .ok (pT (pIs (octs n))) h2 := by
      simp only [mCallD_eq, aCons_eq, g2, bind_ok, aNil_eq, List.append_nil, s_ln n h2 nb]
    rw [stN2, mPar_eq, aCons_eq, this]
    simp only [bind_ok]
    rw [aCons_eq, d1]
    rfl
  have v2 := (v1.set 4 (by omega) (some (pT (pIs (octs n))))).set 5 (by omega) (some (pL (pIs A)))
  generalize hE : ((e.set 2 (some (pI n))).set 4 (some (pT (pIs (octs n))))).set 5 (some (pL (pIs A))) = E at *
  have l2 : ∀ h, mV 2 E h = .ok (pI n) h := fun h => by rw [← hE, mV_ne (by omega), mV_ne (by omega)]; exact g2 h
  have l4 : ∀ h, mV 4 E h = .ok (pT (pIs (octs n))) h := fun h => by rw [← hE, mV_ne (by omega)]; exact v1.put (by omega) _ h
  have l5 : ∀ h, mV 5 E h = .ok (pL (pIs A)) h := fun h => by rw [← hE]; exact (v1.set 4 (by omega) _).put (by omega) _ h
  have ol := (octs_len n n0 nb).2
  have s3 : stN3 E h3 = .nx E h3 := if_no (ck (by simp only [mCallD_eq, aCons_eq, l2, bind_ok, aNil_eq, List.append_nil, s_no n h3 d2.wf n0 nb]) (l4 h3) (nDs_ints _) (d_ints _))
  have s4 : stN4 E h3 = .nx E h3 := by
    refine if_no (ck (x := .tuple [.int n, .int ((A.length + (octs n).length : Nat) : Int)]) (h1 := h3) ?_ ?_ rfl (by simp [PyData.depth, PyData.depthAll]))
    · have r := s_rd false (A ++ octs n ++ A) (oc8.app (oc8.app aa (octs_mem n n0 nb)) aa) A.length h3
      rw [rdN_octs A A n n0 nb] at r
      simp only [mCallD_eq, aCons_eq, mBin_eq, l5, bind_ok, mCall_eq, l4, aNil_eq, list_pT]
      rw [add_pL _ _ _ (sz _ (by simp; omega))]
      simp only [bind_ok]
      rw [add_pL _ _ _ (sz _ (by simp; omega))]
      simp only [bind_ok, len_pL, List.length_map, List.append_nil, ← List.map_append]
      exact r
    · simp only [mTup_eq, aCons_eq, l2, bind_ok, mBin_eq, mCall_eq, l5, l4, aNil_eq, len_pL, len_pT, List.length_map, vadd, List.length_cons, List.length_nil, Nat.zero_add, Nat.reduceAdd, sz 2 (by omega), if_true, mkT_2]
      rw [Int.natCast_add]
  have s5 : stN5 E h3 = .nx E h3 := by
    refine if_no (ck (x := .int n) (h1 := h3) ?_ (l2 h3) rfl (by simp [PyData.depth]))
    have r := s_nat true (octs n) (octs_mem n n0 nb) 0 ((octs n).length - 1) h3
    have lp : 1 ≤ (octs n).length := by have := (octs_len n n0 nb).1; omega
    rw [show (octs n).length - 1 + 1 - 0 = (octs n).length by omega, List.drop_zero, List.take_length, octs_vl n n0 nb] at r
    simp only [mCallD_eq, aCons_eq, l4, bind_ok, mK_eq, mBin_eq, mCall_eq, aNil_eq, len_pT, List.length_map, vsub, List.append_nil]
    rw [show (((octs n).length : Nat) : Int) - 1 = (((octs n).length - 1 : Nat) : Int) by omega]
    exact r
  exact ⟨E, h3, v2, d2, by rw [seq_nx s1, seq_nx s2, seq_nx s3, seq_nx s4, seq_nx s5]⟩
theorem told_ex {f : ME PV} {ct : Str → Bool} {r c : Str} {e : Sl} {h h1 : Cells} (q : f e h = .ex c h1) (k : ct c = true) : mTold f ct r e h = .ok (.d (.str r)) h1 := by unfold mTold; rw [q]; simp only; rw [if_pos k]
theorem told_ok {f : ME PV} {ct : Str → Bool} {r : Str} {e : Sl} {h h1 : Cells} {v : PV} (q : f e h = .ok v h1) : mTold f ct r e h = .ok v h1 := by unfold mTold; rw [q]
theorem inC : inS ["CodeError"] "CodeError" = true := by decide +kernel
/-! ### loose octets -/
abbrev stL1 : MS := mAsg (mTup (aCons (mLc (iRange1 (aCons (mCallD r__law_roll [] (aCons (mV 1) (aCons (mK (.d (.int 9))) aNil))) aNil)) (gN 3) mYes (mCallD r__law_roll [] (aCons (mV 1) (aCons (mBin opIx (mLst (aCons (mK (.d (.int 256))) (aCons (mK (.d (.int 128))) aNil))) (mCallD r__law_roll [] (aCons (mV 1) (aCons (mK (.d (.int 2))) aNil)))) aNil))) [3]) (aCons (mCallD r__law_roll [] (aCons (mV 1) (aCons (mK (.d (.int 3))) aNil))) aNil))) (gTp 2 (gsCons (gN 25) (gsCons (gN 26) gsNil)))
abbrev stL2 : MS := mAsg (mCallD r__law_read [] (aCons (mV 25) (aCons (mV 26) aNil))) (gN 6)
abbrev stL3 : MS := mIf (mTb (mBin (opEq false) (mTold (mCallD r_read_number [] (aCons (mV 25) (aCons (mV 26) aNil))) (inS ["CodeError"]) "CodeError") (mIfE (mTb (mBin (opIsN true) (mV 6) (mK (.d .none)))) (mK (.d (.str "CodeError"))) (mV 6)))) rf mSkip
abbrev stL4 : MS := mIf (mTb (mBin (opEq false) (mCallD r_is_number_cut [] (aCons (mV 25) (aCons (mV 26) aNil))) (mBin (opIsN true) (mV 6) (mK (.d .none))))) rf mSkip
theorem G2 (e : Sl) (h : Cells) (v : Ev e) (i : ID h) (R : MS) : ∃ e' h', Ev e' ∧ ID h' ∧ mSeq stL1 (mSeq stL2 (mSeq stL3 (mSeq stL4 R))) e h = R e' h' := by
  obtain ⟨A, h1, d1, d2, d3, d4⟩ := draw_ints 9 (by omega) (by omega) (fe := mCallD r__law_roll [] (aCons (mV 1) (aCons (mBin opIx (mLst (aCons (mK (.d (.int 256))) (aCons (mK (.d (.int 128))) aNil))) (mCallD r__law_roll [] (aCons (mV 1) (aCons (mK (.d (.int 2))) aNil)))) aNil))) v i 256 (fun e h v i => by
    obtain ⟨h', m, p1, p2, p3⟩ := pick2 (k := 1) 256 128 (e := e) i (v.dice h)
    obtain ⟨h'', w, w1, ⟨j, rfl, j0, j1⟩, w3⟩ := roll_call (k := 1) (m := m) (by omega) (by omega) i ⟨h', p1, p3⟩ (v.dice h)
    exact ⟨h'', _, w1, ⟨j, rfl, j0, by omega⟩, w3⟩)
  have o : oc8 A := d4
  obtain ⟨h2, w, w1, ⟨n, rfl, n0, n1⟩, w3⟩ := roll_K (k := 1) (e := e) (m := 3) (by omega) (by omega) d2 (v.dice h1)
  obtain ⟨p, rfl⟩ : ∃ N : Nat, n = N := ⟨n.toNat, by omega⟩
  have s1 : stL1 e h = .nx ((e.set 25 (some (oI false A))).set 26 (some (nI p))) h2 := by
    rw [stL1, mAsg_eq, mTup_eq, aCons_eq, d1]
    simp only [bind_ok]
    rw [aCons_eq, w1]
    simp only [bind_ok, aNil_eq, List.length_cons, List.length_nil, Nat.zero_add, Nat.reduceAdd, sz 2 (by omega), if_true, mkT_2, toS_ok, gTp, asT, List.map_cons, List.map_nil, gsCons_eq, gN_eq, gsNil_eq]
    rfl
  have v1 := (v.set 25 (by omega) (some (oI false A))).set 26 (by omega) (some (nI p))
  have r := s_lr false A o p (by omega) (by omega) h2
  have ⟨dv, hdv⟩ : ∃ dv, rlO h2 (rdN A p) = .ok dv h2 := by cases rdN A p <;> exact ⟨_, rfl⟩
  have m25 : ∀ h, mV 25 ((e.set 25 (some (oI false A))).set 26 (some (nI p))) h = .ok (oI false A) h := fun h => by rw [mV_ne (by omega)]; exact v.put (by omega) _ h
  have m26 : ∀ h, mV 26 ((e.set 25 (some (oI false A))).set 26 (some (nI p))) h = .ok (nI p) h := fun h => (v.set 25 (by omega) _).put (by omega) _ h
  have s2 : stL2 ((e.set 25 (some (oI false A))).set 26 (some (nI p))) h2 = .nx (((e.set 25 (some (oI false A))).set 26 (some (nI p))).set 6 (some dv)) h2 :=
    asg_N (call2 (m25 _) (m26 _) (r.trans hdv))
  have v2 := v1.set 6 (by omega) (some dv)
  have l6 : ∀ h, mV 6 (((e.set 25 (some (oI false A))).set 26 (some (nI p))).set 6 (some dv)) h = .ok dv h := fun h => v1.put (by omega) _ h
  have l25 : ∀ h, mV 25 (((e.set 25 (some (oI false A))).set 26 (some (nI p))).set 6 (some dv)) h = .ok (oI false A) h := fun h => by rw [mV_ne (by omega)]; exact m25 h
  have l26 : ∀ h, mV 26 (((e.set 25 (some (oI false A))).set 26 (some (nI p))).set 6 (some dv)) h = .ok (nI p) h := fun h => by rw [mV_ne (by omega)]; exact m26 h
  generalize ((e.set 25 (some (oI false A))).set 26 (some (nI p))).set 6 (some dv) = E at *
  have rn := s_rd false A o p h2
  have rc := s_cut false A o p h2
  have cl : mCallD r_read_number [] (aCons (mV 25) (aCons (mV 26) aNil)) E h2 = rdO h2 (rdN A p) := by
    exact call2 (l25 _) (l26 _) rn
  have s3 : stL3 E h2 = .nx E h2 := by
    cases hr : rdN A p with
    | none =>
      rw [hr] at hdv rn
      have : dv = pN := by simpa [rlO] using hdv.symm
      subst this
      refine if_no (ck (x := .str "CodeError") (h1 := h2) ?_ ?_ rfl (by simp [PyData.depth]))
      · exact told_ex (c := "CodeError") (cl.trans (by rw [hr]; rfl)) inC
      · simp [l6, isNone]
    | some x =>
      obtain ⟨m, q⟩ := x
      rw [hr] at hdv rn
      have : dv = pT [.int m, .int q] := by simpa [rlO] using hdv.symm
      subst this
      refine if_no (ck (x := .tuple [.int m, .int q]) (h1 := h2) ?_ ?_ rfl (by simp [PyData.depth, PyData.depthAll]))
      · exact told_ok (cl.trans (by rw [hr]; rfl))
      · simp [l6, isNone]
  have s4 : stL4 E h2 = .nx E h2 := by
    refine if_no (ck (x := .bool (rdN A p).isNone) (h1 := h2) ?_ ?_ rfl (by simp [PyData.depth]))
    · exact call2 (l25 _) (l26 _) rc
    · cases hr : rdN A p with
      | none =>
        rw [hr] at hdv
        have : dv = pN := by simpa [rlO] using hdv.symm
        subst this
        simp [l6, isNone]
      | some x =>
        obtain ⟨m, q⟩ := x
        rw [hr] at hdv
        have : dv = pT [.int m, .int q] := by simpa [rlO] using hdv.symm
        subst this
        simp [l6, isNone]
  exact ⟨E, h2, v2, w3, by rw [seq_nx s1, seq_nx s2, seq_nx s3, seq_nx s4]⟩
end K01

set_option Elab.async false
set_option linter.all false
set_option maxRecDepth 100000
set_option maxHeartbeats 1000000
namespace K01
open PySem PySem.Spec PyProof.Rows L2 Mi
theorem addT {X Y : ME PV} {e : Sl} {h h1 h2 : Cells} {a b : List PyData} (qx : X e h = .ok (pT a) h1) (qy : Y e h1 = .ok (pT b) h2) (l : a.length + b.length ≤ 16777216) : mBin opAdd X Y e h = .ok (pT (a ++ b)) h2 := by
  simp only [mBin_eq, qx, bind_ok, qy]; exact add_pT a b h2 l
theorem addL {X Y : ME PV} {e : Sl} {h h1 h2 : Cells} {a b : List PyData} (qx : X e h = .ok (pL a) h1) (qy : Y e h1 = .ok (pL b) h2) (l : a.length + b.length ≤ 16777216) : mBin opAdd X Y e h = .ok (pL (a ++ b)) h2 := by
  simp only [mBin_eq, qx, bind_ok, qy]; exact add_pL a b h2 l
theorem tup1 {X : ME PV} {e : Sl} {h h1 : Cells} {a : PyData} (qx : X e h = .ok (.d a) h1) : mTup (aCons X aNil) e h = .ok (pT [a]) h1 := by
  simp only [mTup_eq, aCons_eq, qx, bind_ok, aNil_eq, List.length_cons, List.length_nil, Nat.zero_add, sz 1 (by omega), if_true]; rfl
theorem tup2 {X Y : ME PV} {e : Sl} {h h1 h2 : Cells} {a b : PyData} (qx : X e h = .ok (.d a) h1) (qy : Y e h1 = .ok (.d b) h2) : mTup (aCons X (aCons Y aNil)) e h = .ok (pT [a, b]) h2 := by
  simp only [mTup_eq, aCons_eq, qx, qy, bind_ok, aNil_eq, List.length_cons, List.length_nil, Nat.zero_add, Nat.reduceAdd, sz 2 (by omega), if_true]; rfl
theorem lst1 {X : ME PV} {e : Sl} {h h1 : Cells} {a : PyData} (qx : X e h = .ok (.d a) h1) : mLst (aCons X aNil) e h = .ok (pL [a]) h1 := by
  simp only [mLst_eq, aCons_eq, qx, bind_ok, aNil_eq, List.length_cons, List.length_nil, Nat.zero_add, sz 1 (by omega), if_true]; rfl
theorem lst2 {X Y : ME PV} {e : Sl} {h h1 h2 : Cells} {a b : PyData} (qx : X e h = .ok (.d a) h1) (qy : Y e h1 = .ok (.d b) h2) : mLst (aCons X (aCons Y aNil)) e h = .ok (pL [a, b]) h2 := by
  simp only [mLst_eq, aCons_eq, qx, qy, bind_ok, aNil_eq, List.length_cons, List.length_nil, Nat.zero_add, Nat.reduceAdd, sz 2 (by omega), if_true]; rfl
theorem bi1 {g : List PV → Cells → Out PV} {f1 : ME PV} {e : Sl} {h h1 : Cells} {v1 : PV} {o : Out PV} (q1 : f1 e h = .ok v1 h1) (q : g [v1] h1 = o) : mCall g (aCons f1 aNil) e h = o := by
  simp only [mCall_eq, aCons_eq, q1, bind_ok, aNil_eq, q]
theorem bin {g : PV → PV → Cells → Out PV} {X Y : ME PV} {e : Sl} {h h1 h2 : Cells} {v w : PV} {o : Out PV} (qx : X e h = .ok v h1) (qy : Y e h1 = .ok w h2) (q : g v w h2 = o) : mBin g X Y e h = o := by
  simp only [mBin_eq, qx, qy, bind_ok, q]
/-! ### texts -/
theorem tx_l {e : Sl} {X : ME PV} {is : List Nat} {h h1 : Cells} (k : txOk is) (q : X e h = .ok (pS (tx is)) h1) : mCall biLen (aCons X aNil) e h = .ok (nI is.length) h1 :=
  len1 q (by rw [len_str (tx is) h1 (sz _ (by rw [tx_len]; have := k.1; omega)), tx_len])
theorem s_lnN (n : Nat) (h : Cells) (b : n ≤ 1000000) : r__law_number [nI n] h = .ok (pT (pIs (octs n))) h := s_ln n h (by omega)
abbrev stT1 : MS := mPar3 7 8 9 (aCons (mCallD r__law_text [] (aCons (mV 1) aNil)) (aCons (mLc (iRange1 (aCons (mCallD r__law_roll [] (aCons (mV 1) (aCons (mK (.d (.int 4))) aNil))) aNil)) (gN 3) mYes (mCallD r__law_text [] (aCons (mV 1) aNil)) [3]) (aCons (mLc (iRange1 (aCons (mCallD r__law_roll [] (aCons (mV 1) (aCons (mK (.d (.int 4))) aNil))) aNil)) (gN 3) mYes (mCallD r__law_text [] (aCons (mV 1) aNil)) [3]) aNil)))
abbrev stT2 : MS := mIf (mTb (mBin (opEq false) (mCallD r_text_octets [] (aCons (mV 7) aNil)) (mBin opAdd (mCallD r__law_number [] (aCons (mCall biLen (aCons (mV 7) aNil)) aNil)) (mCallD r__law_signs [] (aCons (mV 7) aNil))))) rf mSkip
abbrev stT3 : MS := mIf (mTb (mBin (opEq false) (mCallD r_read_text [] (aCons (mBin opAdd (mCallD r_text_octets [] (aCons (mV 7) aNil)) (mTup (aCons (mK (.d (.int 0))) aNil))) (aCons (mK (.d (.int 0))) aNil))) (mTup (aCons (mV 7) (aCons (mBin opAdd (mCall biLen (aCons (mV 7) aNil)) (mK (.d (.int 1)))) aNil))))) rf mSkip
structure Er (e : Sl) (R S : List (List Nat)) : Prop extends Ev e where
  m8 : ∀ h, mV 8 e h = .ok (pL (txs R)) h
  m9 : ∀ h, mV 9 e h = .ok (pL (txs S)) h
  r8 : R.length ≤ 3 ∧ ∀ r ∈ R, r.length ≤ 5 ∧ ∀ i ∈ r, i < 74
  r9 : S.length ≤ 3 ∧ ∀ r ∈ S, r.length ≤ 5 ∧ ∀ i ∈ r, i < 74
theorem rowOk_of {R : List (List Nat)} (k : R.length ≤ 3 ∧ ∀ r ∈ R, r.length ≤ 5 ∧ ∀ i ∈ r, i < 74) : rowOk R := ⟨by omega, fun r hr => isT.ok (k.2 r hr)⟩
theorem Er.set {e : Sl} {R S : List (List Nat)} (v : Er e R S) (i : Nat) (q : i ≠ 1) (q8 : i ≠ 8) (q9 : i ≠ 9) (x : Option PV) : Er (e.set i x) R S :=
  ⟨v.toEv.set i q x, fun h => by rw [mV_ne q8]; exact v.m8 h, fun h => by rw [mV_ne q9]; exact v.m9 h, v.r8, v.r9⟩
theorem G3 (e : Sl) (h : Cells) (v : Ev e) (i : ID h) (X : MS) : ∃ e' h' R S, Er e' R S ∧ ID h' ∧ mSeq stT1 (mSeq stT2 (mSeq stT3 X)) e h = X e' h' := by
  obtain ⟨is, h1, t1, t2, t3⟩ := one_text v i
  obtain ⟨R, h2, a1, a2, a3, a4⟩ := draw_texts 4 (by omega) (by omega) v t2
  obtain ⟨S, h3, b1, b2, b3, b4⟩ := draw_texts 4 (by omega) (by omega) v a2
  have k := isT.ok t3
  have kl := k.1
  have s1 : stT1 e h = .nx (((e.set 7 (some (pS (tx is)))).set 8 (some (pL (txs R)))).set 9 (some (pL (txs S)))) h3 := by
    rw [stT1, mPar3_eq, aCons_eq, t1]
    simp only [bind_ok]
    rw [aCons_eq, a1]
    simp only [bind_ok]
    rw [aCons_eq, b1]
    rfl
  have v2 : Er (((e.set 7 (some (pS (tx is)))).set 8 (some (pL (txs R)))).set 9 (some (pL (txs S)))) R S :=
    ⟨((v.set 7 (by omega) _).set 8 (by omega) _).set 9 (by omega) _, fun h => by rw [mV_ne (by omega)]; exact (v.set 7 (by omega) _).put (by omega) _ h, fun h => ((v.set 7 (by omega) _).set 8 (by omega) _).put (by omega) _ h, ⟨by omega, a4⟩, ⟨by omega, b4⟩⟩
  have m7 : ∀ h, mV 7 (((e.set 7 (some (pS (tx is)))).set 8 (some (pL (txs R)))).set 9 (some (pL (txs S)))) h = .ok (pS (tx is)) h := fun h => by rw [mV_ne (by omega), mV_ne (by omega)]; exact v.put (by omega) _ h
  generalize ((e.set 7 (some (pS (tx is)))).set 8 (some (pL (txs R)))).set 9 (some (pL (txs S))) = E at *
  have to := s_to is k h3 b2.wf
  have ol := octs_len' is.length (by omega)
  have s2 : stT2 E h3 = .nx E h3 := by
    refine if_no (ck (x := .tuple (pIs (octs is.length ++ sgs is))) (h1 := h3) (call1 (m7 _) to) ?_ (nDs_ints _) (d_ints _))
    rw [pIs, List.map_append]
    exact addT (call1 (tx_l k (m7 _)) (s_lnN is.length h3 (by omega))) (call1 (m7 _) (s_ls is k h3)) (by simp [sgs]; omega)
  have s3 : stT3 E h3 = .nx E h3 := by
    refine if_no (ck (x := .tuple [.str (tx is), .int ((is.length + 1 : Nat) : Int)]) (h1 := h3) ?_ ?_ rfl (by simp [PyData.depth, PyData.depthAll]))
    · have o : oc8 (octs is.length ++ sgs is ++ [0]) := oc8.app (coded_oc k) (fun x hx => by simp at hx; omega)
      have e1 : rdN (octs is.length ++ sgs is ++ [0]) 0 = some ((is.length : Int), (octs is.length).length) := by
        have := rdN_octs [] (sgs is ++ [0]) (is.length : Int) (by omega) (by omega)
        simpa using this
      have e2 : ((octs is.length ++ sgs is ++ [0]).drop (octs is.length).length).take is.length = sgs is := by
        rw [List.append_assoc, List.drop_left, List.take_append_of_le_length (by rw [sgs_len]; omega), List.take_of_length_le (by rw [sgs_len]; omega)]
      have r := s_rt true (octs is.length ++ sgs is ++ [0]) o 0 is k _ h3 e1 e2
      have o1 : (octs is.length).length + is.length = is.length + 1 := by
        rw [octs_small (is.length : Int) (by omega) (by omega)]; simp; omega
      rw [o1] at r
      refine call2 (addT (call1 (m7 _) to) (tup1 rfl) (by simp [sgs]; omega)) rfl ?_
      rw [show pIs (octs is.length ++ sgs is) ++ [PyData.int 0] = pIs (octs is.length ++ sgs is ++ [0]) by simp]
      exact r
    · refine tup2 (m7 _) (bin (tx_l k (m7 _)) rfl ?_)
      rw [vadd, Int.natCast_add]; rfl
  exact ⟨E, h3, R, S, v2, b2, by rw [seq_nx s1, seq_nx s2, seq_nx s3]⟩
/-! ### rows -/
abbrev stR1 : MS := mAsg (mCallD r__law_number [] (aCons (mCall biLen (aCons (mV 8) aNil)) aNil)) (gN 10)
abbrev bR2 : MS := mAsg (mBin opAdd (mBin opAdd (mV 10) (mCallD r__law_number [] (aCons (mCall biLen (aCons (mV 11) aNil)) aNil))) (mCallD r__law_signs [] (aCons (mV 11) aNil))) (gN 10)
abbrev stR2 : MS := mFor (iAny (mV 8)) (gN 11) bR2
abbrev stR3 : MS := mIf (mOr (mTb (mBin (opEq false) (mCallD r_row_octets [] (aCons (mV 8) aNil)) (mV 10))) (mTb (mBin (opEq false) (mCallD r_read_row [] (aCons (mBin opAdd (mV 10) (mTup (aCons (mK (.d (.int 9))) aNil))) (aCons (mK (.d (.int 0))) aNil))) (mTup (aCons (mCall biTuple (aCons (mV 8) aNil)) (aCons (mCall biLen (aCons (mV 10) aNil)) aNil)))))) rf mSkip
/-- other names stay -/
theorem fR2 (h : Cells) (all : List PV) : ∀ (rows : List (List Nat)) (acc : List Int) (E : Sl), (∀ r ∈ rows, txOk r) → acc.length + 107 * rows.length ≤ 100000 → E.length = 32 → (∀ h, mV 10 E h = .ok (pT (pIs acc)) h) →
    ∃ E', forL (gN 11) bR2 none all ((txs rows).map .d) E h = .nx E' h ∧ E'.length = 32 ∧ (∀ h, mV 10 E' h = .ok (pT (pIs (acc ++ rows.flatMap coded))) h) ∧ ∀ j h, j ≠ 10 → j ≠ 11 → mV j E' h = mV j E h
  | [], acc, E, _, _, l, m => ⟨E, rfl, l, by simpa using m, fun _ _ _ _ => rfl⟩
  | r :: rows, acc, E, k, b, l, m => by
    have kr := k r (by simp)
    have cl := coded_len kr
    have kl := kr.1
    simp only [List.length_cons] at b
    have l1 : (E.set 11 (some (pS (tx r)))).length = 32 := by rw [List.length_set]; exact l
    have m11 : ∀ h, mV 11 (E.set 11 (some (pS (tx r)))) h = .ok (pS (tx r)) h := fun h => mV_eq (by omega) _ h
    have m10 : ∀ h, mV 10 (E.set 11 (some (pS (tx r)))) h = .ok (pT (pIs acc)) h := fun h => by rw [mV_ne (by omega)]; exact m h
    have cl' := cl
    simp only [coded, List.length_append] at cl'
    have s : bR2 (E.set 11 (some (pS (tx r)))) h = .nx ((E.set 11 (some (pS (tx r)))).set 10 (some (pT (pIs (acc ++ coded r))))) h := by
      refine asg_N ?_
      have := addT (addT (m10 h) (call1 (tx_l kr (m11 _)) (s_lnN r.length h (by omega))) (by simp; omega)) (call1 (m11 _) (s_ls r kr h)) (by simp; omega)
      rw [this]; simp [coded]
    obtain ⟨E', q1, q2, q3, q4⟩ := fR2 h all rows (acc ++ coded r) ((E.set 11 (some (pS (tx r)))).set 10 (some (pT (pIs (acc ++ coded r))))) (fun x hx => k x (by simp [hx])) (by simp; omega) (by rw [List.length_set]; exact l1) (fun h => mV_eq (by omega) _ h)
    refine ⟨E', ?_, q2, fun h => by rw [q3]; simp, fun j h j1 j2 => by rw [q4 j h j1 j2, mV_ne (Ne.symm j1), mV_ne (Ne.symm j2)]⟩
    show forL _ _ none all (pS (tx r) :: (txs rows).map .d) _ _ = _
    rw [forL_cons, gN_eq]
    simp only
    rw [s]
    exact q1
theorem Er.of {e e' : Sl} {R S : List (List Nat)} (v : Er e R S) (l : e'.length = 32) (q : ∀ j h, j = 1 ∨ j = 8 ∨ j = 9 → mV j e' h = mV j e h) : Er e' R S :=
  ⟨⟨l, fun h => by rw [q 1 h (by omega)]; exact v.dice h⟩, fun h => by rw [q 8 h (by omega)]; exact v.m8 h, fun h => by rw [q 9 h (by omega)]; exact v.m9 h, v.r8, v.r9⟩
theorem txs_len (R : List (List Nat)) : (txs R).length = R.length := by simp [txs]
theorem G4 (e : Sl) (h : Cells) (R S : List (List Nat)) (v : Er e R S) (i : ID h) (X : MS) : ∃ e', Er e' R S ∧ mSeq stR1 (mSeq stR2 (mSeq stR3 X)) e h = X e' h := by
  have k := rowOk_of v.r8
  have rl := v.r8.1
  have ln : mCall biLen (aCons (mV 8) aNil) e h = .ok (nI R.length) h := len1 (v.m8 h) (by rw [len_pL, txs_len])
  have s1 : stR1 e h = .nx (e.set 10 (some (pT (pIs (octs R.length))))) h := asg_N (call1 ln (s_lnN R.length h (by omega)))
  have v1 := v.set 10 (by omega) (by omega) (by omega) (some (pT (pIs (octs R.length))))
  have ol := octs_len' R.length (by omega)
  obtain ⟨E, q1, q2, q3, q4⟩ := fR2 h ((txs R).map .d) R (octs R.length) (e.set 10 (some (pT (pIs (octs R.length))))) k.2 (by omega) v1.len (fun h => v.put (by omega) _ h)
  have s2 : stR2 (e.set 10 (some (pT (pIs (octs R.length))))) h = .nx E h := (mFor_eq (g := gN 11) (b := bR2) (any_pL (v1.m8 h))).trans q1
  have v2 : Er E R S := v1.of q2 (fun j h hj => q4 j h (by omega) (by omega))
  have q3' : ∀ h, mV 10 E h = .ok (pT (pIs (rowF R))) h := q3
  have fl := flat_len R k.2
  have rfl' : (rowF R).length ≤ 400 := by simp only [rowF, List.length_append]; omega
  have s3 : stR3 E h = .nx E h := by
    refine if_no (or_no (ck (x := .tuple (pIs (rowF R))) (h1 := h) (call1 (v2.m8 h) (s_ro false R k h i.wf)) (q3' h) (nDs_ints _) (d_ints _)) (ck (x := .tuple [.tuple (txs R), .int ((rowF R).length : Nat)]) (h1 := h) ?_ ?_ ?_ ?_))
    · refine call2 (addT (q3' h) (tup1 rfl) (by simp; omega)) rfl ?_
      rw [show pIs (rowF R) ++ [PyData.int 9] = pIs (rowF R ++ [9]) by simp]
      exact s_rr true R k [9] (fun x hx => by simp at hx; omega) h i.wf
    · exact tup2 (bi1 (v2.m8 h) (tuple_pL _ _)) (len1 (q3' h) (by rw [len_pT]; simp))
    · simp only [nD, nDs, nDs_txs, Bool.and_true]
    · have := depth_txs R
      simp only [PyData.depth, PyData.depthAll]; omega
  exact ⟨E, v2, by rw [seq_nx s1, seq_nx s2, seq_nx s3]⟩
/-! ### keys -/
abbrev stK1 : MS := mAsg (mTup aNil) (gN 12)
abbrev bK2 : MS := mAsg (mBin opAdd (mBin opAdd (mV 12) (mCallD r__law_signs [] (aCons (mV 11) aNil))) (mTup (aCons (mK (.d (.int 0))) aNil))) (gN 12)
abbrev stK2 : MS := mFor (iAny (mV 8)) (gN 11) bK2
abbrev stK3 : MS := mAsg (mLc (iAny (mLst (aCons (mV 8) (aCons (mV 9) aNil)))) (gN 27) mYes (mLc (iAny (mV 27)) (gN 11) mYes (mCallD r__law_signs [] (aCons (mV 11) aNil)) [11]) [27]) (gN 13)
abbrev stK4 : MS := mIf (mOr (mTb (mBin (opEq false) (mCallD r_key_octets [] (aCons (mV 8) aNil)) (mV 12))) (mTb (mBin (opEq false) (mCallD r_read_key [] (aCons (mV 12) aNil)) (mCall biTuple (aCons (mV 8) aNil))))) rf mSkip
abbrev stK5 : MS := mIf (mTb (mBin (opEq false) (mBin oLt (mCallD r_key_octets [] (aCons (mV 8) aNil)) (mCallD r_key_octets [] (aCons (mV 9) aNil))) (mBin oLt (mBin opIx (mV 13) (mK (.d (.int 0)))) (mBin opIx (mV 13) (mK (.d (.int 1))))))) rf mSkip
theorem fK2 (h : Cells) (all : List PV) : ∀ (rows : List (List Nat)) (acc : List Int) (E : Sl), (∀ r ∈ rows, txOk r) → acc.length + 107 * rows.length ≤ 100000 → E.length = 32 → (∀ h, mV 12 E h = .ok (pT (pIs acc)) h) →
    ∃ E', forL (gN 11) bK2 none all ((txs rows).map .d) E h = .nx E' h ∧ E'.length = 32 ∧ (∀ h, mV 12 E' h = .ok (pT (pIs (acc ++ keyF (rows.map sgs)))) h) ∧ ∀ j h, j ≠ 12 → j ≠ 11 → mV j E' h = mV j E h
  | [], acc, E, _, _, l, m => ⟨E, rfl, l, by simpa [keyF] using m, fun _ _ _ _ => rfl⟩
  | r :: rows, acc, E, k, b, l, m => by
    have kr := k r (by simp)
    have kl := kr.1
    simp only [List.length_cons] at b
    have l1 : (E.set 11 (some (pS (tx r)))).length = 32 := by rw [List.length_set]; exact l
    have m11 : ∀ h, mV 11 (E.set 11 (some (pS (tx r)))) h = .ok (pS (tx r)) h := fun h => mV_eq (by omega) _ h
    have m12 : ∀ h, mV 12 (E.set 11 (some (pS (tx r)))) h = .ok (pT (pIs acc)) h := fun h => by rw [mV_ne (by omega)]; exact m h
    have s : bK2 (E.set 11 (some (pS (tx r)))) h = .nx ((E.set 11 (some (pS (tx r)))).set 12 (some (pT (pIs (acc ++ (sgs r ++ [0])))))) h := by
      refine asg_N ?_
      have := addT (addT (m12 h) (call1 (m11 _) (s_ls r kr h)) (by simp [sgs]; omega)) (tup1 (h1 := h) (X := mK (.d (.int 0))) rfl) (by simp [sgs]; omega)
      rw [this]; simp
    obtain ⟨E', q1, q2, q3, q4⟩ := fK2 h all rows (acc ++ (sgs r ++ [0])) ((E.set 11 (some (pS (tx r)))).set 12 (some (pT (pIs (acc ++ (sgs r ++ [0])))))) (fun x hx => k x (by simp [hx])) (by simp [sgs]; omega) (by rw [List.length_set]; exact l1) (fun h => mV_eq (by omega) _ h)
    refine ⟨E', ?_, q2, fun h => by rw [q3, List.map_cons, keyF_cons]; simp, fun j h j1 j2 => by rw [q4 j h j1 j2, mV_ne (Ne.symm j1), mV_ne (Ne.symm j2)]⟩
    show forL _ _ none all (pS (tx r) :: (txs rows).map .d) _ _ = _
    rw [forL_cons, gN_eq]
    simp only
    rw [s]
    exact q1
def tupD (l : List (List Int)) : List PyData := l.map fun a => .tuple (pIs a)
theorem lt_ints : ∀ (a b : List Int), PyProof.Rows.lexLt PyProof.Rows.itemOrd (PySem.W.keyToksAll (pIs a)) (PySem.W.keyToksAll (pIs b)) = lxI a b
  | [], [] => PyProof.Rows.lex_irrefl _
  | [], y :: b => by
    simp only [pIs, List.map_nil, List.map_cons]
    rw [PySem.W.toks_all_cons]
    simp only [PySem.W.keyToksAll]
    rw [PyProof.Rows.lex_diff (O := PyProof.Rows.itemOrd) (by simp)]
    rfl
  | x :: a, [] => by
    simp only [pIs, List.map_nil, List.map_cons]
    rw [PySem.W.toks_all_cons]
    simp only [PySem.W.keyToksAll]
    rw [PyProof.Rows.lex_diff (O := PyProof.Rows.itemOrd) (by simp)]
    rfl
  | x :: a, y :: b => by
    have al : PySem.W.alike (.int x) (.int y) = true := by simp only [PySem.W.alike]
    show PyProof.Rows.lexLt PyProof.Rows.itemOrd (PySem.W.keyToksAll (.int x :: pIs a)) (PySem.W.keyToksAll (.int y :: pIs b)) = _
    rw [PySem.W.dataLt_cons al, lt_ints a b, PySem.W.dataLt_int]
    simp only [PyData.eqv, lxI, beq_iff_eq]
theorem alike_ints : ∀ (a b : List Int), PySem.W.alikeAll (pIs a) (pIs b) = true
  | [], _ => by simp only [pIs, List.map_nil]; rw [PySem.W.alikeAll]
  | _ :: _, [] => by simp only [pIs, List.map_nil, List.map_cons]; rw [PySem.W.alikeAll]
  | x :: a, y :: b => by
    have := alike_ints a b
    show PySem.W.alikeAll (.int x :: pIs a) (.int y :: pIs b) = true
    rw [PySem.W.alikeAll, this, Bool.and_true]
    simp only [PySem.W.alike]
theorem lt_tups : ∀ (a b : List (List Int)), PyProof.Rows.lexLt PyProof.Rows.itemOrd (PySem.W.keyToksAll (tupD a)) (PySem.W.keyToksAll (tupD b)) = lxR a b
  | [], [] => PyProof.Rows.lex_irrefl _
  | [], y :: b => by
    simp only [tupD, List.map_nil, List.map_cons]
    rw [PySem.W.toks_all_cons]
    simp only [PySem.W.keyToksAll]
    rw [PyProof.Rows.lex_diff (O := PyProof.Rows.itemOrd) (by simp)]
    rfl
  | x :: a, [] => by
    simp only [tupD, List.map_nil, List.map_cons]
    rw [PySem.W.toks_all_cons]
    simp only [PySem.W.keyToksAll]
    rw [PyProof.Rows.lex_diff (O := PyProof.Rows.itemOrd) (by simp)]
    rfl
  | x :: a, y :: b => by
    have al : PySem.W.alike (.tuple (pIs x)) (.tuple (pIs y)) = true := by
      simp only [PySem.W.alike]
      exact alike_ints x y
    show PyProof.Rows.lexLt PyProof.Rows.itemOrd (PySem.W.keyToksAll (.tuple (pIs x) :: tupD a)) (PySem.W.keyToksAll (.tuple (pIs y) :: tupD b)) = _
    rw [PySem.W.dataLt_cons al, lt_tups a b, PySem.W.dataLt_tuple, lt_ints]
    simp only [PyData.eqv, eqv_ints, lxR, decide_eq_true_eq]
theorem oLt_data {a b : PyData} (h : Cells) (n1 : opLt (.d a) (.d b) h = .bad) (al : PySem.W.alike a b = true) (nn : isNon a = false) (d : min a.depth b.depth ≤ 64) : oLt (.d a) (.d b) h = .ok (pB (PySem.W.dataLt a b)) h := by
  simp only [oLt, opOrd, n1, asX, al, nn, d, Bool.not_false, Bool.and_self, decide_true, if_true]
theorem alike_tupD : ∀ (a b : List (List Int)), PySem.W.alikeAll (tupD a) (tupD b) = true
  | [], _ => by simp only [tupD, List.map_nil]; rw [PySem.W.alikeAll]
  | _ :: _, [] => by simp only [tupD, List.map_nil, List.map_cons]; rw [PySem.W.alikeAll]
  | x :: a, y :: b => by
    have := alike_tupD a b
    show PySem.W.alikeAll (.tuple (pIs x) :: tupD a) (.tuple (pIs y) :: tupD b) = true
    rw [PySem.W.alikeAll, Bool.and_eq_true]
    refine ⟨?_, this⟩
    simp only [PySem.W.alike]
    exact alike_ints x y
theorem depth_tupD (a : List (List Int)) : PyData.depthAll (tupD a) ≤ 1 := depth_le fun d hd => by obtain ⟨i, _, rfl⟩ := List.mem_map.mp hd; simp [PyData.depth, depth_ints]
theorem nDs_tupD (a : List (List Int)) : nDs (tupD a) = true := nDs_of fun d hd => by obtain ⟨i, _, rfl⟩ := List.mem_map.mp hd; exact nDs_ints _
theorem G5 (e : Sl) (h : Cells) (R S : List (List Nat)) (v : Er e R S) (i : ID h) (X : MS) : ∃ e', Er e' R S ∧ mSeq stK1 (mSeq stK2 (mSeq stK3 (mSeq stK4 (mSeq stK5 X)))) e h = X e' h := by
  have k := rowOk_of v.r8
  have k9 := rowOk_of v.r9
  have rl := v.r8.1
  have s1 : stK1 e h = .nx (e.set 12 (some (pT (pIs [])))) h := asg_N (by simp only [mTup_eq, aNil_eq, bind_ok, List.length_nil, sz 0 (by omega), if_true]; rfl)
  have v1 := v.set 12 (by omega) (by omega) (by omega) (some (pT (pIs [])))
  obtain ⟨E, q1, q2, q3, q4⟩ := fK2 h ((txs R).map .d) R [] (e.set 12 (some (pT (pIs [])))) k.2 (by simp; omega) v1.len (fun h => v.put (by omega) _ h)
  rw [List.nil_append] at q3
  have s2 : stK2 (e.set 12 (some (pT (pIs [])))) h = .nx E h := (mFor_eq (g := gN 11) (b := bK2) (any_pL (v1.m8 h))).trans q1
  have v2 : Er E R S := v1.of q2 (fun j h hj => q4 j h (by omega) (by omega))
  have inner : ∀ (W : List (List Nat)) (E1 : Sl), rowOk W → E1.length = 32 → mV 27 E1 h = .ok (pL (txs W)) h → mLc (iAny (mV 27)) (gN 11) mYes (mCallD r__law_signs [] (aCons (mV 11) aNil)) [11] E1 h = .ok (pL (tupD (W.map sgs))) h := fun W E1 kW l m => by
    have lc := lc_all (g := gN 11) (fe := mCallD r__law_signs [] (aCons (mV 11) aNil)) (all := (txs W).map .d) (e := wipeE E1 [11]) (h := h) (fun is => pS (tx is)) (fun is => pT (pIs (sgs is))) W [] (fun is hi => ⟨_, rfl, call1 (mV_eq (by simp [wipeE, l]) _ _) (s_ls is (kW.2 is hi) h)⟩) (sz _ (by have := kW.1; simp; omega))
    have e1 : (W.map fun is => pS (tx is)) = (txs W).map .d := by simp [txs]
    rw [mLc_eq (any_pL m), ← e1]
    rw [← e1] at lc
    rw [lc, List.nil_append]
    have : (W.map fun is => pT (pIs (sgs is))) = (tupD (W.map sgs)).map .d := by simp [tupD]
    rw [this, mkL_map]
  have s3 : stK3 E h = .nx (E.set 13 (some (pL [.list (tupD (R.map sgs)), .list (tupD (S.map sgs))]))) h := by
    refine asg_N ?_
    have it := any_pL (f := mLst (aCons (mV 8) (aCons (mV 9) aNil))) (e := E) (h := h) (h1 := h) (ds := [.list (txs R), .list (txs S)]) (lst2 (v2.m8 h) (v2.m9 h))
    have lc := lc_all (g := gN 27) (fe := mLc (iAny (mV 27)) (gN 11) mYes (mCallD r__law_signs [] (aCons (mV 11) aNil)) [11]) (all := [pL (txs R), pL (txs S)]) (e := wipeE E [27]) (h := h) (fun W : List (List Nat) => pL (txs W)) (fun W => pL (tupD (W.map sgs))) [R, S] [] (fun W hW => ⟨_, rfl, inner W _ (by
        simp only [List.mem_cons, List.not_mem_nil, or_false] at hW
        rcases hW with rfl | rfl
        · exact k
        · exact k9) (by simp [wipeE, q2]) (mV_eq (by simp [wipeE, q2]) _ _)⟩) (sz _ (by simp))
    rw [mLc_eq it]
    exact lc
  have v3 := v2.set 13 (by omega) (by omega) (by omega) (some (pL [.list (tupD (R.map sgs)), .list (tupD (S.map sgs))]))
  have m12 : ∀ h, mV 12 (E.set 13 (some (pL [.list (tupD (R.map sgs)), .list (tupD (S.map sgs))]))) h = .ok (pT (pIs (keyF (R.map sgs)))) h := fun h => by rw [mV_ne (by omega)]; exact q3 h
  have m13 : ∀ h, mV 13 (E.set 13 (some (pL [.list (tupD (R.map sgs)), .list (tupD (S.map sgs))]))) h = .ok (pL [.list (tupD (R.map sgs)), .list (tupD (S.map sgs))]) h := fun h => mV_eq (by omega) _ h
  generalize E.set 13 (some (pL [.list (tupD (R.map sgs)), .list (tupD (S.map sgs))])) = F at *
  have s4 : stK4 F h = .nx F h :=
    if_no (or_no (ck (x := .tuple (pIs (keyF (R.map sgs)))) (h1 := h) (call1 (v3.m8 h) (s_ko false R k h i.wf)) (m12 h) (nDs_ints _) (d_ints _))
      (ck (x := .tuple (txs R)) (h1 := h) (call1 (m12 h) (s_rk R k h i.wf)) (bi1 (v3.m8 h) (tuple_pL _ _)) (nDs_txs _) (by have := depth_txs R; simp only [PyData.depth]; omega)))
  have ge1 : ∀ (W : List (List Nat)), rowOk W → ∀ r ∈ W.map sgs, ∀ x ∈ r, 1 ≤ x := fun W kW r hr x hx => by
    obtain ⟨is, hi, rfl⟩ := List.mem_map.mp hr
    exact (sgs_mem (kW.2 is hi) x hx).1
  have s5 : stK5 F h = .nx F h := by
    refine if_no (ck (x := .bool (lxI (keyF (R.map sgs)) (keyF (S.map sgs)))) (h1 := h) ?_ ?_ rfl (by simp [PyData.depth]))
    · refine bin (call1 (v3.m8 h) (s_ko false R k h i.wf)) (call1 (v3.m9 h) (s_ko false S k9 h i.wf)) ?_
      rw [oLt_data h rfl (by simp only [PySem.W.alike]; exact alike_ints _ _) rfl (by simp [PyData.depth, depth_ints]), PySem.W.dataLt_tuple, lt_ints]
    · refine bin (bin (m13 h) rfl (show _ = Out.ok (pL (tupD (R.map sgs))) h from rfl)) (bin (m13 h) rfl (show _ = Out.ok (pL (tupD (S.map sgs))) h from rfl)) ?_
      have d1 := depth_tupD (R.map sgs)
      rw [oLt_data h rfl (by simp only [PySem.W.alike]; exact alike_tupD _ _) rfl (by simp only [PyData.depth]; omega), PySem.W.dataLt_list, lt_tups, lx_keys _ _ (ge1 R k) (ge1 S k9)]
  exact ⟨F, v3, by rw [seq_nx s1, seq_nx s2, seq_nx s3, seq_nx s4, seq_nx s5]⟩
end K01

set_option Elab.async false
set_option linter.all false
set_option maxRecDepth 100000
set_option maxHeartbeats 1000000
namespace K01
open PySem PySem.Spec PyProof.Rows L2 Mi
/-! ### frames -/
abbrev stF1 : MS := mAsg (mCall biTuple (aCons (mLc (iRange1 (aCons (mCallD r__law_roll [] (aCons (mV 1) (aCons (mK (.d (.int 20))) aNil))) aNil)) (gN 3) mYes (mCallD r__law_roll [] (aCons (mV 1) (aCons (mK (.d (.int 256))) aNil))) [3]) aNil)) (gN 14)
abbrev stF2 : MS := mAsg (mCallD r__law_frame [] (aCons (mV 14) aNil)) (gN 15)
abbrev stF3 : MS := mIf (mOr (mTb (mBin (opEq false) (mCallD r_sum_of [] (aCons (mV 14) aNil)) (mCallD r__law_sum [] (aCons (mV 14) aNil)))) (mTb (mBin (opEq false) (mCallD r_framed [] (aCons (mV 14) aNil)) (mV 15)))) rf mSkip
abbrev stF4 : MS := mIf (mTb (mBin (opEq false) (mCallD r_read_frame [] (aCons (mBin opAdd (mV 15) (mTup (aCons (mK (.d (.int 7))) aNil))) (aCons (mK (.d (.int 0))) aNil))) (mTup (aCons (mV 14) (aCons (mCall biLen (aCons (mV 15) aNil)) aNil))))) rf mSkip
abbrev stF5 : MS := mAsg (mCallD r__law_roll [] (aCons (mV 1) (aCons (mCall biLen (aCons (mV 15) aNil)) aNil))) (gN 16)
abbrev stF6 : MS := mIf (mTb (mBin (opIsN false) (mCallD r_read_frame [] (aCons (mSl (mV 15) oNo (oSo (mV 16))) (aCons (mK (.d (.int 0))) aNil))) (mK (.d .none)))) rf mSkip
abbrev stF7 : MS := mAsg (mCallD r__law_roll [] (aCons (mV 1) (aCons (mCall biLen (aCons (mV 15) aNil)) aNil))) (gN 3)
abbrev stF8 : MS := mAsg (mBin opAdd (mBin opAdd (mSl (mV 15) oNo (oSo (mV 3))) (mTup (aCons (mBin opMod (mBin opAdd (mBin opAdd (mBin opIx (mV 15) (mV 3)) (mK (.d (.int 1)))) (mCallD r__law_roll [] (aCons (mV 1) (aCons (mK (.d (.int 255))) aNil)))) (mK (.d (.int 256)))) aNil))) (mSl (mV 15) (oSo (mBin opAdd (mV 3) (mK (.d (.int 1))))) oNo)) (gN 17)
abbrev stF9 : MS := mAsg (mCallD r__law_read [] (aCons (mV 17) (aCons (mK (.d (.int 0))) aNil))) (gN 18)
abbrev xG : ME PV := mAndV (mBin (opIsN false) (mV 18) (mK (.d .none))) (mAndV (mBin oGe (mCall biLen (aCons (mV 17) aNil)) (mBin opAdd (mBin opAdd (mBin opIx (mV 18) (mK (.d (.int 1)))) (mBin opIx (mV 18) (mK (.d (.int 0))))) (mK (.d (.int 4))))) (mBin (opEq true) (mSl (mCallD r__law_frame [] (aCons (mSl (mV 17) (oSo (mBin opIx (mV 18) (mK (.d (.int 1))))) (oSo (mBin opAdd (mBin opIx (mV 18) (mK (.d (.int 1)))) (mBin opIx (mV 18) (mK (.d (.int 0))))))) aNil)) (oSo (mCall biLen (aCons (mCallD r__law_number [] (aCons (mBin opIx (mV 18) (mK (.d (.int 0)))) aNil)) aNil))) oNo) (mSl (mV 17) (oSo (mBin opIx (mV 18) (mK (.d (.int 1))))) (oSo (mBin opAdd (mBin opAdd (mBin opIx (mV 18) (mK (.d (.int 1)))) (mBin opIx (mV 18) (mK (.d (.int 0))))) (mK (.d (.int 4))))))))
abbrev stF10 : MS := mAsg xG (gN 19)
abbrev stF11 : MS := mIf (mOr (mTb (mBin (opEq false) (mBin (opIsN false) (mCallD r_read_frame [] (aCons (mV 17) (aCons (mK (.d (.int 0))) aNil))) (mK (.d .none))) (mV 19))) (mAnd (mTb (mV 19)) (mTb (mBin oGe (mV 3) (mCall biLen (aCons (mCallD r__law_number [] (aCons (mCall biLen (aCons (mV 14) aNil)) aNil)) aNil)))))) rf mSkip
theorem vaddN (a b : Nat) (h : Cells) : opAdd (nI a) (nI b) h = .ok (nI (a + b)) h := rfl
theorem len_pI (l : List Int) (h : Cells) : biLen [pT (pIs l)] h = .ok (nI l.length) h := len_oI true l h
theorem rfO_none {h : Cells} {o : Option (List Int × Nat)} {f : ME PV} {e : Sl} {h0 : Cells} (q : f e h0 = rfO h o) : mBin (opIsN false) f (mK (.d .none)) e h0 = .ok (pB o.isSome) h := by
  cases o with
  | none => simp [q, rfO, isNone]
  | some x => obtain ⟨a, b⟩ := x; simp [q, rfO, isNone]
theorem rlO_none {h : Cells} {o : Option (Int × Nat)} {dv : PV} (q : rlO h o = .ok dv h) {f : ME PV} {e : Sl} {h0 : Cells} (qf : f e h0 = .ok dv h) : mBin (opIsN false) f (mK (.d .none)) e h0 = .ok (pB o.isSome) h := by
  cases o with
  | none => have : dv = pN := by simpa [rlO] using q.symm
            subst this; simp [qf, isNone]
  | some x => obtain ⟨a, b⟩ := x
              have : dv = pT [.int a, .int b] := by simpa [rlO] using q.symm
              subst this; simp [qf, isNone]
theorem slT_to {X Y : ME PV} {e : Sl} {h h1 h2 : Cells} {l : List Int} {k : Nat} (qx : X e h = .ok (pT (pIs l)) h1) (qy : Y e h1 = .ok (nI k) h2) : mSl X oNo (oSo Y) e h = .ok (pT (pIs (l.take k))) h2 := by
  simp only [mSl_eq, qx, bind_ok, oNo_eq, oSo_eq, qy, sl_pT, cut_to]; simp only [pIs, List.map_take]
theorem slT_fr {X Y : ME PV} {e : Sl} {h h1 h2 : Cells} {l : List Int} {k : Nat} (qx : X e h = .ok (pT (pIs l)) h1) (qy : Y e h1 = .ok (nI k) h2) : mSl X (oSo Y) oNo e h = .ok (pT (pIs (l.drop k))) h2 := by
  simp only [mSl_eq, qx, bind_ok, oNo_eq, oSo_eq, qy, sl_pT, cut_n]; simp only [pIs, List.map_drop]
theorem slT_nn {X Y Z : ME PV} {e : Sl} {h h1 h2 h3 : Cells} {l : List Int} {a b : Nat} (qx : X e h = .ok (pT (pIs l)) h1) (qy : Y e h1 = .ok (nI a) h2) (qz : Z e h2 = .ok (nI b) h3) : mSl X (oSo Y) (oSo Z) e h = .ok (pT (pIs ((l.drop a).take (b - a)))) h3 := by
  simp only [mSl_eq, qx, bind_ok, oSo_eq, qy, qz, sl_pT, cut_nn]; simp only [pIs, List.map_drop, List.map_take]
theorem good_eq (l : List Int) (o : oc8 l) (b : l.length ≤ 1000) (e : Sl) (h : Cells) (dv : PV) (m17 : ∀ h, mV 17 e h = .ok (pT (pIs l)) h) (m18 : ∀ h, mV 18 e h = .ok dv h) (q : rlO h (rdN l 0) = .ok dv h) : xG e h = .ok (pB (rdF l 0).isSome) h := by
  have c1 := rlO_none q (m18 h)
  unfold xG
  rw [mAndV_eq, mTb_eq, c1]
  unfold rdF
  cases hr : rdN l 0 with
  | none => rfl
  | some mq =>
    obtain ⟨m, p⟩ := mq
    rw [hr] at q
    have : dv = pT [.int m, .int p] := by simpa [rlO] using q.symm
    subst this
    obtain ⟨m0, m1, m2, m3, m4⟩ := rdN_some o hr
    obtain ⟨k, rfl⟩ : ∃ k : Nat, m = k := ⟨m.toNat, by omega⟩
    have i0 : mBin opIx (mV 18) (mK (.d (.int 0))) e h = .ok (nI k) h := bin (m18 h) rfl rfl
    have i1 : mBin opIx (mV 18) (mK (.d (.int 1))) e h = .ok (nI p) h := bin (m18 h) rfl rfl
    have i2 : mBin opAdd (mBin opIx (mV 18) (mK (.d (.int 1)))) (mBin opIx (mV 18) (mK (.d (.int 0)))) e h = .ok (nI (p + k)) h := bin i1 i0 (vaddN p k h)
    have i3 : mBin opAdd (mBin opAdd (mBin opIx (mV 18) (mK (.d (.int 1)))) (mBin opIx (mV 18) (mK (.d (.int 0))))) (mK (.d (.int 4))) e h = .ok (nI (p + k + 4)) h := bin i2 rfl (vaddN (p + k) 4 h)
    have c2 : mBin oGe (mCall biLen (aCons (mV 17) aNil)) (mBin opAdd (mBin opAdd (mBin opIx (mV 18) (mK (.d (.int 1)))) (mBin opIx (mV 18) (mK (.d (.int 0))))) (mK (.d (.int 4)))) e h = .ok (pB (decide (p + k + 4 ≤ l.length))) h := by
      refine bin (len1 (m17 h) (len_pI _ _)) i3 ?_
      rw [vge]
      have : decide (((p + k + 4 : Nat) : Int) ≤ (l.length : Nat)) = decide (p + k + 4 ≤ l.length) := by rw [decide_eq_decide]; omega
      rw [this]
    simp only [bind_ok, Option.isSome_some, if_true]
    rw [mAndV_eq, mTb_eq, c2]
    simp only [bind_ok, Int.toNat_natCast]
    have hA : ((l.drop p).take k).length = min k (l.length - p) := by simp
    have hB : ((l.drop (p + k)).take 4).length = min 4 (l.length - (p + k)) := by simp
    by_cases z : p + k + 4 ≤ l.length
    · rw [decide_eq_true z]
      simp only [if_true]
      rw [if_neg (by rw [hA, hB]; omega)]
      have pa := slT_nn (m17 h) i1 i2
      rw [show p + k - p = k by omega] at pa
      have pb := slT_nn (m17 h) i1 i3
      rw [show p + k + 4 - p = k + 4 by omega] at pb
      generalize hGA : (l.drop p).take k = A at *
      generalize hGB : (l.drop (p + k)).take 4 = B at *
      have lA : A.length = k := by omega
      have lB : B.length = 4 := by omega
      have oB : oc8 B := hGB ▸ (o.drop _).take 4
      have hC : (l.drop p).take (k + 4) = A ++ B := by
        rw [← hGA, ← hGB, ← List.drop_drop, ← List.take_add]
      rw [hC] at pb
      have fr := slT_fr (call1 pa (s_lf A (by omega) h)) (len1 (call1 i0 (s_lnN k h (by omega))) (len_pT _ _))
      rw [List.length_map] at fr
      have fd : (frame A).drop (octs (k : Int)).length = A ++ tail4 (sumO A) := by
        unfold frame; rw [lA, List.append_assoc, List.drop_left]
      rw [fd] at fr
      refine (bin fr pb (eq_ints_t _ _ _ _)).trans ?_
      have : decide (A ++ tail4 (sumO A) = A ++ B) = decide (be B = sumO A) := by
        rw [decide_eq_decide]
        constructor
        · intro x
          have := List.append_cancel_left x
          rw [← this, be_tail _ (sumO_bound A).1 (sumO_bound A).2]
        · intro x
          rw [← x, tail_be B lB oB]
      rw [if_pos rfl, this]
      by_cases y : be B = sumO A
      · rw [if_pos y, decide_eq_true y]; rfl
      · rw [if_neg y, decide_eq_false y]; rfl
    · rw [decide_eq_false z]
      have cond : ((l.drop p).take k).length < k ∨ ((l.drop (p + k)).take 4).length < 4 := by rw [hA, hB]; omega
      rw [if_pos cond]
      rfl
theorem frame_oc {l : List Int} (o : oc8 l) (b : l.length ≤ 1000000) : oc8 (frame l) := oc8.app (oc8.app (octs_mem _ (by omega) (by omega)) o) (tail4_mem _)
theorem set_bent (l : List Int) (k : Nat) (x : Int) (h : k < l.length) : l.take k ++ [x] ++ l.drop (k + 1) = l.set k x := by
  rw [List.set_eq_take_append_cons_drop, if_pos h]; simp
theorem G6 (e : Sl) (h : Cells) (v : Ev e) (i : ID h) (X : MS) : ∃ e' h', Ev e' ∧ ID h' ∧ mSeq stF1 (mSeq stF2 (mSeq stF3 (mSeq stF4 (mSeq stF5 (mSeq stF6 (mSeq stF7 (mSeq stF8 (mSeq stF9 (mSeq stF10 (mSeq stF11 X)))))))))) e h = X e' h' := by
  obtain ⟨L, h1, d1, d2, d3, d4⟩ := draw_ints 20 (by omega) (by omega) (fe := mCallD r__law_roll [] (aCons (mV 1) (aCons (mK (.d (.int 256))) aNil))) v i 256 (fun e h v i => roll_K (by omega) (by omega) i (v.dice h))
  have o : oc8 L := d4
  have lb : L.length ≤ 19 := by omega
  have s1 : stF1 e h = .nx (e.set 14 (some (pT (pIs L)))) h1 := asg_N (bi1 d1 (tuple_pL _ _))
  have v1 := v.set 14 (by omega) (some (pT (pIs L)))
  have a14 : ∀ h, mV 14 (e.set 14 (some (pT (pIs L)))) h = .ok (pT (pIs L)) h := fun h => v.put (by omega) _ h
  generalize e.set 14 (some (pT (pIs L))) = e1 at *
  have s2 : stF2 e1 h1 = .nx (e1.set 15 (some (pT (pIs (frame L))))) h1 := asg_N (call1 (a14 _) (s_lf L (by omega) h1))
  have v2 := v1.set 15 (by omega) (some (pT (pIs (frame L))))
  have b15 : ∀ h, mV 15 (e1.set 15 (some (pT (pIs (frame L))))) h = .ok (pT (pIs (frame L))) h := fun h => v1.put (by omega) _ h
  have b14 : ∀ h, mV 14 (e1.set 15 (some (pT (pIs (frame L))))) h = .ok (pT (pIs L)) h := fun h => by rw [mV_ne (by omega)]; exact a14 h
  generalize e1.set 15 (some (pT (pIs (frame L)))) = e2 at *
  have fo := frame_oc o (by omega)
  have ho : octs (L.length : Int) = [(L.length : Int)] := octs_small _ (by omega) (by omega)
  have fl : (frame L).length = L.length + 5 := by rw [frame_len, ho]; simp; omega
  have s3 : stF3 e2 h1 = .nx e2 h1 := if_no (or_no
    (ck (x := .int (sumO L)) (h1 := h1) (call1 (b14 _) (s_sum true L o h1)) (call1 (b14 _) (by rw [sumO_eq]; exact s_lsum true L (by omega) h1)) rfl (by simp [PyData.depth]))
    (ck (x := .tuple (pIs (frame L))) (h1 := h1) (call1 (b14 _) (s_framed L o h1 d2.wf (by omega))) (b15 _) (nDs_ints _) (d_ints _)))
  have s4 : stF4 e2 h1 = .nx e2 h1 := by
    refine if_no (ck (x := .tuple [.tuple (pIs L), .int ((frame L).length : Nat)]) (h1 := h1) ?_ (tup2 (b14 _) (len1 (b15 _) (len_pI _ _))) ?_ (by simp [PyData.depth, PyData.depthAll, depth_ints]))
    · refine call2 (addT (b15 _) (tup1 rfl) (by simp; omega)) rfl ?_
      have r := s_rf true (frame L ++ [7]) (oc8.app fo (fun x hx => by simp at hx; omega)) 0 h1
      rw [rdF_frame L [7] (by omega)] at r
      rw [show pIs (frame L) ++ [PyData.int 7] = pIs (frame L ++ [7]) by simp]
      exact r
    · simp only [nD, nDs, nDs_ints, Bool.and_true]
  obtain ⟨h2, w5, q5, ⟨c, rfl, c0, c1⟩, i2⟩ := roll_call (k := 1) (m := ((frame L).length : Nat)) (f := mCall biLen (aCons (mV 15) aNil)) (e := e2) (by omega) (by omega) d2 ⟨h1, len1 (b15 _) (len_pI _ _), d2⟩ (v2.dice _)
  obtain ⟨C, rfl⟩ : ∃ N : Nat, c = N := ⟨c.toNat, by omega⟩
  have s5 : stF5 e2 h1 = .nx (e2.set 16 (some (nI C))) h2 := asg_N q5
  have v3 := v2.set 16 (by omega) (some (nI C))
  have c16 : ∀ h, mV 16 (e2.set 16 (some (nI C))) h = .ok (nI C) h := fun h => v2.put (by omega) _ h
  have c15 : ∀ h, mV 15 (e2.set 16 (some (nI C))) h = .ok (pT (pIs (frame L))) h := fun h => by rw [mV_ne (by omega)]; exact b15 h
  have c14 : ∀ h, mV 14 (e2.set 16 (some (nI C))) h = .ok (pT (pIs L)) h := fun h => by rw [mV_ne (by omega)]; exact b14 h
  generalize e2.set 16 (some (nI C)) = e3 at *
  have s6 : stF6 e3 h2 = .nx e3 h2 := by
    refine if_no (h1 := h2) ?_
    have r := s_rf true ((frame L).take C) (fo.take C) 0 h2
    rw [rdF_cut L C (by omega) (by omega)] at r
    rw [mTb_eq, rfO_none (call2 (slT_to (c15 _) (c16 _)) rfl r)]
    rfl
  obtain ⟨h3, w7, q7, ⟨k, rfl, k0, k1⟩, i3⟩ := roll_call (k := 1) (m := ((frame L).length : Nat)) (f := mCall biLen (aCons (mV 15) aNil)) (e := e3) (by omega) (by omega) i2 ⟨h2, len1 (c15 _) (len_pI _ _), i2⟩ (v3.dice _)
  obtain ⟨K, rfl⟩ : ∃ N : Nat, k = N := ⟨k.toNat, by omega⟩
  have s7 : stF7 e3 h2 = .nx (e3.set 3 (some (nI K))) h3 := asg_N q7
  have v4 := v3.set 3 (by omega) (some (nI K))
  have d_3 : ∀ h, mV 3 (e3.set 3 (some (nI K))) h = .ok (nI K) h := fun h => v3.put (by omega) _ h
  have d15 : ∀ h, mV 15 (e3.set 3 (some (nI K))) h = .ok (pT (pIs (frame L))) h := fun h => by rw [mV_ne (by omega)]; exact c15 h
  have d14 : ∀ h, mV 14 (e3.set 3 (some (nI K))) h = .ok (pT (pIs L)) h := fun h => by rw [mV_ne (by omega)]; exact c14 h
  generalize e3.set 3 (some (nI K)) = e4 at *
  have Kl : K < (frame L).length := by omega
  have hx : (frame L)[K]? = some ((frame L)[K]) := List.getElem?_eq_getElem Kl
  have bx := fo.at hx
  generalize hX : (frame L)[K] = x at *
  obtain ⟨h4, w8, q8, ⟨j, rfl, j0, j1⟩, i4⟩ := roll_K (k := 1) (m := 255) (e := e4) (by omega) (by omega) i3 (v4.dice _)
  generalize hY : (x + 1 + j) % 256 = y at *
  have by' : 0 ≤ y ∧ y < 256 := by omega
  have s8 : stF8 e4 h3 = .nx (e4.set 17 (some (pT (pIs ((frame L).set K y))))) h4 := by
    refine asg_N ?_
    have p1 : mBin opIx (mV 15) (mV 3) e4 h3 = .ok (pI x) h3 := bin (d15 _) (d_3 _) (ix_oI true (frame L) K h3 x hx)
    have p2 : mBin opMod (mBin opAdd (mBin opAdd (mBin opIx (mV 15) (mV 3)) (mK (.d (.int 1)))) (mCallD r__law_roll [] (aCons (mV 1) (aCons (mK (.d (.int 255))) aNil)))) (mK (.d (.int 256))) e4 h3 = .ok (pI y) h4 :=
      bin (bin (bin p1 rfl (vadd _ _ _)) q8 (vadd _ _ _)) rfl (by rw [vmod _ _ _ (by omega), hY])
    have p3 : mBin opAdd (mV 3) (mK (.d (.int 1))) e4 h4 = .ok (nI (K + 1)) h4 := bin (d_3 _) rfl (vaddN K 1 h4)
    have := addT (addT (slT_to (d15 h3) (d_3 h3)) (tup1 p2) (by simp; omega)) (slT_fr (d15 h4) p3) (by simp; omega)
    rw [this]
    rw [show pIs ((frame L).take K) ++ [PyData.int y] ++ pIs ((frame L).drop (K + 1)) = pIs ((frame L).take K ++ [y] ++ (frame L).drop (K + 1)) by simp, set_bent _ _ _ Kl]
  have ob : oc8 ((frame L).set K y) := fun z hz => by
    rcases List.mem_or_eq_of_mem_set hz with hz | rfl
    · exact fo z hz
    · exact by'
  have v5 := v4.set 17 (by omega) (some (pT (pIs ((frame L).set K y))))
  have e17 : ∀ h, mV 17 (e4.set 17 (some (pT (pIs ((frame L).set K y))))) h = .ok (pT (pIs ((frame L).set K y))) h := fun h => v4.put (by omega) _ h
  have e_3 : ∀ h, mV 3 (e4.set 17 (some (pT (pIs ((frame L).set K y))))) h = .ok (nI K) h := fun h => by rw [mV_ne (by omega)]; exact d_3 h
  have e14 : ∀ h, mV 14 (e4.set 17 (some (pT (pIs ((frame L).set K y))))) h = .ok (pT (pIs L)) h := fun h => by rw [mV_ne (by omega)]; exact d14 h
  generalize e4.set 17 (some (pT (pIs ((frame L).set K y)))) = e5 at *
  have bl : ((frame L).set K y).length ≤ 1000 := by rw [List.length_set]; omega
  have r9 := s_lr true ((frame L).set K y) ob 0 (by omega) (by omega) h4
  have ⟨dv, hdv⟩ : ∃ dv, rlO h4 (rdN ((frame L).set K y) 0) = .ok dv h4 := by cases rdN ((frame L).set K y) 0 <;> exact ⟨_, rfl⟩
  have s9 : stF9 e5 h4 = .nx (e5.set 18 (some dv)) h4 := asg_N (call2 (e17 _) rfl (r9.trans hdv))
  have v6 := v5.set 18 (by omega) (some dv)
  have f18 : ∀ h, mV 18 (e5.set 18 (some dv)) h = .ok dv h := fun h => v5.put (by omega) _ h
  have f17 : ∀ h, mV 17 (e5.set 18 (some dv)) h = .ok (pT (pIs ((frame L).set K y))) h := fun h => by rw [mV_ne (by omega)]; exact e17 h
  have f_3 : ∀ h, mV 3 (e5.set 18 (some dv)) h = .ok (nI K) h := fun h => by rw [mV_ne (by omega)]; exact e_3 h
  have f14 : ∀ h, mV 14 (e5.set 18 (some dv)) h = .ok (pT (pIs L)) h := fun h => by rw [mV_ne (by omega)]; exact e14 h
  generalize e5.set 18 (some dv) = e6 at *
  have s10 : stF10 e6 h4 = .nx (e6.set 19 (some (pB (rdF ((frame L).set K y) 0).isSome))) h4 := asg_N (good_eq _ ob bl e6 h4 dv f17 f18 hdv)
  have v7 := v6.set 19 (by omega) (some (pB (rdF ((frame L).set K y) 0).isSome))
  have g19 : ∀ h, mV 19 (e6.set 19 (some (pB (rdF ((frame L).set K y) 0).isSome))) h = .ok (pB (rdF ((frame L).set K y) 0).isSome) h := fun h => v6.put (by omega) _ h
  have g17 : ∀ h, mV 17 (e6.set 19 (some (pB (rdF ((frame L).set K y) 0).isSome))) h = .ok (pT (pIs ((frame L).set K y))) h := fun h => by rw [mV_ne (by omega)]; exact f17 h
  have g_3 : ∀ h, mV 3 (e6.set 19 (some (pB (rdF ((frame L).set K y) 0).isSome))) h = .ok (nI K) h := fun h => by rw [mV_ne (by omega)]; exact f_3 h
  have g14 : ∀ h, mV 14 (e6.set 19 (some (pB (rdF ((frame L).set K y) 0).isSome))) h = .ok (pT (pIs L)) h := fun h => by rw [mV_ne (by omega)]; exact f14 h
  have bent : 1 ≤ K → rdF ((frame L).set K y) 0 = none := fun k1 => rdF_bent L K y (by omega) o Kl k1 by' (by rw [hX]; omega)
  generalize hG : (rdF ((frame L).set K y) 0).isSome = G at *
  generalize e6.set 19 (some (pB G)) = e7 at *
  have s11 : stF11 e7 h4 = .nx e7 h4 := by
    refine if_no (or_no (ck (x := .bool G) (h1 := h4) ?_ (g19 _) rfl (by simp [PyData.depth])) (h2 := h4) ?_)
    · have r := s_rf true ((frame L).set K y) ob 0 h4
      rw [rfO_none (call2 (g17 _) rfl r), hG]
    · have t1 : mTb (mV 19) e7 h4 = .ok G h4 := by rw [mTb_eq, g19]; rfl
      rw [mAnd_eq, t1]
      cases G with
      | false => rfl
      | true =>
        have k0' : K = 0 := by
          by_cases z : 1 ≤ K
          · rw [bent z] at hG; cases hG
          · omega
        subst k0'
        have ll : mCall biLen (aCons (mCallD r__law_number [] (aCons (mCall biLen (aCons (mV 14) aNil)) aNil)) aNil) e7 h4 = .ok (nI 1) h4 := by
          refine len1 (call1 (len1 (g14 _) (len_pT _ _)) (by rw [List.length_map]; exact s_lnN L.length h4 (by omega))) ?_
          rw [len_pT, List.length_map, ho]; rfl
        simp only [bind_ok, if_true]
        rw [mTb_eq, bin (g_3 h4) ll (vge _ _ _)]
        rfl
  exact ⟨e7, h4, v7, i4, by rw [seq_nx s1, seq_nx s2, seq_nx s3, seq_nx s4, seq_nx s5, seq_nx s6, seq_nx s7, seq_nx s8, seq_nx s9, seq_nx s10, seq_nx s11]⟩
end K01

set_option Elab.async false
set_option linter.all false
set_option maxRecDepth 100000
set_option maxHeartbeats 1000000
namespace K01
open PySem PySem.Spec PyProof.Rows L2 Mi
/-! ### texts that ascend -/
def kv1 (ks : List Str) : List (Key × PV) := ks.map fun k => (.inr k, pI 1)
theorem put_there (ks : List Str) (k : Str) (h : k ∈ ks) : putP (kv1 ks) (.inr k : Key) (pI 1) = kv1 ks := by
  unfold putP
  have a : ((kv1 ks).any fun kv => decide (kv.1 = (.inr k : Key))) = true := by
    rw [List.any_eq_true]
    exact ⟨(.inr k, pI 1), List.mem_map.mpr ⟨k, h, rfl⟩, by simp⟩
  rw [if_pos a]
  conv => rhs; rw [← List.map_id (kv1 ks)]
  refine List.map_congr_left fun kv hkv => ?_
  obtain ⟨x, _, rfl⟩ := List.mem_map.mp hkv
  split <;> rfl
theorem put_new (ks : List Str) (k : Str) (h : k ∉ ks) : putP (kv1 ks) (.inr k : Key) (pI 1) = kv1 (ks ++ [k]) := by
  unfold putP
  have a : ¬ ((kv1 ks).any fun kv => decide (kv.1 = (.inr k : Key))) = true := by
    intro q
    rw [List.any_eq_true] at q
    obtain ⟨kv, hkv, e⟩ := q
    obtain ⟨x, hx, rfl⟩ := List.mem_map.mp hkv
    simp at e
    exact h (e ▸ hx)
  rw [if_neg a]; simp [kv1]
theorem merge_keys : ∀ (R : List Str) (ks : List Str), ks.Nodup → ∃ ks', mergeP (kv1 ks) (kv1 R) = kv1 ks' ∧ ks'.Nodup ∧ (∀ k ∈ ks', k ∈ ks ∨ k ∈ R) ∧ ks'.length ≤ ks.length + R.length
  | [], ks, n => ⟨ks, rfl, n, fun k h => .inl h, by simp⟩
  | r :: R, ks, n => by
    by_cases h : r ∈ ks
    · obtain ⟨ks', a, b, c, d⟩ := merge_keys R ks n
      refine ⟨ks', ?_, b, fun k hk => (c k hk).imp_right (fun x => by simp [x]), by simp; omega⟩
      show mergeP (putP (kv1 ks) (.inr r) (pI 1)) (kv1 R) = _
      rw [put_there ks r h, a]
    · obtain ⟨ks', a, b, c, d⟩ := merge_keys R (ks ++ [r]) (by rw [List.nodup_append]; exact ⟨n, by simp, fun x hx y hy => by simp at hy; subst hy; exact fun z => h (z ▸ hx)⟩)
      refine ⟨ks', ?_, b, fun k hk => ?_, by simp at d ⊢; omega⟩
      · show mergeP (putP (kv1 ks) (.inr r) (pI 1)) (kv1 R) = _
        rw [put_new ks r h, a]
      · rcases c k hk with q | q
        · rcases List.mem_append.mp q with q | q
          · exact .inl q
          · simp at q; subst q; exact .inr (by simp)
        · exact .inr (by simp [q])
theorem keysS_kv (ks : List Str) : keysS (kv1 ks) = some ks := by
  induction ks with
  | nil => rfl
  | cons k r ih => 
    show keysS ((.inr k, pI 1) :: kv1 r) = _
    simp [keysS, ih]
theorem pairs_kv (R : List Str) : pairsP ((R.map fun s => PyData.tuple [.str s, .int 1]).map .d) = some (kv1 R) := by
  induction R with
  | nil => rfl
  | cons r R ih =>
    have e : pairP (pT [.str r, .int 1]) = some (.inr r, pI 1) := rfl
    simp only [List.map_cons, pairsP] at ih ⊢
    rw [e, ih]; rfl
theorem lt_of_le {a b : Str} (h : leS a b = true) (n : a ≠ b) : ltS a b = true := by
  unfold leS ltS at *
  simp only [Bool.not_eq_true', decide_eq_false_iff_not, decide_eq_true_eq] at h ⊢
  have h1 : a.cps.toList ≤ b.cps.toList := h
  by_cases q : a.cps.toList < b.cps.toList
  · exact q
  · exact absurd (PySem.W.str_of_cps (List.le_antisymm h1 q)) n
theorem asc_of {ks : List Str} (p : ks.Pairwise fun a b => leS a b = true) (n : ks.Nodup) (l : ∀ k ∈ ks, k.length ≤ 1000) : Asc ks := by
  induction ks with
  | nil => trivial
  | cons x r ih =>
    cases r with
    | nil => exact l x (by simp)
    | cons y r =>
      rw [List.pairwise_cons] at p
      rw [List.nodup_cons] at n
      exact ⟨l x (by simp), lt_of_le (p.1 y (by simp)) (fun q => n.1 (by rw [q]; simp)), ih p.2 n.2 (fun k hk => l k (by simp [hk]))⟩
/-! ### rows of texts -/
def sqP (a : Str) : List Str → List (Nat × Str)
  | [] => []
  | t :: r => (cp (cl a) (cl t), dropS t (cp (cl a) (cl t))) :: sqP t r
theorem sqR_P : ∀ (a : Str) (ts : List Str), sqR a ts = (sqP a ts).map fun p => PyData.tuple [.int (p.1 : Nat), .str p.2]
  | _, [] => rfl
  | a, t :: r => by simp [sqR, sqP, sqR_P t r]
theorem sqR_snoc : ∀ (a : Str) (pre : List Str) (t : Str), sqR a (pre ++ [t]) = sqR a pre ++ [.tuple [.int (cp (cl (pre.getLastD a)) (cl t) : Nat), .str (dropS t (cp (cl (pre.getLastD a)) (cl t)))]]
  | a, [], t => rfl
  | a, x :: pre, t => by
    have := sqR_snoc x pre t
    simp only [List.cons_append, sqR, this]
    cases pre <;> rfl
theorem nDs_sqR (a : Str) (ts : List Str) : nDs (sqR a ts) = true := by
  rw [sqR_P]; exact nDs_of fun d hd => by obtain ⟨i, _, rfl⟩ := List.mem_map.mp hd; rfl
theorem depth_sqR (a : Str) (ts : List Str) : PyData.depthAll (sqR a ts) ≤ 1 := by
  rw [sqR_P]; exact depth_le fun d hd => by obtain ⟨i, _, rfl⟩ := List.mem_map.mp hd; simp [PyData.depth, PyData.depthAll]
theorem sqR_len : ∀ (a : Str) (ts : List Str), (sqR a ts).length = ts.length
  | _, [] => rfl
  | a, t :: r => by simp [sqR, sqR_len t r]
/-- numbered texts -/
def en (n : Nat) : List Str → List PV
  | [] => []
  | t :: r => pT [.int n, .str t] :: en (n + 1) r
theorem enum_en : ∀ (ts : List Str) (n : Nat), (((strD ts).map PV.d).mapIdx fun i x => mkT [.d (.int ((i + n : Nat) : Int)), x]) = en n ts
  | [], _ => rfl
  | t :: r, n => by
    have := enum_en r (n + 1)
    simp only [strD, List.map_cons, List.mapIdx_cons] at this ⊢
    simp only [en, Nat.zero_add]
    congr 1
    rw [← this]
    congr 1
    funext i x
    rw [show i + 1 + n = i + (n + 1) by omega]
theorem maxI_range (c s : Nat) : maxI ((List.range' s (c + 1)).map fun k : Nat => (k : Int)) = ((s + c : Nat) : Int) := by
  induction c generalizing s with
  | zero => rfl
  | succ c ih =>
    have := ih (s + 1)
    rw [List.range'_succ, List.map_cons]
    have e : (List.range' (s + 1) (c + 1)).map (fun k : Nat => (k : Int)) = ((s + 1 : Nat) : Int) :: (List.range' (s + 2) c).map (fun k : Nat => (k : Int)) := by rw [List.range'_succ]; rfl
    rw [e] at this ⊢
    simp only [maxI]
    rw [this]; omega
abbrev bQ : MS := mSeq (mAsg (mIfE (mTb (mBin oGt (mV 20) (mK (.d (.int 0))))) (mBin opIx (mV 21) (mBin opSub (mV 20) (mK (.d (.int 1))))) (mK (.d (.str "")))) (gN 23))
  (mSeq (mAsg (mCall biMax (aCons (mLc (iRange1 (aCons (mBin opAdd (mCall biMin2 (aCons (mCall biLen (aCons (mV 11) aNil)) (aCons (mCall biLen (aCons (mV 23) aNil)) aNil))) (mK (.d (.int 1)))) aNil)) (gN 31) (mTb (mBin (opEq true) (mSl (mV 11) oNo (oSo (mV 31))) (mSl (mV 23) oNo (oSo (mV 31))))) (mV 31) [31]) aNil)) (gN 24))
  (mAsg (mBin opAdd (mV 22) (mLst (aCons (mTup (aCons (mV 24) (aCons (mSl (mV 11) (oSo (mV 24)) oNo) aNil))) aNil))) (gN 22)))
theorem bi2 {g : List PV → Cells → Out PV} {f1 f2 : ME PV} {e : Sl} {h h1 h2 : Cells} {v1 v2 : PV} {o : Out PV} (q1 : f1 e h = .ok v1 h1) (q2 : f2 e h1 = .ok v2 h2) (q : g [v1, v2] h2 = o) : mCall g (aCons f1 (aCons f2 aNil)) e h = o := by
  simp only [mCall_eq, aCons_eq, q1, q2, bind_ok, aNil_eq, q]
theorem slS_to {X Y : ME PV} {e : Sl} {h h1 h2 : Cells} {x : Str} {k : Nat} (qx : X e h = .ok (pS x) h1) (qy : Y e h1 = .ok (nI k) h2) (l : x.length ≤ 1000) : mSl X oNo (oSo Y) e h = .ok (pS (takeS x k)) h2 := by
  simp only [mSl_eq, qx, bind_ok, oNo_eq, oSo_eq, qy, sl_take x k h2 l]
theorem slS_fr {X Y : ME PV} {e : Sl} {h h1 h2 : Cells} {x : Str} {k : Nat} (qx : X e h = .ok (pS x) h1) (qy : Y e h1 = .ok (nI k) h2) (l : x.length ≤ 1000) : mSl X (oSo Y) oNo e h = .ok (pS (dropS x k)) h2 := by
  simp only [mSl_eq, qx, bind_ok, oNo_eq, oSo_eq, qy, sl_drop x k h2 l]
theorem sizes_eq (e : Sl) (h : Cells) (a b : Str) (la : a.length ≤ 1000) (lb : b.length ≤ 1000) (el : e.length = 32) (ma : ∀ h, mV 11 e h = .ok (pS a) h) (mb : ∀ h, mV 23 e h = .ok (pS b) h) :
    mCall biMax (aCons (mLc (iRange1 (aCons (mBin opAdd (mCall biMin2 (aCons (mCall biLen (aCons (mV 11) aNil)) (aCons (mCall biLen (aCons (mV 23) aNil)) aNil))) (mK (.d (.int 1)))) aNil)) (gN 31) (mTb (mBin (opEq true) (mSl (mV 11) oNo (oSo (mV 31))) (mSl (mV 23) oNo (oSo (mV 31))))) (mV 31) [31]) aNil) e h = .ok (nI (cp (cl b) (cl a))) h := by
  have r : iRange1 (aCons (mBin opAdd (mCall biMin2 (aCons (mCall biLen (aCons (mV 11) aNil)) (aCons (mCall biLen (aCons (mV 23) aNil)) aNil))) (mK (.d (.int 1)))) aNil) e h = .ok ((List.range (min a.length b.length + 1)).map (fun k : Nat => pI (0 + (k : Int))), none) h := by
    refine range1_nat (n := min a.length b.length + 1) ?_ (by omega)
    rw [aCons_eq, bin (bi2 (len1 (ma h) (len_str a h (sz _ (by omega)))) (len1 (mb h) (len_str b h (sz _ (by omega)))) (min2 _ _ h)) rfl (vaddN _ 1 h)]
    rfl
  have lc := lc_pure (g := gN 31) (t := mTb (mBin (opEq true) (mSl (mV 11) oNo (oSo (mV 31))) (mSl (mV 23) oNo (oSo (mV 31))))) (fe := mV 31) (all := (List.range (min a.length b.length + 1)).map (fun k : Nat => pI (0 + (k : Int)))) (e := wipeE e [31]) (h := h)
    (fun k : Nat => pI (0 + (k : Int))) (fun s => decide ((cl a).take s = (cl b).take s)) (fun k : Nat => pI (0 + (k : Int))) (List.range (min a.length b.length + 1)) [] (fun s hs => ⟨_, rfl, by
      have w : wipeE e [31] = e.set 31 none := rfl
      have m31 : mV 31 ((wipeE e [31]).set 31 (some (pI (0 + (s : Int))))) h = .ok (nI s) h := by rw [mV_eq (by rw [w, List.length_set]; omega)]; rw [Int.zero_add]
      have m11 : mV 11 ((wipeE e [31]).set 31 (some (pI (0 + (s : Int))))) h = .ok (pS a) h := by rw [w, mV_ne (by omega), mV_ne (by omega)]; exact ma h
      have m23 : mV 23 ((wipeE e [31]).set 31 (some (pI (0 + (s : Int))))) h = .ok (pS b) h := by rw [w, mV_ne (by omega), mV_ne (by omega)]; exact mb h
      rw [mTb_eq, bin (slS_to m11 m31 la) (slS_to m23 m31 lb) (eq_strs _ _ _ _)]
      have : (takeS a s == takeS b s) = decide ((cl a).take s = (cl b).take s) := by
        by_cases z : (cl a).take s = (cl b).take s
        · have : takeS a s = takeS b s := PySem.W.str_of_cps (by show cl _ = cl _; rw [takeS_cl, takeS_cl, z])
          rw [this, decide_eq_true z]; simp
        · have : takeS a s ≠ takeS b s := fun y => z (by rw [← takeS_cl, ← takeS_cl, y])
          rw [decide_eq_false z]; exact beq_eq_false_iff_ne.mpr this
      simp only [bind_ok, if_true, this], fun _ => mV_eq (by show _ < (e.set 31 none).length; rw [List.length_set]; omega) _ _⟩) (sz _ (by simp; omega))
  have ls := law_sizes (cl a) (cl b)
  rw [← cl_len, ← cl_len] at ls
  rw [ls] at lc
  have c := (mLc_eq (vs := [31]) r).trans lc
  have ek : mkL ([] ++ (List.range (cp (cl a) (cl b) + 1)).map fun k : Nat => pI (0 + (k : Int))) = pL (pIs ((List.range (cp (cl a) (cl b) + 1)).map fun k : Nat => (k : Int))) := by
    have : ((List.range (cp (cl a) (cl b) + 1)).map fun k : Nat => pI (0 + (k : Int))) = (pIs ((List.range (cp (cl a) (cl b) + 1)).map fun k : Nat => (k : Int))).map .d := by simp
    rw [List.nil_append, this, mkL_map]
  rw [ek] at c
  refine bi1 c ?_
  simp only [biMax, asL_pL, pI_map, asInts_pI]
  have mr := maxI_range (cp (cl a) (cl b)) 0
  rw [List.range_eq_range', cp_comm (cl b) (cl a)]
  rw [Nat.zero_add] at mr
  rw [List.range'_succ, List.map_cons] at mr ⊢
  simp only
  rw [mr]
theorem fQ (h : Cells) (all : List PV) (T : List Str) (tl : ∀ t ∈ T, t.length ≤ 1000) (tb : T.length ≤ 400) : ∀ (suf pre : List Str) (E : Sl), T = pre ++ suf → E.length = 32 → (∀ h, mV 21 E h = .ok (pL (strD T)) h) → (∀ h, mV 22 E h = .ok (pL (sqR "" pre)) h) →
    ∃ E', forL (gTp 2 (gsCons (gN 20) (gsCons (gN 11) gsNil))) bQ none all (en pre.length suf) E h = .nx E' h ∧ E'.length = 32 ∧ (∀ h, mV 21 E' h = .ok (pL (strD T)) h) ∧ (∀ h, mV 22 E' h = .ok (pL (sqR "" T)) h)
  | [], pre, E, hT, l, m1, m2 => ⟨E, rfl, l, m1, by rw [hT, List.append_nil]; exact m2⟩
  | t :: suf, pre, E, hT, l, m1, m2 => by
    have lt := tl t (by rw [hT]; simp)
    have lp : pre.length < T.length := by rw [hT]; simp
    have g1 : gTp 2 (gsCons (gN 20) (gsCons (gN 11) gsNil)) (pT [.int pre.length, .str t]) E h = some ((E.set 20 (some (nI pre.length))).set 11 (some (pS t)), h) := by simp [gTp]
    have prevl : (pre.getLastD "").length ≤ 1000 := by
      cases pre with
      | nil => decide +kernel
      | cons x r => exact tl _ (by rw [hT]; exact List.mem_append.mpr (.inl (by rw [List.getLastD_cons]; exact List.getLastD_mem_cons)))
    have a20 : ∀ h, mV 20 ((E.set 20 (some (nI pre.length))).set 11 (some (pS t))) h = .ok (nI pre.length) h := fun h => by rw [mV_ne (by omega)]; exact mV_eq (by omega) _ h
    have a11 : ∀ h, mV 11 ((E.set 20 (some (nI pre.length))).set 11 (some (pS t))) h = .ok (pS t) h := fun h => mV_eq (by rw [List.length_set]; omega) _ h
    have a21 : ∀ h, mV 21 ((E.set 20 (some (nI pre.length))).set 11 (some (pS t))) h = .ok (pL (strD T)) h := fun h => by rw [mV_ne (by omega), mV_ne (by omega)]; exact m1 h
    have a22 : ∀ h, mV 22 ((E.set 20 (some (nI pre.length))).set 11 (some (pS t))) h = .ok (pL (sqR "" pre)) h := fun h => by rw [mV_ne (by omega), mV_ne (by omega)]; exact m2 h
    have l1 : ((E.set 20 (some (nI pre.length))).set 11 (some (pS t))).length = 32 := by rw [List.length_set, List.length_set]; exact l
    generalize (E.set 20 (some (nI pre.length))).set 11 (some (pS t)) = E1 at *
    have s1 : mAsg (mIfE (mTb (mBin oGt (mV 20) (mK (.d (.int 0))))) (mBin opIx (mV 21) (mBin opSub (mV 20) (mK (.d (.int 1))))) (mK (.d (.str "")))) (gN 23) E1 h = .nx (E1.set 23 (some (pS (pre.getLastD "")))) h := by
      refine asg_N ?_
      rw [mIfE_eq, mTb_eq, bin (a20 h) rfl (vgt _ _ _)]
      cases pre with
      | nil => rfl
      | cons x r =>
        have : (0 : Int) < ((x :: r).length : Nat) := by simp
        simp only [bind_ok, this, decide_true, if_true]
        refine bin (a21 h) (bin (a20 h) rfl (show _ = Out.ok (nI r.length) h by rw [vsub]; simp)) ?_
        have gl : T[r.length]? = some ((x :: r).getLastD "") := by
          rw [hT, List.getElem?_append_left (by simp), List.getLastD_eq_getLast?, List.getLast?_eq_getElem?]
          simp
        exact ix_pQ false (strD T) r.length h (.str ((x :: r).getLastD "")) (by simp only [strD, List.getElem?_map, gl]; rfl)
    have b23 : ∀ h, mV 23 (E1.set 23 (some (pS (pre.getLastD "")))) h = .ok (pS (pre.getLastD "")) h := fun h => mV_eq (by omega) _ h
    have b11 : ∀ h, mV 11 (E1.set 23 (some (pS (pre.getLastD "")))) h = .ok (pS t) h := fun h => by rw [mV_ne (by omega)]; exact a11 h
    have b21 : ∀ h, mV 21 (E1.set 23 (some (pS (pre.getLastD "")))) h = .ok (pL (strD T)) h := fun h => by rw [mV_ne (by omega)]; exact a21 h
    have b22 : ∀ h, mV 22 (E1.set 23 (some (pS (pre.getLastD "")))) h = .ok (pL (sqR "" pre)) h := fun h => by rw [mV_ne (by omega)]; exact a22 h
    have l2 : (E1.set 23 (some (pS (pre.getLastD "")))).length = 32 := by rw [List.length_set]; exact l1
    generalize E1.set 23 (some (pS (pre.getLastD ""))) = E2 at *
    generalize hc : cp (cl (pre.getLastD "")) (cl t) = c at *
    have s2 := asg_N (i := 24) (sizes_eq E2 h t (pre.getLastD "") lt prevl l2 b11 b23)
    rw [hc] at s2
    have c24 : ∀ h, mV 24 (E2.set 24 (some (nI c))) h = .ok (nI c) h := fun h => mV_eq (by omega) _ h
    have c11 : ∀ h, mV 11 (E2.set 24 (some (nI c))) h = .ok (pS t) h := fun h => by rw [mV_ne (by omega)]; exact b11 h
    have c21 : ∀ h, mV 21 (E2.set 24 (some (nI c))) h = .ok (pL (strD T)) h := fun h => by rw [mV_ne (by omega)]; exact b21 h
    have c22 : ∀ h, mV 22 (E2.set 24 (some (nI c))) h = .ok (pL (sqR "" pre)) h := fun h => by rw [mV_ne (by omega)]; exact b22 h
    have l3 : (E2.set 24 (some (nI c))).length = 32 := by rw [List.length_set]; exact l2
    have s3 : mAsg (mBin opAdd (mV 22) (mLst (aCons (mTup (aCons (mV 24) (aCons (mSl (mV 11) (oSo (mV 24)) oNo) aNil))) aNil))) (gN 22) (E2.set 24 (some (nI c))) h = .nx ((E2.set 24 (some (nI c))).set 22 (some (pL (sqR "" (pre ++ [t]))))) h := by
      refine asg_N ?_
      rw [addL (c22 h) (lst1 (tup2 (c24 h) (slS_fr (c11 h) (c24 h) lt))) (by rw [sqR_len]; simp; omega), sqR_snoc, hc]
    generalize hE3 : E2.set 24 (some (nI c)) = E3 at *
    have d21 : ∀ h, mV 21 (E3.set 22 (some (pL (sqR "" (pre ++ [t]))))) h = .ok (pL (strD T)) h := fun h => by rw [mV_ne (by omega)]; exact c21 h
    have d22 : ∀ h, mV 22 (E3.set 22 (some (pL (sqR "" (pre ++ [t]))))) h = .ok (pL (sqR "" (pre ++ [t]))) h := fun h => mV_eq (by omega) _ h
    obtain ⟨E', q1, q2, q3, q4⟩ := fQ h all T tl tb suf (pre ++ [t]) (E3.set 22 (some (pL (sqR "" (pre ++ [t]))))) (by rw [hT]; simp) (by rw [List.length_set]; exact l3) d21 d22
    refine ⟨E', ?_, q2, q3, q4⟩
    show forL _ _ none all (pT [.int pre.length, .str t] :: en (pre.length + 1) suf) E h = _
    rw [forL_cons, g1]
    simp only
    rw [show bQ = mSeq _ (mSeq _ _) from rfl, seq_nx s1, seq_nx s2, s3]
    simp only
    rw [List.length_append, List.length_singleton] at q1
    exact q1
abbrev stQ1 : MS := mAsg (mCall biSortedD (aCons (mCall biDictP (aCons (mLc (iRange1 (aCons (mCallD r__law_roll [] (aCons (mV 1) (aCons (mK (.d (.int 6))) aNil))) aNil)) (gN 20) mYes (mTup (aCons (mCallD r__law_text [] (aCons (mV 1) aNil)) (aCons (mK (.d (.int 1))) aNil))) [20]) aNil)) aNil)) (gN 21)
abbrev stQ2 : MS := mAsg (mLst aNil) (gN 22)
abbrev stQ3 : MS := mFor (iEnumL (aCons (mV 21) aNil)) (gTp 2 (gsCons (gN 20) (gsCons (gN 11) gsNil))) bQ
abbrev stQ4 : MS := mIf (mOr (mTb (mBin (opEq false) (mCall biList (aCons (mCallD r_squeezed [] (aCons (mV 21) aNil)) aNil)) (mV 22))) (mTb (mBin (opEq false) (mCall biList (aCons (mCallD r_unsqueezed [] (aCons (mV 22) aNil)) aNil)) (mV 21)))) rf mSkip
abbrev stQ5 : MS := mIf (mTb (mBin (opEq false) (mLc (iZipM (aCons (mBin opAdd (mLst (aCons (mK (.d (.str ""))) aNil)) (mV 21)) (aCons (mV 21) aNil))) (gTp 2 (gsCons (gN 28) (gsCons (gN 29) gsNil))) mYes (mCallD r_shared_start [] (aCons (mV 28) (aCons (mV 29) aNil))) [28, 29]) (mLc (iAny (mV 22)) (gTp 2 (gsCons (gN 24) (gsCons (gN 30) gsNil))) mYes (mV 24) [24, 30]))) rf mSkip
theorem G7a (e : Sl) (h : Cells) (v : Ev e) (i : ID h) : ∃ T h', stQ1 e h = .nx (e.set 21 (some (pL (strD T)))) h' ∧ wfB h' = true ∧ Asc T ∧ T.length ≤ 5 := by
  obtain ⟨h1, v1, q1, ⟨n, rfl, n0, n1⟩, i1⟩ := roll_K (k := 1) (e := e) (m := 6) (by omega) (by omega) i (v.dice h)
  obtain ⟨N, rfl⟩ : ∃ N : Nat, n = N := ⟨n.toNat, by omega⟩
  obtain ⟨vs, h2, d1, d2, d3, d4⟩ := draws (j := 20) (e := e) (fi := aCons (mCallD r__law_roll [] (aCons (mV 1) (aCons (mK (.d (.int 6))) aNil))) aNil) (h := h) (fe := mTup (aCons (mCallD r__law_text [] (aCons (mV 1) aNil)) (aCons (mK (.d (.int 1))) aNil))) (fun w => ∃ s : Str, w = pT [.str s, .int 1] ∧ ∃ is : List Nat, s = tx is ∧ is.length ≤ 5 ∧ ∀ i ∈ is, i < 74) (by rw [aCons_eq, q1]; rfl) (by omega) i1
    (fun w h i => by
      obtain ⟨is, h', t1, t2, t3⟩ := one_text ((v.set 20 (by omega) none).set 20 (by omega) (some w)) i
      exact ⟨h', _, tup2 t1 rfl, ⟨tx is, rfl, is, rfl, t3⟩, t2⟩)
  obtain ⟨R, rfl, l, ha⟩ := all_ex (f := fun s => pT [.str s, .int 1]) (Q := fun s => ∃ is : List Nat, s = tx is ∧ is.length ≤ 5 ∧ ∀ i ∈ is, i < 74) (fun v h => h) vs d4
  have e1 : mkL (R.map fun s => pT [.str s, .int 1]) = pL (R.map fun s => PyData.tuple [.str s, .int 1]) := by
    have : (R.map fun s => pT [.str s, .int 1]) = (R.map fun s => PyData.tuple [.str s, .int 1]).map .d := by simp
    rw [this, mkL_map]
  rw [e1] at d1
  obtain ⟨ks, m1, m2, m3, m4⟩ := merge_keys R [] List.nodup_nil
  have bd : biDictP [pL (R.map fun s => PyData.tuple [.str s, .int 1])] h2 = .ok (.r h2.length) (h2 ++ [.dk (kv1 ks)]) := by
    simp only [biDictP, asL_pL, pairs_kv]
    rw [← m1]; rfl
  have okk : ∀ k ∈ ks, ∃ is : List Nat, k = tx is ∧ is.length ≤ 5 ∧ ∀ i ∈ is, i < 74 := fun k hk => by
    rcases m3 k hk with q | q
    · simp at q
    · exact ha k q
  have bs : biSortedD [.r h2.length] (h2 ++ [.dk (kv1 ks)]) = .ok (pL (strD (sortS ks))) (h2 ++ [.dk (kv1 ks)]) := by
    have a : asDict (.r h2.length) (h2 ++ [.dk (kv1 ks)]) = some (kv1 ks) := by
      have e : (h2 ++ [AO.dk (kv1 ks)])[h2.length]? = some (.dk (kv1 ks)) := at_end
      simp only [asDict, e]
    have c : ks.length < 64 ∧ (ks.all PyData.strOk) = true := ⟨by simp at m4; omega, List.all_eq_true.mpr fun k hk => by
      obtain ⟨is, rfl, t⟩ := okk k hk
      exact lay_one is (isT.ok t)⟩
    simp only [biSortedD, a, keysS_kv]
    rw [if_pos c]; rfl
  have pm := sortS_perm ks
  refine ⟨sortS ks, _, asg_N (bi1 (bi1 d1 bd) bs), ?_, asc_of (sortS_pw ks) (pm.nodup_iff.mpr m2) (fun k hk => by
    obtain ⟨is, rfl, t⟩ := okk k (pm.mem_iff.mp hk)
    rw [tx_len]; omega), by rw [pm.length_eq]; simp at m4; omega⟩
  obtain ⟨a, b, c, rfl⟩ := d2
  show (AO.bd 2 (.lst [pI a, pI b, pI c]) && (AO.bd 2 (.dk (kv1 ks)) && true)) = true
  have : AO.bd 2 (.dk (kv1 ks)) = true := by
    show bds 2 ((kv1 ks).map (·.2)) = true
    have : (kv1 ks).map (·.2) = (ks.map fun _ => PyData.int 1).map .d := by simp [kv1]
    rw [this]; exact bds_map _ _
  rw [this]; rfl
def cps (a : Str) : List Str → List Int
  | [] => []
  | t :: r => (cp (cl a) (cl t) : Nat) :: cps t r
theorem zip_cps : ∀ (a : Str) (ts : List Str), (((a :: ts).zip ts).map fun p => ((cp (cl p.1) (cl p.2) : Nat) : Int)) = cps a ts
  | _, [] => rfl
  | a, t :: r => by rw [List.zip_cons_cons, List.map_cons, zip_cps t r]; rfl
theorem sqP_cps : ∀ (a : Str) (ts : List Str), ((sqP a ts).map fun p => ((p.1 : Nat) : Int)) = cps a ts
  | _, [] => rfl
  | a, t :: r => by simp only [sqP, List.map_cons, sqP_cps t r, cps]
theorem G7 (e : Sl) (h : Cells) (v : Ev e) (i : ID h) : ∃ e' h', mSeq stQ1 (mSeq stQ2 (mSeq stQ3 (mSeq stQ4 stQ5))) e h = .nx e' h' := by
  obtain ⟨T, h1, s1, w, ac, tb⟩ := G7a e h v i
  have tl := ac.all
  have v1 := v.set 21 (by omega) (some (pL (strD T)))
  have s2 : stQ2 (e.set 21 (some (pL (strD T)))) h1 = .nx ((e.set 21 (some (pL (strD T)))).set 22 (some (pL (sqR "" [])))) h1 := asg_N (by simp only [mLst_eq, aNil_eq, bind_ok, List.length_nil, sz 0 (by omega), if_true]; rfl)
  have v2 := v1.set 22 (by omega) (some (pL (sqR "" [])))
  have a21 : ∀ h, mV 21 ((e.set 21 (some (pL (strD T)))).set 22 (some (pL (sqR "" [])))) h = .ok (pL (strD T)) h := fun h => by rw [mV_ne (by omega)]; exact v.put (by omega) _ h
  have a22 : ∀ h, mV 22 ((e.set 21 (some (pL (strD T)))).set 22 (some (pL (sqR "" [])))) h = .ok (pL (sqR "" [])) h := fun h => v1.put (by omega) _ h
  generalize (e.set 21 (some (pL (strD T)))).set 22 (some (pL (sqR "" []))) = e2 at *
  have it : iEnumL (aCons (mV 21) aNil) e2 h1 = .ok (en 0 T, none) h1 := by
    simp only [iEnumL, aCons_eq, a21, bind_ok, aNil_eq]
    have := enum_en T 0
    simp only [Nat.add_zero] at this
    rw [← this]
  obtain ⟨E, q1, q2, q3, q4⟩ := fQ h1 (en 0 T) T tl (by omega) T [] e2 rfl v2.len a21 a22
  have s3 : stQ3 e2 h1 = .nx E h1 := (mFor_eq (b := bQ) it).trans q1
  have s4 : stQ4 E h1 = .nx E h1 := if_no (or_no
    (ck (x := .list (sqR "" T)) (h1 := h1) (bi1 (call1 (q3 _) (s_sq T ac (by omega) h1 w)) (list_pT _ _)) (q4 _) (nDs_sqR _ _) (by have := depth_sqR "" T; simp only [PyData.depth]; omega))
    (ck (x := .list (strD T)) (h1 := h1) (bi1 (call1 (q4 _) (s_us T ac (by omega) h1 w)) (list_pT _ _)) (q3 _) (nDs_strD _) (by simp [PyData.depth, strD_depth])))
  have s5 : stQ5 E h1 = .nx E h1 := by
    refine if_no (ck (x := .list (pIs (cps "" T))) (h1 := h1) ?_ ?_ (nDs_ints _) (by simp [PyData.depth, depth_ints]))
    · have it : iZipM (aCons (mBin opAdd (mLst (aCons (mK (.d (.str ""))) aNil)) (mV 21)) (aCons (mV 21) aNil)) E h1 = .ok (((("" : Str) :: T).zip T).map (fun p : Str × Str => pT [.str p.1, .str p.2]), none) h1 := by
        have a := addL (lst1 (X := mK (.d (.str ""))) (e := E) (h := h1) (h1 := h1) rfl) (q3 h1) (by simp [strD]; omega)
        have ez : zipP ((strD (("" : Str) :: T)).map .d) ((strD T).map .d) = ((("" : Str) :: T).zip T).map (fun p : Str × Str => pT [.str p.1, .str p.2]) := by
          unfold zipP strD
          rw [List.map_map, List.map_map, List.zip_map, List.map_map]
          rfl
        rw [← ez]
        simp only [iZipM, aCons_eq]
        rw [a]
        simp only [bind_ok, q3, aNil_eq, asF]
        rfl
      have lc := lc_all (g := gTp 2 (gsCons (gN 28) (gsCons (gN 29) gsNil))) (fe := mCallD r_shared_start [] (aCons (mV 28) (aCons (mV 29) aNil))) (all := ((("" : Str) :: T).zip T).map (fun p : Str × Str => pT [.str p.1, .str p.2])) (e := wipeE E [28, 29]) (h := h1) (fun p : Str × Str => pT [.str p.1, .str p.2]) (fun p => pI ((cp (cl p.1) (cl p.2) : Nat) : Int)) ((("" : Str) :: T).zip T) [] (fun p hp => by
        have wl : (wipeE E [28, 29]).length = 32 := by simp [wipeE, q2]
        have m1 : p.1.length ≤ 1000 := by
          have := (List.of_mem_zip hp).1
          rcases List.mem_cons.mp this with q | q
          · rw [q]; decide +kernel
          · exact tl _ q
        have m2 : p.2.length ≤ 1000 := tl _ (List.of_mem_zip hp).2
        refine ⟨((wipeE E [28, 29]).set 28 (some (pS p.1))).set 29 (some (pS p.2)), by simp [gTp], call2 (h1 := h1) (h2 := h1) ?_ ?_ (s_ss p.1 p.2 m1 m2 h1)⟩
        · rw [mV_ne (by omega)]; exact mV_eq (by omega) _ _
        · exact mV_eq (by rw [List.length_set]; omega) _ _) (sz _ (by simp [List.length_zip]; omega))
      rw [mLc_eq it, lc, List.nil_append, ← zip_cps]
      have : (((("" : Str) :: T).zip T).map fun p => pI ((cp (cl p.1) (cl p.2) : Nat) : Int)) = (pIs (((("" : Str) :: T).zip T).map fun p => ((cp (cl p.1) (cl p.2) : Nat) : Int))).map .d := by simp
      rw [this, mkL_map]
    · have it := any_pL (q4 h1)
      have e1 : (sqR "" T).map PV.d = (sqP "" T).map (fun p => pT [.int (p.1 : Nat), .str p.2]) := by rw [sqR_P]; simp
      rw [e1] at it
      have lc := lc_all (g := gTp 2 (gsCons (gN 24) (gsCons (gN 30) gsNil))) (fe := mV 24) (all := (sqP "" T).map (fun p => pT [.int (p.1 : Nat), .str p.2])) (e := wipeE E [24, 30]) (h := h1) (fun p : Nat × Str => pT [.int (p.1 : Nat), .str p.2]) (fun p => pI ((p.1 : Nat) : Int)) (sqP "" T) [] (fun p hp => by
        have wl : (wipeE E [24, 30]).length = 32 := by simp [wipeE, q2]
        refine ⟨((wipeE E [24, 30]).set 24 (some (nI p.1))).set 30 (some (pS p.2)), by simp [gTp], ?_⟩
        rw [mV_ne (by omega)]; exact mV_eq (by omega) _ _) (sz _ (by
          have := congrArg List.length (sqP_cps "" T)
          have z := congrArg List.length (sqR_P "" T)
          rw [sqR_len, List.length_map] at z
          simp; omega))
      rw [mLc_eq it, lc, List.nil_append, ← sqP_cps]
      have : ((sqP "" T).map fun p => pI ((p.1 : Nat) : Int)) = (pIs ((sqP "" T).map fun p => ((p.1 : Nat) : Int))).map .d := by simp
      rw [this, mkL_map]
  exact ⟨E, h1, by rw [seq_nx s1, seq_nx s2, seq_nx s3, seq_nx s4, s5]⟩
/-! ## the whole law -/
def isTrue' : Out PV → Bool
  | .ok (.d (.bool true)) _ => true
  | _ => false
theorem iso_true {g : MF} (e : isTrue' (g [] []) = true) (h : Cells) : iso g [] h = .ok (pB true) h := by
  cases q : g [] [] with
  | bad => rw [q] at e; cases e
  | ex c h1 => rw [q] at e; cases e
  | ok v h1 =>
    rw [q] at e
    have : v = pB true := by
      unfold isTrue' at e
      split at e
      · rename_i h
        cases h; rfl
      · cases e
    subst this
    exact iso_ok rfl q rfl
theorem plain_true (h : Cells) : r__law_plain [] h = .ok (pB true) h := iso_true (by decide +kernel) h
abbrev X7 : MS := mSeq stQ1 (mSeq stQ2 (mSeq stQ3 (mSeq stQ4 stQ5)))
abbrev X6 : MS := mSeq stF1 (mSeq stF2 (mSeq stF3 (mSeq stF4 (mSeq stF5 (mSeq stF6 (mSeq stF7 (mSeq stF8 (mSeq stF9 (mSeq stF10 (mSeq stF11 X7))))))))))
abbrev X5 : MS := mSeq stK1 (mSeq stK2 (mSeq stK3 (mSeq stK4 (mSeq stK5 X6))))
abbrev X4 : MS := mSeq stR1 (mSeq stR2 (mSeq stR3 X5))
abbrev X3 : MS := mSeq stT1 (mSeq stT2 (mSeq stT3 X4))
abbrev X2 : MS := mSeq stL1 (mSeq stL2 (mSeq stL3 (mSeq stL4 X3)))
abbrev X1 : MS := mSeq stN1 (mSeq stN2 (mSeq stN3 (mSeq stN4 (mSeq stN5 X2))))
theorem for_one {fi : ME (List PV × Option Nat)} {b : MS} {e e' : Sl} {h h1 h2 : Cells} {x : PV} {j : Nat} (q : fi e h = .ok ([x], none) h1) (k : b (e.set j (some x)) h1 = .nx e' h2) : mFor fi (gN j) b e h = .nx e' h2 := by
  rw [mFor_eq q, forL_cons, gN_eq]
  simp only
  rw [k]
  rfl
theorem law_body (E : Sl) (H : Cells) (v : Ev E) (i : ID H) : ∃ e' h', X1 E H = .nx e' h' := by
  obtain ⟨e1, h1, v1, i1, q1⟩ := G1 E H v i X2
  obtain ⟨e2, h2, v2, i2, q2⟩ := G2 e1 h1 v1 i1 X3
  obtain ⟨e3, h3, R, S, v3, i3, q3⟩ := G3 e2 h2 v2 i2 X4
  obtain ⟨e4, v4, q4⟩ := G4 e3 h3 R S v3 i3 X5
  obtain ⟨e5, v5, q5⟩ := G5 e4 h3 R S v4 i3 X6
  obtain ⟨e6, h6, v6, i6, q6⟩ := G6 e5 h3 v5.toEv i3 X7
  obtain ⟨e7, h7, q7⟩ := G7 e6 h6 v6 i6
  exact ⟨e7, h7, q1.trans (q2.trans (q3.trans (q4.trans (q5.trans (q6.trans q7)))))⟩
abbrev E0 (ns : List Int) : Sl := ([.sc ns] : List PV).map some ++ List.replicate (32 - ([.sc ns] : List PV).length) none
theorem law_true : ∀ ns : List Int, ns.length ≤ 63 → ∃ h', r_law [.sc ns] [] = .ok (.d (.bool true)) h' := fun ns _ => by
  obtain ⟨a, b, c, rr⟩ := s_rounds ns
  have it : iAny (mCallD r__law_rounds [] (aCons (mV 0) (aCons (mK (.d (.int 1))) aNil))) (E0 ns) [] = .ok ([.r 0], none) (Dh a b c) := any_ls (call2 rfl rfl rr)
  have v : Ev ((E0 ns).set 1 (some (.r 0))) := ⟨rfl, fun h => rfl⟩
  obtain ⟨e7, h7, big⟩ := law_body _ _ v ⟨a, b, c, rfl⟩
  refine ⟨h7, runF_rt ?_⟩
  have lp : mFor (iAny (mCallD r__law_rounds [] (aCons (mV 0) (aCons (mK (.d (.int 1))) aNil)))) (gN 1) X1 (E0 ns) [] = .nx e7 h7 := for_one it big
  exact (seq_nx lp).trans (by rw [mRet_eq, mCall0_eq, plain_true h7]; rfl)
end K01

set_option Elab.async false
set_option linter.all false
set_option maxRecDepth 100000
set_option maxHeartbeats 0
namespace K01
open PySem PySem.Spec PyProof.Rows L2 Mi
abbrev R : PySem.W.OpenRow := PySem.W.OpenLaw.row PySem.Challenge.rw_storestack_k01_codes_of_rows
abbrev hk : PySem.W.Hook := He.hookX 5 fa fn [] (tfD tf) (apart tf)
def ob (s : PySem.W.SharedT) : He.AlX := He.obsX 5 fa fn [] (tfD tf) (apart tf) (HandSHeadRun.getT s)
theorem ob_eq (s : PySem.W.SharedT) : ob s = hk.obs s.abs := He.obsX_eq (HandSHeadRun.getT_eq s)
theorem run (w : World) : HandSHeadRun.RunEq R (PySem.W.view R.prog [35]) hk ob 3000 ((["StoreError", "CodeError", "SIGNS_OF_TEXT", "LARGEST_NUMBER", "MODULUS_OF_SUM", "number_octets", "read_number", "text_octets", "read_text", "row_octets", "read_row", "key_octets", "read_key", "sum_of", "framed", "read_frame", "is_number_cut", "number_at", "shared_start", "squeezed", "unsqueezed", "_law_dice", "_law_roll", "_law_rounds", "_law_told", "_law_number", "_law_text", "_law_signs", "_law_sum", "_law_frame"] : List PySem.Str) ++ (["_law_read", "_law_plain"] : List PySem.Str)) w := by
  intro os
  kernel_rfl
end K01
open PySem PySem.W PySem.Calls PyProof.Rows
theorem PySem.Challenge.cw_storestack_k01_codes_of_rows_holds : PySem.Challenge.rw_storestack_k01_codes_of_rows.Holds := by
  w_on; o_law
  refine HandSHeadRun.head_any (r := OpenLaw.row PySem.Challenge.rw_storestack_k01_codes_of_rows) (q := view (OpenLaw.row PySem.Challenge.rw_storestack_k01_codes_of_rows).prog [35]) (H := K01.hk) (ob := K01.ob) (M := 3000) (loose := (["StoreError", "CodeError", "SIGNS_OF_TEXT", "LARGEST_NUMBER", "MODULUS_OF_SUM", "number_octets", "read_number", "text_octets", "read_text", "row_octets", "read_row", "key_octets", "read_key", "sum_of", "framed", "read_frame", "is_number_cut", "number_at", "shared_start", "squeezed", "unsqueezed", "_law_dice", "_law_roll", "_law_rounds", "_law_told", "_law_number", "_law_text", "_law_signs", "_law_sum", "_law_frame"] : List PySem.Str) ++ (["_law_read", "_law_plain"] : List PySem.Str)) (d := HandSHeadRun.topDef (OpenLaw.row PySem.Challenge.rw_storestack_k01_codes_of_rows).prog 35) (kwd := []) K01.ob_eq
    (by kernel_rfl) (fun s => by kernel_rfl) K01.run (by kernel_rfl) (by kernel_rfl) (by kernel_rfl) (by rfl) (by first | assumption | decide +kernel) (by decide +kernel) ⟨rfl, rfl, rfl, rfl, rfl, by decide +kernel⟩ ?hw ?hc
  case hw => w_witness2
  case hc =>
    refine LamX.walk_ofTsE (n := 63) (k := 10) (x := "script") (CX := fun w => L2.CX (PySem.Challenge.rw_storestack_k01_codes_of_rows).prog w) rfl (by decide) rfl (by exact ⟨by rfl, by decide, by decide⟩) (fun w mg fad h Y hN hm => ?_) (fun w H s e s' c => ?_)
    · exact Mi.law_end (k := 10) (n := 63) (nm := "law") (d := K01.d27) (f := K01.r_law) 27 34 rfl rfl rfl rfl hN (fun _ _ _ _ _ _ us hl => match us, hl with | [_], _ => rfl) Y (fun K base F G fd FD => K01.D_law F G FD) K01.law_true fad hm
    · obtain ⟨_, _, _, _, _, _, _, _, _, _, _, _, q⟩ := c
      exact q

