import PyProof.Rows.All
import Wide.All
import OpenK.AllK
import Wide.FinOn
import KE.KStateDown
import HandS.ForMost
import HandS.More
import HandS.WordsExc
import HandS.Defaults
import HandS.Exc
import HandS.Lambda
import HandS.EndBits
import HandS.EndTab
import HandS.HeadWalk
import HandS.Head0
import HandS.Head1
import HandS.Head2
import HandS.HeadEnd
import HandS.HeadHook1
import HandS.HeadHook2
import HandS.TupLe
import HandS.TupAny
import HandS.TupMul
import HandS.Style
import HandS.Wide
import HandS.SortKw
import HandS.CallSlots
import HandS.Replace
import HandS.Deep
import HandS.Zip
import HandS.Rev
import HandS.RevRange
import HandS.Dict
import HandS.Iter
import HandS.Text
import KE.GoesEnum
import KE.DataCmp
import KE.DataMinMax
import KE.SortData
import HandS.GenList
import HandS.AnyAll
import PyProof.ConsumeS
import PyProof.TupleOfGen
import HandS.HeadHook4
import HandS.WideMore
import KE.GoesMore
import PyProof.EnumMake
import PyProof.ListStr
import PyProof.CollectStr
import HandS.NestedK
import HandS.Flow
import HandS.DictComp
import Lean
import PySem.Challenge.RW_storestack_k04_sieves_and_keys
set_option Elab.async false
set_option linter.all false
set_option maxRecDepth 100000
set_option maxHeartbeats 4000000
namespace Mi
open PySem PySem.Spec PyProof.Rows L2

/-! ## values, cells, outcomes -/
inductive PV where
  | d (x : PyData)
  | r (n : Nat)
  | ls (xs : List PV)
  | tp (xs : List PV)
  | cl (k : Nat)
  | sc (ns : List Int)

inductive AO where
  | lst (xs : List PV)
  | dk (kvs : List (Key × PV))
  | dt (kvs : List (List Key × PV))
  | ins (c : Str) (fs : List (Str × PV))

abbrev Cells := List AO
abbrev Sl := List (Option PV)
inductive Out (α : Type) where
  | ok (a : α) (h : Cells)
  | ex (c : Str) (h : Cells)
  | bad
abbrev ME (α : Type) := Sl → Cells → Out α
inductive OS where
  | nx (e : Sl) (h : Cells)
  | rt (v : PV) (h : Cells)
  | bk (e : Sl) (h : Cells)
  | ct (e : Sl) (h : Cells)
  | ex (c : Str) (h : Cells)
  | bad
abbrev MS := Sl → Cells → OS

/-! ## how they lie in the abstract heap -/
def fz (m z : List Addr) (H : Hp) : Hp := fun a => if a ∈ m ∨ a ∈ z then none else H a
def NoTb (o : HO) : Prop := ∀ ps, o ≠ .tbl ps
theorem fz_some {m z : List Addr} {H : Hp} {a : Addr} {o : HO} (h : fz m z H a = some o) : a ∉ m ∧ a ∉ z ∧ H a = some o := by
  unfold fz at h
  split at h
  · cases h
  · rename_i q
    exact ⟨fun x => q (.inl x), fun x => q (.inr x), h⟩
theorem fz_of {m z : List Addr} {H : Hp} {a : Addr} {o : HO} (h1 : a ∉ m) (h2 : a ∉ z) (h : H a = some o) : fz m z H a = some o := by
  unfold fz
  rw [if_neg (fun q => q.elim h1 h2)]
  exact h

/-! data: lists that are tracked or locked, tuples -/
mutual
inductive DD (K : PySem.W.Frag) (F : Hp) : V → PyData → Prop
  | non : DD K F .non .none
  | bl (b : Bool) : DD K F (.bl b) (.bool b)
  | int (i : Int) : DD K F (.int i) (.int i)
  | str (x : Str) : DD K F (.str x) (.str x)
  | lst {a : Addr} {vs : List V} {ds : List PyData} : F a = some (.lst vs) → DDAll K F vs ds → DD K F (.ref a) (.list ds)
  | tup {a : Addr} {vs : List V} {ds : List PyData} : SqT K F a vs → DDAll K F vs ds → DD K F (.ref a) (.tuple ds)
inductive DDAll (K : PySem.W.Frag) (F : Hp) : List V → List PyData → Prop
  | nil : DDAll K F [] []
  | cons {v : V} {vs : List V} {d : PyData} {ds : List PyData} : DD K F v d → DDAll K F vs ds → DDAll K F (v :: vs) (d :: ds)
end
mutual
theorem DD.dp {K : PySem.W.Frag} {F : Hp} : ∀ {v : V} {x : PyData}, DD K F v x → Dp K F v x
  | _, _, .non => .non
  | _, _, .bl b => .bl b
  | _, _, .int i => .int i
  | _, _, .str x => .str x
  | _, _, .lst h t => .lst (.inl (.inl h)) (DD.dpAll t)
  | _, _, .tup h t => .tup h (DD.dpAll t)
theorem DD.dpAll {K : PySem.W.Frag} {F : Hp} : ∀ {vs : List V} {xs : List PyData}, DDAll K F vs xs → DpAll K F vs xs
  | _, _, .nil => .nil
  | _, _, .cons h t => .cons (DD.dp h) (DD.dpAll t)
end
mutual
inductive Rep (K : PySem.W.Frag) (m z : List Addr) (H : Hp) : PV → V → Prop
  | d {x : PyData} {v : V} : DD K (fz m z H) v x → x.canLay0 = true → Rep K m z H (.d x) v
  | r {n : Nat} {a : Addr} : m[n]? = some a → Rep K m z H (.r n) (.ref a)
  | ls {xs : List PV} {a : Addr} {vs : List V} : fz m z H a = some (.lst vs) → RepAll K m z H xs vs → Rep K m z H (.ls xs) (.ref a)
  | tp {xs : List PV} {a : Addr} {vs : List V} : SqT K (fz m z H) a vs → RepAll K m z H xs vs → Rep K m z H (.tp xs) (.ref a)
  | sc {ns : List Int} {a : Addr} : SqL K (fz m z H) a (ns.map V.int) → Rep K m z H (.sc ns) (.ref a)
inductive RepAll (K : PySem.W.Frag) (m z : List Addr) (H : Hp) : List PV → List V → Prop
  | nil : RepAll K m z H [] []
  | cons {x : PV} {v : V} {xs : List PV} {vs : List V} : Rep K m z H x v → RepAll K m z H xs vs → RepAll K m z H (x :: xs) (v :: vs)
end

/-- what is seen stays seen -/
def Vw (F F' : Hp) : Prop := ∀ a o, F a = some o → NoTb o → F' a = some o
theorem Vw.refl (F : Hp) : Vw F F := fun _ _ h _ => h
theorem Vw.trans {F G J : Hp} (a : Vw F G) (b : Vw G J) : Vw F J := fun c o h n => b c o (a c o h n) n
theorem Vw.fz (m z : List Addr) (H : Hp) : Vw (fz m z H) H := fun _ _ h _ => (fz_some h).2.2
theorem noTb_lst {xs : List V} : NoTb (.lst xs) := fun _ h => by cases h
theorem noTb_tup {xs : List V} : NoTb (.tup xs) := fun _ h => by cases h
theorem noTb_frz {o : Obj} {u : HO} : NoTb (.frz o u) := fun _ h => by cases h
theorem Rd.vw {F F' : Hp} {a : Addr} {xs : List V} (h : Rd F a (.lst xs)) (v : Vw F F') : Rd F' a (.lst xs) := by
  rcases h with h | ⟨o, h⟩
  · exact .inl (v _ _ h noTb_lst)
  · exact .inr ⟨o, v _ _ h noTb_frz⟩
theorem SqL.vw {K : PySem.W.Frag} {F F' : Hp} {a : Addr} {xs : List V} (h : SqL K F a xs) (v : Vw F F') : SqL K F' a xs := h.imp_left fun q => Rd.vw q v
theorem SqT.vw {K : PySem.W.Frag} {F F' : Hp} {a : Addr} {xs : List V} (h : SqT K F a xs) (v : Vw F F') : SqT K F' a xs := by
  rcases h with (h | ⟨o, h⟩) | h
  · exact .inl (.inl (v _ _ h noTb_tup))
  · exact .inl (.inr ⟨o, v _ _ h noTb_frz⟩)
  · exact .inr h
mutual
theorem DD.vw {K : PySem.W.Frag} {F F' : Hp} (w : Vw F F') : ∀ {v : V} {x : PyData}, DD K F v x → DD K F' v x
  | _, _, .non => .non
  | _, _, .bl b => .bl b
  | _, _, .int i => .int i
  | _, _, .str x => .str x
  | _, _, .lst h t => .lst (w _ _ h noTb_lst) (DD.vwAll w t)
  | _, _, .tup h t => .tup (SqT.vw h w) (DD.vwAll w t)
theorem DD.vwAll {K : PySem.W.Frag} {F F' : Hp} (w : Vw F F') : ∀ {vs : List V} {xs : List PyData}, DDAll K F vs xs → DDAll K F' vs xs
  | _, _, .nil => .nil
  | _, _, .cons h t => .cons (DD.vw w h) (DD.vwAll w t)
end

/-- from one state to a later one: cells come, what is not a cell stays -/
structure Nx (m z : List Addr) (H : Hp) (m' : List Addr) (H' : Hp) : Prop where
  pre : ∃ l, m' = m ++ l ∧ ∀ a ∈ l, H a = none
  kp : ∀ a o, a ∉ m → H a = some o → NoTb o → H' a = some o
  lv : ∀ a, H a ≠ none → H' a ≠ none
theorem Nx.refl (m z : List Addr) (H : Hp) : Nx m z H m H := ⟨⟨[], by simp, fun _ h => absurd h (by simp)⟩, fun _ _ _ h _ => h, fun _ h => h⟩
theorem Nx.trans {m z m1 m2 : List Addr} {H H1 H2 : Hp} (a : Nx m z H m1 H1) (b : Nx m1 z H1 m2 H2) : Nx m z H m2 H2 := by
  obtain ⟨l1, e1, n1⟩ := a.pre
  obtain ⟨l2, e2, n2⟩ := b.pre
  have no : ∀ c, H1 c = none → H c = none := fun c h => by
    cases q : H c with
    | none => rfl
    | some o => exact absurd h (a.lv c (by rw [q]; simp))
  refine ⟨⟨l1 ++ l2, by rw [e2, e1, List.append_assoc], fun c hc => ?_⟩, fun c o hc h n => ?_, fun c h => b.lv c (a.lv c h)⟩
  · rcases List.mem_append.mp hc with h | h
    · exact n1 c h
    · exact no c (n2 c h)
  · refine b.kp c o (fun q => ?_) (a.kp c o hc h n) n
    rw [e1] at q
    rcases List.mem_append.mp q with q | q
    · exact hc q
    · rw [n1 c q] at h; cases h
theorem Nx.vw {m z m' : List Addr} {H H' : Hp} (n : Nx m z H m' H') : Vw (fz m z H) (fz m' z H') := fun a o h nt => by
  obtain ⟨h1, h2, h3⟩ := fz_some h
  obtain ⟨l, e, nl⟩ := n.pre
  refine fz_of (fun q => ?_) h2 (n.kp a o h1 h3 nt)
  rw [e] at q
  rcases List.mem_append.mp q with q | q
  · exact h1 q
  · rw [nl a q] at h3; cases h3
theorem Nx.get {m z m' : List Addr} {H H' : Hp} (n : Nx m z H m' H') {i : Nat} {a : Addr} (h : m[i]? = some a) : m'[i]? = some a := by
  obtain ⟨l, e, _⟩ := n.pre
  rw [e, List.getElem?_append_left (List.getElem?_eq_some_iff.mp h).1]
  exact h
mutual
theorem Rep.vw {K : PySem.W.Frag} {m z m' z' : List Addr} {H H' : Hp} (w : Vw (fz m z H) (fz m' z' H')) (g : ∀ (i : Nat) (a : Addr), m[i]? = some a → m'[i]? = some a) : ∀ {x : PV} {v : V}, Rep K m z H x v → Rep K m' z' H' x v
  | _, _, .d h c => .d (DD.vw w h) c
  | _, _, .r h => .r (g _ _ h)
  | _, _, .ls h t => .ls (w _ _ h noTb_lst) (Rep.vwAll w g t)
  | _, _, .sc h => .sc (SqL.vw h w)
  | _, _, .tp h t => .tp (SqT.vw h w) (Rep.vwAll w g t)
theorem Rep.vwAll {K : PySem.W.Frag} {m z m' z' : List Addr} {H H' : Hp} (w : Vw (fz m z H) (fz m' z' H')) (g : ∀ (i : Nat) (a : Addr), m[i]? = some a → m'[i]? = some a) : ∀ {x : List PV} {v : List V}, RepAll K m z H x v → RepAll K m' z' H' x v
  | _, _, .nil => .nil
  | _, _, .cons h t => .cons (Rep.vw w g h) (Rep.vwAll w g t)
end
theorem Rep.nx {K : PySem.W.Frag} {m z m' : List Addr} {H H' : Hp} {x : PV} {v : V} (h : Rep K m z H x v) (n : Nx m z H m' H') : Rep K m' z H' x v := Rep.vw n.vw (fun _ _ q => n.get q) h
theorem RepAll.nx {K : PySem.W.Frag} {m z m' : List Addr} {H H' : Hp} {x : List PV} {v : List V} (h : RepAll K m z H x v) (n : Nx m z H m' H') : RepAll K m' z H' x v := Rep.vwAll n.vw (fun _ _ q => n.get q) h
theorem RepAll.length {K : PySem.W.Frag} {m z : List Addr} {H : Hp} : ∀ {xs : List PV} {vs : List V}, RepAll K m z H xs vs → xs.length = vs.length
  | _, _, .nil => rfl
  | _, _, .cons _ t => by simp [RepAll.length t]
theorem RepAll.append {K : PySem.W.Frag} {m z : List Addr} {H : Hp} : ∀ {xs ys : List PV} {vs ws : List V}, RepAll K m z H xs vs → RepAll K m z H ys ws → RepAll K m z H (xs ++ ys) (vs ++ ws)
  | _, _, _, _, .nil, s => s
  | _, _, _, _, .cons h t, s => .cons h (RepAll.append t s)
theorem RepAll.get {K : PySem.W.Frag} {m z : List Addr} {H : Hp} : ∀ {xs : List PV} {vs : List V} {i : Nat} {x : PV}, RepAll K m z H xs vs → xs[i]? = some x → ∃ v, vs[i]? = some v ∧ Rep K m z H x v
  | _, _, _, _, .nil, e => by simp at e
  | _, _, 0, _, .cons h _, e => by simp at e; subst e; exact ⟨_, rfl, h⟩
  | _, _, i + 1, x, .cons _ t, e => by
    obtain ⟨v, h1, h2⟩ := RepAll.get (i := i) (x := x) t (by simpa using e)
    exact ⟨v, by simpa using h1, h2⟩
theorem RepAll.get' {K : PySem.W.Frag} {m z : List Addr} {H : Hp} : ∀ {xs : List PV} {vs : List V} {i : Nat} {v : V}, RepAll K m z H xs vs → vs[i]? = some v → ∃ x, xs[i]? = some x ∧ Rep K m z H x v
  | _, _, _, _, .nil, e => by simp at e
  | _, _, 0, _, .cons h _, e => by simp at e; subst e; exact ⟨_, rfl, h⟩
  | _, _, i + 1, v, .cons _ t, e => by
    obtain ⟨x, h1, h2⟩ := RepAll.get' (i := i) (v := v) t (by simpa using e)
    exact ⟨x, by simpa using h1, h2⟩
theorem RepAll.set {K : PySem.W.Frag} {m z : List Addr} {H : Hp} {x : PV} {v : V} (r : Rep K m z H x v) : ∀ {xs : List PV} {vs : List V} (i : Nat), RepAll K m z H xs vs → RepAll K m z H (xs.set i x) (vs.set i v)
  | _, _, _, .nil => .nil
  | _, _, 0, .cons _ t => .cons r t
  | _, _, i + 1, .cons q t => .cons q (RepAll.set r i t)
theorem RepAll.take {K : PySem.W.Frag} {m z : List Addr} {H : Hp} : ∀ {xs : List PV} {vs : List V} (n : Nat), RepAll K m z H xs vs → RepAll K m z H (xs.take n) (vs.take n)
  | _, _, 0, _ => .nil
  | _, _, _ + 1, .nil => .nil
  | _, _, n + 1, .cons r t => .cons r (RepAll.take n t)
theorem RepAll.drop {K : PySem.W.Frag} {m z : List Addr} {H : Hp} : ∀ {xs : List PV} {vs : List V} (n : Nat), RepAll K m z H xs vs → RepAll K m z H (xs.drop n) (vs.drop n)
  | _, _, 0, r => r
  | _, _, _ + 1, .nil => .nil
  | _, _, n + 1, .cons _ t => RepAll.drop n t
/-- data all through -/
theorem RepAll.dp {K : PySem.W.Frag} {m z : List Addr} {H : Hp} : ∀ {xs : List PyData} {vs : List V}, RepAll K m z H (xs.map .d) vs → DDAll K (fz m z H) vs xs ∧ PyData.canLayAll0 xs = true
  | [], _, h => by cases h; exact ⟨.nil, by simp [PyData.canLayAll0]⟩
  | x :: xs, _, h => by
    cases h with
    | cons h t =>
      cases h with
      | d h c =>
        obtain ⟨t1, t2⟩ := RepAll.dp t
        exact ⟨.cons h t1, by simp [PyData.canLayAll0, c, t2]⟩
theorem RepAll.of_dp {K : PySem.W.Frag} {m z : List Addr} {H : Hp} : ∀ {xs : List PyData} {vs : List V}, DDAll K (fz m z H) vs xs → PyData.canLayAll0 xs = true → RepAll K m z H (xs.map .d) vs
  | [], _, h, _ => by cases h; exact .nil
  | x :: xs, _, h, c => by
    cases h with
    | cons h t =>
      simp only [PyData.canLayAll0, Bool.and_eq_true] at c
      exact .cons (.d h c.1) (RepAll.of_dp t c.2)

/-! ## the cells -/
def ORep (K : PySem.W.Frag) (m z : List Addr) (H : Hp) (a : Addr) : AO → Prop
  | .lst xs => ∃ vs, H a = some (.lst vs) ∧ RepAll K m z H xs vs
  | .dk kvs => ∃ ws, H a = some (.dK ws) ∧ kvs.map (·.1) = ws.map (·.1) ∧ RepAll K m z H (kvs.map (·.2)) (ws.map (·.2))
  | .dt kvs => ∃ ws, H a = some (.dT ws) ∧ kvs.map (·.1) = ws.map (·.1) ∧ RepAll K m z H (kvs.map (·.2)) (ws.map (·.2))
  | .ins c fs => ∃ dx ws, H a = some (.ins (He.ga K c) dx ws) ∧ fs.map (·.1) = ws.map (·.1) ∧ RepAll K m z H (fs.map (·.2)) (ws.map (·.2))
/-- the tables of code objects: c's table at P; lambdas' code objects bear the name q -/
structure Tb where
  c : Addr
  P : Addr
  q : Str
  lam : List (Nat × Nat)
def TbOk (H : Hp) (t : Tb) : Prop := ∃ ps : Array Value, H t.P = some (.tbl ps) ∧ TriplesOk ps.toList ∧
  ∀ (pos : Pos) (cv : Value), (pos.line, pos.col) ∈ t.lam → codeAmong pos ps.toList = some cv → ∃ c, cv = .ref c ∧ H c = some (LamX.CodeO c t.q)
theorem noTb_code {c : Addr} {q : Str} : NoTb (LamX.CodeO c q) := LamX.codeO_ne
structure HRel (K : PySem.W.Frag) (cs : List Tb) (m z : List Addr) (h : Cells) (H : Hp) : Prop where
  len : h.length = m.length
  nd : m.Nodup
  dz : ∀ a ∈ m, a ∉ z
  lv : ∀ a, a ∈ m ∨ a ∈ z → H a ≠ none
  obj : ∀ (n : Nat) (o : AO) (a : Addr), h[n]? = some o → m[n]? = some a → ORep K m z H a o
  tb : ∀ t ∈ cs, TbOk H t
  tm : ∀ t ∈ cs, t.P ∉ m
theorem ORep.nx {K : PySem.W.Frag} {m z m' : List Addr} {H H' : Hp} {a : Addr} {o : AO} (h : ORep K m z H a o) (n : Nx m z H m' H') (e : H' a = H a) : ORep K m' z H' a o := by
  cases o with
  | lst xs => obtain ⟨vs, h1, h2⟩ := h; exact ⟨vs, e.trans h1, h2.nx n⟩
  | dk kvs => obtain ⟨vs, h1, h2, h3⟩ := h; exact ⟨vs, e.trans h1, h2, h3.nx n⟩
  | dt kvs => obtain ⟨vs, h1, h2, h3⟩ := h; exact ⟨vs, e.trans h1, h2, h3.nx n⟩
  | ins c fs => obtain ⟨dx, vs, h1, h2, h3⟩ := h; exact ⟨dx, vs, e.trans h1, h2, h3.nx n⟩
theorem upd_of {H : Hp} {a b : Addr} {o u : HO} (hn : H b = none) (h : H a = some o) : upd H b u a = some o := by
  rw [upd_ne (ne_of_none h hn)]; exact h
theorem HRel.nm {K : PySem.W.Frag} {cs : List Tb} {m z : List Addr} {h : Cells} {H : Hp} (r : HRel K cs m z h H) {p : Addr} (hn : H p = none) : p ∉ m ∧ p ∉ z := ⟨fun q => r.lv p (.inl q) hn, fun q => r.lv p (.inr q) hn⟩
theorem TbOk.new {H : Hp} {p : Addr} {o : HO} {t : Tb} (h : TbOk H t) (hn : H p = none) : TbOk (upd H p o) t := by
  obtain ⟨ps, h1, h2, h3⟩ := h
  refine ⟨ps, upd_of hn h1, h2, fun pos cv hp hc => ?_⟩
  obtain ⟨c, e1, e2⟩ := h3 pos cv hp hc
  exact ⟨c, e1, upd_of hn e2⟩
/-- a new object that is no cell -/
theorem Nx.new {m z : List Addr} {H : Hp} {p : Addr} {o : HO} (hn : H p = none) : Nx m z H m (upd H p o) :=
  ⟨⟨[], by simp, fun _ h => absurd h (by simp)⟩, fun a u _ h _ => upd_of hn h, fun a h q => by
    cases e : H a with
    | none => exact h e
    | some u => rw [upd_of hn e] at q; cases q⟩
theorem HRel.new {K : PySem.W.Frag} {cs : List Tb} {m z : List Addr} {h : Cells} {H : Hp} {p : Addr} {o : HO} (r : HRel K cs m z h H) (hn : H p = none) : HRel K cs m z h (upd H p o) where
  len := r.len
  nd := r.nd
  dz := r.dz
  lv := fun a q => (Nx.new (m := m) (z := z) hn).lv a (r.lv a q)
  obj := fun n u a h1 h2 => (r.obj n u a h1 h2).nx (Nx.new hn) (upd_ne (fun e => (r.nm hn).1 (e ▸ List.mem_of_getElem? h2)))
  tb := fun t ht => (r.tb t ht).new hn
  tm := r.tm
/-- a new cell -/
theorem Nx.cell {m z : List Addr} {H : Hp} {p : Addr} {o : HO} (hn : H p = none) : Nx m z H (m ++ [p]) (upd H p o) :=
  ⟨⟨[p], rfl, fun a h => by rw [List.mem_singleton.mp h]; exact hn⟩, fun a u _ h _ => upd_of hn h, (Nx.new (m := m) (z := z) hn).lv⟩
theorem HRel.cell {K : PySem.W.Frag} {cs : List Tb} {m z : List Addr} {h : Cells} {H : Hp} {p : Addr} {o : HO} {u : AO} (r : HRel K cs m z h H) (hn : H p = none) (ho : ORep K (m ++ [p]) z (upd H p o) p u) : HRel K cs (m ++ [p]) z (h ++ [u]) (upd H p o) where
  len := by simp [r.len]
  nd := by
    refine List.nodup_append.mpr ⟨r.nd, List.pairwise_singleton _ _, fun a ha b hb e => ?_⟩
    rw [List.mem_singleton.mp hb] at e
    exact (r.nm hn).1 (e ▸ ha)
  dz := fun a ha => by
    rcases List.mem_append.mp ha with q | q
    · exact r.dz a q
    · rw [List.mem_singleton.mp q]; exact (r.nm hn).2
  lv := fun a q => by
    by_cases e : a = p
    · rw [e, upd_same]; simp
    · rw [upd_ne e]
      refine r.lv a (q.imp_left fun q => ?_)
      rcases List.mem_append.mp q with q | q
      · exact q
      · exact absurd (List.mem_singleton.mp q) e
  obj := fun n w a h1 h2 => by
    by_cases hl : n < h.length
    · rw [List.getElem?_append_left hl] at h1
      rw [List.getElem?_append_left (by rw [← r.len]; exact hl)] at h2
      exact (r.obj n w a h1 h2).nx (Nx.cell hn) (upd_ne (fun e => (r.nm hn).1 (e ▸ List.mem_of_getElem? h2)))
    · have e : n = h.length := by
        have := (List.getElem?_eq_some_iff.mp h1).1
        simp at this
        omega
      subst e
      rw [List.getElem?_append_right (Nat.le_refl _), Nat.sub_self] at h1
      rw [r.len, List.getElem?_append_right (Nat.le_refl _), Nat.sub_self] at h2
      obtain rfl : u = w := by simpa using h1
      obtain rfl : p = a := by simpa using h2
      exact ho
  tb := fun t ht => (r.tb t ht).new hn
  tm := fun t ht q => by
    rcases List.mem_append.mp q with q | q
    · exact r.tm t ht q
    · obtain ⟨ps, h1, _⟩ := r.tb t ht
      rw [List.mem_singleton.mp q, hn] at h1
      cases h1
/-- a cell written -/
theorem Nx.wr {m z : List Addr} {H : Hp} {n : Nat} {a : Addr} {o : HO} (ha : m[n]? = some a) : Nx m z H m (upd H a o) :=
  ⟨⟨[], by simp, fun _ h => absurd h (by simp)⟩, fun b u hb h _ => by rw [upd_ne (fun (e : b = a) => hb (e ▸ List.mem_of_getElem? ha))]; exact h, fun b h => by
    by_cases e : b = a
    · rw [e, upd_same]; simp
    · rw [upd_ne e]; exact h⟩
theorem getElem?_inj_nodup {α : Type} {l : List α} (hN : l.Nodup) {i j : Nat} {x : α} (a : l[i]? = some x) (b : l[j]? = some x) : i = j := by
  obtain ⟨h1, e1⟩ := List.getElem?_eq_some_iff.mp a
  obtain ⟨h2, e2⟩ := List.getElem?_eq_some_iff.mp b
  exact (List.getElem_inj hN).mp (e1.trans e2.symm)
theorem HRel.wr {K : PySem.W.Frag} {cs : List Tb} {m z : List Addr} {h : Cells} {H : Hp} {n : Nat} {a : Addr} {o : HO} {u : AO} (r : HRel K cs m z h H) (ha : m[n]? = some a) (hc : ∀ c q, H a ≠ some (LamX.CodeO c q)) (ho : ORep K m z (upd H a o) a u) : HRel K cs m z (h.set n u) (upd H a o) where
  len := by simp [r.len]
  nd := r.nd
  dz := r.dz
  lv := fun b q => (Nx.wr (z := z) ha).lv b (r.lv b q)
  obj := fun i w b h1 h2 => by
    by_cases e : i = n
    · subst e
      rw [ha] at h2
      obtain rfl : a = b := Option.some.inj h2
      have hl : i < h.length := by rw [r.len]; exact (List.getElem?_eq_some_iff.mp ha).1
      rw [List.getElem?_set_self hl] at h1
      obtain rfl : u = w := Option.some.inj h1
      exact ho
    · rw [List.getElem?_set_ne (Ne.symm e)] at h1
      exact (r.obj i w b h1 h2).nx (Nx.wr ha) (upd_ne (fun q => e (getElem?_inj_nodup r.nd h2 (q ▸ ha))))
  tb := fun t ht => by
    obtain ⟨ps, h1, h2, h3⟩ := r.tb t ht
    refine ⟨ps, ?_, h2, fun pos cv hp hcv => ?_⟩
    · rw [upd_ne (fun (e : t.P = a) => r.tm t ht (e ▸ List.mem_of_getElem? ha))]; exact h1
    · obtain ⟨c, e1, e2⟩ := h3 pos cv hp hcv
      refine ⟨c, e1, ?_⟩
      rw [upd_ne (fun (e : c = a) => hc c t.q (e ▸ e2))]; exact e2
  tm := r.tm
theorem codeO_lst {c : Addr} {q : Str} {xs : List V} : LamX.CodeO c q ≠ .lst xs := fun e => by unfold LamX.CodeO at e; cases e
end Mi

set_option Elab.async false
set_option linter.all false
set_option maxRecDepth 100000
set_option maxHeartbeats 4000000
namespace Mi
open PySem PySem.Spec PyProof.Rows L2

/-! ## readings by outcomes -/
structure SRel (K : PySem.W.Frag) (m z : List Addr) (H : Hp) (e : Sl) (σ : L2.St) : Prop where
  len : e.length = σ.length
  at_ : ∀ (i : Nat) (p : PV), e[i]? = some (some p) → ∃ v, σ[i]? = some (some v) ∧ Rep K m z H p v
theorem SRel.nx {K : PySem.W.Frag} {m z m' : List Addr} {H H' : Hp} {e : Sl} {σ : L2.St} (s : SRel K m z H e σ) (n : Nx m z H m' H') : SRel K m' z H' e σ :=
  ⟨s.len, fun i p h => let ⟨v, h1, h2⟩ := s.at_ i p h; ⟨v, h1, h2.nx n⟩⟩
theorem SRel.put {K : PySem.W.Frag} {m z : List Addr} {H : Hp} {e : Sl} {σ : L2.St} {p : PV} {v : V} (s : SRel K m z H e σ) (i : Nat) (r : Rep K m z H p v) : SRel K m z H (e.set i (some p)) (σ.set i (some v)) := by
  refine ⟨by simp [s.len], fun j q h => ?_⟩
  by_cases hj : j = i
  · subst hj
    by_cases hl : j < e.length
    · rw [List.getElem?_set_self hl] at h
      obtain rfl : p = q := by simpa using h
      exact ⟨v, List.getElem?_set_self (by rw [← s.len]; exact hl), r⟩
    · rw [List.getElem?_eq_none (by simpa using hl)] at h
      cases h
  · rw [List.getElem?_set_ne (Ne.symm hj)] at h
    rw [List.getElem?_set_ne (Ne.symm hj)]
    exact s.at_ j q h

def Out.bind {α β : Type} (o : Out α) (g : α → Cells → Out β) : Out β := match o with
  | .ok a h => g a h
  | .ex c h => .ex c h
  | .bad => .bad
/-- what is wanted of an outcome -/
def Po {α : Type} (K : PySem.W.Frag) (cs : List Tb) (z : List Addr) (m : List Addr) (H : Hp) (R : α → Cells → List Addr → Hp → Prop) (Wx : Str → Hp → Prop) : Out α → Prop
  | .ok a h' => ∀ m' H', Nx m z H m' H' → HRel K cs m' z h' H' → R a h' m' H'
  | .ex c h' => ∀ m' H', Nx m z H m' H' → HRel K cs m' z h' H' → Wx c H'
  | .bad => False
section
variable {α β : Type} {K : PySem.W.Frag} {cs : List Tb} {z m m1 : List Addr} {H H1 : Hp} {R R' : α → Cells → List Addr → Hp → Prop} {Wx Wx' : Str → Hp → Prop}
theorem Po.step {o : Out α} (p : Po K cs z m H R Wx o) (n : Nx m z H m1 H1) : Po K cs z m1 H1 R Wx o := by
  cases o with
  | ok a h => exact fun m' H' n' r => p m' H' (n.trans n') r
  | ex c h => exact fun m' H' n' r => p m' H' (n.trans n') r
  | bad => exact p
theorem Po.imp {o : Out α} (p : Po K cs z m H R Wx o) (h : ∀ a h' m' H', Nx m z H m' H' → HRel K cs m' z h' H' → R a h' m' H' → R' a h' m' H') (hx : ∀ c H', Wx c H' → Wx' c H') : Po K cs z m H R' Wx' o := by
  cases o with
  | ok a h1 => exact fun m' H' n' r => h _ _ _ _ n' r (p m' H' n' r)
  | ex c h1 => exact fun m' H' n' r => hx _ _ (p m' H' n' r)
  | bad => exact p
theorem Po.bind {R2 : β → Cells → List Addr → Hp → Prop} {o : Out α} {g : α → Cells → Out β} (p : Po K cs z m H R2 Wx (o.bind g)) : Po K cs z m H (fun a h' m' H' => Po K cs z m' H' R2 Wx (g a h')) Wx o := by
  cases o with
  | ok a h1 => exact fun m' H' n' r => Po.step (o := g a h1) p n'
  | ex c h1 => exact p
  | bad => exact p
theorem Po.here {a : α} {h : Cells} (p : Po K cs z m H R Wx (.ok a h)) (r : HRel K cs m z h H) : R a h m H := p m H (Nx.refl _ _ _) r
end

/-- where a def's body stands: what is raised is wished for by W -/
abbrev WxE (K : PySem.W.Frag) (W : WX) (σ : L2.St) : Str → Hp → Prop := fun c H' => W (.ref (He.ga K c)) none σ H'
abbrev RxE (K : PySem.W.Frag) (z : List Addr) (Q : VK) : PV → Cells → List Addr → Hp → Prop := fun v _ m' H' => ∀ u, Rep K m' z H' v u → Q u H'
def tE (K : PySem.W.Frag) (cs : List Tb) (W : WX) (f : ME PV) : TE := fun σ H Q => ∃ m z e h, SRel K m z H e σ ∧ HRel K cs m z h H ∧ Po K cs z m H (RxE K z Q) (WxE K W σ) (f e h)
def tA (K : PySem.W.Frag) (cs : List Tb) (W : WX) (f : ME (List PV)) : TA := fun σ H Q => ∃ m z e h, SRel K m z H e σ ∧ HRel K cs m z h H ∧ Po K cs z m H (fun v _ m' H' => ∀ u, RepAll K m' z H' v u → Q u H') (WxE K W σ) (f e h)
def tT (K : PySem.W.Frag) (cs : List Tb) (W : WX) (f : ME Bool) : TT := fun σ H Q => ∃ m z e h, SRel K m z H e σ ∧ HRel K cs m z h H ∧ Po K cs z m H (fun b _ _ H' => Q b H') (WxE K W σ) (f e h)
def PoS (K : PySem.W.Frag) (cs : List Tb) (z : List Addr) (W : WX) (m : List Addr) (H : Hp) (D : Ends) : OS → Prop
  | .nx e' h' => ∀ m' σ' H', Nx m z H m' H' → HRel K cs m' z h' H' → SRel K m' z H' e' σ' → D.nx σ' H'
  | .bk e' h' => ∀ m' σ' H', Nx m z H m' H' → HRel K cs m' z h' H' → SRel K m' z H' e' σ' → D.bk σ' H'
  | .ct e' h' => ∀ m' σ' H', Nx m z H m' H' → HRel K cs m' z h' H' → SRel K m' z H' e' σ' → D.ct σ' H'
  | .rt v h' => ∀ m' u H', Nx m z H m' H' → HRel K cs m' z h' H' → Rep K m' z H' v u → D.rt u H'
  | .ex c h' => ∀ m' σ' H', Nx m z H m' H' → HRel K cs m' z h' H' → W (.ref (He.ga K c)) none σ' H'
  | .bad => False
def tS (K : PySem.W.Frag) (cs : List Tb) (W : WX) (f : MS) : TS := fun D σ H => ∃ m z e h, SRel K m z H e σ ∧ HRel K cs m z h H ∧ PoS K cs z W m H D (f e h)

/-- the judgements: a piece of syntax, what it does -/
abbrev SE (X : Cx) (cs : List Tb) (W : WX) (e : Expr) (f : ME PV) : Prop := PE X e (tE X.K cs W f)
abbrev SA (X : Cx) (cs : List Tb) (W : WX) (es : List Expr) (f : ME (List PV)) : Prop := PA X es (tA X.K cs W f)
abbrev ST (X : Cx) (cs : List Tb) (W : WX) (e : Expr) (f : ME Bool) : Prop := PT X e (tT X.K cs W f)
abbrev SS (X : Cx) (cs : List Tb) (W : WX) (st : Stmt) (f : MS) : Prop := PS X st (tS X.K cs W f)
abbrev SB (X : Cx) (cs : List Tb) (W : WX) (sts : List Stmt) (f : MS) : Prop := PSs X sts (tS X.K cs W f)

theorem pe_imp {X : Cx} {e : Expr} {t t' : TE} (h : PE X e t) (i : ∀ σ H Q, t' σ H Q → t σ H Q) : PE X e t' := ⟨fun pins s σ H Q I q => h.run pins s σ H Q I (i σ H Q q)⟩
theorem pt_imp {X : Cx} {e : Expr} {t t' : TT} (h : PT X e t) (i : ∀ σ H Q, t' σ H Q → t σ H Q) : PT X e t' := ⟨fun pins s σ H Q I q => h.run pins s σ H Q I (i σ H Q q)⟩
theorem pw_imp {X : Cx} {e : Expr} {t t' : TT} (h : PW X e t) (i : ∀ σ H Q, t' σ H Q → t σ H Q) : PW X e t' := ⟨fun wh pins s σ H Q I q => h.run wh pins s σ H Q I (i σ H Q q)⟩
theorem pa_imp {X : Cx} {e : List Expr} {t t' : TA} (h : PA X e t) (i : ∀ σ H Q, t' σ H Q → t σ H Q) : PA X e t' := ⟨fun pos pins s σ H Q I q => h.run pos pins s σ H Q I (i σ H Q q)⟩
theorem ps_imp {X : Cx} {e : Stmt} {t t' : TS} (h : PS X e t) (i : ∀ D σ H, t' D σ H → t D σ H) : PS X e t' := ⟨fun pins s σ H D I q => h.run pins s σ H D I (i D σ H q)⟩
theorem pss_imp {X : Cx} {e : List Stmt} {t t' : TS} (h : PSs X e t) (i : ∀ D σ H, t' D σ H → t D σ H) : PSs X e t' := ⟨fun pins s σ H D I q => h.run pins s σ H D I (i D σ H q)⟩

section
variable {X : Cx} {cs : List Tb} {W : WX}
/-- go on behind a first expression -/
theorem tE_then {f : ME PV} {β : Type} {g : PV → Cells → Out β} {σ : L2.St} {H : Hp} {m z : List Addr} {e : Sl} {h : Cells} {R : β → Cells → List Addr → Hp → Prop} {K : PySem.W.Frag} {Q : VK}
    (hs : SRel K m z H e σ) (hh : HRel K cs m z h H) (p : Po K cs z m H R (WxE K W σ) ((f e h).bind g))
    (k : ∀ v h1 m1 H1 u, SRel K m1 z H1 e σ → HRel K cs m1 z h1 H1 → Rep K m1 z H1 v u → Nx m z H m1 H1 → Po K cs z m1 H1 R (WxE K W σ) (g v h1) → Q u H1) : tE K cs W f σ H Q :=
  ⟨m, z, e, h, hs, hh, p.bind.imp (fun v h1 m1 H1 n r q u ru => k v h1 m1 H1 u (hs.nx n) r ru n q) fun _ _ q => q⟩
theorem tA_then {f : ME (List PV)} {β : Type} {g : List PV → Cells → Out β} {σ : L2.St} {H : Hp} {m z : List Addr} {e : Sl} {h : Cells} {R : β → Cells → List Addr → Hp → Prop} {K : PySem.W.Frag} {Q : List V → Hp → Prop}
    (hs : SRel K m z H e σ) (hh : HRel K cs m z h H) (p : Po K cs z m H R (WxE K W σ) ((f e h).bind g))
    (k : ∀ v h1 m1 H1 u, SRel K m1 z H1 e σ → HRel K cs m1 z h1 H1 → RepAll K m1 z H1 v u → Nx m z H m1 H1 → Po K cs z m1 H1 R (WxE K W σ) (g v h1) → Q u H1) : tA K cs W f σ H Q :=
  ⟨m, z, e, h, hs, hh, p.bind.imp (fun v h1 m1 H1 n r q u ru => k v h1 m1 H1 u (hs.nx n) r ru n q) fun _ _ q => q⟩
theorem tT_then {f : ME Bool} {β : Type} {g : Bool → Cells → Out β} {σ : L2.St} {H : Hp} {m z : List Addr} {e : Sl} {h : Cells} {R : β → Cells → List Addr → Hp → Prop} {K : PySem.W.Frag} {Q : Bool → Hp → Prop}
    (hs : SRel K m z H e σ) (hh : HRel K cs m z h H) (p : Po K cs z m H R (WxE K W σ) ((f e h).bind g))
    (k : ∀ v h1 m1 H1, SRel K m1 z H1 e σ → HRel K cs m1 z h1 H1 → Nx m z H m1 H1 → Po K cs z m1 H1 R (WxE K W σ) (g v h1) → Q v H1) : tT K cs W f σ H Q :=
  ⟨m, z, e, h, hs, hh, p.bind.imp (fun v h1 m1 H1 n r q => k v h1 m1 H1 (hs.nx n) r n q) fun _ _ q => q⟩

/-! ### names, constants -/
def mV (i : Nat) : ME PV := fun e h => match e[i]? with
  | some (some p) => .ok p h
  | _ => .bad
def mK (p : PV) : ME PV := fun _ h => .ok p h
theorem s_var {i : Nat} {x : Str} {pos : Pos} (hN : X.N[i]? = some x) (hv : Vis X.env.scope x) (hd : (x == ("__debug__" : Str)) = false := by decide) (hcd : (x == ("__classdict__" : Str)) = false := by decide) : SE X cs W (.Name x pos) (mV i) :=
  pe_imp (pe_var hN hv hd hcd) fun σ H Q ⟨m, z, e, h, hs, hh, p⟩ => by
    unfold mV at p
    split at p
    · rename_i q eq
      obtain ⟨v, e1, r⟩ := hs.at_ i q eq
      exact ⟨v, e1, p.here hh v r⟩
    · exact p.elim
theorem tC_of {v : V} {x : PyData} (hd : ∀ K F, DD K F v x) (hc : x.canLay0 = true) {σ : L2.St} {H : Hp} {Q : VK} {K : PySem.W.Frag} (t : tE K cs W (mK (.d x)) σ H Q) : tC v σ H Q := by
  obtain ⟨m, z, e, h, hs, hh, p⟩ := t
  exact p.here hh v (.d (hd _ _) hc)
theorem s_int {i : Int} {j : Nat} {pos : Pos} : SE X cs W (.Constant (.int i) j pos) (mK (.d (.int i))) := pe_imp pe_int fun _ _ _ => tC_of (fun _ _ => .int i) rfl
theorem s_bl {b : Bool} {j : Nat} {pos : Pos} : SE X cs W (.Constant (.bool b) j pos) (mK (.d (.bool b))) := pe_imp pe_bl fun _ _ _ => tC_of (fun _ _ => .bl b) rfl
theorem s_non {j : Nat} {pos : Pos} : SE X cs W (.Constant .none j pos) (mK (.d .none)) := pe_imp pe_non fun _ _ _ => tC_of (fun _ _ => .non) rfl
theorem s_str {x : Str} {j : Nat} {pos : Pos} (hx : PyData.strOk x = true := by decide) : SE X cs W (.Constant (.str x) j pos) (mK (.d (.str x))) := pe_imp pe_str fun _ _ _ => tC_of (fun _ _ => .str x) (by simpa [PyData.canLay0] using hx)
theorem s_gint {x : Str} {i : Int} {pos : Pos} (hg : Gl X x) (hm : ∃ t, X.mg x = some (.int i t)) (hd : (x == ("__debug__" : Str)) = false := by decide) : SE X cs W (.Name x pos) (mK (.d (.int i))) := by
  obtain ⟨t, hm⟩ := hm
  exact pe_imp (pe_glob (v := .int i) hg hm ⟨t, rfl⟩ hd) fun _ _ _ => tC_of (fun _ _ => .int i) rfl
theorem s_gstr {x y : Str} {pos : Pos} (hg : Gl X x) (hm : ∃ t, X.mg x = some (.str y t)) (hy : PyData.strOk y = true) (hd : (x == ("__debug__" : Str)) = false := by decide) : SE X cs W (.Name x pos) (mK (.d (.str y))) := by
  obtain ⟨t, hm⟩ := hm
  exact pe_imp (pe_glob (v := .str y) hg hm ⟨t, rfl⟩ hd) fun _ _ _ => tC_of (fun _ _ => .str y) (by simpa [PyData.canLay0] using hy)

/-! ### two values, an operation -/
/-- the operation's rule by values asks no more than its outcome says -/
def Br (K : PySem.W.Frag) (cs : List Tb) (r : R2) (g : PV → PV → Cells → Out PV) : Prop :=
  ∀ m z H h v w u1 u2 Q Wx, HRel K cs m z h H → Rep K m z H v u1 → Rep K m z H w u2 → Po K cs z m H (RxE K z Q) Wx (g v w h) → r u1 u2 H Q
def mBin (g : PV → PV → Cells → Out PV) (f1 f2 : ME PV) : ME PV := fun e h => (f1 e h).bind fun v h1 => (f2 e h1).bind fun w h2 => g v w h2
theorem tE_bin {r : R2} {g : PV → PV → Cells → Out PV} {f1 f2 : ME PV} {K : PySem.W.Frag} (b : Br K cs r g) {σ : L2.St} {H : Hp} {Q : VK} (t : tE K cs W (mBin g f1 f2) σ H Q) : tOp r (tE K cs W f1) (tE K cs W f2) σ H Q := by
  obtain ⟨m, z, e, h, hs, hh, p⟩ := t
  refine tE_then hs hh p fun v h1 m1 H1 u hs1 hh1 r1 n1 p1 => ?_
  refine tE_then hs1 hh1 p1 fun w h2 m2 H2 u2 hs2 hh2 r2 n2 p2 => ?_
  exact b m2 z H2 h2 v w u u2 Q _ hh2 (r1.nx n2) r2 p2
theorem s_op {op : Operator} {a b : Expr} {pos : Pos} {r : R2} {g : PV → PV → Cells → Out PV} {f1 f2 : ME PV} (ho : OpR X (binaryOp op) r) (hb : Br X.K cs r g) (ha : SE X cs W a f1) (hc : SE X cs W b f2) : SE X cs W (.BinOp a op b pos) (mBin g f1 f2) :=
  pe_imp (pe_op ho ha hc) fun _ _ _ => tE_bin hb
theorem s_cmp {op : CmpOp} {a b : Expr} {pos : Pos} {r : R2} {g : PV → PV → Cells → Out PV} {f1 f2 : ME PV} (ho : OpR X (compareOp op) r) (hb : Br X.K cs r g) (ha : SE X cs W a f1) (hc : SE X cs W b f2) (hm : behindInMarks op b = false) : SE X cs W (.Compare a [op] [b] pos) (mBin g f1 f2) :=
  pe_imp (pe_cmpR ho ha hc hm) fun _ _ _ => tE_bin hb
/-! ### tests -/
/-- a value as a test, where it is True or False -/
def mTb (f : ME PV) : ME Bool := fun e h => (f e h).bind fun v h1 => match v with
  | .d (.bool b) => .ok b h1
  | _ => .bad
theorem tT_val {f : ME PV} {K : PySem.W.Frag} {σ : L2.St} {H : Hp} {Q : Bool → Hp → Prop} (t : tT K cs W (mTb f) σ H Q) : tB (tE K cs W f) σ H Q := by
  obtain ⟨m, z, e, h, hs, hh, p⟩ := t
  refine tE_then hs hh p fun v h1 m1 H1 u hs1 hh1 r1 n1 p1 => ?_
  split at p1
  · rename_i b
    cases r1 with
    | d hd _ =>
      cases hd
      exact ⟨b, rfl, p1.here hh1⟩
  · exact p1.elim
theorem s_val {e : Expr} {f : ME PV} (h : SE X cs W e f) (he : ∀ whole, isTrue e X.env whole = (do let v ← whole; standAt e.pos; holding [v] (truthy v)) := by intro _; rfl) : ST X cs W e (mTb f) := pt_imp (pt_val h he) fun _ _ _ => tT_val
/-- a comparison as a test -/
theorem s_tcmp {op : CmpOp} {a b : Expr} {pos : Pos} {r : R2} {g : PV → PV → Cells → Out PV} {f1 f2 : ME PV} (ho : OpR X (compareOp op) r) (hb : Br X.K cs r g) (ha : SE X cs W a f1) (hc : SE X cs W b f2) (hm : behindInMarks op b = false) : ST X cs W (.Compare a [op] [b] pos) (mTb (mBin g f1 f2)) :=
  pt_imp (pt_cmpR ho ha hc hm) fun σ H Q t => by
    obtain ⟨m, z, e, h, hs, hh, p⟩ := t
    refine tE_bin hb (g := g) (W := W) ⟨m, z, e, h, hs, hh, p.bind.imp (fun v h1 m1 H1 n r1 q u ru => ?_) fun _ _ q => q⟩
    split at q
    · rename_i b
      cases ru with
      | d hd _ =>
        cases hd
        exact ⟨b, rfl, q.here r1⟩
    · exact q.elim
def mNot (f : ME Bool) : ME Bool := fun e h => (f e h).bind fun b h1 => .ok (!b) h1
theorem s_not {a : Expr} {pos : Pos} {f : ME Bool} (ha : ST X cs W a f) : ST X cs W (.UnaryOp .Not a pos) (mNot f) := pt_imp (pt_not ha) fun σ H Q ⟨m, z, e, h, hs, hh, p⟩ =>
  tT_then hs hh p fun v h1 m1 H1 hs1 hh1 n1 p1 => p1.here hh1
def mAnd (f g : ME Bool) : ME Bool := fun e h => (f e h).bind fun b h1 => if b then g e h1 else .ok false h1
def mOr (f g : ME Bool) : ME Bool := fun e h => (f e h).bind fun b h1 => if b then .ok true h1 else g e h1
abbrev SW (X : Cx) (cs : List Tb) (W : WX) (e : Expr) (f : ME Bool) : Prop := PW X e (tT X.K cs W f)
theorem w_and1 {a : Expr} {pos : Pos} {f : ME Bool} (ha : ST X cs W a f) : SW X cs W (.BoolOp .And [a] pos) f := pw_and1 ha
theorem w_or1 {a : Expr} {pos : Pos} {f : ME Bool} (ha : ST X cs W a f) : SW X cs W (.BoolOp .Or [a] pos) f := pw_or1 ha
theorem w_and {a b : Expr} {rest : List Expr} {pos : Pos} {f g : ME Bool} (ha : ST X cs W a f) (hb : SW X cs W (.BoolOp .And (b :: rest) pos) g) : SW X cs W (.BoolOp .And (a :: b :: rest) pos) (mAnd f g) :=
  pw_imp (pw_and ha hb) fun σ H Q ⟨m, z, e, h, hs, hh, p⟩ => tT_then hs hh p fun v h1 m1 H1 hs1 hh1 n1 p1 => by
    cases v with
    | true => rw [if_pos rfl] at p1 ⊢; exact ⟨m1, z, e, h1, hs1, hh1, p1⟩
    | false => rw [if_neg (by decide)] at p1 ⊢; exact p1.here hh1
theorem w_or {a b : Expr} {rest : List Expr} {pos : Pos} {f g : ME Bool} (ha : ST X cs W a f) (hb : SW X cs W (.BoolOp .Or (b :: rest) pos) g) : SW X cs W (.BoolOp .Or (a :: b :: rest) pos) (mOr f g) :=
  pw_imp (pw_or ha hb) fun σ H Q ⟨m, z, e, h, hs, hh, p⟩ => tT_then hs hh p fun v h1 m1 H1 hs1 hh1 n1 p1 => by
    cases v with
    | true => rw [if_pos rfl] at p1 ⊢; exact p1.here hh1
    | false => rw [if_neg (by decide)] at p1 ⊢; exact ⟨m1, z, e, h1, hs1, hh1, p1⟩
theorem s_w {e : Expr} {f : ME Bool} (h : SW X cs W e f) : ST X cs W e f := h.pt
/-! as values: all but the last are True or False -/
def mAndV (f g : ME PV) : ME PV := fun e h => (mTb f e h).bind fun b h1 => if b then g e h1 else .ok (.d (.bool false)) h1
def mOrV (f g : ME PV) : ME PV := fun e h => (mTb f e h).bind fun b h1 => if b then .ok (.d (.bool true)) h1 else g e h1
def mNotV (f : ME PV) : ME PV := fun e h => (mTb f e h).bind fun b h1 => .ok (.d (.bool !b)) h1
theorem tE_tb {f : ME PV} {β : Type} {g : Bool → Cells → Out β} {σ : L2.St} {H : Hp} {m z : List Addr} {e : Sl} {h : Cells} {R : β → Cells → List Addr → Hp → Prop} {K : PySem.W.Frag} {Q : VK}
    (hs : SRel K m z H e σ) (hh : HRel K cs m z h H) (p : Po K cs z m H R (WxE K W σ) ((mTb f e h).bind g))
    (k : ∀ b h1 m1 H1, SRel K m1 z H1 e σ → HRel K cs m1 z h1 H1 → Nx m z H m1 H1 → Po K cs z m1 H1 R (WxE K W σ) (g b h1) → Q (.bl b) H1) : tE K cs W f σ H Q := by
  refine ⟨m, z, e, h, hs, hh, p.bind.bind.imp (fun v h1 m1 H1 n r q u ru => ?_) fun _ _ q => q⟩
  split at q
  · rename_i b
    cases ru with
    | d hd _ =>
      cases hd
      exact k b h1 m1 H1 (hs.nx n) r n (q.here r)
  · exact q.elim
theorem s_one {op : BoolOp} {a : Expr} {pos : Pos} {f : ME PV} (h : SE X cs W a f) : SE X cs W (.BoolOp op [a] pos) f := pe_one h
theorem s_andV {a b : Expr} {rest : List Expr} {pos : Pos} {f g : ME PV} (ha : SE X cs W a f) (hb : SE X cs W (.BoolOp .And (b :: rest) pos) g) : SE X cs W (.BoolOp .And (a :: b :: rest) pos) (mAndV f g) :=
  pe_imp (pe_and ha hb) fun σ H Q ⟨m, z, e, h, hs, hh, p⟩ => tE_tb hs hh p fun v h1 m1 H1 hs1 hh1 n1 p1 => by
    refine ⟨v, rfl, ?_⟩
    cases v with
    | true => rw [if_pos rfl] at p1 ⊢; exact ⟨m1, z, e, h1, hs1, hh1, p1⟩
    | false => rw [if_neg (by decide)] at p1 ⊢; exact p1.here hh1 _ (.d (.bl false) rfl)
theorem s_orV {a b : Expr} {rest : List Expr} {pos : Pos} {f g : ME PV} (ha : SE X cs W a f) (hb : SE X cs W (.BoolOp .Or (b :: rest) pos) g) : SE X cs W (.BoolOp .Or (a :: b :: rest) pos) (mOrV f g) :=
  pe_imp (pe_or ha hb) fun σ H Q ⟨m, z, e, h, hs, hh, p⟩ => tE_tb hs hh p fun v h1 m1 H1 hs1 hh1 n1 p1 => by
    refine ⟨v, rfl, ?_⟩
    cases v with
    | true => rw [if_pos rfl] at p1 ⊢; exact p1.here hh1 _ (.d (.bl true) rfl)
    | false => rw [if_neg (by decide)] at p1 ⊢; exact ⟨m1, z, e, h1, hs1, hh1, p1⟩
theorem s_notV {a : Expr} {pos : Pos} {f : ME PV} (ha : SE X cs W a f) : SE X cs W (.UnaryOp .Not a pos) (mNotV f) :=
  pe_imp (pe_not ha) fun σ H Q ⟨m, z, e, h, hs, hh, p⟩ => tE_tb hs hh p fun v h1 m1 H1 hs1 hh1 n1 p1 => ⟨v, rfl, p1.here hh1 _ (.d (.bl _) rfl)⟩
def mIfE (c : ME Bool) (f g : ME PV) : ME PV := fun e h => (c e h).bind fun b h1 => if b then f e h1 else g e h1
theorem s_ifE {c a b : Expr} {pos : Pos} {fc : ME Bool} {f g : ME PV} (hc : ST X cs W c fc) (ha : SE X cs W a f) (hb : SE X cs W b g) : SE X cs W (.IfExp c a b pos) (mIfE fc f g) :=
  pe_imp (pe_ifExp hc ha hb) fun σ H Q ⟨m, z, e, h, hs, hh, p⟩ => tT_then hs hh p fun v h1 m1 H1 hs1 hh1 n1 p1 => by
    cases v with
    | true => rw [if_pos rfl] at p1 ⊢; exact ⟨m1, z, e, h1, hs1, hh1, p1⟩
    | false => rw [if_neg (by decide)] at p1 ⊢; exact ⟨m1, z, e, h1, hs1, hh1, p1⟩
/-! ### argument lists -/
def aNil : ME (List PV) := fun _ h => .ok [] h
def aCons (f : ME PV) (g : ME (List PV)) : ME (List PV) := fun e h => (f e h).bind fun v h1 => (g e h1).bind fun vs h2 => .ok (v :: vs) h2
theorem s_nil : SA X cs W [] aNil := pa_imp pa_nil fun σ H Q ⟨m, z, e, h, hs, hh, p⟩ => p.here hh _ .nil
theorem s_cons {a : Expr} {es : List Expr} {f : ME PV} {g : ME (List PV)} (ha : SE X cs W a f) (hr : SA X cs W es g) (hs : starEach (a :: es) X.env = (false, eval a X.env) :: starEach es X.env := by rfl) : SA X cs W (a :: es) (aCons f g) :=
  pa_imp (pa_cons ha hr hs) fun σ H Q ⟨m, z, e, h, hs, hh, p⟩ => tE_then hs hh p fun v h1 m1 H1 u hs1 hh1 r1 n1 p1 =>
    tA_then hs1 hh1 p1 fun vs h2 m2 H2 us hs2 hh2 r2 n2 p2 => p2.here hh2 _ (.cons (r1.nx n2) r2)
end
end Mi

set_option Elab.async false
set_option linter.all false
set_option maxRecDepth 100000
set_option maxHeartbeats 4000000
namespace Mi
open PySem PySem.Spec PyProof.Rows L2

/-! ## lists and tuples by what they hold -/
def allD : List PV → Option (List PyData)
  | [] => some []
  | .d x :: r => (allD r).map (x :: ·)
  | _ :: _ => none
def mkL (xs : List PV) : PV := match allD xs with
  | some ds => .d (.list ds)
  | none => .ls xs
def mkT (xs : List PV) : PV := match allD xs with
  | some ds => .d (.tuple ds)
  | none => .tp xs
theorem allD_map (ds : List PyData) : allD (ds.map .d) = some ds := by
  induction ds with
  | nil => rfl
  | cons x r ih => simp [allD, ih]
theorem of_allD : ∀ {xs : List PV} {ds : List PyData}, allD xs = some ds → xs = ds.map .d
  | [], ds, h => by simp [allD] at h; simp [h]
  | .d x :: r, ds, h => by
    cases e : allD r with
    | none => simp [allD, e] at h
    | some es => simp [allD, e] at h; rw [← h, of_allD e]; rfl
  | .r _ :: _, _, h => by simp [allD] at h
  | .ls _ :: _, _, h => by simp [allD] at h
  | .tp _ :: _, _, h => by simp [allD] at h
  | .cl _ :: _, _, h => by simp [allD] at h
  | .sc _ :: _, _, h => by simp [allD] at h
theorem mkL_map (ds : List PyData) : mkL (ds.map .d) = .d (.list ds) := by unfold mkL; rw [allD_map]
theorem mkT_map (ds : List PyData) : mkT (ds.map .d) = .d (.tuple ds) := by unfold mkT; rw [allD_map]
def asL : PV → Cells → Option (List PV)
  | .d (.list ds), _ => some (ds.map .d)
  | .ls xs, _ => some xs
  | .r n, h => match h[n]? with
    | some (.lst xs) => some xs
    | _ => none
  | _, _ => none
def asT : PV → Option (List PV)
  | .d (.tuple ds) => some (ds.map .d)
  | .tp xs => some xs
  | _ => none
def asX : PV → Cells → Option PyData
  | .d x, _ => some x
  | .r n, h => match h[n]? with
    | some (.lst xs) => (allD xs).map .list
    | _ => none
  | _, _ => none
section
variable {K : PySem.W.Frag} {cs : List Tb} {m z : List Addr} {h : Cells} {H : Hp}
theorem HRel.get (hh : HRel K cs m z h H) {n : Nat} {o : AO} (e : h[n]? = some o) : ∃ a, m[n]? = some a ∧ ORep K m z H a o := by
  have hl : n < m.length := by rw [← hh.len]; exact (List.getElem?_eq_some_iff.mp e).1
  exact ⟨m[n], List.getElem?_eq_getElem hl, hh.obj n o _ e (List.getElem?_eq_getElem hl)⟩
theorem asL_rep (hh : HRel K cs m z h H) {v : PV} {u : V} {xs : List PV} (r : Rep K m z H v u) (e : asL v h = some xs) : ∃ a vs, u = .ref a ∧ H a = some (.lst vs) ∧ RepAll K m z H xs vs := by
  cases r with
  | d hd c =>
    cases hd with
    | lst hq ha =>
      obtain rfl : _ = xs := Option.some.inj e
      exact ⟨_, _, rfl, (fz_some hq).2.2, RepAll.of_dp ha (by simpa [PyData.canLay0] using c)⟩
    | _ => simp [asL] at e
  | r hn =>
    unfold asL at e
    simp only at e
    split at e
    · rename_i ys eq
      obtain rfl : ys = xs := Option.some.inj e
      obtain ⟨a, h1, vs, h2, h3⟩ := hh.get eq
      rw [hn] at h1
      obtain rfl := Option.some.inj h1
      exact ⟨_, vs, rfl, h2, h3⟩
    · cases e
  | ls hq ha =>
    obtain rfl : _ = xs := Option.some.inj e
    exact ⟨_, _, rfl, (fz_some hq).2.2, ha⟩
  | tp hq ha => simp [asL] at e
  | sc hq => simp [asL] at e
theorem asT_rep {v : PV} {u : V} {xs : List PV} (r : Rep K m z H v u) (e : asT v = some xs) : ∃ a vs, u = .ref a ∧ SqT K (fz m z H) a vs ∧ RepAll K m z H xs vs := by
  cases r with
  | d hd c =>
    cases hd with
    | tup hq ha =>
      obtain rfl : _ = xs := Option.some.inj e
      exact ⟨_, _, rfl, hq, RepAll.of_dp ha (by simpa [PyData.canLay0] using c)⟩
    | _ => simp [asT] at e
  | r hn => simp [asT] at e
  | ls hq ha => simp [asT] at e
  | tp hq ha =>
    obtain rfl : _ = xs := Option.some.inj e
    exact ⟨_, _, rfl, hq, ha⟩
  | sc hq => simp [asT] at e
theorem SqT.top {a : Addr} {vs : List V} (h : SqT K (fz m z H) a vs) : SqT K H a vs := SqT.vw h (Vw.fz m z H)
theorem asX_rep (hh : HRel K cs m z h H) {v : PV} {u : V} {x : PyData} (r : Rep K m z H v u) (e : asX v h = some x) : Dp K H u x ∧ x.canLay0 = true := by
  cases r with
  | d hd c =>
    obtain rfl : _ = x := Option.some.inj e
    exact ⟨(hd.vw (Vw.fz m z H)).dp, c⟩
  | r hn =>
    unfold asX at e
    simp only at e
    split at e
    · rename_i ys eq
      cases e2 : allD ys with
      | none => rw [e2] at e; cases e
      | some ds =>
        rw [e2] at e
        obtain rfl : PyData.list ds = x := Option.some.inj e
        obtain ⟨a, h1, vs, h2, h3⟩ := hh.get eq
        rw [hn] at h1
        obtain rfl := Option.some.inj h1
        rw [of_allD e2] at h3
        obtain ⟨h4, h5⟩ := h3.dp
        exact ⟨.lst (.inl (.inl h2)) (DD.dpAll (DD.vwAll (Vw.fz m z H) h4)), by simpa [PyData.canLay0] using h5⟩
    · cases e
  | ls hq ha => simp [asX] at e
  | tp hq ha => simp [asX] at e
  | sc hq => simp [asX] at e
/-- a new list, a new tuple that is no cell -/
theorem rep_newL (hh : HRel K cs m z h H) {xs : List PV} {vs : List V} {p : Addr} (r : RepAll K m z H xs vs) (hn : H p = none) : Rep K m z (upd H p (.lst vs)) (mkL xs) (.ref p) := by
  have n : Nx m z H m (upd H p (.lst vs)) := Nx.new hn
  have r' := r.nx n
  obtain ⟨h1, h2⟩ := hh.nm hn
  have hf : fz m z (upd H p (.lst vs)) p = some (.lst vs) := fz_of h1 h2 upd_same
  unfold mkL
  cases e : allD xs with
  | none => exact .ls hf r'
  | some ds =>
    rw [of_allD e] at r'
    obtain ⟨h3, h4⟩ := r'.dp
    exact .d (.lst hf h3) (by simpa [PyData.canLay0] using h4)
theorem rep_newT (hh : HRel K cs m z h H) {xs : List PV} {vs : List V} {p : Addr} (r : RepAll K m z H xs vs) (hn : H p = none) : Rep K m z (upd H p (.tup vs)) (mkT xs) (.ref p) := by
  have n : Nx m z H m (upd H p (.tup vs)) := Nx.new hn
  have r' := r.nx n
  obtain ⟨h1, h2⟩ := hh.nm hn
  have hf : fz m z (upd H p (.tup vs)) p = some (.tup vs) := fz_of h1 h2 upd_same
  unfold mkT
  cases e : allD xs with
  | none => exact .tp (.inl (.inl hf)) r'
  | some ds =>
    rw [of_allD e] at r'
    obtain ⟨h3, h4⟩ := r'.dp
    exact .d (.tup (.inl (.inl hf)) h3) (by simpa [PyData.canLay0] using h4)
theorem rep_tup {xs : List PV} {vs : List V} {p : Addr} (q : SqT K (fz m z H) p vs) (r : RepAll K m z H xs vs) : Rep K m z H (mkT xs) (.ref p) := by
  unfold mkT
  cases e : allD xs with
  | none => exact .tp q r
  | some ds =>
    rw [of_allD e] at r
    obtain ⟨h3, h4⟩ := r.dp
    exact .d (.tup q h3) (by simpa [PyData.canLay0] using h4)
/-- the end where a new object came -/
theorem Po.new {α : Type} {R : α → Cells → List Addr → Hp → Prop} {Wx : Str → Hp → Prop} {a : α} {p : Addr} {o : HO} (q : Po K cs z m H R Wx (.ok a h)) (hh : HRel K cs m z h H) (hn : H p = none) : R a h m (upd H p o) := q m _ (Nx.new hn) (hh.new hn)
end

/-! ## operations by values -/
theorem strOk_app {x y : Str} (a : PyData.strOk x = true) (b : PyData.strOk y = true) : PyData.strOk (x ++ y) = true := by
  unfold PyData.strOk at *
  show (x.cps ++ y.cps).all _ = true
  rw [Array.all_append, a, b]; rfl
theorem rep_int {K : PySem.W.Frag} {m z : List Addr} {H : Hp} {i : Int} {u : V} (r : Rep K m z H (.d (.int i)) u) : u = .int i := by
  cases r with
  | d h _ => cases h; rfl
theorem rep_bool {K : PySem.W.Frag} {m z : List Addr} {H : Hp} {i : Bool} {u : V} (r : Rep K m z H (.d (.bool i)) u) : u = .bl i := by
  cases r with
  | d h _ => cases h; rfl
theorem rep_none {K : PySem.W.Frag} {m z : List Addr} {H : Hp} {u : V} (r : Rep K m z H (.d .none) u) : u = .non := by
  cases r with
  | d h _ => cases h; rfl
theorem rep_str {K : PySem.W.Frag} {m z : List Addr} {H : Hp} {x : Str} {u : V} (r : Rep K m z H (.d (.str x)) u) : u = .str x ∧ PyData.strOk x = true := by
  cases r with
  | d h c => cases h; exact ⟨rfl, by simpa [PyData.canLay0] using c⟩
theorem rI_ {K : PySem.W.Frag} {m z : List Addr} {H : Hp} (i : Int) : Rep K m z H (.d (.int i)) (.int i) := .d (.int i) rfl
theorem rB_ {K : PySem.W.Frag} {m z : List Addr} {H : Hp} (i : Bool) : Rep K m z H (.d (.bool i)) (.bl i) := .d (.bl i) rfl
theorem rN_ {K : PySem.W.Frag} {m z : List Addr} {H : Hp} : Rep K m z H (.d .none) .non := .d .non rfl
theorem rS_ {K : PySem.W.Frag} {m z : List Addr} {H : Hp} {x : Str} (h : PyData.strOk x = true) : Rep K m z H (.d (.str x)) (.str x) := .d (.str x) (by simpa [PyData.canLay0] using h)

/-! ### + - -/
def opAdd (v w : PV) (h : Cells) : Out PV := match v, w with
  | .d (.int i), .d (.int j) => .ok (.d (.int (i + j))) h
  | .d (.str x), .d (.str y) => if x.length + y.length ≤ sizeLine then .ok (.d (.str (x ++ y))) h else .bad
  | v, w => match asL v h, asL w h with
    | some xs, some ys => if xs.length + ys.length ≤ sizeLine then .ok (mkL (xs ++ ys)) h else .bad
    | _, _ => match asT v, asT w with
      | some xs, some ys => if xs.length + ys.length ≤ sizeLine then .ok (mkT (xs ++ ys)) h else .bad
      | _, _ => .bad
def rAddM (K : PySem.W.Frag) : R2 := fun x y H Q => (rI0 fun i j => .int (i + j)) x y H Q ∨ (fun x y H Q => ∃ i j, x = V.str i ∧ y = V.str j ∧ i.length + j.length ≤ sizeLine ∧ Q (.str (i ++ j)) H) x y H Q ∨ rCat x y H Q ∨ rCatA K x y H Q
theorem op_addM {X : Cx} : OpR X (binaryOp .Add) (rAddM X.K) := op_add.or (op_add_str.or (op_cat.or op_catA))
theorem br_add {K : PySem.W.Frag} {cs : List Tb} : Br K cs (rAddM K) opAdd := by
  intro m z H h v w u1 u2 Q Wx hh r1 r2 p
  unfold opAdd at p
  split at p
  · rw [rep_int r1, rep_int r2]
    exact .inl ⟨_, _, rfl, rfl, p.here hh _ (rI_ _)⟩
  · split at p
    · rename_i hz
      obtain ⟨e1, o1⟩ := rep_str r1
      obtain ⟨e2, o2⟩ := rep_str r2
      rw [e1, e2]
      exact .inr (.inl ⟨_, _, rfl, rfl, hz, p.here hh _ (rS_ (strOk_app o1 o2))⟩)
    · exact p.elim
  · split at p
    · rename_i xs ys ex ey
      obtain ⟨a, vs, rfl, q1, t1⟩ := asL_rep hh r1 ex
      obtain ⟨b, ws, rfl, q2, t2⟩ := asL_rep hh r2 ey
      split at p
      · rename_i hz
        rw [t1.length, t2.length] at hz
        exact .inr (.inr (.inl ⟨a, b, vs, ws, rfl, rfl, q1, q2, hz, fun pp hn => Po.new p hh hn _ (rep_newL hh (t1.append t2) hn)⟩))
      · exact p.elim
    · split at p
      · rename_i xs ys ex ey
        obtain ⟨a, vs, rfl, q1, t1⟩ := asT_rep r1 ex
        obtain ⟨b, ws, rfl, q2, t2⟩ := asT_rep r2 ey
        split at p
        · rename_i hz
          rw [t1.length, t2.length] at hz
          refine .inr (.inr (.inr ⟨a, b, vs, ws, rfl, rfl, SqT.top q1, SqT.top q2, hz, fun e => ?_, fun _ e => ?_, fun _ _ pp hn => Po.new p hh hn _ (rep_newT hh (t1.append t2) hn)⟩))
          · subst e
            cases t1
            exact p.here hh _ (rep_tup q2 t2)
          · subst e
            cases t2
            rw [List.append_nil] at p
            exact p.here hh _ (rep_tup q1 t1)
        · exact p.elim
      · exact p.elim
def opSub (v w : PV) (h : Cells) : Out PV := match v, w with
  | .d (.int i), .d (.int j) => .ok (.d (.int (i - j))) h
  | _, _ => .bad
theorem br_sub {K : PySem.W.Frag} {cs : List Tb} : Br K cs (rI0 fun i j => .int (i - j)) opSub := by
  intro m z H h v w u1 u2 Q Wx hh r1 r2 p
  unfold opSub at p
  split at p
  · rw [rep_int r1, rep_int r2]
    exact ⟨_, _, rfl, rfl, p.here hh _ (rI_ _)⟩
  · exact p.elim
/-- a product that the model makes -/
def mulOk (i j : Int) : Bool := (decide (-(2 ^ 64) < i) && decide (i < 2 ^ 64)) || (decide (-(2 ^ 64) < j) && decide (j < 2 ^ 64))
def opMul (v w : PV) (h : Cells) : Out PV := match v, w with
  | .d (.int i), .d (.int j) => if mulOk i j then .ok (.d (.int (i * j))) h else .bad
  | .d (.tuple ds), .d (.int k) => if !ds.isEmpty && decide (2 ≤ k) && decide (k ≤ 1000) && decide (ds.length ≤ 1000) then .ok (.d (.tuple (List.replicate k.toNat ds).flatten)) h else .bad
  | .d (.list ds), .d (.int k) => if decide (-(2 ^ 63) ≤ k) && decide (k < 2 ^ 63) && decide (ds.length * k.toNat ≤ sizeLine) then .ok (.d (.list (List.replicate k.toNat ds).flatten)) h else .bad
  | _, _ => .bad
theorem DDAll.append {K : PySem.W.Frag} {F : Hp} : ∀ {vs ws : List V} {xs ys : List PyData}, DDAll K F vs xs → DDAll K F ws ys → DDAll K F (vs ++ ws) (xs ++ ys)
  | _, _, _, _, .nil, h => h
  | _, _, _, _, .cons a t, h => .cons a (DDAll.append t h)
theorem DDAll.rep {K : PySem.W.Frag} {F : Hp} {vs : List V} {xs : List PyData} (h : DDAll K F vs xs) : ∀ k : Nat, DDAll K F (List.replicate k vs).flatten (List.replicate k xs).flatten
  | 0 => .nil
  | k + 1 => by
    rw [List.replicate_succ, List.replicate_succ, List.flatten_cons, List.flatten_cons]
    exact h.append (DDAll.rep h k)
theorem DDAll.length {K : PySem.W.Frag} {F : Hp} : ∀ {vs : List V} {xs : List PyData}, DDAll K F vs xs → vs.length = xs.length
  | _, _, .nil => rfl
  | _, _, .cons _ t => by simp [DDAll.length t]
theorem canAll_append {xs ys : List PyData} : PyData.canLayAll0 (xs ++ ys) = (PyData.canLayAll0 xs && PyData.canLayAll0 ys) := by
  induction xs with
  | nil => simp [PyData.canLayAll0]
  | cons x r ih => simp [PyData.canLayAll0, ih, Bool.and_assoc]
theorem canAll_rep {xs : List PyData} (h : PyData.canLayAll0 xs = true) : ∀ k : Nat, PyData.canLayAll0 (List.replicate k xs).flatten = true
  | 0 => by simp [PyData.canLayAll0]
  | k + 1 => by rw [List.replicate_succ, List.flatten_cons, canAll_append, h, canAll_rep h k]; rfl
theorem mulOk_ok {i j : Int} (h : mulOk i j = true) : IntMulOk i j := by
  unfold mulOk at h
  simp only [Bool.or_eq_true, Bool.and_eq_true, decide_eq_true_eq] at h
  exact CMul.ok h
def rMulM (K : PySem.W.Frag) : R2 := fun x y H Q => (rI IntMulOk fun i j => .int (i * j)) x y H Q ∨ rRepT K x y H Q ∨ rRep x y H Q
theorem op_mulM {X : Cx} : OpR X (binaryOp .Mult) (rMulM X.K) := OpR.or (opI fun _ _ _ _ _ _ _ hc q => mul_int q hc) (op_repT.or op_rep)
theorem br_mul {K : PySem.W.Frag} {cs : List Tb} : Br K cs (rMulM K) opMul := by
  intro m z H h v w u1 u2 Q Wx hh r1 r2 p
  unfold opMul at p
  split at p
  · split at p
    · rename_i hz
      rw [rep_int r1, rep_int r2]
      exact .inl ⟨_, _, rfl, rfl, mulOk_ok hz, p.here hh _ (rI_ _)⟩
    · exact p.elim
  · rename_i ds k
    split at p
    · rename_i hz
      simp only [Bool.and_eq_true, decide_eq_true_eq, Bool.not_eq_true'] at hz
      obtain ⟨⟨⟨z1, z2⟩, z3⟩, z4⟩ := hz
      rw [rep_int r2]
      cases r1 with
      | d hd c =>
        cases hd with
        | tup hq ha =>
          rename_i a vs
          have hl := ha.length
          have hne : vs ≠ [] := fun e => by
            subst e
            cases ds with
            | nil => simp at z1
            | cons _ _ => simp at hl
          refine .inr (.inl ⟨a, k, vs, rfl, rfl, SqT.top hq, hne, z2, z3, by omega, fun pp hn => Po.new p hh hn _ ?_⟩)
          have c' : PyData.canLayAll0 ds = true := by simpa [PyData.canLay0] using c
          have t := RepAll.of_dp (K := K) (m := m) (z := z) (H := H) (ha.rep k.toNat) (canAll_rep c' k.toNat)
          have q := rep_newT hh t hn
          rw [mkT_map] at q
          exact q
    · exact p.elim
  · rename_i ds k
    split at p
    · rename_i hz
      simp only [Bool.and_eq_true, decide_eq_true_eq] at hz
      obtain ⟨⟨z1, z2⟩, z3⟩ := hz
      rw [rep_int r2]
      cases r1 with
      | d hd c =>
        cases hd with
        | lst hq ha =>
          rename_i a vs
          have hl := ha.length
          refine .inr (.inr ⟨a, k, vs, rfl, rfl, (fz_some hq).2.2, z1, z2, by rw [hl]; exact z3, fun pp hn => Po.new p hh hn _ ?_⟩)
          have c' : PyData.canLayAll0 ds = true := by simpa [PyData.canLay0] using c
          have t := RepAll.of_dp (K := K) (m := m) (z := z) (H := H) (ha.rep k.toNat) (canAll_rep c' k.toNat)
          have q := rep_newL hh t hn
          rw [mkL_map] at q
          exact q
    · exact p.elim
  · exact p.elim
def opDiv (v w : PV) (h : Cells) : Out PV := match v, w with
  | .d (.int i), .d (.int j) => if decide (0 < j) && decide (j < 2 ^ 64) then .ok (.d (.int (i / j))) h else .bad
  | _, _ => .bad
theorem cdivW_of {i j : Int} (h1 : 0 < j) (h2 : j < 2 ^ 64) : CDivW i j := wide_div (b := 64) h1 (by omega) (by decide) (by decide)
theorem br_div {K : PySem.W.Frag} {cs : List Tb} : Br K cs (rI CDivW fun i j => .int (i / j)) opDiv := by
  intro m z H h v w u1 u2 Q Wx hh r1 r2 p
  unfold opDiv at p
  split at p
  · split at p
    · rename_i hz
      simp only [Bool.and_eq_true, decide_eq_true_eq] at hz
      rw [rep_int r1, rep_int r2]
      exact ⟨_, _, rfl, rfl, cdivW_of hz.1 hz.2, p.here hh _ (rI_ _)⟩
    · exact p.elim
  · exact p.elim
def opMod (v w : PV) (h : Cells) : Out PV := match v, w with
  | .d (.int i), .d (.int j) => if 0 < j then .ok (.d (.int (i % j))) h else .bad
  | _, _ => .bad
theorem br_mod {K : PySem.W.Frag} {cs : List Tb} : Br K cs (rI (fun _ j => 0 < j) fun i j => .int (i % j)) opMod := by
  intro m z H h v w u1 u2 Q Wx hh r1 r2 p
  unfold opMod at p
  split at p
  · split at p
    · rename_i hz
      rw [rep_int r1, rep_int r2]
      exact ⟨_, _, rfl, rfl, hz, p.here hh _ (rI_ _)⟩
    · exact p.elim
  · exact p.elim
def opPow (v w : PV) (h : Cells) : Out PV := match v, w with
  | .d (.int i), .d (.int j) => if decide (0 ≤ j) && decide (j ≤ 1000000) && decide (i.natAbs < 2 ^ 64) then .ok (.d (.int (i ^ j.toNat))) h else .bad
  | _, _ => .bad
theorem br_pow {K : PySem.W.Frag} {cs : List Tb} : Br K cs (rI CPow fun i j => .int (i ^ j.toNat)) opPow := by
  intro m z H h v w u1 u2 Q Wx hh r1 r2 p
  unfold opPow at p
  split at p
  · split at p
    · rename_i hz
      simp only [Bool.and_eq_true, decide_eq_true_eq] at hz
      rw [rep_int r1, rep_int r2]
      exact ⟨_, _, rfl, rfl, ⟨hz.1.1, hz.1.2, hz.2⟩, p.here hh _ (rI_ _)⟩
    · exact p.elim
  · exact p.elim
/-! ### comparisons -/
def rEqM (K : PySem.W.Frag) (k : Bool) : R2 := fun x y H Q => ∃ d e, Dp K H x d ∧ Dp K H y e ∧ d.canLay0 = true ∧ e.canLay0 = true ∧ min d.depth e.depth ≤ 64 ∧ Q (.bl (if k then PyData.eqv d e else !PyData.eqv d e)) H
theorem op_eqM {X : Cx} (hu : X.A.units + 64 < cLine) : OpR X (compareOp .Eq) (rEqM X.K true) := fun pins s σ H x y v u Q I rx ry ⟨d, e, hd, he, cd, ce, hm, q⟩ => by
  obtain ⟨as, r1⟩ := Dp.reads I d x v hd rx
  obtain ⟨bs, r2⟩ := Dp.reads I e y u he ry
  exact SeqAt.compareEq_reads r1 r2 cd ce (by omega) ⟨.bl _, H, I, rfl, q⟩
theorem op_neM {X : Cx} (hu : X.A.units + 64 < cLine) : OpR X (compareOp .NotEq) (rEqM X.K false) := fun pins s σ H x y v u Q I rx ry ⟨d, e, hd, he, cd, ce, hm, q⟩ => by
  obtain ⟨as, r1⟩ := Dp.reads I d x v hd rx
  obtain ⟨bs, r2⟩ := Dp.reads I e y u he ry
  exact SeqAt.compareNe_reads r1 r2 cd ce (by omega) ⟨.bl _, H, I, rfl, q⟩
def opEq (k : Bool) (v w : PV) (h : Cells) : Out PV := match asX v h, asX w h with
  | some d, some e => if min d.depth e.depth ≤ 64 then .ok (.d (.bool (if k then PyData.eqv d e else !PyData.eqv d e))) h else .bad
  | _, _ => .bad
theorem br_eq {K : PySem.W.Frag} {cs : List Tb} {k : Bool} : Br K cs (rEqM K k) (opEq k) := by
  intro m z H h v w u1 u2 Q Wx hh r1 r2 p
  unfold opEq at p
  split at p
  · rename_i d e ed ee
    split at p
    · rename_i hz
      obtain ⟨d1, c1⟩ := asX_rep hh r1 ed
      obtain ⟨d2, c2⟩ := asX_rep hh r2 ee
      exact ⟨d, e, d1, d2, c1, c2, hz, p.here hh _ (rB_ _)⟩
    · exact p.elim
  · exact p.elim
def ltS (x y : Str) : Bool := decide (x.cps.toList < y.cps.toList)
def opLt (v w : PV) (h : Cells) : Out PV := match v, w with
  | .d (.int i), .d (.int j) => .ok (.d (.bool (decide (i < j)))) h
  | .d (.str x), .d (.str y) => .ok (.d (.bool (ltS x y))) h
  | _, _ => .bad
def opLe (v w : PV) (h : Cells) : Out PV := match v, w with
  | .d (.int i), .d (.int j) => .ok (.d (.bool (decide (i ≤ j)))) h
  | .d (.str x), .d (.str y) => .ok (.d (.bool (!ltS y x))) h
  | _, _ => .bad
def opGt (v w : PV) (h : Cells) : Out PV := match v, w with
  | .d (.int i), .d (.int j) => .ok (.d (.bool (decide (j < i)))) h
  | .d (.str x), .d (.str y) => .ok (.d (.bool (ltS y x))) h
  | _, _ => .bad
def opGe (v w : PV) (h : Cells) : Out PV := match v, w with
  | .d (.int i), .d (.int j) => .ok (.d (.bool (decide (j ≤ i)))) h
  | .d (.str x), .d (.str y) => .ok (.d (.bool (!ltS x y))) h
  | _, _ => .bad
def rOrd (f : Int → Int → Bool) (g : Str → Str → Bool) : R2 := fun x y H Q => (∃ i j, x = .int i ∧ y = .int j ∧ Q (.bl (f i j)) H) ∨ ∃ i j, x = .str i ∧ y = .str j ∧ Q (.bl (g i j)) H
theorem op_ltM {X : Cx} : OpR X (compareOp .Lt) (rOrd (fun i j => decide (i < j)) ltS) := op_lt.or op_lt_str
theorem op_leM {X : Cx} : OpR X (compareOp .LtE) (rOrd (fun i j => decide (i ≤ j)) fun x y => !ltS y x) := op_le.or op_le_str
theorem op_gtM {X : Cx} : OpR X (compareOp .Gt) (rOrd (fun i j => decide (j < i)) fun x y => ltS y x) := op_gt.or op_gt_str
theorem op_geM {X : Cx} : OpR X (compareOp .GtE) (rOrd (fun i j => decide (j ≤ i)) fun x y => !ltS x y) := op_ge.or op_ge_str
theorem br_ord {K : PySem.W.Frag} {cs : List Tb} {f : Int → Int → Bool} {g : Str → Str → Bool} {op : PV → PV → Cells → Out PV}
    (ho : ∀ v w h, op v w h = match v, w with
      | .d (.int i), .d (.int j) => .ok (.d (.bool (f i j))) h
      | .d (.str x), .d (.str y) => .ok (.d (.bool (g x y))) h
      | _, _ => .bad) : Br K cs (rOrd f g) op := by
  intro m z H h v w u1 u2 Q Wx hh r1 r2 p
  rw [ho] at p
  split at p
  · rw [rep_int r1, rep_int r2]
    exact .inl ⟨_, _, rfl, rfl, p.here hh _ (rB_ _)⟩
  · rw [(rep_str r1).1, (rep_str r2).1]
    exact .inr ⟨_, _, rfl, rfl, p.here hh _ (rB_ _)⟩
  · exact p.elim
theorem br_lt {K : PySem.W.Frag} {cs : List Tb} : Br K cs (rOrd (fun i j => decide (i < j)) ltS) opLt := br_ord fun _ _ _ => rfl
theorem br_le {K : PySem.W.Frag} {cs : List Tb} : Br K cs (rOrd (fun i j => decide (i ≤ j)) fun x y => !ltS y x) opLe := br_ord fun _ _ _ => rfl
theorem br_gt {K : PySem.W.Frag} {cs : List Tb} : Br K cs (rOrd (fun i j => decide (j < i)) fun x y => ltS y x) opGt := br_ord fun _ _ _ => rfl
theorem br_ge {K : PySem.W.Frag} {cs : List Tb} : Br K cs (rOrd (fun i j => decide (j ≤ i)) fun x y => !ltS x y) opGe := br_ord fun _ _ _ => rfl
/-! ### is None -/
def isNone : PV → Bool
  | .d .none => true
  | _ => false
def mIsN (k : Bool) (f : ME PV) : ME PV := fun e h => (f e h).bind fun v h1 => .ok (.d (.bool (if k then isNone v else !isNone v))) h1
theorem isNone_rep {K : PySem.W.Frag} {m z : List Addr} {H : Hp} {v : PV} {u : V} (r : Rep K m z H v u) : decide (u = .non) = isNone v := by
  cases r with
  | d h _ => cases h <;> rfl
  | _ => rfl
section
variable {X : Cx} {cs : List Tb} {W : WX}
theorem s_isN {a : Expr} {j : Nat} {pos pos' : Pos} {f : ME PV} (ha : SE X cs W a f) : SE X cs W (.Compare a [.Is] [.Constant .none j pos'] pos) (mIsN true f) :=
  pe_imp (pe_cmp (pc_isN ha)) fun σ H Q ⟨m, z, e, h, hs, hh, p⟩ => tE_then hs hh p fun v h1 m1 H1 u hs1 hh1 r1 n1 p1 => by
    rw [isNone_rep r1]
    exact p1.here hh1 _ (rB_ _)
theorem s_notN {a : Expr} {j : Nat} {pos pos' : Pos} {f : ME PV} (ha : SE X cs W a f) : SE X cs W (.Compare a [.IsNot] [.Constant .none j pos'] pos) (mIsN false f) :=
  pe_imp (pe_cmp (pc_notN ha)) fun σ H Q ⟨m, z, e, h, hs, hh, p⟩ => tE_then hs hh p fun v h1 m1 H1 u hs1 hh1 r1 n1 p1 => by
    rw [isNone_rep r1]
    exact p1.here hh1 _ (rB_ _)
/-! ### a < b <= c -/
def mChain (g1 g2 : PV → PV → Cells → Out PV) (f1 f2 f3 : ME PV) : ME PV := fun e h => (f1 e h).bind fun v h1 => (f2 e h1).bind fun w h2 => (g1 v w h2).bind fun b h3 => match b with
  | .d (.bool true) => (f3 e h3).bind fun x h4 => g2 w x h4
  | .d (.bool false) => .ok b h3
  | _ => .bad
theorem tE_chain {r r' : R2} {g1 g2 : PV → PV → Cells → Out PV} {f1 f2 f3 : ME PV} {K : PySem.W.Frag} (b1 : Br K cs r g1) (b2 : Br K cs r' g2) {σ : L2.St} {H : Hp} {Q : VK} (t : tE K cs W (mChain g1 g2 f1 f2 f3) σ H Q) : tChain r r' (tE K cs W f1) (tE K cs W f2) (tE K cs W f3) σ H Q := by
  obtain ⟨m, z, e, h, hs, hh, p⟩ := t
  refine tE_then hs hh p fun v h1 m1 H1 u1 hs1 hh1 r1 n1 p1 => ?_
  refine tE_then hs1 hh1 p1 fun w h2 m2 H2 u2 hs2 hh2 r2 n2 p2 => ?_
  refine b1 m2 z H2 h2 v w u1 u2 _ _ hh2 (r1.nx n2) r2 (p2.bind.imp (fun x h3 m3 H3 n3 hh3 q u ru => ?_) fun _ _ q => q)
  split at q
  · rw [rep_bool ru]
    refine ⟨true, rfl, ?_⟩
    rw [if_pos rfl]
    refine tE_then (hs2.nx n3) hh3 q fun x h4 m4 H4 u4 hs4 hh4 r4 n4 p4 => ?_
    exact b2 m4 z H4 h4 w x u2 u4 Q _ hh4 ((r2.nx n3).nx n4) r4 p4
  · rw [rep_bool ru]
    refine ⟨false, rfl, ?_⟩
    rw [if_neg (by decide)]
    exact q.here hh3 _ (rB_ _)
  · exact q.elim
theorem s_chain {op op' : CmpOp} {r r' : R2} {g1 g2 : PV → PV → Cells → Out PV} {a b c : Expr} {pos : Pos} {f1 f2 f3 : ME PV} (ho : OpR X (compareOp op) r) (ho' : OpR X (compareOp op') r') (b1 : Br X.K cs r g1) (b2 : Br X.K cs r' g2) (ha : SE X cs W a f1) (hb : SE X cs W b f2) (hc : SE X cs W c f3)
    (hm : lastMarks [op, op'] [b, c] = false := by with_unfolding_all rfl) : SE X cs W (.Compare a [op, op'] [b, c] pos) (mChain g1 g2 f1 f2 f3) := pe_imp (pe_chain ho ho' ha hb hc hm) fun _ _ _ => tE_chain b1 b2
theorem s_tchain {op op' : CmpOp} {r r' : R2} {g1 g2 : PV → PV → Cells → Out PV} {a b c : Expr} {pos : Pos} {f1 f2 f3 : ME PV} (ho : OpR X (compareOp op) r) (ho' : OpR X (compareOp op') r') (b1 : Br X.K cs r g1) (b2 : Br X.K cs r' g2) (ha : SE X cs W a f1) (hb : SE X cs W b f2) (hc : SE X cs W c f3)
    (hm : lastMarks [op, op'] [b, c] = false := by with_unfolding_all rfl) : ST X cs W (.Compare a [op, op'] [b, c] pos) (mTb (mChain g1 g2 f1 f2 f3)) := pt_imp (pt_chain ho ho' ha hb hc hm) fun σ H Q t => by
  obtain ⟨m, z, e, h, hs, hh, p⟩ := t
  refine tE_chain b1 b2 (W := W) ⟨m, z, e, h, hs, hh, p.bind.imp (fun v h1 m1 H1 n r1 q u ru => ?_) fun _ _ q => q⟩
  split at q
  · rw [rep_bool ru]
    exact ⟨_, rfl, q.here r1⟩
  · exact q.elim
/-! ### -a -/
def mNeg (f : ME PV) : ME PV := fun e h => (f e h).bind fun v h1 => match v with
  | .d (.int i) => .ok (.d (.int (-i))) h1
  | _ => .bad
theorem s_neg {a : Expr} {pos : Pos} {f : ME PV} (ha : SE X cs W a f) : SE X cs W (.UnaryOp .USub a pos) (mNeg f) :=
  pe_imp (pe_un un_neg ha) fun σ H Q ⟨m, z, e, h, hs, hh, p⟩ => tE_then hs hh p fun v h1 m1 H1 u hs1 hh1 r1 n1 p1 => by
    split at p1
    · rw [rep_int r1]
      exact ⟨_, rfl, p1.here hh1 _ (rI_ _)⟩
    · exact p1.elim
/-! ### displays -/
def mTup (g : ME (List PV)) : ME PV := fun e h => (g e h).bind fun vs h1 => if vs.length ≤ sizeLine then .ok (mkT vs) h1 else .bad
theorem s_tup {es : List Expr} {x1 : Nat} {pos : Pos} {g : ME (List PV)} (hg : SA X cs W es g) : SE X cs W (.Tuple es x1 pos) (mTup g) :=
  pe_imp (pe_tup hg) fun σ H Q ⟨m, z, e, h, hs, hh, p⟩ => tA_then hs hh p fun vs h1 m1 H1 us hs1 hh1 r1 n1 p1 => by
    split at p1
    · rename_i hz
      exact ⟨by rw [← r1.length]; exact hz, fun q hn => Po.new p1 hh1 hn _ (rep_newT hh1 r1 hn)⟩
    · exact p1.elim
/-- a list that never changes -/
def mLst (g : ME (List PV)) : ME PV := fun e h => (g e h).bind fun vs h1 => if vs.length ≤ sizeLine then .ok (mkL vs) h1 else .bad
theorem s_lst {es : List Expr} {pos : Pos} {g : ME (List PV)} (hg : SA X cs W es g) : SE X cs W (.List es pos) (mLst g) :=
  pe_imp (pe_lst hg) fun σ H Q ⟨m, z, e, h, hs, hh, p⟩ => tA_then hs hh p fun vs h1 m1 H1 us hs1 hh1 r1 n1 p1 => by
    split at p1
    · rename_i hz
      exact ⟨by rw [← r1.length]; exact hz, fun q hn => Po.new p1 hh1 hn _ (rep_newL hh1 r1 hn)⟩
    · exact p1.elim
/-- a list that is a cell -/
def mCell (g : ME (List PV)) : ME PV := fun e h => (g e h).bind fun vs h1 => if vs.length ≤ sizeLine then .ok (.r h1.length) (h1 ++ [.lst vs]) else .bad
theorem rep_cell {K : PySem.W.Frag} {m z : List Addr} {H : Hp} {h : Cells} {p : Addr} (hh : HRel K cs m z h H) : Rep K (m ++ [p]) z H (.r h.length) (.ref p) := .r (by rw [hh.len, List.getElem?_append_right (Nat.le_refl _), Nat.sub_self]; rfl)
theorem s_cell {es : List Expr} {pos : Pos} {g : ME (List PV)} (hg : SA X cs W es g) : SE X cs W (.List es pos) (mCell g) :=
  pe_imp (pe_lst hg) fun σ H Q ⟨m, z, e, h, hs, hh, p⟩ => tA_then hs hh p fun vs h1 m1 H1 us hs1 hh1 r1 n1 p1 => by
    split at p1
    · rename_i hz
      refine ⟨by rw [← r1.length]; exact hz, fun q hn => ?_⟩
      have hc := hh1.cell (u := .lst vs) hn ⟨us, upd_same, r1.nx (Nx.cell hn)⟩
      exact p1 _ _ (Nx.cell hn) hc _ (.r (by rw [hh1.len, List.getElem?_append_right (Nat.le_refl _), Nat.sub_self]; rfl))
    · exact p1.elim
/-! ### len, int, abs -/
def asLen : PV → Cells → Option Nat
  | .d (.str x), _ => if x.length ≤ sizeLine then some x.length else none
  | .d (.tuple ds), _ => some ds.length
  | .tp xs, _ => some xs.length
  | v, h => (asL v h).map (·.length)
end
end Mi

set_option Elab.async false
set_option linter.all false
set_option maxRecDepth 100000
set_option maxHeartbeats 4000000
namespace Mi
open PySem PySem.Spec PyProof.Rows L2

/-! ## built-ins called -/
def Bc (K : PySem.W.Frag) (cs : List Tb) (r : List V → Hp → VK → Prop) (g : List PV → Cells → Out PV) : Prop :=
  ∀ m z H h vs us Q Wx, HRel K cs m z h H → RepAll K m z H vs us → Po K cs z m H (RxE K z Q) Wx (g vs h) → r us H Q
def mCall (g : List PV → Cells → Out PV) (fa : ME (List PV)) : ME PV := fun e h => (fa e h).bind g
section
variable {X : Cx} {cs : List Tb} {W : WX}
theorem tE_call {r : List V → Hp → VK → Prop} {g : List PV → Cells → Out PV} {fa : ME (List PV)} {K : PySem.W.Frag} (b : Bc K cs r g) {σ : L2.St} {H : Hp} {Q : VK} (t : tE K cs W (mCall g fa) σ H Q) : tCB r (tA K cs W fa) σ H Q := by
  obtain ⟨m, z, e, h, hs, hh, p⟩ := t
  exact tA_then hs hh p fun vs h1 m1 H1 us hs1 hh1 r1 n1 p1 => b m1 z H1 h1 vs us Q _ hh1 r1 p1
theorem s_callB {id : String} {x : Str} {p pos : Pos} {a : Expr} {es : List Expr} {r : List V → Hp → VK → Prop} {g : List PV → Cells → Out PV} {fa : ME (List PV)} (hc : CallR X (.builtin id) r) (hb : Bc X.K cs r g) (hg : Gl X x) (hm : X.mg x = none) (hv : bootBuiltins x = some (.builtin id)) (ha : SA X cs W (a :: es) fa)
    (hn : x ≠ "__name__" := by decide) (hdb : (x == ("__debug__" : Str)) = false := by decide) (he : starEach (a :: es) X.env = (false, eval a X.env) :: starEach es X.env := by rfl) (hpl : (backTo pos (starEach es X.env)).any (·.1) = false := by rfl) :
    SE X cs W (.Call (.Name x p) (a :: es) [] pos) (mCall g fa) := pe_imp (pe_callB hc hg hm hv ha hn hdb he hpl) fun _ _ _ => tE_call hb
theorem s_callT {id : String} {x : Str} {p pos : Pos} {a : Expr} {es : List Expr} {r : List V → Hp → VK → Prop} {g : List PV → Cells → Out PV} {fa : ME (List PV)} (hc : CallR X (.type id) r) (hb : Bc X.K cs r g) (hg : Gl X x) (hm : X.mg x = none) (hv : bootBuiltins x = some (.type id)) (ha : SA X cs W (a :: es) fa)
    (hn : x ≠ "__name__" := by decide) (hdb : (x == ("__debug__" : Str)) = false := by decide) (he : starEach (a :: es) X.env = (false, eval a X.env) :: starEach es X.env := by rfl) (hpl : (backTo pos (starEach es X.env)).any (·.1) = false := by rfl) :
    SE X cs W (.Call (.Name x p) (a :: es) [] pos) (mCall g fa) := pe_imp (pe_callTy hc hg hm hv ha hn hdb he hpl) fun _ _ _ => tE_call hb
end
theorem rep1 {K : PySem.W.Frag} {m z : List Addr} {H : Hp} {v : PV} {us : List V} (r : RepAll K m z H [v] us) : ∃ u, us = [u] ∧ Rep K m z H v u := by
  cases r with
  | cons a t => cases t; exact ⟨_, rfl, a⟩
theorem rep2 {K : PySem.W.Frag} {m z : List Addr} {H : Hp} {v w : PV} {us : List V} (r : RepAll K m z H [v, w] us) : ∃ a b, us = [a, b] ∧ Rep K m z H v a ∧ Rep K m z H w b := by
  cases r with
  | cons a t =>
    obtain ⟨b, rfl, h⟩ := rep1 t
    exact ⟨_, _, rfl, a, h⟩
theorem asX_rep2 {K : PySem.W.Frag} {m z : List Addr} {H : Hp} {x : PyData} {u : V} (r : Rep K m z H (.d x) u) : DD K H u x ∧ x.canLay0 = true := by
  cases r with
  | d h c => exact ⟨h.vw (Vw.fz m z H), c⟩
/-! ### len -/
def asDict : PV → Cells → Option (List (Key × PV))
  | .r n, h => match h[n]? with
    | some (.dk kvs) => some kvs
    | _ => none
  | _, _ => none
def biLen (vs : List PV) (h : Cells) : Out PV := match vs with
  | [.d (.str x)] => if x.length ≤ sizeLine then .ok (.d (.int x.length)) h else .bad
  | [v] => match asL v h with
    | some xs => .ok (.d (.int xs.length)) h
    | none => match asT v with
      | some xs => .ok (.d (.int xs.length)) h
      | none => match asDict v h with
        | some kvs => .ok (.d (.int kvs.length)) h
        | none => .bad
  | _ => .bad
def rLenM (K : PySem.W.Frag) : List V → Hp → VK → Prop := fun xs H Q => (fun xs H Q => ∃ x n, xs = [x] ∧ LenV K x H n ∧ Q (.int (n : Nat)) H) xs H Q ∨ ∃ a kvs, xs = [.ref a] ∧ Rd H a (.dK kvs) ∧ Q (.int kvs.length) H
theorem call_lenDk {X : Cx} : CallR X (.builtin "len") (fun xs H Q => ∃ a kvs, xs = [.ref a] ∧ Rd H a (.dK kvs) ∧ Q (.int kvs.length) H) := fun pins s σ H xs us Q I r h => by
  obtain ⟨a, kvs, rfl, hd, q⟩ := h
  cases r with
  | cons r t =>
    cases t
    cases r
    exact d_len I hd fun t s' I' => ⟨.int _, H, I', ⟨t, rfl⟩, q⟩
theorem call_lenM {X : Cx} : CallR X (.builtin "len") (rLenM X.K) := CallR.or call_len call_lenDk
theorem bc_len {K : PySem.W.Frag} {cs : List Tb} : Bc K cs (rLenM K) biLen := by
  intro m z H h vs us Q Wx hh r p
  unfold biLen at p
  split at p
  · obtain ⟨u, rfl, r1⟩ := rep1 r
    split at p
    · rename_i hz
      rw [(rep_str r1).1]
      exact .inl ⟨_, _, rfl, ⟨hz, rfl⟩, p.here hh _ (rI_ _)⟩
    · exact p.elim
  · obtain ⟨u, rfl, r1⟩ := rep1 r
    split at p
    · rename_i xs ex
      obtain ⟨a, ws, rfl, q1, t1⟩ := asL_rep hh r1 ex
      refine .inl ⟨_, _, rfl, .inl ⟨_, .inl (.inl q1), rfl⟩, ?_⟩
      rw [← t1.length]
      exact p.here hh _ (rI_ _)
    · split at p
      · rename_i xs ex
        obtain ⟨a, ws, rfl, q1, t1⟩ := asT_rep r1 ex
        refine .inl ⟨_, _, rfl, .inr ⟨_, SqT.top q1, rfl⟩, ?_⟩
        rw [← t1.length]
        exact p.here hh _ (rI_ _)
      · split at p
        · rename_i kvs ex
          unfold asDict at ex
          split at ex
          · split at ex
            · rename_i kvs' eq
              obtain rfl := Option.some.inj ex
              cases r1 with
              | r hn =>
                obtain ⟨a, h1, ws, h2, h3, h4⟩ := hh.get eq
                rw [hn] at h1
                obtain rfl := Option.some.inj h1
                refine .inr ⟨_, ws, rfl, .inl h2, ?_⟩
                have e : kvs'.length = ws.length := by simpa using congrArg List.length h3
                rw [← e]
                exact p.here hh _ (rI_ _)
            · cases ex
          · cases ex
        · exact p.elim
  · exact p.elim
/-! ### int, abs, str, tuple, list, min, max, sum -/
def biInt (vs : List PV) (h : Cells) : Out PV := match vs with
  | [.d (.int i)] => .ok (.d (.int i)) h
  | [.d (.bool b)] => .ok (.d (.int (if b then 1 else 0))) h
  | _ => .bad
theorem bc_int {K : PySem.W.Frag} {cs : List Tb} : Bc K cs (fun xs H Q => (∃ i, xs = [V.int i] ∧ Q (.int i) H) ∨ ∃ k, xs = [V.bl k] ∧ Q (.int (if k then 1 else 0)) H) biInt := by
  intro m z H h vs us Q Wx hh r p
  unfold biInt at p
  split at p
  · obtain ⟨u, rfl, r1⟩ := rep1 r
    rw [rep_int r1]
    exact .inl ⟨_, rfl, p.here hh _ (rI_ _)⟩
  · obtain ⟨u, rfl, r1⟩ := rep1 r
    rw [rep_bool r1]
    exact .inr ⟨_, rfl, p.here hh _ (rI_ _)⟩
  · exact p.elim
def biAbs (vs : List PV) (h : Cells) : Out PV := match vs with
  | [.d (.int i)] => .ok (.d (.int (if i < 0 then -i else i))) h
  | _ => .bad
theorem bc_abs {K : PySem.W.Frag} {cs : List Tb} : Bc K cs (fun xs H Q => ∃ i, xs = [V.int i] ∧ Q (.int (if i < 0 then -i else i)) H) biAbs := by
  intro m z H h vs us Q Wx hh r p
  unfold biAbs at p
  split at p
  · obtain ⟨u, rfl, r1⟩ := rep1 r
    rw [rep_int r1]
    exact ⟨_, rfl, p.here hh _ (rI_ _)⟩
  · exact p.elim
/-- tuple(x), x a list or a tuple -/
def biTuple (vs : List PV) (h : Cells) : Out PV := match vs with
  | [v] => match asL v h with
    | some xs => .ok (mkT xs) h
    | none => match asT v with
      | some xs => .ok (mkT xs) h
      | none => .bad
  | _ => .bad
theorem bc_tuple {K : PySem.W.Frag} {cs : List Tb} : Bc K cs (fun xs H Q => ∃ p ys, xs = [V.ref p] ∧ ((SqL K H p ys ∧ ∀ l, H l = none → Q (.ref l) (upd H l (.tup ys))) ∨ (SqT K H p ys ∧ Q (.ref p) H))) biTuple := by
  intro m z H h vs us Q Wx hh r p
  unfold biTuple at p
  split at p
  · obtain ⟨u, rfl, r1⟩ := rep1 r
    split at p
    · rename_i xs ex
      obtain ⟨a, ws, rfl, q1, t1⟩ := asL_rep hh r1 ex
      exact ⟨_, _, rfl, .inl ⟨.inl (.inl q1), fun l hn => Po.new p hh hn _ (rep_newT hh t1 hn)⟩⟩
    · split at p
      · rename_i xs ex
        obtain ⟨a, ws, rfl, q1, t1⟩ := asT_rep r1 ex
        exact ⟨_, _, rfl, .inr ⟨SqT.top q1, p.here hh _ (rep_tup q1 t1)⟩⟩
      · exact p.elim
  · exact p.elim
/-- list(x), x a list or a tuple: one that never changes -/
def biList (vs : List PV) (h : Cells) : Out PV := match vs with
  | [v] => match asL v h with
    | some xs => .ok (mkL xs) h
    | none => match asT v with
      | some xs => .ok (mkL xs) h
      | none => .bad
  | _ => .bad
/-- .. a cell -/
def biListC (vs : List PV) (h : Cells) : Out PV := match vs with
  | [v] => match asL v h with
    | some xs => .ok (.r h.length) (h ++ [.lst xs])
    | none => match asT v with
      | some xs => .ok (.r h.length) (h ++ [.lst xs])
      | none => .bad
  | _ => .bad
theorem Po.cell {α : Type} {K : PySem.W.Frag} {cs : List Tb} {m z : List Addr} {h : Cells} {H : Hp} {R : α → Cells → List Addr → Hp → Prop} {Wx : Str → Hp → Prop} {a : α} {xs : List PV} {vs : List V} {p : Addr} (q : Po K cs z m H R Wx (.ok a (h ++ [.lst xs]))) (hh : HRel K cs m z h H) (r : RepAll K m z H xs vs) (hn : H p = none) :
    R a (h ++ [.lst xs]) (m ++ [p]) (upd H p (.lst vs)) := q _ _ (Nx.cell hn) (hh.cell hn ⟨vs, upd_same, r.nx (Nx.cell hn)⟩)
theorem rep_len {K : PySem.W.Frag} {cs : List Tb} {m z : List Addr} {h : Cells} {H H' : Hp} {p : Addr} (hh : HRel K cs m z h H) : Rep K (m ++ [p]) z H' (.r h.length) (.ref p) := .r (by rw [hh.len, List.getElem?_append_right (Nat.le_refl _), Nat.sub_self]; rfl)
theorem bc_list {K : PySem.W.Frag} {cs : List Tb} : Bc K cs (fun xs H Q => ∃ p ys, xs = [V.ref p] ∧ (SqL K H p ys ∨ SqT K H p ys) ∧ ∀ l, H l = none → Q (.ref l) (upd H l (.lst ys))) biList := by
  intro m z H h vs us Q Wx hh r p
  unfold biList at p
  split at p
  · obtain ⟨u, rfl, r1⟩ := rep1 r
    split at p
    · rename_i xs ex
      obtain ⟨a, ws, rfl, q1, t1⟩ := asL_rep hh r1 ex
      exact ⟨_, _, rfl, .inl (.inl (.inl q1)), fun l hn => Po.new p hh hn _ (rep_newL hh t1 hn)⟩
    · split at p
      · rename_i xs ex
        obtain ⟨a, ws, rfl, q1, t1⟩ := asT_rep r1 ex
        exact ⟨_, _, rfl, .inr (SqT.top q1), fun l hn => Po.new p hh hn _ (rep_newL hh t1 hn)⟩
      · exact p.elim
  · exact p.elim
theorem bc_listC {K : PySem.W.Frag} {cs : List Tb} : Bc K cs (fun xs H Q => ∃ p ys, xs = [V.ref p] ∧ (SqL K H p ys ∨ SqT K H p ys) ∧ ∀ l, H l = none → Q (.ref l) (upd H l (.lst ys))) biListC := by
  intro m z H h vs us Q Wx hh r p
  unfold biListC at p
  split at p
  · obtain ⟨u, rfl, r1⟩ := rep1 r
    split at p
    · rename_i xs ex
      obtain ⟨a, ws, rfl, q1, t1⟩ := asL_rep hh r1 ex
      exact ⟨_, _, rfl, .inl (.inl (.inl q1)), fun l hn => Po.cell p hh t1 hn _ (rep_len hh)⟩
    · split at p
      · rename_i xs ex
        obtain ⟨a, ws, rfl, q1, t1⟩ := asT_rep r1 ex
        exact ⟨_, _, rfl, .inr (SqT.top q1), fun l hn => Po.cell p hh t1 hn _ (rep_len hh)⟩
      · exact p.elim
  · exact p.elim
def biMin2 (vs : List PV) (h : Cells) : Out PV := match vs with
  | [.d (.int i), .d (.int j)] => .ok (.d (.int (if j < i then j else i))) h
  | _ => .bad
def biMax2 (vs : List PV) (h : Cells) : Out PV := match vs with
  | [.d (.int i), .d (.int j)] => .ok (.d (.int (if j > i then j else i))) h
  | _ => .bad
theorem bc_min2 {K : PySem.W.Frag} {cs : List Tb} : Bc K cs (fun xs H Q => ∃ i j, xs = [V.int i, V.int j] ∧ Q (.int (if j < i then j else i)) H) biMin2 := by
  intro m z H h vs us Q Wx hh r p
  unfold biMin2 at p
  split at p
  · obtain ⟨a, b, rfl, r1, r2⟩ := rep2 r
    rw [rep_int r1, rep_int r2]
    exact ⟨_, _, rfl, p.here hh _ (rI_ _)⟩
  · exact p.elim
theorem bc_max2 {K : PySem.W.Frag} {cs : List Tb} : Bc K cs (fun xs H Q => ∃ i j, xs = [V.int i, V.int j] ∧ Q (.int (if j > i then j else i)) H) biMax2 := by
  intro m z H h vs us Q Wx hh r p
  unfold biMax2 at p
  split at p
  · obtain ⟨a, b, rfl, r1, r2⟩ := rep2 r
    rw [rep_int r1, rep_int r2]
    exact ⟨_, _, rfl, p.here hh _ (rI_ _)⟩
  · exact p.elim
def asInts : List PV → Option (List Int)
  | [] => some []
  | .d (.int i) :: r => (asInts r).map (i :: ·)
  | _ :: _ => none
theorem asInts_map (ns : List Int) : asInts (ns.map fun i => .d (.int i)) = some ns := by
  induction ns with
  | nil => rfl
  | cons x r ih => simp [asInts, ih]
theorem asInts_rep {K : PySem.W.Frag} {m z : List Addr} {H : Hp} : ∀ {xs : List PV} {vs : List V} {ns : List Int}, RepAll K m z H xs vs → asInts xs = some ns → vs = ns.map V.int
  | [], _, _, h, e => by
    cases h
    obtain rfl := Option.some.inj e
    rfl
  | .d (.int i) :: r, _, ns, h, e => by
    cases h with
    | cons h1 h2 =>
      have e' : (asInts r).map (i :: ·) = some ns := e
      cases e2 : asInts r with
      | none => rw [e2] at e'; cases e'
      | some ms =>
        rw [e2] at e'
        obtain rfl := Option.some.inj e'
        rw [rep_int h1, asInts_rep h2 e2]
        rfl
  | .d .none :: _, _, _, _, e => by simp [asInts] at e
  | .d (.bool _) :: _, _, _, _, e => by simp [asInts] at e
  | .d (.str _) :: _, _, _, _, e => by simp [asInts] at e
  | .d (.list _) :: _, _, _, _, e => by simp [asInts] at e
  | .d (.tuple _) :: _, _, _, _, e => by simp [asInts] at e
  | .d (.dict _) :: _, _, _, _, e => by simp [asInts] at e
  | .r _ :: _, _, _, _, e => by simp [asInts] at e
  | .ls _ :: _, _, _, _, e => by simp [asInts] at e
  | .tp _ :: _, _, _, _, e => by simp [asInts] at e
  | .cl _ :: _, _, _, _, e => by simp [asInts] at e
  | .sc _ :: _, _, _, _, e => by simp [asInts] at e
def biSum (vs : List PV) (h : Cells) : Out PV := match vs with
  | [v] => match asL v h with
    | some xs => match asInts xs with
      | some ns => .ok (.d (.int ns.sum)) h
      | none => .bad
    | none => .bad
  | _ => .bad
theorem bc_sum {K : PySem.W.Frag} {cs : List Tb} : Bc K cs (rSum K) biSum := by
  intro m z H h vs us Q Wx hh r p
  unfold biSum at p
  split at p
  · obtain ⟨u, rfl, r1⟩ := rep1 r
    split at p
    · rename_i xs ex
      obtain ⟨a, ws, rfl, q1, t1⟩ := asL_rep hh r1 ex
      split at p
      · rename_i ns en
        rw [asInts_rep t1 en] at q1
        exact ⟨a, ns, rfl, .inl (.inl q1), p.here hh _ (rI_ _)⟩
      · exact p.elim
    · exact p.elim
  · exact p.elim
def maxI : List Int → Int
  | [] => 0
  | [x] => x
  | x :: r => max x (maxI r)
def minI : List Int → Int
  | [] => 0
  | [x] => x
  | x :: r => min x (minI r)
theorem maxI_mem : ∀ {ns : List Int}, ns ≠ [] → maxI ns ∈ ns ∧ ∀ y ∈ ns, y ≤ maxI ns
  | [], h => absurd rfl h
  | [x], _ => by simp [maxI]
  | x :: y :: r, _ => by
    obtain ⟨h1, h2⟩ := maxI_mem (ns := y :: r) (by simp)
    show max x (maxI (y :: r)) ∈ x :: y :: r ∧ ∀ w ∈ x :: y :: r, w ≤ max x (maxI (y :: r))
    refine ⟨?_, fun w hw => ?_⟩
    · by_cases h : x ≤ maxI (y :: r)
      · rw [show max x (maxI (y :: r)) = maxI (y :: r) by omega]
        exact List.mem_cons_of_mem _ h1
      · rw [show max x (maxI (y :: r)) = x by omega]
        exact List.mem_cons_self
    · rcases List.mem_cons.mp hw with e | e
      · omega
      · have := h2 w e
        omega
theorem minI_mem : ∀ {ns : List Int}, ns ≠ [] → minI ns ∈ ns ∧ ∀ y ∈ ns, minI ns ≤ y
  | [], h => absurd rfl h
  | [x], _ => by simp [minI]
  | x :: y :: r, _ => by
    obtain ⟨h1, h2⟩ := minI_mem (ns := y :: r) (by simp)
    show min x (minI (y :: r)) ∈ x :: y :: r ∧ ∀ w ∈ x :: y :: r, min x (minI (y :: r)) ≤ w
    refine ⟨?_, fun w hw => ?_⟩
    · by_cases h : minI (y :: r) ≤ x
      · rw [show min x (minI (y :: r)) = minI (y :: r) by omega]
        exact List.mem_cons_of_mem _ h1
      · rw [show min x (minI (y :: r)) = x by omega]
        exact List.mem_cons_self
    · rcases List.mem_cons.mp hw with e | e
      · omega
      · have := h2 w e
        omega
def biMax (vs : List PV) (h : Cells) : Out PV := match vs with
  | [v] => match asL v h with
    | some xs => match asInts xs with
      | some (x :: ns) => .ok (.d (.int (maxI (x :: ns)))) h
      | _ => .bad
    | none => .bad
  | _ => .bad
def biMin (vs : List PV) (h : Cells) : Out PV := match vs with
  | [v] => match asL v h with
    | some xs => match asInts xs with
      | some (x :: ns) => .ok (.d (.int (minI (x :: ns)))) h
      | _ => .bad
    | none => .bad
  | _ => .bad
theorem bc_max {K : PySem.W.Frag} {cs : List Tb} : Bc K cs (rMax K) biMax := by
  intro m z H h vs us Q Wx hh r p
  unfold biMax at p
  split at p
  · obtain ⟨u, rfl, r1⟩ := rep1 r
    split at p
    · rename_i xs ex
      obtain ⟨a, ws, rfl, q1, t1⟩ := asL_rep hh r1 ex
      split at p
      · rename_i x ns en
        rw [asInts_rep t1 en] at q1
        refine ⟨a, _, rfl, .inl (.inl q1), by simp, fun k hk hle => ?_⟩
        obtain ⟨h1, h2⟩ := maxI_mem (ns := x :: ns) (by simp)
        rw [show k = maxI (x :: ns) from Int.le_antisymm (h2 k hk) (hle _ h1)]
        exact p.here hh _ (rI_ _)
      · exact p.elim
    · exact p.elim
  · exact p.elim
theorem bc_min {K : PySem.W.Frag} {cs : List Tb} : Bc K cs (rMin K) biMin := by
  intro m z H h vs us Q Wx hh r p
  unfold biMin at p
  split at p
  · obtain ⟨u, rfl, r1⟩ := rep1 r
    split at p
    · rename_i xs ex
      obtain ⟨a, ws, rfl, q1, t1⟩ := asL_rep hh r1 ex
      split at p
      · rename_i x ns en
        rw [asInts_rep t1 en] at q1
        refine ⟨a, _, rfl, .inl (.inl q1), by simp, fun k hk hle => ?_⟩
        obtain ⟨h1, h2⟩ := minI_mem (ns := x :: ns) (by simp)
        rw [show k = minI (x :: ns) from Int.le_antisymm (hle _ h1) (h2 k hk)]
        exact p.here hh _ (rI_ _)
      · exact p.elim
    · exact p.elim
  · exact p.elim
/-! ## items and slices -/
def asS (v : PV) (h : Cells) : Option (List PV) := match asL v h with
  | some xs => some xs
  | none => asT v
def opIx (v w : PV) (h : Cells) : Out PV := match v, w with
  | .d (.str z), .d (.int i) => if z.length ≤ sizeLine then (match atI z.cps.toList i with
      | some c => .ok (.d (.str ⟨#[c]⟩)) h
      | none => .bad) else .bad
  | v, .d (.int i) => match asS v h with
    | some xs => match atI xs i with
      | some x => .ok x h
      | none => .bad
    | none => .bad
  | _, _ => .bad
theorem atI_some {α : Type} {xs : List α} {i : Int} {v : α} (h : atI xs i = some v) : ∃ j, ixN xs.length i = some j ∧ xs[j]? = some v := by
  unfold atI at h
  cases e : ixN xs.length i with
  | none => rw [e] at h; cases h
  | some j => rw [e] at h; exact ⟨j, rfl, h⟩
theorem atI_rep {K : PySem.W.Frag} {m z : List Addr} {H : Hp} {xs : List PV} {vs : List V} {i : Int} {x : PV} (t : RepAll K m z H xs vs) (h : atI xs i = some x) : ∃ v, atI vs i = some v ∧ Rep K m z H x v := by
  obtain ⟨j, h1, h2⟩ := atI_some h
  obtain ⟨v, h3, h4⟩ := t.get h2
  refine ⟨v, ?_, h4⟩
  unfold atI
  rw [← t.length, h1]
  exact h3
theorem br_ix {K : PySem.W.Frag} {cs : List Tb} : Br K cs (rIx K) opIx := by
  intro m z H h v w u1 u2 Q Wx hh r1 r2 p
  unfold opIx at p
  split at p
  · rename_i zz i
    split at p
    · rename_i hz
      split at p
      · rename_i c ec
        obtain ⟨e1, o1⟩ := rep_str r1
        rw [e1, rep_int r2]
        refine .inr (.inr ⟨_, _, c, rfl, rfl, hz, ec, p.here hh _ (rS_ ?_)⟩)
        obtain ⟨j, _, h2⟩ := atI_some ec
        unfold PyData.strOk at *
        rw [← Array.all_toList] at o1
        have := List.all_eq_true.mp o1 c (List.mem_of_getElem? h2)
        simpa using this
      · exact p.elim
    · exact p.elim
  · rename_i i _
    rw [rep_int r2]
    split at p
    · rename_i xs ex
      split at p
      · rename_i x et
        unfold asS at ex
        split at ex
        · rename_i ys ey
          obtain rfl := Option.some.inj ex
          obtain ⟨a, ws, rfl, q1, t1⟩ := asL_rep hh r1 ey
          obtain ⟨u, h1, h2⟩ := atI_rep t1 et
          exact .inl ⟨_, _, _, u, rfl, rfl, .inl (.inl q1), h1, p.here hh _ h2⟩
        · obtain ⟨a, ws, rfl, q1, t1⟩ := asT_rep r1 ex
          obtain ⟨u, h1, h2⟩ := atI_rep t1 et
          exact .inr (.inl ⟨_, _, _, u, rfl, rfl, SqT.top q1, h1, p.here hh _ h2⟩)
      · exact p.elim
    · exact p.elim
  · exact p.elim
section
variable {X : Cx} {cs : List Tb} {W : WX}
theorem s_ix {a b : Expr} {pos : Pos} {f1 f2 : ME PV} (ha : SE X cs W a f1) (hb : SE X cs W b f2) (hs : PlainIx b := by exact fun _ _ => rfl) : SE X cs W (.Subscript a b pos) (mBin opIx f1 f2) := pe_imp (pe_ix ix_seq ha hb hs) fun _ _ _ => tE_bin br_ix
/-! a part of a slice -/
def tO (K : PySem.W.Frag) (cs : List Tb) (W : WX) (f : ME (Option Int)) : TO := fun σ H Q => ∃ m z e h, SRel K m z H e σ ∧ HRel K cs m z h H ∧ Po K cs z m H (fun b _ _ H' => Q b H') (WxE K W σ) (f e h)
abbrev SO (X : Cx) (cs : List Tb) (W : WX) (o : Option Expr) (f : ME (Option Int)) : Prop := PO X o (tO X.K cs W f)
theorem po_imp {o : Option Expr} {t t' : TO} (h : PO X o t) (i : ∀ σ H Q, t' σ H Q → t σ H Q) : PO X o t' := ⟨fun pins s σ H Q I q => h.run pins s σ H Q I (i σ H Q q)⟩
def oNo : ME (Option Int) := fun _ h => .ok none h
def oSo (f : ME PV) : ME (Option Int) := fun e h => (f e h).bind fun v h1 => match v with
  | .d (.int i) => .ok (some i) h1
  | _ => .bad
theorem s_no : SO X cs W none oNo := po_imp po_none fun σ H Q ⟨m, z, e, h, hs, hh, p⟩ => p.here hh
theorem s_so {a : Expr} {f : ME PV} (ha : SE X cs W a f) : SO X cs W (some a) (oSo f) := po_imp (po_some ha) fun σ H Q ⟨m, z, e, h, hs, hh, p⟩ => tE_then hs hh p fun v h1 m1 H1 u hs1 hh1 r1 n1 p1 => by
  split at p1
  · rw [rep_int r1]
    exact ⟨_, rfl, p1.here hh1⟩
  · exact p1.elim
def cutL {α : Type} (xs : List α) (lo hi : Option Int) : List α := (xs.drop (HT.sIx xs.length 0 lo)).take (HT.sIx xs.length xs.length hi - HT.sIx xs.length 0 lo)
def opSl (v : PV) (lo hi : Option Int) (h : Cells) : Out PV := match v with
  | .d (.str z) => if z.length ≤ sizeLine then .ok (.d (.str (cutS z lo hi))) h else .bad
  | .sc ns => .ok (.d (.list ((cutL ns lo hi).map .int))) h
  | v => match asL v h with
    | some xs => .ok (mkL (cutL xs lo hi)) h
    | none => match asT v with
      | some xs => .ok (mkT (cutL xs lo hi)) h
      | none => .bad
def mSl (f : ME PV) (g1 g2 : ME (Option Int)) : ME PV := fun e h => (f e h).bind fun v h1 => (g1 e h1).bind fun lo h2 => (g2 e h2).bind fun hi h3 => opSl v lo hi h3
def rSlM (K : PySem.W.Frag) : V → Option Int → Option Int → Hp → VK → Prop := fun x lo hi H Q => rSlL K x lo hi H Q ∨ rSlA K x lo hi H Q ∨ rSlS x lo hi H Q
theorem sl_M : SlR X (rSlM X.K) := sl_list.or (sl_tupA.or sl_str)
theorem tO_then {f : ME (Option Int)} {β : Type} {g : Option Int → Cells → Out β} {σ : L2.St} {H : Hp} {m z : List Addr} {e : Sl} {h : Cells} {R : β → Cells → List Addr → Hp → Prop} {K : PySem.W.Frag} {Q : Option Int → Hp → Prop}
    (hs : SRel K m z H e σ) (hh : HRel K cs m z h H) (p : Po K cs z m H R (WxE K W σ) ((f e h).bind g))
    (k : ∀ v h1 m1 H1, SRel K m1 z H1 e σ → HRel K cs m1 z h1 H1 → Nx m z H m1 H1 → Po K cs z m1 H1 R (WxE K W σ) (g v h1) → Q v H1) : tO K cs W f σ H Q :=
  ⟨m, z, e, h, hs, hh, p.bind.imp (fun v h1 m1 H1 n r q => k v h1 m1 H1 (hs.nx n) r n q) fun _ _ q => q⟩
theorem RepAll.cut {K : PySem.W.Frag} {m z : List Addr} {H : Hp} {xs : List PV} {vs : List V} (t : RepAll K m z H xs vs) (lo hi : Option Int) : RepAll K m z H (cutL xs lo hi) (cutV vs lo hi) := by
  unfold cutL cutV
  rw [t.length]
  exact (t.drop _).take _
theorem strOk_cut {z : Str} {lo hi : Option Int} (o : PyData.strOk z = true) : PyData.strOk (cutS z lo hi) = true := by
  unfold PyData.strOk cutS at *
  rw [← Array.all_toList] at o ⊢
  refine List.all_eq_true.mpr fun x hx => List.all_eq_true.mp o x ?_
  exact List.drop_subset _ _ (List.take_subset _ _ hx)
theorem cut_ints (ns : List Int) (lo hi : Option Int) : cutV (ns.map V.int) lo hi = (cutL ns lo hi).map V.int := by
  unfold cutV cutL
  rw [List.length_map, ← List.map_drop, ← List.map_take]
theorem dd_ints {K : PySem.W.Frag} {F : Hp} : ∀ ns : List Int, DDAll K F (ns.map V.int) (ns.map .int)
  | [] => .nil
  | _ :: r => .cons (.int _) (dd_ints r)
theorem can_ints : ∀ ns : List Int, PyData.canLayAll0 (ns.map .int) = true
  | [] => by simp [PyData.canLayAll0]
  | _ :: r => by simp [PyData.canLayAll0, PyData.canLay0, can_ints r]
theorem br_sl {K : PySem.W.Frag} {m z : List Addr} {h : Cells} {H : Hp} {v : PV} {u : V} {lo hi : Option Int} {Q : VK} {Wx : Str → Hp → Prop} (hh : HRel K cs m z h H) (r : Rep K m z H v u) (p : Po K cs z m H (RxE K z Q) Wx (opSl v lo hi h)) : rSlM K u lo hi H Q := by
  unfold opSl at p
  split at p
  · split at p
    · rename_i hz
      obtain ⟨e1, o1⟩ := rep_str r
      rw [e1]
      exact .inr (.inr ⟨_, rfl, hz, p.here hh _ (rS_ (strOk_cut o1))⟩)
    · exact p.elim
  · cases r with
    | sc hq =>
      rename_i ns a
      have hq' : SqL K H a (ns.map V.int) := SqL.vw hq (Vw.fz m z H)
      refine .inl ⟨_, _, rfl, hq', fun pp hn => ?_⟩
      rw [cut_ints]
      have t := RepAll.of_dp (K := K) (m := m) (z := z) (H := H) (dd_ints (cutL ns lo hi)) (can_ints _)
      have q := rep_newL hh t hn
      rw [mkL_map] at q
      exact Po.new p hh hn _ q
  · split at p
    · rename_i xs ex
      obtain ⟨a, ws, rfl, q1, t1⟩ := asL_rep hh r ex
      exact .inl ⟨_, _, rfl, .inl (.inl q1), fun pp hn => Po.new p hh hn _ (rep_newL hh (t1.cut lo hi) hn)⟩
    · split at p
      · rename_i xs ex
        obtain ⟨a, ws, rfl, q1, t1⟩ := asT_rep r ex
        refine .inr (.inl ⟨_, _, rfl, SqT.top q1, fun ⟨e1, e2⟩ => ?_, fun _ pp hn => Po.new p hh hn _ (rep_newT hh (t1.cut lo hi) hn)⟩)
        have e3 : cutL xs lo hi = xs := by
          unfold cutL
          rw [t1.length, e1, e2, ← t1.length]
          simp
        rw [e3] at p
        exact p.here hh _ (rep_tup q1 t1)
      · exact p.elim
theorem s_sl {a : Expr} {lo hi : Option Expr} {p2 pos : Pos} {f : ME PV} {g1 g2 : ME (Option Int)} (ha : SE X cs W a f) (h1 : SO X cs W lo g1) (h2 : SO X cs W hi g2) : SE X cs W (.Subscript a (.Slice lo hi none p2) pos) (mSl f g1 g2) :=
  pe_imp (pe_slice sl_M ha h1 h2) fun σ H Q ⟨m, z, e, h, hs, hh, p⟩ => by
    refine tE_then hs hh p fun v h1 m1 H1 u hs1 hh1 r1 n1 p1 => ?_
    refine tO_then hs1 hh1 p1 fun lo h2 m2 H2 hs2 hh2 n2 p2 => ?_
    refine tO_then hs2 hh2 p2 fun hi h3 m3 H3 hs3 hh3 n3 p3 => ?_
    exact br_sl hh3 ((r1.nx n2).nx n3) p3
end
end Mi

set_option Elab.async false
set_option linter.all false
set_option maxRecDepth 100000
set_option maxHeartbeats 4000000
namespace Mi
open PySem PySem.Spec PyProof.Rows L2

/-! ## statements -/
def Out.toS {α : Type} (o : Out α) (g : α → Cells → OS) : OS := match o with
  | .ok a h => g a h
  | .ex c h => .ex c h
  | .bad => .bad
section
variable {K : PySem.W.Frag} {cs : List Tb} {z m m1 : List Addr} {W : WX} {H H1 : Hp} {D D' : Ends}
theorem PoS.step {o : OS} (p : PoS K cs z W m H D o) (n : Nx m z H m1 H1) : PoS K cs z W m1 H1 D o := by
  cases o with
  | nx e h => exact fun m' σ' H' n' => p m' σ' H' (n.trans n')
  | bk e h => exact fun m' σ' H' n' => p m' σ' H' (n.trans n')
  | ct e h => exact fun m' σ' H' n' => p m' σ' H' (n.trans n')
  | rt e h => exact fun m' σ' H' n' => p m' σ' H' (n.trans n')
  | ex e h => exact fun m' σ' H' n' => p m' σ' H' (n.trans n')
  | bad => exact p
theorem PoS.of {α : Type} {o : Out α} {g : α → Cells → OS} {σ : L2.St} (p : PoS K cs z W m H D (o.toS g)) : Po K cs z m H (fun a h' m' H' => PoS K cs z W m' H' D (g a h')) (WxE K W σ) o := by
  cases o with
  | ok a h1 => exact fun m' H' n' r => PoS.step (o := g a h1) p n'
  | ex c h1 => exact fun m' H' n' r => p m' σ H' n' r
  | bad => exact p
end
section
variable {X : Cx} {cs : List Tb} {W : WX}
theorem tE_S {f : ME PV} {g : PV → Cells → OS} {σ : L2.St} {H : Hp} {m z : List Addr} {e : Sl} {h : Cells} {D : Ends} {K : PySem.W.Frag} {Q : VK}
    (hs : SRel K m z H e σ) (hh : HRel K cs m z h H) (p : PoS K cs z W m H D ((f e h).toS g))
    (k : ∀ v h1 m1 H1 u, SRel K m1 z H1 e σ → HRel K cs m1 z h1 H1 → Rep K m1 z H1 v u → Nx m z H m1 H1 → PoS K cs z W m1 H1 D (g v h1) → Q u H1) : tE K cs W f σ H Q :=
  ⟨m, z, e, h, hs, hh, (PoS.of (σ := σ) p).imp (fun v h1 m1 H1 n r q u ru => k v h1 m1 H1 u (hs.nx n) r ru n q) fun _ _ q => q⟩
theorem tT_S {f : ME Bool} {g : Bool → Cells → OS} {σ : L2.St} {H : Hp} {m z : List Addr} {e : Sl} {h : Cells} {D : Ends} {K : PySem.W.Frag} {Q : Bool → Hp → Prop}
    (hs : SRel K m z H e σ) (hh : HRel K cs m z h H) (p : PoS K cs z W m H D ((f e h).toS g))
    (k : ∀ v h1 m1 H1, SRel K m1 z H1 e σ → HRel K cs m1 z h1 H1 → Nx m z H m1 H1 → PoS K cs z W m1 H1 D (g v h1) → Q v H1) : tT K cs W f σ H Q :=
  ⟨m, z, e, h, hs, hh, (PoS.of (σ := σ) p).imp (fun v h1 m1 H1 n r q => k v h1 m1 H1 (hs.nx n) r n q) fun _ _ q => q⟩
theorem tA_S {f : ME (List PV)} {g : List PV → Cells → OS} {σ : L2.St} {H : Hp} {m z : List Addr} {e : Sl} {h : Cells} {D : Ends} {K : PySem.W.Frag} {Q : List V → Hp → Prop}
    (hs : SRel K m z H e σ) (hh : HRel K cs m z h H) (p : PoS K cs z W m H D ((f e h).toS g))
    (k : ∀ v h1 m1 H1 u, SRel K m1 z H1 e σ → HRel K cs m1 z h1 H1 → RepAll K m1 z H1 v u → Nx m z H m1 H1 → PoS K cs z W m1 H1 D (g v h1) → Q u H1) : tA K cs W f σ H Q :=
  ⟨m, z, e, h, hs, hh, (PoS.of (σ := σ) p).imp (fun v h1 m1 H1 n r q u ru => k v h1 m1 H1 u (hs.nx n) r ru n q) fun _ _ q => q⟩
/-- at once -/
theorem PoS.nx_ {K : PySem.W.Frag} {z m : List Addr} {H : Hp} {D : Ends} {e : Sl} {h : Cells} {σ : L2.St} (p : PoS K cs z W m H D (.nx e h)) (hh : HRel K cs m z h H) (hs : SRel K m z H e σ) : D.nx σ H := p m σ H (Nx.refl _ _ _) hh hs
theorem PoS.rt_ {K : PySem.W.Frag} {z m : List Addr} {H : Hp} {D : Ends} {v : PV} {h : Cells} {u : V} (p : PoS K cs z W m H D (.rt v h)) (hh : HRel K cs m z h H) (r : Rep K m z H v u) : D.rt u H := p m u H (Nx.refl _ _ _) hh r
def mSkip : MS := fun e h => .nx e h
def mSeq (f g : MS) : MS := fun e h => match f e h with
  | .nx e1 h1 => g e1 h1
  | o => o
theorem b_nil : SB X cs W [] mSkip := pss_imp pss_nil fun D σ H ⟨m, z, e, h, hs, hh, p⟩ => p.nx_ hh hs
theorem b_cons {s : Stmt} {rest : List Stmt} {f g : MS} (hf : SS X cs W s f) (hg : SB X cs W rest g) : SB X cs W (s :: rest) (mSeq f g) :=
  pss_imp (pss_cons hf hg) fun D σ H ⟨m, z, e, h, hs, hh, p⟩ => by
    refine ⟨m, z, e, h, hs, hh, ?_⟩
    unfold mSeq at p
    cases q : f e h with
    | nx e1 h1 =>
      rw [q] at p
      exact fun m' σ' H' n hh' hs' => ⟨m', z, e1, h1, hs', hh', PoS.step p n⟩
    | bk e1 h1 => rw [q] at p; exact p
    | ct e1 h1 => rw [q] at p; exact p
    | rt e1 h1 => rw [q] at p; exact p
    | ex e1 h1 => rw [q] at p; exact p
    | bad => rw [q] at p; exact p
theorem b_one {s : Stmt} {f : MS} (hf : SS X cs W s f) : SB X cs W [s] f := pss_one hf
theorem s_pass {pos : Pos} : SS X cs W (.Pass pos) mSkip := ps_imp ps_pass fun D σ H ⟨m, z, e, h, hs, hh, p⟩ => p.nx_ hh hs
def mBreak : MS := fun e h => .bk e h
def mCont : MS := fun e h => .ct e h
theorem s_break {pos : Pos} : SS X cs W (.Break pos) mBreak := ps_imp ps_break fun D σ H ⟨m, z, e, h, hs, hh, p⟩ => p m σ H (Nx.refl _ _ _) hh hs
theorem s_cont {pos : Pos} : SS X cs W (.Continue pos) mCont := ps_imp ps_continue fun D σ H ⟨m, z, e, h, hs, hh, p⟩ => p m σ H (Nx.refl _ _ _) hh hs
def mExp (f : ME PV) : MS := fun e h => (f e h).toS fun _ h1 => .nx e h1
theorem s_exp {a : Expr} {pos : Pos} {f : ME PV} (ha : SE X cs W a f) (hs : swapsWith a none pos.line X.env = pure false := by rfl) : SS X cs W (.Expr a pos) (mExp f) :=
  ps_imp (ps_expr ha hs) fun D σ H ⟨m, z, e, h, hs, hh, p⟩ => tE_S hs hh p fun v h1 m1 H1 u hs1 hh1 r1 n1 p1 => p1.nx_ hh1 hs1
def mRet (f : ME PV) : MS := fun e h => (f e h).toS fun v h1 => .rt v h1
def mRetN : MS := fun _ h => .rt (.d .none) h
theorem s_ret {a : Expr} {pos : Pos} {f : ME PV} (ha : SE X cs W a f) : SS X cs W (.Return (some a) pos) (mRet f) :=
  ps_imp (ps_ret ha) fun D σ H ⟨m, z, e, h, hs, hh, p⟩ => tE_S hs hh p fun v h1 m1 H1 u hs1 hh1 r1 n1 p1 => p1.rt_ hh1 r1
theorem s_retN {pos : Pos} : SS X cs W (.Return none pos) mRetN := ps_imp ps_retN fun D σ H ⟨m, z, e, h, hs, hh, p⟩ => p.rt_ hh rN_
def mIf (c : ME Bool) (f g : MS) : MS := fun e h => (c e h).toS fun b h1 => if b then f e h1 else g e h1
theorem s_if {c : Expr} {a b : List Stmt} {pos : Pos} {fc : ME Bool} {f g : MS} (hc : ST X cs W c fc) (ha : SB X cs W a f) (hb : SB X cs W b g) : SS X cs W (.If c a b pos) (mIf fc f g) :=
  ps_imp (ps_if hc ha hb) fun D σ H ⟨m, z, e, h, hs, hh, p⟩ => tT_S hs hh p fun v h1 m1 H1 hs1 hh1 n1 p1 => by
    cases v with
    | true => rw [if_pos rfl] at p1 ⊢; exact ⟨m1, z, e, h1, hs1, hh1, p1⟩
    | false => rw [if_neg (by decide)] at p1 ⊢; exact ⟨m1, z, e, h1, hs1, hh1, p1⟩
/-! ### targets: vs, the slots that may be stored -/
abbrev MG := PV → Sl → Cells → Option (Sl × Cells)
def tG (K : PySem.W.Frag) (cs : List Tb) (vs : List Nat) (ft : MG) : TG := fun u σ H Q => ∃ m z e h v, SRel K m z H e σ ∧ HRel K cs m z h H ∧ Rep K m z H v u ∧ match ft v e h with
  | some (e', h') => ∀ m' σ' H', Nx m z H m' H' → HRel K cs m' z h' H' → SRel K m' z H' e' σ' → wipe σ' vs = wipe σ vs → Q σ' H'
  | none => False
abbrev SG (X : Cx) (cs : List Tb) (vs : List Nat) (tg : Expr) (ft : MG) : Prop := PG X tg (tG X.K cs vs ft)
theorem pg_imp {X : Cx} {e : Expr} {t t' : TG} (h : PG X e t) (i : ∀ v σ H Q, t' v σ H Q → t v σ H Q) : PG X e t' := ⟨fun pins s σ H v u Q I r q => h.run pins s σ H v u Q I r (i v σ H Q q)⟩
def gN (i : Nat) : MG := fun v e h => some (e.set i (some v), h)
theorem wipe_at : ∀ (vs : List Nat) (σ : L2.St) (j : Nat), (wipe σ vs)[j]? = if j ∈ vs then (σ[j]?).map (fun _ => none) else σ[j]?
  | [], σ, j => by simp [wipe]
  | v :: vs, σ, j => by
    unfold wipe
    by_cases hj : v = j
    · subst hj
      by_cases hl : v < σ.length
      · rw [List.getElem?_set_self (by rw [wipe_length]; exact hl), if_pos (by simp), List.getElem?_eq_getElem hl]; rfl
      · rw [List.getElem?_eq_none (by rw [List.length_set, wipe_length]; omega), List.getElem?_eq_none (by omega)]; simp
    · rw [List.getElem?_set_ne hj, wipe_at vs σ j]
      have e : (j ∈ v :: vs) ↔ j ∈ vs := by simp [Ne.symm hj]
      by_cases hm : j ∈ vs
      · rw [if_pos hm, if_pos (e.mpr hm)]
      · rw [if_neg hm, if_neg (fun q => hm (e.mp q))]
theorem wipe_set {vs : List Nat} {σ : L2.St} {i : Nat} {x : Option V} (hi : i ∈ vs) : wipe (σ.set i x) vs = wipe σ vs := by
  refine List.ext_getElem? fun j => ?_
  rw [wipe_at, wipe_at]
  by_cases hm : j ∈ vs
  · rw [if_pos hm, if_pos hm]
    by_cases e : i = j
    · subst e
      by_cases hl : i < σ.length
      · rw [List.getElem?_set_self hl, List.getElem?_eq_getElem hl]; rfl
      · rw [List.getElem?_eq_none (by simpa using hl), List.getElem?_eq_none (by omega)]
    · rw [List.getElem?_set_ne e]
  · rw [if_neg hm, if_neg hm, List.getElem?_set_ne (fun (e : i = j) => hm (e ▸ hi))]
theorem g_name {vs : List Nat} {i : Nat} {x : Str} {pos : Pos} (hN : X.N.Nodup) (hi : X.N[i]? = some x) (hx : Loc X.env.scope x) (hf : X.fn x = true ∨ X.env.scope.names.lookup x = some .local) (hv : i ∈ vs := by simp) : SG X cs vs (.Name x pos) (gN i) :=
  pg_imp (pg_name hN hi hx hf) fun u σ H Q ⟨m, z, e, h, v, hs, hh, r, p⟩ => p m _ H (Nx.refl _ _ _) hh (hs.put i r) (wipe_set hv)
abbrev MGs := List PV → Sl → Cells → Option (Sl × Cells)
def tGs (K : PySem.W.Frag) (cs : List Tb) (vs : List Nat) (ft : MGs) : TGs := fun u σ H Q => ∃ m z e h v, SRel K m z H e σ ∧ HRel K cs m z h H ∧ RepAll K m z H v u ∧ match ft v e h with
  | some (e', h') => ∀ m' σ' H', Nx m z H m' H' → HRel K cs m' z h' H' → SRel K m' z H' e' σ' → wipe σ' vs = wipe σ vs → Q σ' H'
  | none => False
abbrev SGs (X : Cx) (cs : List Tb) (vs : List Nat) (tg : List Expr) (ft : MGs) : Prop := PGs X tg (tGs X.K cs vs ft)
theorem pgs_imp {X : Cx} {e : List Expr} {t t' : TGs} (h : PGs X e t) (i : ∀ v σ H Q, t' v σ H Q → t v σ H Q) : PGs X e t' := ⟨fun pins s σ H v u Q I r q => h.run pins s σ H v u Q I r (i v σ H Q q)⟩
def gsNil : MGs := fun vs e h => match vs with
  | [] => some (e, h)
  | _ => none
def gsCons (f : MG) (g : MGs) : MGs := fun vs e h => match vs with
  | v :: r => match f v e h with
    | some (e1, h1) => g r e1 h1
    | none => none
  | [] => none
theorem gs_nil {vs : List Nat} : SGs X cs vs [] gsNil := pgs_imp pgs_nil fun u σ H Q ⟨m, z, e, h, v, hs, hh, r, p⟩ => by
  cases v with
  | nil => cases r; exact ⟨rfl, p m σ H (Nx.refl _ _ _) hh hs rfl⟩
  | cons _ _ => exact p.elim
theorem gs_cons {vs : List Nat} {a : Expr} {es : List Expr} {f : MG} {g : MGs} (h1 : SG X cs vs a f) (h2 : SGs X cs vs es g) (hs : (assignEach (a :: es) X.env).map (·.2) = assign a X.env :: (assignEach es X.env).map (·.2) := by rfl) : SGs X cs vs (a :: es) (gsCons f g) :=
  pgs_imp (pgs_cons h1 h2 hs) fun u σ H Q ⟨m, z, e, h, v, hs, hh, r, p⟩ => by
    cases v with
    | nil => exact p.elim
    | cons v vs =>
      cases r with
      | cons r1 rr =>
        refine ⟨_, _, rfl, m, z, e, h, v, hs, hh, r1, ?_⟩
        unfold gsCons at p
        simp only at p
        cases q : f v e h with
        | none => rw [q] at p; exact p.elim
        | some q' =>
          obtain ⟨e1, h1⟩ := q'
          rw [q] at p
          simp only at p ⊢
          intro m' σ' H' n hh' hs' hw
          refine ⟨m', z, e1, h1, vs, hs', hh', rr.nx n, ?_⟩
          cases q2 : g vs e1 h1 with
          | none => rw [q2] at p; exact p.elim
          | some q' =>
            obtain ⟨e2, h2⟩ := q'
            rw [q2] at p
            exact fun m2 σ2 H2 n2 hh2 hs2 hw2 => p m2 σ2 H2 (n.trans n2) hh2 hs2 (hw2.trans hw)
/-- a, b, .. = a tuple -/
def gTp (n : Nat) (g : MGs) : MG := fun v e h => match asT v with
  | some xs => if xs.length = n then g xs e h else none
  | none => none
theorem g_tup {vs : List Nat} {es : List Expr} {k : Nat} {pos : Pos} {n : Nat} {g : MGs} (hc : X.calm = true) (hg : SGs X cs vs es g) (hn : (assignEach es X.env).length = n := by rfl) (hst : (assignEach es X.env).findIdx? (·.1) = none := by rfl) : SG X cs vs (.Tuple es k pos) (gTp n g) :=
  pg_imp (pg_tup hc hg hn hst) fun u σ H Q ⟨m, z, e, h, v, hs, hh, r, p⟩ => by
    unfold gTp at p
    split at p
    · rename_i q
      split at q
      · rename_i xs ex
        split at q
        · rename_i hl
          obtain ⟨a, ws, rfl, q1, t1⟩ := asT_rep r ex
          refine ⟨a, ws, rfl, SqT.top q1, by rw [← t1.length]; exact hl, m, z, e, h, xs, hs, hh, t1, ?_⟩
          rw [q]
          exact p
        · cases q
      · cases q
    · exact p.elim
/-- target = value -/
def mAsg (f : ME PV) (g : MG) : MS := fun e h => (f e h).toS fun v h1 => match g v e h1 with
  | some (e2, h2) => .nx e2 h2
  | none => .bad
theorem tS_asg {vs : List Nat} {f : ME PV} {g : MG} {K : PySem.W.Frag} {D : Ends} {σ : L2.St} {H : Hp} (t : tS K cs W (mAsg f g) D σ H) : tAsg (tE K cs W f) (tG K cs vs g) D σ H := by
  obtain ⟨m, z, e, h, hs, hh, p⟩ := t
  refine tE_S hs hh p fun v h1 m1 H1 u hs1 hh1 r1 n1 p1 => ⟨m1, z, e, h1, v, hs1, hh1, r1, ?_⟩
  split at p1
  · exact fun m' σ' H' n' hh' hs' _ => p1 m' σ' H' n' hh' hs'
  · exact p1.elim
theorem s_asg {vs : List Nat} {tg a : Expr} {pos : Pos} {f : ME PV} {g : MG} (ha : SE X cs W a f) (hg : SG X cs vs tg g) (hs : swapsWithSole [tg] a pos.line X.env = pure false := by rfl) (hw : swappedStores [tg] a X.env = pure none := by rfl)
    (h1 : (assignEach [tg] X.env).map (·.2) = [assign tg X.env] := by rfl) : SS X cs W (.Assign [tg] a pos) (mAsg f g) := ps_imp (ps_asg ha hg hs hw h1) fun _ _ _ => tS_asg
theorem tG_name {i : Nat} {K : PySem.W.Frag} {u : V} {σ : L2.St} {H : Hp} {Q : L2.St → Hp → Prop} (t : tG K cs [i] (gN i) u σ H Q) : gName i u σ H Q := by
  obtain ⟨m, z, e, h, v, hs, hh, r, p⟩ := t
  exact p m _ H (Nx.refl _ _ _) hh (hs.put i r) (wipe_set (by simp))
theorem tAsg_imp {te : TE} {g g' : TG} (i : ∀ v σ H Q, g' v σ H Q → g v σ H Q) (mono : ∀ σ H Q Q', (∀ v H', Q v H' → Q' v H') → te σ H Q → te σ H Q') {D : Ends} {σ : L2.St} {H : Hp} (t : tAsg te g' D σ H) : tAsg te g D σ H := mono _ _ _ _ (fun _ _ q => i _ _ _ _ q) t
theorem tE_mono {f : ME PV} {K : PySem.W.Frag} {σ : L2.St} {H : Hp} {Q Q' : VK} (i : ∀ v H', Q v H' → Q' v H') (t : tE K cs W f σ H Q) : tE K cs W f σ H Q' := by
  obtain ⟨m, z, e, h, hs, hh, p⟩ := t
  exact ⟨m, z, e, h, hs, hh, p.imp (fun _ _ _ _ _ _ q u ru => i _ _ (q u ru)) fun _ _ q => q⟩
theorem s_set {i : Nat} {x : Str} {a : Expr} {pos pos' : Pos} {f : ME PV} (hN : X.N.Nodup) (hi : X.N[i]? = some x) (hx : Loc X.env.scope x) (hf : X.fn x = true ∨ X.env.scope.names.lookup x = some .local) (ha : SE X cs W a f)
    (hs : swapsWith a (some (.Name x pos')) pos.line X.env = pure false := by rfl) : SS X cs W (.Assign [.Name x pos'] a pos) (mAsg f (gN i)) :=
  ps_imp (ps_set hN hi hx ha hs hf) fun D σ H t => tE_mono (fun _ _ q => tG_name q) (tS_asg t)
/-- a, b = x, y: local names -/
def mPar (i j : Nat) (fa : ME (List PV)) : MS := fun e h => (fa e h).toS fun vs h1 => match vs with
  | [v, w] => .nx ((e.set i (some v)).set j (some w)) h1
  | _ => .bad
theorem s_par {i j : Nat} {x y : Str} {a b : Expr} {fa : ME (List PV)} {px py pt pos : Pos} {kt k2 pt2} (hc : X.calm = true) (hN : X.N.Nodup) (hi : X.N[i]? = some x) (hj : X.N[j]? = some y) (hij : i ≠ j)
    (hx : X.env.scope.names.lookup x = some .local) (hy : X.env.scope.names.lookup y = some .local) (ha : SA X cs W [a, b] fa)
    (hw : swappedStores [.Tuple [.Name x px, .Name y py] kt pt] (.Tuple [a, b] k2 pt2) X.env = pure (some [x, y]))
    (hs : swapsWithSole [.Tuple [.Name x px, .Name y py] kt pt] (.Tuple [a, b] k2 pt2) pos.line X.env = pure false := by rfl) :
    SS X cs W (.Assign [.Tuple [.Name x px, .Name y py] kt pt] (.Tuple [a, b] k2 pt2) pos) (mPar i j fa) :=
  ps_imp (ps_par hc hN hi hj hij hx hy ha hw hs) fun D σ H ⟨m, z, e, h, hs, hh, p⟩ => tA_S hs hh p fun vs h1 m1 H1 us hs1 hh1 r1 n1 p1 => by
    split at p1
    · obtain ⟨a, b, rfl, r2, r3⟩ := rep2 r1
      exact ⟨_, _, rfl, p1.nx_ hh1 ((hs1.put i r2).put j r3)⟩
    · exact p1.elim
def mPar3 (i j l : Nat) (fa : ME (List PV)) : MS := fun e h => (fa e h).toS fun vs h1 => match vs with
  | [v, w, x] => .nx (((e.set i (some v)).set j (some w)).set l (some x)) h1
  | _ => .bad
theorem s_par3 {i j l : Nat} {x y t : Str} {a b c : Expr} {fa : ME (List PV)} {px py pz pt pos : Pos} {kt k2 pt2} (hp : ∀ ta, PA X [a, b, c] ta → PS X (.Assign [.Tuple [.Name x px, .Name y py, .Name t pz] kt pt] (.Tuple [a, b, c] k2 pt2) pos) (tPar3 i j l ta)) (ha : SA X cs W [a, b, c] fa) :
    SS X cs W (.Assign [.Tuple [.Name x px, .Name y py, .Name t pz] kt pt] (.Tuple [a, b, c] k2 pt2) pos) (mPar3 i j l fa) :=
  ps_imp (hp _ ha) fun D σ H ⟨m, z, e, h, hs, hh, p⟩ => tA_S hs hh p fun vs h1 m1 H1 us hs1 hh1 r1 n1 p1 => by
    split at p1
    · cases r1 with
      | cons q1 t1 =>
        obtain ⟨a, b, rfl, r2, r3⟩ := rep2 t1
        exact ⟨_, _, _, rfl, p1.nx_ hh1 (((hs1.put i q1).put j r2).put l r3)⟩
    · exact p1.elim
/-! ### while -/
def mWh (c : ME Bool) (b : MS) : Nat → MS
  | 0 => fun _ _ => .bad
  | n + 1 => fun e h => (c e h).toS fun k h1 => if k then (match b e h1 with
      | .nx e2 h2 => mWh c b n e2 h2
      | .ct e2 h2 => mWh c b n e2 h2
      | .bk e2 h2 => .nx e2 h2
      | o => o) else .nx e h1
theorem s_while {c : Expr} {body : List Stmt} {pos : Pos} {fc : ME Bool} {fb : MS} {n : Nat} (hp : PassesOwn (model X.prog X.w) X.A X.env X.xe) (hc : ST X cs W c fc) (hb : SB X cs W body fb) : SS X cs W (.While c body [] pos) (mWh fc fb n) :=
  ps_imp (ps_while hp hc hb) fun D σ H ⟨m, z, e, h, hs, hh, p⟩ => by
    refine ⟨fun k σ H => ∃ m e h, SRel X.K m z H e σ ∧ HRel X.K cs m z h H ∧ PoS X.K cs z W m H D (mWh fc fb k e h), ⟨n, m, e, h, hs, hh, p⟩, ?_⟩
    rintro k σ1 H1 ⟨m1, e1, h1, hs1, hh1, p1⟩
    cases k with
    | zero => exact p1.elim
    | succ k =>
      refine tT_S hs1 hh1 p1 fun b h2 m2 H2 hs2 hh2 n2 p2 => ?_
      cases b with
      | false =>
        rw [if_neg (by decide)] at p2 ⊢
        exact p2.nx_ hh2 hs2
      | true =>
        rw [if_pos rfl] at p2 ⊢
        refine ⟨fun σ' H' => ∃ m e h, SRel X.K m z H' e σ' ∧ HRel X.K cs m z h H' ∧ PoS X.K cs z W m H' D (mWh fc fb k e h), fun σ' H' w => ⟨k, Nat.lt_succ_self k, w⟩, m2, z, e1, h2, hs2, hh2, ?_⟩
        cases q : fb e1 h2 with
        | nx e3 h3 => rw [q] at p2; exact fun m' σ' H' n' hh' hs' => ⟨m', e3, h3, hs', hh', PoS.step p2 n'⟩
        | ct e3 h3 => rw [q] at p2; exact fun m' σ' H' n' hh' hs' => ⟨m', e3, h3, hs', hh', PoS.step p2 n'⟩
        | bk e3 h3 => rw [q] at p2; exact p2
        | rt e3 h3 => rw [q] at p2; exact p2
        | ex e3 h3 => rw [q] at p2; exact p2
        | bad => rw [q] at p2; exact p2
end
/-! ### x op= e -/
def mAug (i : Nat) (g : PV → PV → Cells → Out PV) (f : ME PV) : MS := fun e h => match e[i]? with
  | some (some v) => (f e h).toS fun w h1 => (g v w h1).toS fun x h2 => .nx (e.set i (some x)) h2
  | _ => .bad
section
variable {X : Cx} {cs : List Tb} {W : WX}
theorem s_aug {i : Nat} {x : Str} {a : Expr} {op : Operator} {r : R2} {g : PV → PV → Cells → Out PV} {f : ME PV} {pos pos' : Pos} (hN : X.N.Nodup) (hi : X.N[i]? = some x) (hx : Loc X.env.scope x) (hf : X.fn x = true ∨ X.env.scope.names.lookup x = some .local) (ha : SE X cs W a f)
    (ho : OpR X (inplaceOp op) r) (hb : Br X.K cs r g) : SS X cs W (.AugAssign (.Name x pos') op a pos) (mAug i g f) :=
  ps_imp (ps_aug hN hi hx ha ho hf) fun D σ H ⟨m, z, e, h, hs, hh, p⟩ => by
    unfold mAug at p
    split at p
    · rename_i v ev
      obtain ⟨u, h1, h2⟩ := hs.at_ i v ev
      refine ⟨u, h1, tE_S hs hh p fun w h1 m1 H1 u1 hs1 hh1 r1 n1 p1 => ?_⟩
      exact hb m1 z H1 h1 v w u u1 _ _ hh1 (h2.nx n1) r1 ((PoS.of (σ := σ) p1).imp (fun x h2 m2 H2 n2 hh2 q u2 ru => q.nx_ hh2 ((hs1.nx n2).put i ru)) fun _ _ q => q)
    · exact p.elim
end
end Mi

set_option Elab.async false
set_option linter.all false
set_option maxRecDepth 100000
set_option maxHeartbeats 4000000
namespace Mi
open PySem PySem.Spec PyProof.Rows L2

/-! ## equality of values, decided -/
mutual
def dbeq : PyData → PyData → Bool
  | .none, .none => true
  | .bool a, .bool b => a == b
  | .int a, .int b => a == b
  | .str a, .str b => decide (a = b)
  | .list a, .list b => dbeqs a b
  | .tuple a, .tuple b => dbeqs a b
  | _, _ => false
def dbeqs : List PyData → List PyData → Bool
  | [], [] => true
  | a :: r, b :: t => dbeq a b && dbeqs r t
  | _, _ => false
end
mutual
theorem dbeq_eq : ∀ {a b : PyData}, dbeq a b = true → a = b
  | .none, .none, _ => rfl
  | .bool a, .bool b, h => by simp [dbeq] at h; rw [h]
  | .int a, .int b, h => by simp [dbeq] at h; rw [h]
  | .str a, .str b, h => by simp [dbeq] at h; rw [h]
  | .list a, .list b, h => by simp [dbeq] at h; rw [dbeqs_eq h]
  | .tuple a, .tuple b, h => by simp [dbeq] at h; rw [dbeqs_eq h]
  | .dict _, .dict _, h => by simp [dbeq] at h
  | .none, .bool _, h | .none, .int _, h | .none, .str _, h | .none, .list _, h | .none, .tuple _, h | .none, .dict _, h => by simp [dbeq] at h
  | .bool _, .none, h | .bool _, .int _, h | .bool _, .str _, h | .bool _, .list _, h | .bool _, .tuple _, h | .bool _, .dict _, h => by simp [dbeq] at h
  | .int _, .none, h | .int _, .bool _, h | .int _, .str _, h | .int _, .list _, h | .int _, .tuple _, h | .int _, .dict _, h => by simp [dbeq] at h
  | .str _, .none, h | .str _, .bool _, h | .str _, .int _, h | .str _, .list _, h | .str _, .tuple _, h | .str _, .dict _, h => by simp [dbeq] at h
  | .list _, .none, h | .list _, .bool _, h | .list _, .int _, h | .list _, .str _, h | .list _, .tuple _, h | .list _, .dict _, h => by simp [dbeq] at h
  | .tuple _, .none, h | .tuple _, .bool _, h | .tuple _, .int _, h | .tuple _, .str _, h | .tuple _, .list _, h | .tuple _, .dict _, h => by simp [dbeq] at h
  | .dict _, .none, h | .dict _, .bool _, h | .dict _, .int _, h | .dict _, .str _, h | .dict _, .list _, h | .dict _, .tuple _, h => by simp [dbeq] at h
theorem dbeqs_eq : ∀ {a b : List PyData}, dbeqs a b = true → a = b
  | [], [], _ => rfl
  | a :: r, b :: t, h => by
    simp [dbeqs] at h
    rw [dbeq_eq h.1, dbeqs_eq h.2]
  | [], _ :: _, h => by simp [dbeqs] at h
  | _ :: _, [], h => by simp [dbeqs] at h
end
mutual
def pbeq : PV → PV → Bool
  | .d a, .d b => dbeq a b
  | .r a, .r b => a == b
  | .ls a, .ls b => pbeqs a b
  | .tp a, .tp b => pbeqs a b
  | .cl a, .cl b => a == b
  | .sc a, .sc b => decide (a = b)
  | _, _ => false
def pbeqs : List PV → List PV → Bool
  | [], [] => true
  | a :: r, b :: t => pbeq a b && pbeqs r t
  | _, _ => false
end
mutual
theorem pbeq_eq : ∀ {a b : PV}, pbeq a b = true → a = b
  | .d a, .d b, h => by simp [pbeq] at h; rw [dbeq_eq h]
  | .r a, .r b, h => by simp [pbeq] at h; rw [h]
  | .ls a, .ls b, h => by simp [pbeq] at h; rw [pbeqs_eq h]
  | .tp a, .tp b, h => by simp [pbeq] at h; rw [pbeqs_eq h]
  | .cl a, .cl b, h => by simp [pbeq] at h; rw [h]
  | .sc a, .sc b, h => by simp [pbeq] at h; rw [h]
  | .d _, .r _, h | .d _, .ls _, h | .d _, .tp _, h | .d _, .cl _, h | .d _, .sc _, h => by simp [pbeq] at h
  | .r _, .d _, h | .r _, .ls _, h | .r _, .tp _, h | .r _, .cl _, h | .r _, .sc _, h => by simp [pbeq] at h
  | .ls _, .d _, h | .ls _, .r _, h | .ls _, .tp _, h | .ls _, .cl _, h | .ls _, .sc _, h => by simp [pbeq] at h
  | .tp _, .d _, h | .tp _, .r _, h | .tp _, .ls _, h | .tp _, .cl _, h | .tp _, .sc _, h => by simp [pbeq] at h
  | .cl _, .d _, h | .cl _, .r _, h | .cl _, .ls _, h | .cl _, .tp _, h | .cl _, .sc _, h => by simp [pbeq] at h
  | .sc _, .d _, h | .sc _, .r _, h | .sc _, .ls _, h | .sc _, .tp _, h | .sc _, .cl _, h => by simp [pbeq] at h
theorem pbeqs_eq : ∀ {a b : List PV}, pbeqs a b = true → a = b
  | [], [], _ => rfl
  | a :: r, b :: t, h => by
    simp [pbeqs] at h
    rw [pbeq_eq h.1, pbeqs_eq h.2]
  | [], _ :: _, h => by simp [pbeqs] at h
  | _ :: _, [], h => by simp [pbeqs] at h
end
mutual
theorem dbeq_refl : ∀ {a : PyData}, a.canLay0 = true → dbeq a a = true
  | .none, _ => rfl
  | .bool a, _ => by simp [dbeq]
  | .int a, _ => by simp [dbeq]
  | .str a, _ => by simp [dbeq]
  | .list a, h => by simp [dbeq]; exact dbeqs_refl (by simpa [PyData.canLay0] using h)
  | .tuple a, h => by simp [dbeq]; exact dbeqs_refl (by simpa [PyData.canLay0] using h)
  | .dict a, h => by simp [PyData.canLay0] at h
theorem dbeqs_refl : ∀ {a : List PyData}, PyData.canLayAll0 a = true → dbeqs a a = true
  | [], _ => rfl
  | x :: r, h => by
    simp [PyData.canLayAll0] at h
    simp [dbeqs, dbeq_refl h.1, dbeqs_refl h.2]
end

/-! ## what is walked -/
/-- where the items come from: a cell, or cells that must stay as they were -/
inductive SR
  | one (n : Nat)
  | cells (l : List (Nat × List PV))
def isLst (h : Cells) (n : Nat) (all : List PV) : Bool := match h[n]? with
  | some (.lst xs) => pbeqs xs all
  | _ => false
theorem isLst_eq {h : Cells} {n : Nat} {all : List PV} (e : isLst h n all = true) : h[n]? = some (.lst all) := by
  unfold isLst at e
  split at e
  · rename_i xs q
    rw [q, pbeqs_eq e]
  · cases e
/-- the cell that the items come from is as it was -/
def gd (src : Option SR) (all : List PV) (h : Cells) : Bool := match src with
  | none => true
  | some (.one n) => isLst h n all
  | some (.cells l) => l.all fun p => isLst h p.1 p.2
theorem gd_some {n : Nat} {all : List PV} {h : Cells} (e : gd (some (.one n)) all h = true) : h[n]? = some (.lst all) := isLst_eq e
theorem gd_cells {l : List (Nat × List PV)} {all : List PV} {h : Cells} (e : gd (some (.cells l)) all h = true) : ∀ p ∈ l, h[p.1]? = some (.lst p.2) := fun p hp => isLst_eq (List.all_eq_true.mp e p hp)
def FrZ (H : Hp) (z z' : List Addr) : Prop := ∃ l, z' = l ++ z ∧ ∀ a ∈ l, H a = none
theorem FrZ.refl (H : Hp) (z : List Addr) : FrZ H z z := ⟨[], rfl, fun _ h => absurd h (by simp)⟩
theorem Nx.vwz {m z m' z' : List Addr} {H H' : Hp} (n : Nx m z H m' H') (f : FrZ H z z') : Vw (fz m z H) (fz m' z' H') := fun a o h nt => by
  obtain ⟨h1, h2, h3⟩ := fz_some h
  obtain ⟨l, e, nl⟩ := n.pre
  obtain ⟨k, e2, nk⟩ := f
  refine fz_of (fun q => ?_) (fun q => ?_) (n.kp a o h1 h3 nt)
  · rw [e] at q
    rcases List.mem_append.mp q with q | q
    · exact h1 q
    · rw [nl a q] at h3; cases h3
  · rw [e2] at q
    rcases List.mem_append.mp q with q | q
    · rw [nk a q] at h3; cases h3
    · exact h2 q
/-- J walks these items -/
def JOk (K : PySem.W.Frag) (cs : List Tb) (z m : List Addr) (H : Hp) (xs : List PV) (src : Option SR) (J : It) : Prop :=
  ∀ z' m' h' H', FrZ H z z' → Nx m z H m' H' → HRel K cs m' z' h' H' → gd src xs h' = true →
    (∀ i x, xs[i]? = some x → J.go i H' ∧ ∀ u H'', J.yld i H' u H'' → Nx m' z' H' m' H'' ∧ HRel K cs m' z' h' H'' ∧ Rep K m' z' H'' x u) ∧ J.stop xs.length H'
def tI (K : PySem.W.Frag) (cs : List Tb) (W : WX) (f : ME (List PV × Option SR)) : TI := fun σ H R => ∃ m z e h, SRel K m z H e σ ∧ HRel K cs m z h H ∧
  Po K cs z m H (fun p h1 m1 H1 => ∀ J, JOk K cs z m1 H1 p.1 p.2 J → R J H1) (WxE K W σ) (f e h)
abbrev SI (X : Cx) (cs : List Tb) (W : WX) (tg iter : Expr) (f : ME (List PV × Option SR)) : Prop := PI X tg iter (tI X.K cs W f)
theorem pi_imp {X : Cx} {tg e : Expr} {t t' : TI} (h : PI X tg e t) (i : ∀ σ H Q, t' σ H Q → t σ H Q) : PI X tg e t' := ⟨fun pins s σ H Q I q => h.run pins s σ H Q I (i σ H Q q)⟩
theorem pi_or {X : Cx} {tg e : Expr} {t t' : TI} (h : PI X tg e t) (h' : PI X tg e t') : PI X tg e (fun σ H R => t σ H R ∨ t' σ H R) := ⟨fun pins s σ H Q I q => q.elim (h.run pins s σ H Q I) (h'.run pins s σ H Q I)⟩
/-- a list or a tuple -/
def iSeq (f : ME PV) : ME (List PV × Option SR) := fun e h => (f e h).bind fun v h1 => match v with
  | .r n => match h1[n]? with
    | some (.lst xs) => .ok (xs, some (.one n)) h1
    | _ => .bad
  | v => match asL v h1 with
    | some xs => .ok (xs, none) h1
    | none => .bad
def iTp (f : ME PV) : ME (List PV × Option SR) := fun e h => (f e h).bind fun v h1 => match asT v with
  | some xs => .ok (xs, none) h1
  | none => .bad
section
variable {K : PySem.W.Frag} {cs : List Tb} {z m : List Addr} {H : Hp} {xs : List PV} {vs : List V} {a : Addr}
theorem jok_fz (hq : fz m z H a = some (.lst vs)) (t : RepAll K m z H xs vs) : JOk K cs z m H xs none (Itl K a) := fun z' m' h' H' f n hh _ => by
  have hv := n.vwz f
  have h1 := hv _ _ hq noTb_lst
  have h2 : SqL K H' a vs := .inl (.inl (fz_some h1).2.2)
  have t' := Rep.vwAll hv (fun _ _ q => n.get q) t
  refine ⟨fun i x hx => ?_, vs, h2, by rw [t.length]; exact Nat.le_refl _⟩
  obtain ⟨u, e1, r1⟩ := t'.get hx
  refine ⟨⟨vs, u, h2, e1⟩, fun w H'' ⟨e, hw⟩ => ?_⟩
  subst e
  have e3 := hw vs h2
  rw [e1] at e3
  obtain rfl := Option.some.inj e3
  exact ⟨Nx.refl _ _ _, hh, r1⟩
theorem jok_tup (hq : SqT K (fz m z H) a vs) (t : RepAll K m z H xs vs) : JOk K cs z m H xs none (Itt K a) := fun z' m' h' H' f n hh _ => by
  have hv := n.vwz f
  have h2 : SqT K H' a vs := SqT.top (SqT.vw hq hv)
  have t' := Rep.vwAll hv (fun _ _ q => n.get q) t
  refine ⟨fun i x hx => ?_, vs, h2, by rw [t.length]; exact Nat.le_refl _⟩
  obtain ⟨u, e1, r1⟩ := t'.get hx
  refine ⟨⟨vs, u, h2, e1⟩, fun w H'' ⟨e, hw⟩ => ?_⟩
  subst e
  have e3 := hw vs h2
  rw [e1] at e3
  obtain rfl := Option.some.inj e3
  exact ⟨Nx.refl _ _ _, hh, r1⟩
theorem jok_cell {n : Nat} (hn : m[n]? = some a) : JOk K cs z m H xs (some (.one n)) (Itl K a) := fun z' m' h' H' f nx hh g => by
  have e := gd_some g
  obtain ⟨b, h1, ws, h2, t⟩ := hh.get e
  rw [nx.get hn] at h1
  obtain rfl := Option.some.inj h1
  have h3 : SqL K H' a ws := .inl (.inl h2)
  refine ⟨fun i x hx => ?_, ws, h3, by rw [t.length]; exact Nat.le_refl _⟩
  obtain ⟨u, e1, r1⟩ := t.get hx
  refine ⟨⟨ws, u, h3, e1⟩, fun w H'' ⟨e, hw⟩ => ?_⟩
  subst e
  have e3 := hw ws h3
  rw [e1] at e3
  obtain rfl := Option.some.inj e3
  exact ⟨Nx.refl _ _ _, hh, r1⟩
theorem jok_range {lo : Int} {n : Nat} : JOk K cs z m H ((List.range n).map fun (i : Nat) => PV.d (.int (lo + (i : Int)))) none (Itr lo n) := fun z' m' h' H' f nx hh g => by
  refine ⟨fun i x hx => ?_, by show n ≤ _; simp⟩
  rw [List.getElem?_map] at hx
  cases e : (List.range n)[i]? with
  | none => rw [e] at hx; cases hx
  | some j =>
    obtain ⟨hl, ej⟩ := List.getElem?_eq_some_iff.mp e
    rw [List.getElem_range] at ej
    subst ej
    rw [e] at hx
    obtain rfl := Option.some.inj hx
    refine ⟨by show i < n; simpa using hl, fun u H'' ⟨e1, e2⟩ => ?_⟩
    subst e1 e2
    exact ⟨Nx.refl _ _ _, hh, rI_ _⟩
end
section
variable {X : Cx} {cs : List Tb} {W : WX} {tg : Expr}
theorem i_list {l : Expr} {f : ME PV} (hl : SE X cs W l f) : SI X cs W tg l (iSeq f) := pi_imp (pi_list hl) fun σ H R ⟨m, z, e, h, hs, hh, p⟩ => tE_then hs hh p fun v h1 m1 H1 u hs1 hh1 r1 n1 p1 => by
  split at p1
  · rename_i n
    split at p1
    · rename_i xs ex
      cases r1 with
      | r hn =>
        rename_i a
        obtain ⟨b, h2, ws, h3, t⟩ := hh1.get ex
        rw [hn] at h2
        obtain rfl := Option.some.inj h2
        exact ⟨a, rfl, ⟨ws, .inl (.inl h3)⟩, p1.here hh1 _ (jok_cell hn)⟩
    · exact p1.elim
  · split at p1
    · rename_i hnr _ xs ex
      cases r1 with
      | d hd c =>
        cases hd with
        | lst hq ha =>
          obtain rfl := Option.some.inj ex
          exact ⟨_, rfl, ⟨_, .inl (.inl (fz_some hq).2.2)⟩, p1.here hh1 _ (jok_fz hq (RepAll.of_dp ha (by simpa [PyData.canLay0] using c)))⟩
        | _ => simp [asL] at ex
      | r hn => exact absurd rfl (hnr _)
      | ls hq t =>
        obtain rfl := Option.some.inj ex
        exact ⟨_, rfl, ⟨_, .inl (.inl (fz_some hq).2.2)⟩, p1.here hh1 _ (jok_fz hq t)⟩
      | tp hq t => simp [asL] at ex
      | sc hq => simp [asL] at ex
    · exact p1.elim
theorem i_tup {l : Expr} {f : ME PV} (hl : SE X cs W l f) : SI X cs W tg l (iTp f) := pi_imp (pi_tup hl) fun σ H R ⟨m, z, e, h, hs, hh, p⟩ => tE_then hs hh p fun v h1 m1 H1 u hs1 hh1 r1 n1 p1 => by
  split at p1
  · rename_i xs ex
    obtain ⟨a, ws, rfl, q1, t1⟩ := asT_rep r1 ex
    exact ⟨_, rfl, ⟨_, SqT.top q1⟩, p1.here hh1 _ (jok_tup q1 t1)⟩
  · exact p1.elim
/-- whichever it is -/
def iBoth (f g : ME (List PV × Option SR)) : ME (List PV × Option SR) := fun e h => match f e h with
  | .bad => g e h
  | o => o
theorem i_or {l : Expr} {f g : ME (List PV × Option SR)} (h1 : SI X cs W tg l f) (h2 : SI X cs W tg l g) : SI X cs W tg l (iBoth f g) := pi_imp (pi_or h1 h2) fun σ H R ⟨m, z, e, h, hs, hh, p⟩ => by
  unfold iBoth at p
  split at p
  · exact .inr ⟨m, z, e, h, hs, hh, p⟩
  · exact .inl ⟨m, z, e, h, hs, hh, p⟩
/-- range(n), range(a, b) -/
def smallR (i : Int) : Bool := decide (-(2 ^ 62) ≤ i) && decide (i < 2 ^ 62)
def rngL (lo : Int) (n : Nat) : List PV := (List.range n).map fun (i : Nat) => PV.d (.int (lo + (i : Int)))
def iRange1 (g : ME (List PV)) : ME (List PV × Option SR) := fun e h => (g e h).bind fun vs h1 => match vs with
  | [.d (.int j)] => if smallR j then .ok (rngL 0 j.toNat, none) h1 else .bad
  | _ => .bad
def iRange2 (g : ME (List PV)) : ME (List PV × Option SR) := fun e h => (g e h).bind fun vs h1 => match vs with
  | [.d (.int i), .d (.int j)] => if smallR i && smallR j then .ok (rngL i (j - i).toNat, none) h1 else .bad
  | _ => .bad
theorem i_range1 {a : Expr} {g : ME (List PV)} {p pos : Pos} (hg : Gl X "range") (hm : X.mg "range" = none) (ha : SA X cs W [a] g) (hs : starEach [a] X.env = [(false, eval a X.env)] := by rfl) : SI X cs W tg (.Call (.Name "range" p) [a] [] pos) (iRange1 g) :=
  pi_imp (pi_range1 hg hm ha hs) fun σ H R ⟨m, z, e, h, hs, hh, p⟩ => tA_then hs hh p fun vs h1 m1 H1 us hs1 hh1 r1 n1 p1 => by
    split at p1
    · obtain ⟨u, rfl, r2⟩ := rep1 r1
      split at p1
      · rename_i j hz
        unfold smallR at hz
        simp only [Bool.and_eq_true, decide_eq_true_eq] at hz
        rw [rep_int r2]
        exact ⟨_, rfl, hz.1, hz.2, p1.here hh1 _ jok_range⟩
      · exact p1.elim
    · exact p1.elim
theorem i_range2 {a b : Expr} {g : ME (List PV)} {p pos : Pos} (hg : Gl X "range") (hm : X.mg "range" = none) (ha : SA X cs W [a, b] g) (hs : starEach [a, b] X.env = [(false, eval a X.env), (false, eval b X.env)] := by rfl) (hs2 : starEach [b] X.env = [(false, eval b X.env)] := by rfl) : SI X cs W tg (.Call (.Name "range" p) [a, b] [] pos) (iRange2 g) :=
  pi_imp (pi_range2 hg hm ha hs hs2) fun σ H R ⟨m, z, e, h, hs, hh, p⟩ => tA_then hs hh p fun vs h1 m1 H1 us hs1 hh1 r1 n1 p1 => by
    split at p1
    · obtain ⟨u, u2, rfl, r2, r3⟩ := rep2 r1
      split at p1
      · rename_i hz
        unfold smallR at hz
        simp only [Bool.and_eq_true, decide_eq_true_eq] at hz
        rw [rep_int r2, rep_int r3]
        exact ⟨_, _, rfl, ⟨hz.1.1, hz.1.2, hz.2.1, hz.2.2⟩, p1.here hh1 _ jok_range⟩
      · exact p1.elim
    · exact p1.elim
/-! ### for -/
def forL (g : MG) (b : MS) (src : Option SR) (all : List PV) : List PV → MS
  | [] => fun e h => if gd src all h then .nx e h else .bad
  | x :: r => fun e h => if gd src all h then (match g x e h with
      | some (e1, h1) => match b e1 h1 with
        | .nx e2 h2 => forL g b src all r e2 h2
        | .ct e2 h2 => forL g b src all r e2 h2
        | .bk e2 h2 => .nx e2 h2
        | o => o
      | none => .bad) else .bad
def mFor (fi : ME (List PV × Option SR)) (g : MG) (b : MS) : MS := fun e h => (fi e h).toS fun p h1 => forL g b p.2 p.1 p.1 e h1
theorem s_for {vs : List Nat} {iter : Expr} {body : List Stmt} {pos : Pos} {fi : ME (List PV × Option SR)} {g : MG} {fb : MS} (hp : PassesOwn (model X.prog X.w) X.A X.env X.xe) (hc : X.calm = true) (hi : SI X cs W tg iter fi) (hg : SG X cs vs tg g) (hb : SB X cs W body fb)
    (hs : ∀ x, foldedSetIterable iter X.env x = pure x := by intro _; rfl) : SS X cs W (.For tg iter body [] pos) (mFor fi g fb) :=
  ps_imp (ps_for hp hc hi hg hb hs) fun D σ H ⟨m, z, e, h, hs, hh, p⟩ => by
    refine ⟨m, z, e, h, hs, hh, (PoS.of (σ := σ) p).imp (fun p1 h1 m1 H1 n1 hh1 q J hJ => ?_) fun _ _ q => q⟩
    obtain ⟨xs, src⟩ := p1
    refine ⟨fun i k σ' H' => k = xs.length - i ∧ i ≤ xs.length ∧ ∃ m2 e2 h2, SRel X.K m2 z H' e2 σ' ∧ HRel X.K cs m2 z h2 H' ∧ Nx m1 z H1 m2 H' ∧ PoS X.K cs z W m2 H' D (forL g fb src xs (xs.drop i) e2 h2), ⟨xs.length, by omega, Nat.zero_le _, m1, e, h1, hs.nx n1, hh1, Nx.refl _ _ _, by simpa using q⟩, ?_⟩
    rintro i k σ2 H2 ⟨rfl, hle, m2, e2, h2, hs2, hh2, n2, p2⟩
    by_cases hlt : i < xs.length
    · have ex : xs[i]? = some xs[i] := List.getElem?_eq_getElem hlt
      rw [List.drop_eq_getElem_cons hlt] at p2
      unfold forL at p2
      split at p2
      · rename_i hgd
        obtain ⟨hJ1, hJ2⟩ := hJ z m2 h2 H2 (FrZ.refl _ _) n2 hh2 hgd
        obtain ⟨go, yl⟩ := hJ1 i _ ex
        refine .inr ⟨go, fun σ' H' => ∃ m3 e3 h3, SRel X.K m3 z H' e3 σ' ∧ HRel X.K cs m3 z h3 H' ∧ Nx m1 z H1 m3 H' ∧ PoS X.K cs z W m3 H' D (forL g fb src xs (xs.drop (i + 1)) e3 h3), fun σ' H' w => ⟨xs.length - (i + 1), by omega, rfl, hlt, w⟩, fun u H3 hy => ?_⟩
        obtain ⟨n3, hh3, r3⟩ := yl u H3 hy
        refine ⟨m2, z, e2, h2, xs[i], hs2.nx n3, hh3, r3, ?_⟩
        cases q : g xs[i] e2 h2 with
        | none => rw [q] at p2; exact p2.elim
        | some q' =>
          obtain ⟨e4, h4⟩ := q'
          rw [q] at p2
          simp only at p2 ⊢
          intro m4 σ4 H4 n4 hh4 hs4 _
          refine ⟨m4, z, e4, h4, hs4, hh4, ?_⟩
          have n14 := n2.trans (n3.trans n4)
          have n24 := n3.trans n4
          cases q2 : fb e4 h4 with
          | nx e5 h5 => rw [q2] at p2; exact fun m' σ' H' n' hh' hs' => ⟨m', e5, h5, hs', hh', n14.trans n', PoS.step p2 (n24.trans n')⟩
          | ct e5 h5 => rw [q2] at p2; exact fun m' σ' H' n' hh' hs' => ⟨m', e5, h5, hs', hh', n14.trans n', PoS.step p2 (n24.trans n')⟩
          | bk e5 h5 => rw [q2] at p2; exact PoS.step (o := .nx e5 h5) p2 n24
          | rt e5 h5 => rw [q2] at p2; exact PoS.step (o := .rt e5 h5) p2 n24
          | ex e5 h5 => rw [q2] at p2; exact PoS.step (o := .ex e5 h5) p2 n24
          | bad => rw [q2] at p2; exact p2
      · exact p2.elim
    · have ei : i = xs.length := by omega
      subst ei
      rw [List.drop_length] at p2
      unfold forL at p2
      split at p2
      · rename_i hgd
        exact .inl ⟨(hJ z m2 h2 H2 (FrZ.refl _ _) n2 hh2 hgd).2, p2.nx_ hh2 hs2⟩
      · exact p2.elim
end
end Mi

set_option Elab.async false
set_option linter.all false
set_option maxRecDepth 100000
set_option maxHeartbeats 4000000
namespace Mi
open PySem PySem.Spec PyProof.Rows L2

/-! ## comprehensions -/
/-- no exception is looked for -/
def Out.calm {α β : Type} (o : Out α) (g : α → Cells → Out β) : Out β := match o with
  | .ok a h => g a h
  | _ => .bad
abbrev W0 : WX := fun _ _ _ _ => False
def wipeE (e : Sl) : List Nat → Sl
  | [] => e
  | v :: vs => (wipeE e vs).set v none
theorem wipeE_length (e : Sl) : ∀ vs : List Nat, (wipeE e vs).length = e.length
  | [] => rfl
  | v :: vs => by unfold wipeE; rw [List.length_set, wipeE_length e vs]
theorem wipeE_some {e : Sl} {i : Nat} {x : PV} : ∀ {vs : List Nat}, (wipeE e vs)[i]? = some (some x) → e[i]? = some (some x) ∧ i ∉ vs
  | [], h => ⟨h, by simp⟩
  | v :: vs, h => by
    unfold wipeE at h
    by_cases hi : v = i
    · subst hi
      by_cases hv : v < (wipeE e vs).length
      · rw [List.getElem?_set_self hv] at h; cases h
      · rw [List.getElem?_eq_none (by simpa using hv)] at h; cases h
    · rw [List.getElem?_set_ne hi] at h
      obtain ⟨h1, h2⟩ := wipeE_some h
      exact ⟨h1, by simp only [List.mem_cons, not_or]; exact ⟨fun q => hi q.symm, h2⟩⟩
theorem SRel.wipe {K : PySem.W.Frag} {m z : List Addr} {H : Hp} {e : Sl} {σ : L2.St} (s : SRel K m z H e σ) (vs : List Nat) : SRel K m z H (wipeE e vs) (wipe σ vs) := by
  refine ⟨by rw [wipeE_length, wipe_length, s.len], fun i p h => ?_⟩
  obtain ⟨h1, h2⟩ := wipeE_some h
  obtain ⟨v, h3, h4⟩ := s.at_ i p h1
  exact ⟨v, by rw [wipe_at, if_neg h2]; exact h3, h4⟩
theorem wipe_wipe (σ : L2.St) (vs : List Nat) : wipe (wipe σ vs) vs = wipe σ vs := by
  refine List.ext_getElem? fun j => ?_
  rw [wipe_at, wipe_at]
  by_cases hm : j ∈ vs
  · rw [if_pos hm, if_pos hm]
    cases σ[j]? <;> rfl
  · rw [if_neg hm, if_neg hm]
theorem SRel.vw {K : PySem.W.Frag} {m z m' z' : List Addr} {H H' : Hp} {e : Sl} {σ : L2.St} (s : SRel K m z H e σ) (w : Vw (fz m z H) (fz m' z' H')) (g : ∀ (i : Nat) (a : Addr), m[i]? = some a → m'[i]? = some a) : SRel K m' z' H' e σ :=
  ⟨s.len, fun i p h => let ⟨v, h1, h2⟩ := s.at_ i p h; ⟨v, h1, Rep.vw w g h2⟩⟩
theorem ORep.vw {K : PySem.W.Frag} {m z m' z' : List Addr} {H H' : Hp} {a : Addr} {o : AO} (h : ORep K m z H a o) (w : Vw (fz m z H) (fz m' z' H')) (g : ∀ (i : Nat) (a : Addr), m[i]? = some a → m'[i]? = some a) (e : H' a = H a) : ORep K m' z' H' a o := by
  cases o with
  | lst xs => obtain ⟨vs, h1, h2⟩ := h; exact ⟨vs, e.trans h1, Rep.vwAll w g h2⟩
  | dk kvs => obtain ⟨vs, h1, h2, h3⟩ := h; exact ⟨vs, e.trans h1, h2, Rep.vwAll w g h3⟩
  | dt kvs => obtain ⟨vs, h1, h2, h3⟩ := h; exact ⟨vs, e.trans h1, h2, Rep.vwAll w g h3⟩
  | ins c fs => obtain ⟨dx, vs, h1, h2, h3⟩ := h; exact ⟨dx, vs, e.trans h1, h2, Rep.vwAll w g h3⟩
section
variable {K : PySem.W.Frag} {cs : List Tb} {m z : List Addr} {h : Cells} {H : Hp} {D : Addr} {o : HO}
/-- a new object that is not to be seen -/
theorem vw_hide (hn : H D = none) : Vw (fz m z H) (fz m (D :: z) (upd H D o)) := fun a u q _ => by
  obtain ⟨h1, h2, h3⟩ := fz_some q
  have ne : a ≠ D := ne_of_none h3 hn
  exact fz_of h1 (by simp [ne, h2]) (by rw [upd_ne ne]; exact h3)
theorem HRel.hide (r : HRel K cs m z h H) (hn : H D = none) : HRel K cs m (D :: z) h (upd H D o) where
  len := r.len
  nd := r.nd
  dz := fun a ha q => by
    rcases List.mem_cons.mp q with e | q
    · exact (r.nm hn).1 (e ▸ ha)
    · exact r.dz a ha q
  lv := fun a q => by
    by_cases e : a = D
    · rw [e, upd_same]; simp
    · rw [upd_ne e]
      refine r.lv a (q.imp_right fun q => ?_)
      rcases List.mem_cons.mp q with q | q
      · exact absurd q e
      · exact q
  obj := fun n u a h1 h2 => (r.obj n u a h1 h2).vw (vw_hide hn) (fun _ _ q => q) (upd_ne (fun e => (r.nm hn).1 (e ▸ List.mem_of_getElem? h2)))
  tb := fun t ht => (r.tb t ht).new hn
  tm := r.tm
/-- it changes -/
theorem vw_hid : Vw (fz m (D :: z) H) (fz m (D :: z) (upd H D o)) := fun a u q _ => by
  obtain ⟨h1, h2, h3⟩ := fz_some q
  have ne : a ≠ D := fun e => h2 (by simp [e])
  exact fz_of h1 h2 (by rw [upd_ne ne]; exact h3)
theorem HRel.hid (r : HRel K cs m (D :: z) h H) {xs : List V} (hD : H D = some (.lst xs)) : HRel K cs m (D :: z) h (upd H D o) where
  len := r.len
  nd := r.nd
  dz := r.dz
  lv := fun a q => by
    by_cases e : a = D
    · rw [e, upd_same]; simp
    · rw [upd_ne e]; exact r.lv a q
  obj := fun n u a h1 h2 => (r.obj n u a h1 h2).vw vw_hid (fun _ _ q => q) (upd_ne (fun e => r.dz a (List.mem_of_getElem? h2) (by simp [e])))
  tb := fun t ht => by
    obtain ⟨ps, h1, h2, h3⟩ := r.tb t ht
    refine ⟨ps, ?_, h2, fun pos cv hp hc => ?_⟩
    · rw [upd_ne (fun (e : t.P = D) => by rw [e, hD] at h1; cases h1)]; exact h1
    · obtain ⟨c, e1, e2⟩ := h3 pos cv hp hc
      refine ⟨c, e1, ?_⟩
      rw [upd_ne (fun (e : c = D) => by rw [e, hD] at e2; exact codeO_lst (Option.some.inj e2).symm)]; exact e2
  tm := r.tm
/-- it is seen -/
theorem vw_show : Vw (fz m (D :: z) H) (fz m z H) := fun a u q _ => by
  obtain ⟨h1, h2, h3⟩ := fz_some q
  exact fz_of h1 (fun x => h2 (by simp [x])) h3
theorem HRel.show (r : HRel K cs m (D :: z) h H) : HRel K cs m z h H where
  len := r.len
  nd := r.nd
  dz := fun a ha q => r.dz a ha (by simp [q])
  lv := fun a q => r.lv a (q.imp_right fun q => by simp [q])
  obj := fun n u a h1 h2 => (r.obj n u a h1 h2).vw vw_show (fun _ _ q => q) rfl
  tb := r.tb
  tm := r.tm
theorem Nx.hid {m' : List Addr} {H' : Hp} (n : Nx m z H m' H') (hD : H D = none) : Nx m z H m' (upd H' D o) :=
  ⟨n.pre, fun a u ha q nt => by rw [upd_ne (ne_of_none q hD)]; exact n.kp a u ha q nt, fun a q => by
    by_cases e : a = D
    · rw [e, upd_same]; simp
    · rw [upd_ne e]; exact n.lv a q⟩
end
theorem Nx.zz {m z z' m' : List Addr} {H H' : Hp} (n : Nx m z H m' H') : Nx m z' H m' H' := ⟨n.pre, n.kp, n.lv⟩
def lcL (g : MG) (t : ME Bool) (fe : ME PV) (src : Option SR) (all : List PV) (e : Sl) : List PV → Cells → List PV → Out PV
  | [], h, acc => if gd src all h then .ok (mkL acc) h else .bad
  | x :: r, h, acc => if gd src all h then (match g x e h with
      | some (e1, h1) => (t e1 h1).calm fun b h2 => if b then ((fe e1 h2).calm fun y h3 => if acc.length < sizeLine then lcL g t fe src all e r h3 (acc ++ [y]) else .bad) else lcL g t fe src all e r h2 acc
      | none => .bad) else .bad
def mLc (fi : ME (List PV × Option SR)) (g : MG) (t : ME Bool) (fe : ME PV) (vs : List Nat) : ME PV := fun e h => (fi e h).bind fun p h1 => lcL g t fe p.2 p.1 (wipeE e vs) p.1 h1 []
def mYes : ME Bool := fun _ h => .ok true h
section
variable {X : Cx} {cs : List Tb} {W : WX} {tg : Expr}
abbrev STs (X : Cx) (cs : List Tb) (W : WX) (es : List Expr) (f : ME Bool) : Prop := PTs X es (tT X.K cs W f)
theorem pts_imp {es : List Expr} {t t' : TT} (h : PTs X es t) (i : ∀ σ H Q, t' σ H Q → t σ H Q) : PTs X es t' := ⟨fun pins s σ H Q I q => h.run pins s σ H Q I (i σ H Q q)⟩
theorem ts_nil : STs X cs W [] mYes := pts_imp pts_nil fun σ H Q ⟨m, z, e, h, hs, hh, p⟩ => p.here hh
theorem ts_one {c : Expr} {f : ME Bool} (h : ST X cs W c f) : STs X cs W [c] f := pts_one h
theorem tE_lc {K : PySem.W.Frag} {fi : ME (List PV × Option SR)} {g : MG} {t : ME Bool} {fe : ME PV} {vs : List Nat} {σ : L2.St} {H : Hp} {Q : VK} (tt : tE K cs W (mLc fi g t fe vs) σ H Q) :
    tLc (tI K cs W fi) (tG K cs vs g) (tT K cs W0 t) (tE K cs W0 fe) vs σ H Q := by
  obtain ⟨m, z, e, h, hs, hh, p⟩ := tt
  refine ⟨m, z, e, h, hs, hh, p.bind.imp (fun pp h1 m1 H1 n1 hh1 q J hJ D hD => ?_) fun _ _ q => q⟩
  obtain ⟨xs, src⟩ := pp
  have hs1 := hs.nx n1
  refine ⟨fun i k H' => k = xs.length - i ∧ i ≤ xs.length ∧ ∃ m2 h2 acc ws, HRel K cs m2 (D :: z) h2 H' ∧ H' D = some (.lst ws) ∧ RepAll K m2 (D :: z) H' acc ws ∧ Nx m1 z H1 m2 H' ∧
      Po K cs z m1 H1 (RxE K z Q) (WxE K W σ) (lcL g t fe src xs (wipeE e vs) (xs.drop i) h2 acc), ⟨xs.length, by omega, Nat.zero_le _, m1, h1, [], [], hh1.hide hD, upd_same, .nil, Nx.new hD, by simpa using q⟩, ?_⟩
  rintro i k H2 ⟨rfl, hle, m2, h2, acc, ws, hh2, hDw, ra, n2, p2⟩
  have fz2 : FrZ H1 z (D :: z) := ⟨[D], rfl, fun a ha => by rw [List.mem_singleton.mp ha]; exact hD⟩
  have hs2 : SRel K m2 (D :: z) H2 (wipeE e vs) (wipe σ vs) := (hs1.wipe vs).vw (n2.vwz fz2) (fun _ _ q => n2.get q)
  by_cases hlt : i < xs.length
  · have ex : xs[i]? = some xs[i] := List.getElem?_eq_getElem hlt
    rw [List.drop_eq_getElem_cons hlt] at p2
    unfold lcL at p2
    split at p2
    · rename_i hgd
      obtain ⟨hJ1, hJ2⟩ := hJ (D :: z) m2 h2 H2 fz2 n2 hh2 hgd
      obtain ⟨go, yl⟩ := hJ1 i _ ex
      refine .inr ⟨go, fun H' => ∃ m3 h3 acc3 ws3, HRel K cs m3 (D :: z) h3 H' ∧ H' D = some (.lst ws3) ∧ RepAll K m3 (D :: z) H' acc3 ws3 ∧ Nx m1 z H1 m3 H' ∧
        Po K cs z m1 H1 (RxE K z Q) (WxE K W σ) (lcL g t fe src xs (wipeE e vs) (xs.drop (i + 1)) h3 acc3), fun H' w => ⟨xs.length - (i + 1), by omega, rfl, hlt, w⟩, fun u H3 hy => ?_⟩
      obtain ⟨n3, hh3, r3⟩ := yl u H3 hy
      have hDm : ∀ {m' : List Addr} {h' : Cells} {H' : Hp}, HRel K cs m' (D :: z) h' H' → D ∉ m' := fun r q => r.dz D q (by simp)
      have hD3 : H3 D = some (.lst ws) := n3.kp D _ (hDm hh2) hDw noTb_lst
      refine ⟨m2, D :: z, wipeE e vs, h2, xs[i], hs2.nx n3, hh3, r3, ?_⟩
      cases qg : g xs[i] (wipeE e vs) h2 with
      | none => rw [qg] at p2; exact p2.elim
      | some q' =>
        obtain ⟨e4, h4⟩ := q'
        rw [qg] at p2
        simp only at p2 ⊢
        intro m4 σ4 H4 n4 hh4 hs4 hw
        refine ⟨hw.trans (wipe_wipe σ vs), m4, D :: z, e4, h4, hs4, hh4, ?_⟩
        have n24 := n3.trans n4
        cases qt : t e4 h4 with
        | bad => rw [qt] at p2; exact p2.elim
        | ex c h5 => rw [qt] at p2; exact p2.elim
        | ok b h5 =>
          rw [qt] at p2
          intro m5 H5 n5 hh5
          have n25 := n24.trans n5
          cases b with
          | false =>
            simp only [Out.calm, Bool.false_eq_true, if_false] at p2 ⊢
            exact ⟨m5, h5, acc, ws, hh5, n25.kp D _ (hDm hh2) hDw noTb_lst, ra.nx n25, n2.trans n25.zz, p2⟩
          | true =>
            simp only [Out.calm, if_true] at p2 ⊢
            refine ⟨m5, D :: z, e4, h5, hs4.nx n5, hh5, ?_⟩
            cases qe : fe e4 h5 with
            | bad => rw [qe] at p2; exact p2.elim
            | ex c h6 => rw [qe] at p2; exact p2.elim
            | ok y h6 =>
              rw [qe] at p2
              simp only at p2
              split at p2
              · rename_i hz
                intro m6 H6 n6 hh6 u6 r6
                have n26 := n25.trans n6
                have hD6 : H6 D = some (.lst ws) := n26.kp D _ (hDm hh2) hDw noTb_lst
                rw [ra.length] at hz
                refine ⟨ws, hD6, hz, m6, h6, acc ++ [y], ws ++ [u6], hh6.hid hD6, upd_same, ?_, (n2.trans n26.zz).hid hD, p2⟩
                exact Rep.vwAll vw_hid (fun _ _ q => q) ((ra.nx n26).append (.cons r6 .nil))
              · exact p2.elim
    · exact p2.elim
  · have ei : i = xs.length := by omega
    subst ei
    rw [List.drop_length] at p2
    unfold lcL at p2
    split at p2
    · rename_i hgd
      refine .inl ⟨(hJ (D :: z) m2 h2 H2 fz2 n2 hh2 hgd).2, p2 m2 H2 n2 hh2.show _ ?_⟩
      have hf : fz m2 z H2 D = some (.lst ws) := fz_of (fun q => hh2.dz D q (by simp)) (fun q => hh1.lv D (.inr q) hD) hDw
      have ra' := Rep.vwAll (vw_show (D := D)) (fun _ _ q => q) ra
      unfold mkL
      cases ea : allD acc with
      | none => exact .ls hf ra'
      | some ds =>
        rw [of_allD ea] at ra'
        obtain ⟨h3, h4⟩ := ra'.dp
        exact .d (.lst hf h3) (by simpa [PyData.canLay0] using h4)
    · exact p2.elim
theorem s_lc {elt iter : Expr} {ifs : List Expr} {scope : Scope} {own : List (Str × Nat)} {pos : Pos} {fi : ME (List PV × Option SR)} {g : MG} {t : ME Bool} {fe : ME PV} (hc : X.calm = true) (hN : X.N.Nodup) (hi : SI X cs W tg iter fi) (ok : BlkOk X.N X.env.scope scope own)
    (hg : ∀ (s : Shared) (H : Hp) (C : Addr) (cl : List (Str × Addr)) (fp : List Addr), SG (X.blk s H scope (compEnvC scope cl C X.env) fp) cs (own.map (·.2)) tg g) (ht : ∀ (s : Shared) (H : Hp) (C : Addr) (cl : List (Str × Addr)) (fp : List Addr), STs (X.blk s H scope (compEnvC scope cl C X.env) fp) cs W0 ifs t)
    (he : ∀ (s : Shared) (H : Hp) (C : Addr) (cl : List (Str × Addr)) (fp : List Addr), SE (X.blk s H scope (compEnvC scope cl C X.env) fp) cs W0 elt fe) (hs : ∀ x, foldedSetIterable iter X.env x = pure x := by intro _; rfl) :
    SE X cs W (.ListComp elt [⟨tg, iter, ifs, 0⟩] scope pos) (mLc fi g t fe (own.map (·.2))) := pe_imp (pe_lc hc hN hi ok hg ht he hs) fun _ _ _ => tE_lc
theorem s_setLc {i : Nat} {y : Str} {py : Pos} {elt iter : Expr} {ifs : List Expr} {scope : Scope} {own : List (Str × Nat)} {pos spos : Pos} {fi : ME (List PV × Option SR)} {g : MG} {t : ME Bool} {fe : ME PV} (hc : X.calm = true) (hN : X.N.Nodup) (hy : X.N[i]? = some y) (hyl : X.env.scope.names.lookup y = some .local)
    (hsw : swapsWith (.ListComp elt [⟨tg, iter, ifs, 0⟩] scope pos) (some (.Name y py)) spos.line X.env = pure true) (hi : SI X cs W tg iter fi) (ok : BlkOk X.N X.env.scope scope own)
    (hg : ∀ (s : Shared) (H : Hp) (C : Addr) (cl : List (Str × Addr)) (fp : List Addr), SG (X.blk s H scope (compEnvC scope cl C X.env) fp) cs (own.map (·.2)) tg g) (ht : ∀ (s : Shared) (H : Hp) (C : Addr) (cl : List (Str × Addr)) (fp : List Addr), STs (X.blk s H scope (compEnvC scope cl C X.env) fp) cs W0 ifs t)
    (he : ∀ (s : Shared) (H : Hp) (C : Addr) (cl : List (Str × Addr)) (fp : List Addr), SE (X.blk s H scope (compEnvC scope cl C X.env) fp) cs W0 elt fe) (hs : ∀ x, foldedSetIterable iter X.env x = pure x := by intro _; rfl) :
    SS X cs W (.Assign [.Name y py] (.ListComp elt [⟨tg, iter, ifs, 0⟩] scope pos) spos) (mAsg (mLc fi g t fe (own.map (·.2))) (gN i)) :=
  ps_imp (ps_setLc hc hN hy hyl hsw hi ok hg ht he hs) fun D σ H tt => by
    have h1 := tE_mono (Q' := fun x H1 => gName i x σ H1 D.nx) (fun _ _ q => tG_name q) (tS_asg tt)
    exact tE_lc h1
end
end Mi

set_option Elab.async false
set_option linter.all false
set_option maxRecDepth 100000
set_option maxHeartbeats 4000000
namespace Mi
open PySem PySem.Spec PyProof.Rows L2

/-! ## defs -/
abbrev MF := List PV → Cells → Out PV
def spF (K : PySem.W.Frag) (cs : List Tb) (np : Nat) (f : MF) : Sp := fun vs H Q E => vs.length = np ∧ ∃ m z h ps, RepAll K m z H ps vs ∧ HRel K cs m z h H ∧ Po K cs z m H (RxE K z Q) (fun c H' => E (.ref (He.ga K c)) none H') (f ps h)
/-- a body as a function: n slots -/
def runF (n : Nat) (b : MS) : MF := fun ps h => match b (ps.map some ++ List.replicate (n - ps.length) none) h with
  | .nx _ h1 => .ok (.d .none) h1
  | .rt v h1 => .ok v h1
  | .ex c h1 => .ex c h1
  | _ => .bad
theorem srel_start {K : PySem.W.Frag} {m z : List Addr} {H : Hp} {ps : List PV} {vs : List V} {N : List Str} (r : RepAll K m z H ps vs) : SRel K m z H (ps.map some ++ List.replicate (N.length - ps.length) none) (L2.start N vs) := by
  refine ⟨by simp [L2.start, r.length], fun i p h => ?_⟩
  by_cases hl : i < ps.length
  · rw [List.getElem?_append_left (by simpa using hl), List.getElem?_map] at h
    obtain ⟨p', h1, h2⟩ := Option.map_eq_some_iff.mp h
    obtain rfl := Option.some.inj h2
    obtain ⟨v, e1, r1⟩ := r.get h1
    refine ⟨v, ?_, r1⟩
    unfold L2.start
    rw [List.getElem?_append_left (by rw [List.length_map, ← r.length]; exact hl), List.getElem?_map, e1]
    rfl
  · rw [List.getElem?_append_right (by simpa using Nat.le_of_not_lt hl)] at h
    obtain ⟨h1, h2⟩ := List.getElem?_eq_some_iff.mp h
    rw [List.getElem_replicate] at h2
    cases h2
/-- what a body may let out -/
abbrev WB (E : XK) : WX := fun cls d _ H' => E cls d H'
section
variable {P : Program} {w : World} {K : PySem.W.Frag} {mg : Str → Option Value} {base : Heap} {x qual : Str} {params : Arguments} {body : List Stmt} {scope : Scope} {dvs : List V} {kws : List (Str × V)} {f : Addr} {fd : FuncData} {cs : List Tb}
theorem fn_mk {N ps : List Str} {k : Nat} {fb : MS} (F : FunD K x qual params body scope dvs kws f fd) (S : FnScope N ps scope)
    (hb : ∀ (cdv : Value) (A : Around) (outer : List Env) (s : Shared) (H : Hp) (E : XK), Room k (A.deeper (envOfC qual scope s.heap.objs.size f cdv)) → SB (cxOf (L2.CX P w) P w K mg base N qual scope f cdv A outer s H E) cs (WB E) body fb) :
    FnOk P w K mg base (L2.CX P w) (k + 1) f fd ps (spF K cs ps.length (runF N.length fb)) := by
  refine F.ok S (fun vs H Q E h => h.1) fun cdv A outer s H vs Q E hr h => ⟨_, hb cdv A outer s H E hr, ?_⟩
  obtain ⟨hl, m, z, hc, pvs, r, hh, p⟩ := h
  refine ⟨m, z, _, hc, srel_start (N := N) r, hh, ?_⟩
  unfold runF at p
  cases q : fb (pvs.map some ++ List.replicate (N.length - pvs.length) none) hc with
  | nx e1 h1 => rw [q] at p; exact fun m' σ' H' n hh' hs' => p m' H' n hh' .non rN_
  | rt v h1 => rw [q] at p; exact fun m' u H' n hh' hr' => p m' H' n hh' u hr'
  | ex c h1 => rw [q] at p; exact fun m' σ' H' n hh' => p m' H' n hh'
  | bk e1 h1 => rw [q] at p; exact p.elim
  | ct e1 h1 => rw [q] at p; exact p.elim
  | bad => rw [q] at p; exact p.elim
end
/-! ### forgetting what a def has made -/
mutual
def PV.bd (n : Nat) : PV → Bool
  | .d _ => true
  | .r k => decide (k < n)
  | .ls xs => bds n xs
  | .tp xs => bds n xs
  | .cl _ => true
  | .sc _ => true
def bds (n : Nat) : List PV → Bool
  | [] => true
  | x :: r => PV.bd n x && bds n r
end
def AO.bd (n : Nat) : AO → Bool
  | .lst xs => bds n xs
  | .dk kvs => bds n (kvs.map (·.2))
  | .dt kvs => bds n (kvs.map (·.2))
  | .ins _ fs => bds n (fs.map (·.2))
theorem bds_map (n : Nat) (ds : List PyData) : bds n (ds.map .d) = true := by
  induction ds with
  | nil => rfl
  | cons x r ih => simp [bds, PV.bd, ih]
def WfH (h : Cells) : Prop := ∀ o ∈ h, AO.bd h.length o = true
theorem vw_take {m z : List Addr} {H : Hp} {n : Nat} : Vw (fz m z H) (fz (m.take n) z H) := fun a u q _ => by
  obtain ⟨h1, h2, h3⟩ := fz_some q
  exact fz_of (fun x => h1 (List.take_subset _ _ x)) h2 h3
mutual
theorem Rep.take {K : PySem.W.Frag} {m z : List Addr} {H : Hp} {n : Nat} : ∀ {x : PV} {v : V}, Rep K m z H x v → x.bd n = true → Rep K (m.take n) z H x v
  | _, _, .d h c, _ => .d (DD.vw vw_take h) c
  | _, _, .r h, b => .r (by rw [List.getElem?_take_of_lt (by simpa [PV.bd] using b)]; exact h)
  | _, _, .ls h t, b => .ls (vw_take _ _ h noTb_lst) (Rep.takeAll t (by simpa [PV.bd] using b))
  | _, _, .tp h t, b => .tp (SqT.vw h vw_take) (Rep.takeAll t (by simpa [PV.bd] using b))
  | _, _, .sc h, _ => .sc (SqL.vw h vw_take)
theorem Rep.takeAll {K : PySem.W.Frag} {m z : List Addr} {H : Hp} {n : Nat} : ∀ {x : List PV} {v : List V}, RepAll K m z H x v → bds n x = true → RepAll K (m.take n) z H x v
  | _, _, .nil, _ => .nil
  | _, _, .cons h t, b => by
    simp only [bds, Bool.and_eq_true] at b
    exact .cons (Rep.take h b.1) (Rep.takeAll t b.2)
end
section
variable {K : PySem.W.Frag} {cs : List Tb} {m z m' : List Addr} {h g : Cells} {H H' : Hp}
mutual
theorem Rep.bd : ∀ {x : PV} {v : V}, Rep K m z H x v → x.bd m.length = true
  | _, _, .d _ _ => rfl
  | _, _, .r h => by simpa [PV.bd] using (List.getElem?_eq_some_iff.mp h).1
  | _, _, .ls _ t => by simpa [PV.bd] using Rep.bdAll t
  | _, _, .tp _ t => by simpa [PV.bd] using Rep.bdAll t
  | _, _, .sc _ => rfl
theorem Rep.bdAll : ∀ {x : List PV} {v : List V}, RepAll K m z H x v → bds m.length x = true
  | _, _, .nil => rfl
  | _, _, .cons h t => by simp [bds, Rep.bd h, Rep.bdAll t]
end
theorem HRel.wf (r : HRel K cs m z h H) : WfH h := fun o ho => by
  obtain ⟨n, hn, e⟩ := List.getElem_of_mem ho
  obtain ⟨a, h1, h2⟩ := r.get (n := n) (o := o) (by rw [List.getElem?_eq_getElem hn, e])
  rw [r.len]
  cases o with
  | lst xs => obtain ⟨vs, _, t⟩ := h2; exact Rep.bdAll t
  | dk xs => obtain ⟨vs, _, _, t⟩ := h2; exact Rep.bdAll t
  | dt xs => obtain ⟨vs, _, _, t⟩ := h2; exact Rep.bdAll t
  | ins c xs => obtain ⟨_, vs, _, _, t⟩ := h2; exact Rep.bdAll t
theorem ORep.take {a : Addr} {o : AO} {n : Nat} (r : ORep K m z H a o) (b : AO.bd n o = true) : ORep K (m.take n) z H a o := by
  cases o with
  | lst xs => obtain ⟨vs, h1, t⟩ := r; exact ⟨vs, h1, Rep.takeAll t b⟩
  | dk xs => obtain ⟨vs, h1, h2, t⟩ := r; exact ⟨vs, h1, h2, Rep.takeAll t b⟩
  | dt xs => obtain ⟨vs, h1, h2, t⟩ := r; exact ⟨vs, h1, h2, Rep.takeAll t b⟩
  | ins c xs => obtain ⟨dx, vs, h1, h2, t⟩ := r; exact ⟨dx, vs, h1, h2, Rep.takeAll t b⟩
theorem HRel.take (r : HRel K cs m z (h ++ g) H) (b : ∀ o ∈ h, AO.bd h.length o = true) : HRel K cs (m.take h.length) z h H where
  len := by
    have := r.len
    rw [List.length_append] at this
    rw [List.length_take]
    omega
  nd := r.nd.sublist (List.take_sublist _ _)
  dz := fun a ha => r.dz a (List.take_subset _ _ ha)
  lv := fun a q => r.lv a (q.imp_left fun q => List.take_subset _ _ q)
  obj := fun n o a h1 h2 => by
    have hl := (List.getElem?_eq_some_iff.mp h1).1
    rw [List.getElem?_take_of_lt hl] at h2
    exact (r.obj n o a (by rw [List.getElem?_append_left hl]; exact h1) h2).take (b o (List.mem_of_getElem? h1))
  tb := r.tb
  tm := fun t ht q => r.tm t ht (List.take_subset _ _ q)
theorem Nx.take (n : Nx m z H m' H') {k : Nat} (hk : m.length ≤ k) : Nx m z H (m'.take k) H' := by
  obtain ⟨l, e, nl⟩ := n.pre
  refine ⟨⟨l.take (k - m.length), ?_, fun a ha => nl a (List.take_subset _ _ ha)⟩, n.kp, n.lv⟩
  rw [e, List.take_append, List.take_of_length_le hk]
end
/-- the outcome of a body (left), what is told of it (right): what it made may be left out -/
inductive Sim (n0 : Nat) : Out PV → Out PV → Prop
  | bad {o : Out PV} : Sim n0 o .bad
  | same {o : Out PV} : Sim n0 o o
  | drop {v : PV} {h g : Cells} : n0 ≤ h.length → (∀ o ∈ h, AO.bd h.length o = true) → v.bd h.length = true → Sim n0 (.ok v (h ++ g)) (.ok v h)
  | exd {c : Str} {h g : Cells} : n0 ≤ h.length → (∀ o ∈ h, AO.bd h.length o = true) → Sim n0 (.ex c (h ++ g)) (.ex c h)
  | frz {n : Nat} {ds : List PyData} {h g : Cells} : n0 ≤ h.length → (∀ o ∈ h, AO.bd h.length o = true) → h.length ≤ n → (h ++ g)[n]? = some (.lst (ds.map .d)) → Sim n0 (.ok (.r n) (h ++ g)) (.ok (.d (.list ds)) h)
theorem Sim.po {K : PySem.W.Frag} {cs : List Tb} {m z : List Addr} {H : Hp} {Q : VK} {Wx : Str → Hp → Prop} {o1 o2 : Out PV} (s : Sim m.length o1 o2) (p : Po K cs z m H (RxE K z Q) Wx o2) : Po K cs z m H (RxE K z Q) Wx o1 := by
  cases s with
  | bad => exact p.elim
  | same => exact p
  | drop h1 h2 h3 => exact fun m' H' n r u ru => p _ H' (n.take h1) (r.take h2) u (ru.take h3)
  | exd h1 h2 => exact fun m' H' n r => p _ H' (n.take h1) (r.take h2)
  | frz h1 h2 h3 h4 =>
    rename_i k ds h g
    refine fun m' H' n r u ru => p _ H' (n.take h1) (r.take h2) u ?_
    cases ru with
    | r hn =>
      rename_i a
      obtain ⟨b, e1, ws, e2, t⟩ := r.get h4
      rw [hn] at e1
      obtain rfl := Option.some.inj e1
      have hz : a ∉ z := r.dz a (List.mem_of_getElem? hn)
      have hm : a ∉ m'.take h.length := fun q => by
        obtain ⟨i, hi, e⟩ := List.getElem_of_mem q
        rw [List.length_take] at hi
        have e3 : m'[i]? = some a := by
          rw [List.getElem_take] at e
          rw [List.getElem?_eq_getElem (by omega), e]
        have := getElem?_inj_nodup r.nd e3 hn
        omega
      have t' := Rep.takeAll (n := h.length) t (bds_map _ _)
      obtain ⟨t1, t2⟩ := t'.dp
      exact .d (.lst (fz_of hm hz e2) t1) (by simpa [PyData.canLay0] using t2)
theorem fn_sim {P : Program} {w : World} {K : PySem.W.Frag} {mg : Str → Option Value} {base : Heap} {CX : CXT} {k : Nat} {f : Addr} {fd : FuncData} {ps : List Str} {cs : List Tb} {np : Nat} {g sp : MF} (F : FnOk P w K mg base CX k f fd ps (spF K cs np g))
    (h : ∀ pvs hc, pvs.length = np → WfH hc → bds hc.length pvs = true → Sim hc.length (g pvs hc) (sp pvs hc)) : FnOk P w K mg base CX k f fd ps (spF K cs np sp) :=
  F.imp fun vs H Q E ⟨hl, m, z, hc, pvs, r, hh, p⟩ => ⟨hl, m, z, hc, pvs, r, hh, by
    have s := h pvs hc (by rw [r.length, hl]) hh.wf (by rw [hh.len]; exact Rep.bdAll r)
    rw [hh.len] at s
    exact s.po p⟩
/-! ### calls -/
section
variable {X : Cx} {cs : List Tb} {W : WX} {k np : Nat} {f : Addr} {fd : FuncData} {ps : List Str} {g : MF} {x : Str} {p pos : Pos}
/-- constants that fill up -/
def mCallD (g : MF) (dp : List PV) (fa : ME (List PV)) : ME PV := fun e h => (fa e h).bind fun vs h1 => g (vs ++ dp) h1
def DRep (K : PySem.W.Frag) (dp : List PV) (dvs : List V) : Prop := ∀ m z H, RepAll K m z H dp dvs
theorem dr_nil {K : PySem.W.Frag} : DRep K [] [] := fun _ _ _ => .nil
theorem s_call {a : Expr} {es : List Expr} {fa : ME (List PV)} {dvs : List V} {ds : List Value} {dp : List PV} (tk : Takes X W) (F : FnOk X.prog X.w X.K X.mg X.base (L2.CX X.prog X.w) k f fd ps (spF X.K cs np g)) (hr : Room k X.A) (hg : Gl X x) (hm : X.mg x = some (.ref f)) (hk : PySem.W.keepIn X.K (.ref f) = true)
    (hb : Binds X.K fd ps ds) (hd : Vals dvs ds) (hdr : DRep X.K dp dvs) (hnp : ps.length = np) (hl : ∀ e h vs h1, fa e h = .ok vs h1 → (vs ++ dp).length = np) (ha : SA X cs W (a :: es) fa)
    (hdb : (x == ("__debug__" : Str)) = false := by decide) (he : starEach (a :: es) X.env = (false, eval a X.env) :: starEach es X.env := by rfl) (hpl : (backTo pos (starEach es X.env)).any (·.1) = false := by rfl) :
    SE X cs W (.Call (.Name x p) (a :: es) [] pos) (mCallD g dp fa) :=
  pe_imp (pe_callSD (E := WE W) F hr hg hm hk hb hd (fun σ => passAt tk σ) ha hdb he hpl) fun σ H Q ⟨m, z, e, h, hs, hh, p⟩ => by
    refine ⟨m, z, e, h, hs, hh, ?_⟩
    have pb := p.bind
    cases q : fa e h with
    | ok vs h1 =>
      rw [q] at pb
      have hlen := hl e h vs h1 q
      intro m1 H1 n1 hh1 us r1
      refine ⟨?_, m1, z, h1, vs ++ dp, r1.append (hdr _ _ _), hh1, pb m1 H1 n1 hh1⟩
      rw [← (r1.append (hdr m1 z H1)).length]
      exact hlen
    | ex c h1 => rw [q] at pb; exact pb
    | bad => rw [q] at pb; exact pb
theorem pe_callSD0 {CX : CXT} {sp : Sp} {dvs : List V} {ds : List Value} {E : L2.St → XK} (F : FnOk X.prog X.w X.K X.mg X.base CX k f fd ps sp) (hr : Room k X.A) (hg : Gl X x) (hm : X.mg x = some (.ref f)) (hk : PySem.W.keepIn X.K (.ref f) = true) (hb : Binds X.K fd ps ds) (hd : Vals dvs ds) (hx : ∀ σ, PassesAt CX X σ (E σ))
    (hdb : (x == ("__debug__" : Str)) = false := by decide) : PE X (.Call (.Name x p) [] [] pos) (fun σ H Q => sp dvs H Q (E σ)) :=
  ⟨fun pins s σ H Q I h => wpAny_Call_Name_kw (ld_glob I hg hm (PySem.W.callWith_K0 I.kIn hk (run_fnSD (us := []) (vs := []) F hr hb hd (hx σ) I .nil h)) hdb)⟩
def mCall0 (g : MF) (dp : List PV) : ME PV := fun _ h => g dp h
theorem s_call0 {dvs : List V} {ds : List Value} {dp : List PV} (tk : Takes X W) (F : FnOk X.prog X.w X.K X.mg X.base (L2.CX X.prog X.w) k f fd ps (spF X.K cs np g)) (hr : Room k X.A) (hg : Gl X x) (hm : X.mg x = some (.ref f)) (hk : PySem.W.keepIn X.K (.ref f) = true)
    (hb : Binds X.K fd ps ds) (hd : Vals dvs ds) (hdr : DRep X.K dp dvs) (hl : dp.length = np) (hdb : (x == ("__debug__" : Str)) = false := by decide) : SE X cs W (.Call (.Name x p) [] [] pos) (mCall0 g dp) :=
  pe_imp (pe_callSD0 (E := WE W) F hr hg hm hk hb hd (fun σ => passAt tk σ) hdb) fun σ H Q ⟨m, z, e, h, hs, hh, p⟩ => ⟨by rw [← (hdr m z H).length]; exact hl, m, z, h, dp, hdr _ _ _, hh, p⟩
/-! ### raise -/
def mRaise (c : Str) : MS := fun _ h => .ex c h
theorem s_raise {c m : Str} {j : Nat} {p1 p2 p3 pos : Pos} (hc : X.calm = true) (tk : Takes X W) (hg : Gl X c) (gC : X.mg c = some (.ref (He.ga X.K c))) (q : PySem.W.excIn X.K (He.ga X.K c) He.veBase "ValueError.__new__" = true) (kC : PySem.W.keepIn X.K (.ref (He.ga X.K c)) = true)
    (h1 : PySem.W.subIn X.K (.ref (He.ga X.K c)) (.type "BaseException") = some true) (h2 : PySem.W.typeIn X.K (.ref (He.ga X.K c)) = some (.type "type")) (hdb : (c == ("__debug__" : Str)) = false := by decide) :
    SS X cs W (.Raise (some (.Call (.Name c p1) [.Constant (.str m) j p2] [] p3)) none pos) (mRaise c) :=
  ps_imp (ps_raise hc tk (pmk_own PySem.F.excBase_ValueError q gC kC (raises_own h1 h2) hg hdb)) fun D σ H ⟨m, z, e, h, hs, hh, p⟩ => p m σ H (Nx.refl _ _ _) hh
end
end Mi

set_option Elab.async false
set_option linter.all false
set_option maxRecDepth 100000
set_option maxHeartbeats 4000000
namespace Mi
open PySem PySem.Spec PyProof.Rows L2

/-! ## a cell is written -/
section
variable {K : PySem.W.Frag} {cs : List Tb} {m z : List Addr} {h : Cells} {H : Hp}
theorem cellL (hh : HRel K cs m z h H) {n : Nat} {a : Addr} {xs : List PV} (hn : m[n]? = some a) (e : h[n]? = some (.lst xs)) : ∃ vs, H a = some (.lst vs) ∧ RepAll K m z H xs vs := by
  obtain ⟨b, h1, h2⟩ := hh.get e
  rw [hn] at h1
  obtain rfl := Option.some.inj h1
  exact h2
theorem HRel.wrL (hh : HRel K cs m z h H) {n : Nat} {a : Addr} {xs ys : List PV} {vs ws : List V} (hn : m[n]? = some a) (e : H a = some (.lst vs)) (r : RepAll K m z H ys ws) : HRel K cs m z (h.set n (.lst ys)) (upd H a (.lst ws)) :=
  hh.wr hn (fun c q => by rw [e]; exact fun z => codeO_lst (Option.some.inj z).symm) ⟨ws, upd_same, r.nx (Nx.wr hn)⟩
end
/-! ## tables of keys -/
section
variable {κ : Type} [DecidableEq κ]
def getP (kvs : List (κ × PV)) (k : κ) : Option PV := (kvs.find? fun kv => decide (kv.1 = k)).map (·.2)
def putP (kvs : List (κ × PV)) (k : κ) (v : PV) : List (κ × PV) :=
  if (kvs.any fun kv => decide (kv.1 = k)) = true then kvs.map (fun kv => if kv.1 = k then (kv.1, v) else kv) else kvs ++ [(k, v)]
def dropP (kvs : List (κ × PV)) (k : κ) : List (κ × PV) := kvs.filter fun kv => decide (kv.1 ≠ k)
inductive KVR (K : PySem.W.Frag) (m z : List Addr) (H : Hp) : List (κ × PV) → List (κ × V) → Prop
  | nil : KVR K m z H [] []
  | cons {k : κ} {x : PV} {v : V} {xs : List (κ × PV)} {vs : List (κ × V)} : Rep K m z H x v → KVR K m z H xs vs → KVR K m z H ((k, x) :: xs) ((k, v) :: vs)
variable {K : PySem.W.Frag} {m z : List Addr} {H : Hp}
theorem kvr_of : ∀ {kvs : List (κ × PV)} {ws : List (κ × V)}, kvs.map (·.1) = ws.map (·.1) → RepAll K m z H (kvs.map (·.2)) (ws.map (·.2)) → KVR K m z H kvs ws
  | [], [], _, _ => .nil
  | [], _ :: _, e, _ => by simp at e
  | _ :: _, [], e, _ => by simp at e
  | (k, x) :: r, (j, v) :: t, e, h => by
    simp only [List.map_cons, List.cons.injEq] at e
    obtain ⟨rfl, e⟩ := e
    cases h with
    | cons h1 h2 => exact .cons h1 (kvr_of e h2)
theorem KVR.keys : ∀ {kvs : List (κ × PV)} {ws : List (κ × V)}, KVR K m z H kvs ws → kvs.map (·.1) = ws.map (·.1)
  | _, _, .nil => rfl
  | _, _, .cons _ t => by simp [KVR.keys t]
theorem KVR.vals : ∀ {kvs : List (κ × PV)} {ws : List (κ × V)}, KVR K m z H kvs ws → RepAll K m z H (kvs.map (·.2)) (ws.map (·.2))
  | _, _, .nil => .nil
  | _, _, .cons r t => .cons r (KVR.vals t)
theorem KVR.any {k : κ} : ∀ {kvs : List (κ × PV)} {ws : List (κ × V)}, KVR K m z H kvs ws → (kvs.any fun kv => decide (kv.1 = k)) = (ws.any fun kv => decide (kv.1 = k))
  | _, _, .nil => rfl
  | _, _, .cons _ t => by rw [List.any_cons, List.any_cons, KVR.any t]
theorem KVR.app {xs ys : List (κ × PV)} {vs ws : List (κ × V)} (a : KVR K m z H xs vs) (b : KVR K m z H ys ws) : KVR K m z H (xs ++ ys) (vs ++ ws) := by
  induction a with
  | nil => exact b
  | cons r _ ih => exact .cons r ih
theorem KVR.put {k : κ} {x : PV} {v : V} {kvs : List (κ × PV)} {ws : List (κ × V)} (h : KVR K m z H kvs ws) (r : Rep K m z H x v) : KVR K m z H (putP kvs k x) (putK ws k v) := by
  unfold putP putK
  rw [h.any]
  split
  · rename_i hq
    clear hq
    induction h with
    | nil => exact .nil
    | @cons j y w xs vs r1 t ih =>
      rw [List.map_cons, List.map_cons]
      by_cases e : j = k
      · simp only [e, if_true]; exact .cons r ih
      · simp only [e, if_false]; exact .cons r1 ih
  · exact h.app (.cons r .nil)
theorem KVR.drop {k : κ} {kvs : List (κ × PV)} {ws : List (κ × V)} (h : KVR K m z H kvs ws) : KVR K m z H (dropP kvs k) (dropK ws k) := by
  unfold dropP dropK
  induction h with
  | nil => exact .nil
  | @cons j y w xs vs r1 t ih =>
    by_cases e : j = k
    · rw [List.filter_cons_of_neg (by simp [e]), List.filter_cons_of_neg (by simp [e])]; exact ih
    · rw [List.filter_cons_of_pos (by simp [e]), List.filter_cons_of_pos (by simp [e])]; exact .cons r1 ih
theorem KVR.get {k : κ} {kvs : List (κ × PV)} {ws : List (κ × V)} (h : KVR K m z H kvs ws) : match getP kvs k with
    | some x => ∃ v, valV ws k = some v ∧ Rep K m z H x v
    | none => valV ws k = none := by
  unfold getP valV
  induction h with
  | nil => exact rfl
  | @cons j y w xs vs r1 t ih =>
    by_cases e : j = k
    · rw [List.find?_cons_of_pos (by simp [e]), List.find?_cons_of_pos (by simp [e])]; exact ⟨w, rfl, r1⟩
    · rw [List.find?_cons_of_neg (by simp [e]), List.find?_cons_of_neg (by simp [e])]; exact ih
theorem KVR.nx {m' : List Addr} {H' : Hp} {kvs : List (κ × PV)} {ws : List (κ × V)} (h : KVR K m z H kvs ws) (n : Nx m z H m' H') : KVR K m' z H' kvs ws := by
  induction h with
  | nil => exact .nil
  | cons r _ ih => exact .cons (r.nx n) ih
theorem KVR.length {kvs : List (κ × PV)} {ws : List (κ × V)} (h : KVR K m z H kvs ws) : kvs.length = ws.length := by
  induction h with
  | nil => rfl
  | cons _ _ ih => simp [ih]
end
theorem codeO_dK {c : Addr} {q : Str} {xs : List (Key × V)} : LamX.CodeO c q ≠ .dK xs := fun e => by unfold LamX.CodeO at e; cases e
section
variable {K : PySem.W.Frag} {cs : List Tb} {m z : List Addr} {h : Cells} {H : Hp}
theorem cellD (hh : HRel K cs m z h H) {n : Nat} {a : Addr} {kvs : List (Key × PV)} (hn : m[n]? = some a) (e : h[n]? = some (.dk kvs)) : ∃ ws, H a = some (.dK ws) ∧ KVR K m z H kvs ws := by
  obtain ⟨b, h1, ws, h2, h3, h4⟩ := hh.get e
  rw [hn] at h1
  obtain rfl := Option.some.inj h1
  exact ⟨ws, h2, kvr_of h3 h4⟩
theorem HRel.wrD (hh : HRel K cs m z h H) {n : Nat} {a : Addr} {ys : List (Key × PV)} {vs ws : List (Key × V)} (hn : m[n]? = some a) (e : H a = some (.dK vs)) (r : KVR K m z H ys ws) : HRel K cs m z (h.set n (.dk ys)) (upd H a (.dK ws)) := by
  have r' : KVR K m z (upd H a (.dK ws)) ys ws := r.nx (Nx.wr hn)
  exact hh.wr hn (fun c q => by rw [e]; exact fun z => codeO_dK (Option.some.inj z).symm) ⟨ws, upd_same, r'.keys, r'.vals⟩
end
/-! ## o[i] = v -/
def keyOf : PV → Option Key
  | .d (.int i) => some (.inl i)
  | .d (.str x) => some (.inr x)
  | _ => none
theorem keyOf_rep {K : PySem.W.Frag} {m z : List Addr} {H : Hp} {v : PV} {u : V} {k : Key} (r : Rep K m z H v u) (e : keyOf v = some k) : u = kV k := by
  unfold keyOf at e
  split at e
  · obtain rfl := Option.some.inj e; exact rep_int r
  · obtain rfl := Option.some.inj e; exact (rep_str r).1
  · cases e
def opSet (o i v : PV) (h : Cells) : Option Cells := match o with
  | .r n => match h[n]? with
    | some (.lst xs) => match i with
      | .d (.int k) => match ixN xs.length k with
        | some j => some (h.set n (.lst (xs.set j v)))
        | none => none
      | _ => none
    | some (.dk kvs) => match keyOf i with
      | some k => if kvs.length < sizeLine then some (h.set n (.dk (putP kvs k v))) else none
      | none => none
    | _ => none
  | _ => none
theorem opSet_some {o i v : PV} {h h' : Cells} (e : opSet o i v h = some h') : ∃ n, o = .r n ∧ ((∃ xs k j, h[n]? = some (.lst xs) ∧ i = .d (.int k) ∧ ixN xs.length k = some j ∧ h' = h.set n (.lst (xs.set j v))) ∨
    ∃ kvs k, h[n]? = some (.dk kvs) ∧ keyOf i = some k ∧ kvs.length < sizeLine ∧ h' = h.set n (.dk (putP kvs k v))) := by
  unfold opSet at e
  split at e
  · rename_i n
    refine ⟨n, rfl, ?_⟩
    split at e
    · rename_i xs ex
      split at e
      · rename_i k
        split at e
        · rename_i j ej
          exact .inl ⟨xs, k, j, ex, rfl, ej, (Option.some.inj e).symm⟩
        · cases e
      · cases e
    · rename_i kvs ex
      split at e
      · rename_i k ek
        split at e
        · rename_i hz
          exact .inr ⟨kvs, k, ex, ek, hz, (Option.some.inj e).symm⟩
        · cases e
      · cases e
    · cases e
  · cases e
def rSetM : V → V → V → Hp → (Hp → Prop) → Prop := fun o i v H Q => rSetL o i v H Q ∨ ∃ a H', o = .ref a ∧ DPut H a i v H' ∧ Q H'
theorem set_M {X : Cx} (hu : X.A.units + 1 < cLine) : PSet X rSetM := by
  intro pins s σ H o i v ov iv u Q I ro ri rv h
  rcases h with h | ⟨a, H', rfl, g, q⟩
  · exact set_list pins s σ H o i v ov iv u Q I ro ri rv h
  · obtain rfl : ov = Value.ref a := ro
    exact d_setItem hu I g ri rv fun s' I' => ⟨H', I', q⟩
def gIx (fo fi : ME PV) : MG := fun v e h => match fo e h with
  | .ok o h1 => match fi e h1 with
    | .ok i h2 => match opSet o i v h2 with
      | some h3 => some (e, h3)
      | none => none
    | _ => none
  | _ => none
section
variable {X : Cx} {cs : List Tb} {W : WX}
theorem set_rep {K : PySem.W.Frag} {m z : List Addr} {H : Hp} {h h' : Cells} {o i v : PV} {uo ui u : V} {Q : Hp → Prop} (hh : HRel K cs m z h H) (ro : Rep K m z H o uo) (ri : Rep K m z H i ui) (rv : Rep K m z H v u) (e : opSet o i v h = some h')
    (q : ∀ H', Nx m z H m H' → HRel K cs m z h' H' → Q H') : rSetM uo ui u H Q := by
  obtain ⟨n, rfl, h1⟩ := opSet_some e
  cases ro with
  | r hn =>
    rename_i a
    rcases h1 with ⟨xs, k, j, ex, rfl, ej, rfl⟩ | ⟨kvs, k, ex, ek, hz, rfl⟩
    · obtain ⟨ws, e1, t1⟩ := cellL hh hn ex
      exact .inl ⟨a, ws, k, j, rfl, rep_int ri, e1, by rw [← t1.length]; exact ej, q _ (Nx.wr hn) (hh.wrL (xs := xs) hn e1 (t1.set rv j))⟩
    · obtain ⟨ws, e1, t1⟩ := cellD hh hn ex
      rw [keyOf_rep ri ek]
      exact .inr ⟨a, _, rfl, DPut.k e1 (by rw [← t1.length]; exact hz), q _ (Nx.wr hn) (hh.wrD hn e1 (t1.put rv))⟩
theorem g_ix {vs : List Nat} {o i : Expr} {pos : Pos} {fo fi : ME PV} (hu : X.A.units + 1 < cLine) (ho : SE X cs W o fo) (hi : SE X cs W i fi)
    (ha : ∀ v, assign (.Subscript o i pos) X.env v = (do
      let ov ← holding [v] (eval o X.env)
      let iv ← holding [v, ov] (eval i X.env)
      standAt pos
      holding [v, ov, iv] (setItem ov iv v)
      release [v, ov, iv] []) := by intro _; rfl) : SG X cs vs (.Subscript o i pos) (gIx fo fi) :=
  pg_imp (pg_sub ho hi (set_M hu) ha) fun u σ H Q ⟨m, z, e, h, v, hs, hh, r, p⟩ => by
    unfold gIx at p
    cases q1 : fo e h with
    | bad => rw [q1] at p; exact p.elim
    | ex c h1 => rw [q1] at p; exact p.elim
    | ok o h1 =>
      rw [q1] at p
      simp only at p
      refine ⟨m, z, e, h, hs, hh, ?_⟩
      rw [q1]
      intro m1 H1 n1 hh1 u1 r1
      cases q2 : fi e h1 with
      | bad => rw [q2] at p; exact p.elim
      | ex c h2 => rw [q2] at p; exact p.elim
      | ok i h2 =>
        rw [q2] at p
        simp only at p
        refine ⟨m1, z, e, h1, hs.nx n1, hh1, ?_⟩
        rw [q2]
        intro m2 H2 n2 hh2 u2 r2
        cases q3 : opSet o i v h2 with
        | none => rw [q3] at p; exact p.elim
        | some h3 =>
          rw [q3] at p
          exact set_rep hh2 (r1.nx n2) r2 ((r.nx n1).nx n2) q3 fun H' n3 hh3 => p m2 σ H' ((n1.trans n2).trans n3) hh3 (((hs.nx n1).nx n2).nx n3) rfl
end
/-! ## o.m(..) -/
def Bm (K : PySem.W.Frag) (cs : List Tb) (r : V → List V → Hp → VK → Prop) (g : PV → List PV → Cells → Out PV) : Prop :=
  ∀ m z H h v u vs us Q Wx, HRel K cs m z h H → Rep K m z H v u → RepAll K m z H vs us → Po K cs z m H (RxE K z Q) Wx (g v vs h) → r u us H Q
def Ty (K : PySem.W.Frag) (cs : List Tb) (T : String) (ty : PV → Cells → Bool) : Prop :=
  ∀ m z H h v u, HRel K cs m z h H → Rep K m z H v u → ty v h = true → tyV K T u H
def mMeth (ty : PV → Cells → Bool) (g : PV → List PV → Cells → Out PV) (fo : ME PV) (fa : ME (List PV)) : ME PV := fun e h => (fo e h).bind fun v h1 => if ty v h1 then (fa e h1).bind fun vs h2 => g v vs h2 else .bad
def mMeth0 (ty : PV → Cells → Bool) (g : PV → List PV → Cells → Out PV) (fo : ME PV) : ME PV := fun e h => (fo e h).bind fun v h1 => if ty v h1 then g v [] h1 else .bad
section
variable {X : Cx} {cs : List Tb} {W : WX} {o a : Expr} {es : List Expr} {name : Str} {apos cpos : Pos} {T id : String} {r : V → List V → Hp → VK → Prop} {ty : PV → Cells → Bool} {g : PV → List PV → Cells → Out PV} {fo : ME PV} {fa : ME (List PV)}
theorem s_meth (pa : PlainAttrs T) (slot : Slot T name id) (hty : typeOf (.builtin id) = pure (.type "method_descriptor")) (hm : MtR X id r) (ht : Ty X.K cs T ty) (hb : Bm X.K cs r g) (ho : SE X cs W o fo) (ha : SA X cs W (a :: es) fa)
    (hbase : attributeBase o name X.env (eval o X.env) = eval o X.env := by rfl)
    (hfew : ((backTo cpos (starEach (a :: es) X.env)).all (fun x => !x.1) && (backToKw cpos (keywordEach [] X.env)).all (fun x => x.1.isSome)
      && decide ((a :: es).length + ([] : List Keyword).length + (if ([] : List Keyword).isEmpty then 0 else 1) < 30)) = true := by rfl)
    (hline : (apos.endLine == cpos.line) = true := by rfl) (hs : starEach (a :: es) X.env = (false, eval a X.env) :: starEach es X.env := by rfl) (hplain : (backTo cpos (starEach es X.env)).any (·.1) = false := by rfl) :
    SE X cs W (.Call (.Attribute o name apos) (a :: es) [] cpos) (mMeth ty g fo fa) :=
  pe_imp (pe_bm pa slot hty hm ho ha hbase hfew hline hs hplain) fun σ H Q ⟨m, z, e, h, hs, hh, p⟩ => tE_then hs hh p fun v h1 m1 H1 u hs1 hh1 r1 n1 p1 => by
    split at p1
    · rename_i hty
      exact ⟨ht _ _ _ _ _ _ hh1 r1 hty, tA_then hs1 hh1 p1 fun vs h2 m2 H2 us hs2 hh2 r2 n2 p2 => hb m2 z H2 h2 v u vs us Q _ hh2 (r1.nx n2) r2 p2⟩
    · exact p1.elim
theorem s_meth0 (pa : PlainAttrs T) (slot : Slot T name id) (hty : typeOf (.builtin id) = pure (.type "method_descriptor")) (hm : MtR X id r) (ht : Ty X.K cs T ty) (hb : Bm X.K cs r g) (ho : SE X cs W o fo)
    (hbase : attributeBase o name X.env (eval o X.env) = eval o X.env := by rfl) (hline : (apos.endLine == cpos.line) = true := by rfl) :
    SE X cs W (.Call (.Attribute o name apos) [] [] cpos) (mMeth0 ty g fo) :=
  pe_imp (pe_bm0 pa slot hty hm ho hbase hline) fun σ H Q ⟨m, z, e, h, hs, hh, p⟩ => tE_then hs hh p fun v h1 m1 H1 u hs1 hh1 r1 n1 p1 => by
    split at p1
    · rename_i hty
      exact ⟨ht _ _ _ _ _ _ hh1 r1 hty, hb m1 z H1 h1 v u [] [] Q _ hh1 r1 .nil p1⟩
    · exact p1.elim
end
def tyL (v : PV) (h : Cells) : Bool := (asL v h).isSome
def tyS (v : PV) (_ : Cells) : Bool := match v with
  | .d (.str _) => true
  | _ => false
theorem ty_list {K : PySem.W.Frag} {cs : List Tb} : Ty K cs "list" tyL := by
  intro m z H h v u hh r e
  unfold tyL at e
  cases q : asL v h with
  | none => rw [q] at e; cases e
  | some xs =>
    obtain ⟨a, ws, rfl, q1, t1⟩ := asL_rep hh r q
    exact .inl ⟨rfl, _, .inl (.inl q1)⟩
theorem ty_str {K : PySem.W.Frag} {cs : List Tb} : Ty K cs "str" tyS := by
  intro m z H h v u hh r e
  unfold tyS at e
  split at e
  · rw [(rep_str r).1]; rfl
  · cases e
def meAppend (v : PV) (vs : List PV) (h : Cells) : Out PV := match v, vs with
  | .r n, [x] => match h[n]? with
    | some (.lst xs) => if xs.length < sizeLine then .ok (.d .none) (h.set n (.lst (xs ++ [x]))) else .bad
    | _ => .bad
  | _, _ => .bad
/-- the end where a cell was written -/
theorem Po.wr {α : Type} {K : PySem.W.Frag} {cs : List Tb} {m z : List Addr} {h : Cells} {H : Hp} {R : α → Cells → List Addr → Hp → Prop} {Wx : Str → Hp → Prop} {a : α} {n : Nat} {b : Addr} {ys : List PV} {vs ws : List V} (q : Po K cs z m H R Wx (.ok a (h.set n (.lst ys)))) (hh : HRel K cs m z h H) (hn : m[n]? = some b) (e : H b = some (.lst vs)) (r : RepAll K m z H ys ws) :
    R a (h.set n (.lst ys)) m (upd H b (.lst ws)) := q m _ (Nx.wr hn) (hh.wrL (xs := []) hn e r)
theorem bm_append {K : PySem.W.Frag} {cs : List Tb} : Bm K cs rAppend meAppend := by
  intro m z H h v u vs us Q Wx hh r rs p
  unfold meAppend at p
  split at p
  · obtain ⟨w, rfl, r2⟩ := rep1 rs
    split at p
    · rename_i xs ex
      split at p
      · rename_i hz
        cases r with
        | r hn =>
          obtain ⟨ws, e1, t1⟩ := cellL hh hn ex
          refine ⟨_, ws, w, rfl, rfl, e1, by rw [← t1.length]; exact hz, Po.wr p hh hn e1 (t1.append (.cons r2 .nil)) _ rN_⟩
      · exact p.elim
    · exact p.elim
  · exact p.elim
def mePop (v : PV) (vs : List PV) (h : Cells) : Out PV := match v, vs with
  | .r n, [] => match h[n]? with
    | some (.lst xs) => match xs[xs.length - 1]? with
      | some x => .ok x (h.set n (.lst xs.dropLast))
      | none => .bad
    | _ => .bad
  | _, _ => .bad
theorem RepAll.dropLast {K : PySem.W.Frag} {m z : List Addr} {H : Hp} {xs : List PV} {vs : List V} (t : RepAll K m z H xs vs) : RepAll K m z H xs.dropLast vs.dropLast := by
  rw [List.dropLast_eq_take, List.dropLast_eq_take, t.length]
  exact t.take _
theorem bm_pop {K : PySem.W.Frag} {cs : List Tb} : Bm K cs rPop mePop := by
  intro m z H h v u vs us Q Wx hh r rs p
  unfold mePop at p
  split at p
  · cases rs
    split at p
    · rename_i xs ex
      split at p
      · rename_i x ey
        cases r with
        | r hn =>
          obtain ⟨ws, e1, t1⟩ := cellL hh hn ex
          obtain ⟨w, h1, h2⟩ := t1.get ey
          refine ⟨_, ws, w, rfl, rfl, e1, by rw [← t1.length]; exact h1, Po.wr p hh hn e1 t1.dropLast _ (h2.nx (Nx.wr hn))⟩
      · exact p.elim
    · exact p.elim
  · exact p.elim
def asStrs : List PV → Option (List Str)
  | [] => some []
  | .d (.str x) :: r => (asStrs r).map (x :: ·)
  | _ :: _ => none
theorem asStrs_map (ns : List Str) : asStrs (ns.map fun i => .d (.str i)) = some ns := by
  induction ns with
  | nil => rfl
  | cons x r ih => simp [asStrs, ih]
theorem asStrs_eq : ∀ {xs : List PV} {ns : List Str}, asStrs xs = some ns → xs = ns.map fun i => .d (.str i)
  | [], _, e => by obtain rfl := Option.some.inj e; rfl
  | .d (.str i) :: r, ns, e => by
    have e' : (asStrs r).map (i :: ·) = some ns := e
    cases e2 : asStrs r with
    | none => rw [e2] at e'; cases e'
    | some ms =>
      rw [e2] at e'
      obtain rfl := Option.some.inj e'
      rw [asStrs_eq e2]; rfl
  | .d .none :: _, _, e => by simp [asStrs] at e
  | .d (.bool _) :: _, _, e => by simp [asStrs] at e
  | .d (.int _) :: _, _, e => by simp [asStrs] at e
  | .d (.list _) :: _, _, e => by simp [asStrs] at e
  | .d (.tuple _) :: _, _, e => by simp [asStrs] at e
  | .d (.dict _) :: _, _, e => by simp [asStrs] at e
  | .r _ :: _, _, e => by simp [asStrs] at e
  | .ls _ :: _, _, e => by simp [asStrs] at e
  | .tp _ :: _, _, e => by simp [asStrs] at e
  | .cl _ :: _, _, e => by simp [asStrs] at e
  | .sc _ :: _, _, e => by simp [asStrs] at e
theorem rep_strs {K : PySem.W.Frag} {m z : List Addr} {H : Hp} : ∀ {ns : List Str} {vs : List V}, RepAll K m z H (ns.map fun i => .d (.str i)) vs → vs = ns.map V.str ∧ ∀ x ∈ ns, PyData.strOk x = true
  | [], _, h => by cases h; exact ⟨rfl, fun _ h => absurd h (by simp)⟩
  | x :: r, _, h => by
    cases h with
    | cons h1 h2 =>
      obtain ⟨e1, o1⟩ := rep_str h1
      obtain ⟨e2, o2⟩ := rep_strs h2
      refine ⟨by rw [e1, e2]; rfl, fun y hy => ?_⟩
      rcases List.mem_cons.mp hy with e | e
      · rw [e]; exact o1
      · exact o2 y e
/-- sep.join(texts) -/
def meJoin (v : PV) (vs : List PV) (h : Cells) : Out PV := match v, vs with
  | .d (.str a), [w] => match asS w h with
    | some xs => match asStrs xs with
      | some ys => if (ys.map (·.length)).sum + ys.length * a.length ≤ 16777216 then .ok (.d (.str (Str.join a ys))) h else .bad
      | none => .bad
    | none => .bad
  | _, _ => .bad
def rJoin (K : PySem.W.Frag) : V → List V → Hp → VK → Prop := fun x xs H Q => ∃ a p, ∃ ys : List Str, x = .str a ∧ xs = [.ref p] ∧ (SqL K H p (ys.map V.str) ∨ SqT K H p (ys.map V.str)) ∧
    (ys.map (·.length)).sum + ys.length * a.length ≤ 16777216 ∧ Q (.str (Txt.join a ys)) H
theorem mt_joinM {X : Cx} : MtR X "str.join" (rJoin X.K) := mt_join

theorem strOk_join {a : Str} (o : PyData.strOk a = true) : ∀ {ys : List Str}, (∀ x ∈ ys, PyData.strOk x = true) → PyData.strOk (Str.join a ys) = true
  | [], _ => by
    show PyData.strOk Str.empty = true
    unfold PyData.strOk Str.empty
    simp
  | [x], h => h x (by simp)
  | x :: y :: r, h => strOk_app (strOk_app (h x (by simp)) o) (strOk_join o (ys := y :: r) fun z hz => h z (List.mem_cons_of_mem _ hz))
theorem asS_rep {K : PySem.W.Frag} {cs : List Tb} {m z : List Addr} {h : Cells} {H : Hp} (hh : HRel K cs m z h H) {v : PV} {u : V} {xs : List PV} (r : Rep K m z H v u) (e : asS v h = some xs) : ∃ a vs, u = .ref a ∧ (SqL K H a vs ∨ SqT K H a vs) ∧ RepAll K m z H xs vs := by
  unfold asS at e
  split at e
  · rename_i ys ey
    obtain rfl := Option.some.inj e
    obtain ⟨a, ws, rfl, q1, t1⟩ := asL_rep hh r ey
    exact ⟨a, ws, rfl, .inl (.inl (.inl q1)), t1⟩
  · obtain ⟨a, ws, rfl, q1, t1⟩ := asT_rep r e
    exact ⟨a, ws, rfl, .inr (SqT.top q1), t1⟩
theorem bm_join {K : PySem.W.Frag} {cs : List Tb} : Bm K cs (rJoin K) meJoin := by
  intro m z H h v u vs us Q Wx hh r rs p
  unfold meJoin at p
  split at p
  · rename_i a w
    obtain ⟨w', rfl, r2⟩ := rep1 rs
    split at p
    · rename_i xs ex
      split at p
      · rename_i ys ey
        split at p
        · rename_i hz
          obtain ⟨e1, o1⟩ := rep_str r
          obtain ⟨b, ws, rfl, q1, t1⟩ := asS_rep hh r2 ex
          rw [asStrs_eq ey] at t1
          obtain ⟨e2, o2⟩ := rep_strs t1
          rw [e2] at q1
          exact ⟨_, b, ys, e1, rfl, q1, hz, by rw [TL.join_eq]; exact p.here hh _ (rS_ (strOk_join o1 o2))⟩
        · exact p.elim
      · exact p.elim
    · exact p.elim
  · exact p.elim
/-- text.index(text) where it is found -/
def meIndexS (v : PV) (vs : List PV) (h : Cells) : Out PV := match v, vs with
  | .d (.str a), [.d (.str b)] => match Builtin.Str.occurrences a b 0 a.length 1 with
    | i :: _ => .ok (.d (.int (i : Nat))) h
    | [] => .bad
  | _, _ => .bad
def rIndexS : V → List V → Hp → VK → Prop := fun x xs H Q => ∃ a b i rest, x = .str a ∧ xs = [.str b] ∧ Builtin.Str.occurrences a b 0 a.length 1 = i :: rest ∧ Q (.int (i : Nat)) H
theorem mt_indexS {X : Cx} : MtR X "str.index" rIndexS := mt_sindex
theorem bm_indexS {K : PySem.W.Frag} {cs : List Tb} : Bm K cs rIndexS meIndexS := by
  intro m z H h v u vs us Q Wx hh r rs p
  unfold meIndexS at p
  split at p
  · rename_i a b
    obtain ⟨w', rfl, r2⟩ := rep1 rs
    split at p
    · rename_i i rest ei
      exact ⟨a, b, i, rest, (rep_str r).1, by rw [(rep_str r2).1], ei, p.here hh _ (rI_ _)⟩
    · exact p.elim
  · exact p.elim
/-! ## x in y -/
def memD (x : PyData) (xs : List PyData) : Bool := xs.any fun z => PyData.eqv z x
def allX : List PV → Cells → Option (List PyData)
  | [], _ => some []
  | x :: r, h => match asX x h, allX r h with
    | some d, some ds => some (d :: ds)
    | _, _ => none
/-- a sign in a text, a thing in a list or a tuple, a key in a dict -/
def opIn (k : Bool) (v w : PV) (h : Cells) : Out PV := match w with
  | .d (.str y) => match v with
    | .d (.str x) => match x.cps.toList with
      | [c] => .ok (.d (.bool (k == decide (c ∈ y.cps.toList)))) h
      | _ => .bad
    | _ => .bad
  | w => match asX w h, asX v h with
    | some (.list ds), some d => if SeqAt.shaped d && SeqAt.shaped (.list ds) then .ok (.d (.bool (k == memD d ds))) h else .bad
    | some (.tuple ds), some d => if SeqAt.shaped d && SeqAt.shaped (.tuple ds) then .ok (.d (.bool (k == memD d ds))) h else .bad
    | _, _ => match asDict w h, keyOf v with
      | some kvs, some j => .ok (.d (.bool (k == (getP kvs j).isSome))) h
      | _, _ => .bad

def rInM (K : PySem.W.Frag) (k : Bool) : R2 := fun x y H Q => (∃ (c : Nat) (z : Str), x = .str ⟨#[c]⟩ ∧ y = .str z ∧ Q (.bl (k == decide (c ∈ z.cps.toList))) H) ∨
  (∃ d ds, Dp K H x d ∧ (Dp K H y (.list ds) ∧ SeqAt.shaped (.list ds) = true ∨ Dp K H y (.tuple ds) ∧ SeqAt.shaped (.tuple ds) = true) ∧ SeqAt.shaped d = true ∧ Q (.bl (k == memD d ds)) H) ∨
  ∃ a o, y = .ref a ∧ DGet H a x o ∧ Q (.bl (k == o.isSome)) H
theorem beq_tt (b : Bool) : (true == b) = b := by cases b <;> rfl
theorem beq_ff (b : Bool) : (false == b) = !b := by cases b <;> rfl
theorem op_inM {X : Cx} (hu : X.A.units + 65 < cLine) : OpR X (compareOp .In) (rInM X.K true) := by
  intro pins s σ H x y v u Q I rx ry h
  rcases h with ⟨c, z, rfl, rfl, q⟩ | ⟨d, ds, hd, hy, sd, q⟩ | ⟨a, o, rfl, g, q⟩
  · rw [beq_tt] at q
    exact op_in_sign pins s σ H _ _ v u Q I rx ry ⟨c, z, rfl, rfl, q⟩
  · rw [beq_tt] at q
    obtain ⟨as, r1⟩ := Dp.reads I d x v hd rx
    rcases hy with ⟨hy, se⟩ | ⟨hy, se⟩
    · obtain ⟨bs, r2⟩ := Dp.reads I (.list ds) y u hy ry
      exact SeqAt.in_list_reads r2 r1 (SeqAt.canLay_of_shaped se) (SeqAt.canLay_of_shaped sd) (room_in_shaped sd hu) ⟨.bl _, H, I, rfl, q⟩
    · obtain ⟨bs, r2⟩ := Dp.reads I (.tuple ds) y u hy ry
      exact SeqAt.in_tuple_reads r2 r1 (SeqAt.canLay_of_shaped se) (SeqAt.canLay_of_shaped sd) (room_in_shaped sd hu) ⟨.bl _, H, I, rfl, q⟩
  · rw [beq_tt] at q
    obtain rfl : u = Value.ref a := ry
    exact d_in (by omega) I g rx fun s' I' => ⟨.bl _, H, I', rfl, q⟩
theorem op_notInM {X : Cx} (hu : X.A.units + 65 < cLine) : OpR X (compareOp .NotIn) (rInM X.K false) := by
  intro pins s σ H x y v u Q I rx ry h
  rcases h with ⟨c, z, rfl, rfl, q⟩ | ⟨d, ds, hd, hy, sd, q⟩ | ⟨a, o, rfl, g, q⟩
  · rw [beq_ff] at q
    exact op_notIn_sign pins s σ H _ _ v u Q I rx ry ⟨c, z, rfl, rfl, q⟩
  · rw [beq_ff] at q
    obtain ⟨as, r1⟩ := Dp.reads I d x v hd rx
    rcases hy with ⟨hy, se⟩ | ⟨hy, se⟩
    · obtain ⟨bs, r2⟩ := Dp.reads I (.list ds) y u hy ry
      exact SeqAt.notIn_list_reads r2 r1 (SeqAt.canLay_of_shaped se) (SeqAt.canLay_of_shaped sd) (room_in_shaped sd hu) ⟨.bl _, H, I, rfl, q⟩
    · obtain ⟨bs, r2⟩ := Dp.reads I (.tuple ds) y u hy ry
      exact SeqAt.notIn_tuple_reads r2 r1 (SeqAt.canLay_of_shaped se) (SeqAt.canLay_of_shaped sd) (room_in_shaped sd hu) ⟨.bl _, H, I, rfl, q⟩
  · rw [beq_ff] at q
    obtain rfl : u = Value.ref a := ry
    exact d_notIn (by omega) I g rx fun s' I' => ⟨.bl _, H, I', rfl, q⟩
theorem asDict_rep {K : PySem.W.Frag} {cs : List Tb} {m z : List Addr} {h : Cells} {H : Hp} (hh : HRel K cs m z h H) {v : PV} {u : V} {kvs : List (Key × PV)} (r : Rep K m z H v u) (e : asDict v h = some kvs) : ∃ a ws, u = .ref a ∧ H a = some (.dK ws) ∧ KVR K m z H kvs ws := by
  unfold asDict at e
  split at e
  · split at e
    · rename_i kvs' eq
      obtain rfl := Option.some.inj e
      cases r with
      | r hn =>
        obtain ⟨ws, h1, h2⟩ := cellD hh hn eq
        exact ⟨_, ws, rfl, h1, h2⟩
    · cases e
  · cases e
theorem br_in {K : PySem.W.Frag} {cs : List Tb} {k : Bool} : Br K cs (rInM K k) (opIn k) := by
  intro m z H h v w u1 u2 Q Wx hh r1 r2 p
  unfold opIn at p
  split at p
  · rename_i y
    split at p
    · rename_i x
      split at p
      · rename_i c ec
        obtain ⟨e1, o1⟩ := rep_str r1
        obtain ⟨e2, o2⟩ := rep_str r2
        have ex : x = ⟨#[c]⟩ := by
          cases x with
          | mk cps =>
            congr
            exact Array.toList_inj.mp (by simpa using ec)
        rw [e1, e2, ex]
        exact .inl ⟨c, y, rfl, rfl, p.here hh _ (rB_ _)⟩
      · exact p.elim
    · exact p.elim
  · split at p
    · rename_i ds d e2 e1
      split at p
      · rename_i hz
        rw [Bool.and_eq_true] at hz
        exact .inr (.inl ⟨d, ds, (asX_rep hh r1 e1).1, .inl ⟨(asX_rep hh r2 e2).1, hz.2⟩, hz.1, p.here hh _ (rB_ _)⟩)
      · exact p.elim
    · rename_i ds d e2 e1
      split at p
      · rename_i hz
        rw [Bool.and_eq_true] at hz
        exact .inr (.inl ⟨d, ds, (asX_rep hh r1 e1).1, .inr ⟨(asX_rep hh r2 e2).1, hz.2⟩, hz.1, p.here hh _ (rB_ _)⟩)
      · exact p.elim
    · split at p
      · rename_i kvs j ed ek
        obtain ⟨a, ws, rfl, h1, h2⟩ := asDict_rep hh r2 ed
        rw [keyOf_rep r1 ek]
        refine .inr (.inr ⟨a, _, rfl, DGet.k h1, ?_⟩)
        have hg := h2.get (k := j)
        cases q : getP kvs j with
        | none =>
          rw [q] at hg p
          rw [show valV ws j = none from hg]
          exact p.here hh _ (rB_ _)
        | some x =>
          rw [q] at hg p
          obtain ⟨v', h3, _⟩ := hg
          rw [h3]
          exact p.here hh _ (rB_ _)
      · exact p.elim
/-! ### x += y -/
section
variable {prog : Program} {w : World} {A : Around} {E : Value → Shared → Prop} {s : Shared}
theorem noI_tuple_add : typeLookup (.type "tuple") (dunderI "add") = pure none := by rw [typeLookup_type, builtinLookup_eq_fast]; kernel_rfl
theorem icat_tup {t b : Addr} {vs ws : List Value} {Q : Value → Shared → Prop} (ht : IsTup s.heap t vs.toArray) (hb : IsTup s.heap b ws.toArray) (h0 : vs = [] → Q (.ref b) s)
    (h1 : vs ≠ [] → ws = [] → Q (.ref t) s) (h2 : vs ≠ [] → ws ≠ [] → Q (.ref s.heap.objs.size) { s with heap := s.heap.push { cls := .type "tuple", data := .seq (vs ++ ws).toArray } })
    (hsz : vs.length + ws.length ≤ sizeLine) : wpAny (model prog w) A (inplaceOp .Add (.ref t) (.ref b)) Q E s := by
  obtain ⟨⟨cls, dd, data, sl⟩, ho, hc, n, hd⟩ := id ht
  obtain ⟨⟨cls2, dd2, data2, sl2⟩, ho2, hc2, n2, hd2⟩ := id hb
  simp only at hc hd hc2 hd2
  subst hc hd hc2 hd2
  have e : vs.toArray ++ ws.toArray = (vs ++ ws).toArray := by simp
  refine wpAny_inplaceOp_concat ⟨_, ho, rfl⟩ ⟨_, ho2, rfl⟩ noI_tuple_add noFill_tuple_add seq_tuple_add ?_
  by_cases hv : vs = []
  · subst hv
    exact call_meets PySem.F.slot_tuple_add ⟨_, ho, rfl⟩ PySem.F.entry_tuple_add (PySem.F.args_tuple_add_2 _ _) (tuple_addW0 t b ([] : List Value).toArray ws.toArray n n2 dd dd2 sl sl2 (by simp)) ⟨ho, ho2, h0 rfl⟩
  · by_cases hw : ws = []
    · exact call_meets PySem.F.slot_tuple_add ⟨_, ho, rfl⟩ PySem.F.entry_tuple_add (PySem.F.args_tuple_add_2 _ _)
        (tuple_addW1 t b vs.toArray ws.toArray n n2 dd dd2 sl sl2 (by simpa using hv) (by simp [hw])) ⟨ho, ho2, h1 hv hw⟩
    · refine call_meets PySem.F.slot_tuple_add ⟨_, ho, rfl⟩ PySem.F.entry_tuple_add (PySem.F.args_tuple_add_2 _ _)
        (tuple_addW2 t b vs.toArray ws.toArray n n2 dd dd2 sl sl2 (by simpa using hv) (by simpa using hw) (by rw [List.size_toArray, List.size_toArray]; exact hsz)) ⟨ho, ho2, ?_⟩
      rw [e]
      exact h2 hv hw
end
theorem iop_catA {X : Cx} : OpR X (inplaceOp .Add) (rCatA X.K) := by
  intro pins s σ H x y v u Q I rx ry h
  obtain ⟨a, b, xs, ys, rfl, rfl, ha, hb, hz, q0, q1, q2⟩ := h
  cases rx
  cases ry
  obtain ⟨its, r1, p1, _⟩ := I.tuple ha
  obtain ⟨its2, r2, p2, _⟩ := I.tuple hb
  refine icat_tup p1 p2 (fun z => ⟨.ref b, H, I, rfl, q0 (r1.nil_iff.mp z)⟩) (fun y z => ⟨.ref a, H, I, rfl, q1 (fun w => y (r1.nil_iff.mpr w)) (r2.nil_iff.mp z)⟩) (fun y z => ?_) (by rw [← r1.length, ← r2.length]; exact hz)
  refine ⟨.ref s.heap.objs.size, _, I.laid (t' := s.toks) (o := .tup (xs ++ ys)) (fun b ob q => Heap.get?_push_of_some _ q) (Nat.le_refl _) ?_, rfl, q2 (fun w => y (r1.nil_iff.mpr w)) (fun w => z (r2.nil_iff.mpr w)) _ (I.hok.fresh (Nat.le_refl _))⟩
  exact ⟨by rw [List.length_append]; exact hz, _, r1.append r2, IsTup.new _ _⟩
def iadd (v w : PV) (h : Cells) : Out PV := match v, w with
  | .d (.int i), .d (.int j) => .ok (.d (.int (i + j))) h
  | .d (.str x), .d (.str y) => if x.length + y.length ≤ sizeLine then .ok (.d (.str (x ++ y))) h else .bad
  | .r n, w => match h[n]?, asL w h with
    | some (.lst xs), some ys => if xs.length + ys.length ≤ sizeLine then .ok (.r n) (h.set n (.lst (xs ++ ys))) else .bad
    | _, _ => .bad
  | v, w => match asT v, asT w with
    | some xs, some ys => if xs.length + ys.length ≤ sizeLine then .ok (mkT (xs ++ ys)) h else .bad
    | _, _ => .bad
def rIaddM (K : PySem.W.Frag) : R2 := fun x y H Q => (rI0 fun i j => .int (i + j)) x y H Q ∨ (fun x y H Q => ∃ i j, x = V.str i ∧ y = V.str j ∧ i.length + j.length ≤ sizeLine ∧ Q (.str (i ++ j)) H) x y H Q ∨ rExt2 x y H Q ∨ rCatA K x y H Q
theorem iop_addM {X : Cx} : OpR X (inplaceOp .Add) (rIaddM X.K) := OpR.or iop_add (OpR.or iop_add_str (OpR.or iop_ext iop_catA))
theorem br_iadd {K : PySem.W.Frag} {cs : List Tb} : Br K cs (rIaddM K) iadd := by
  intro m z H h v w u1 u2 Q Wx hh r1 r2 p
  unfold iadd at p
  split at p
  · rw [rep_int r1, rep_int r2]
    exact .inl ⟨_, _, rfl, rfl, p.here hh _ (rI_ _)⟩
  · split at p
    · rename_i hz
      obtain ⟨e1, o1⟩ := rep_str r1
      obtain ⟨e2, o2⟩ := rep_str r2
      rw [e1, e2]
      exact .inr (.inl ⟨_, _, rfl, rfl, hz, p.here hh _ (rS_ (strOk_app o1 o2))⟩)
    · exact p.elim
  · split at p
    · rename_i xs ys ex ey
      split at p
      · rename_i hz
        cases r1 with
        | r hn =>
          obtain ⟨vs, e1, t1⟩ := cellL hh hn ex
          obtain ⟨b, ws, rfl, q2, t2⟩ := asL_rep hh r2 ey
          rw [t1.length, t2.length] at hz
          exact .inr (.inr (.inl ⟨_, b, vs, ws, rfl, rfl, e1, q2, hz, Po.wr p hh hn e1 (t1.append t2) _ (.r hn)⟩))
      · exact p.elim
    · exact p.elim
  · split at p
    · rename_i xs ys ex ey
      obtain ⟨a, vs, rfl, q1, t1⟩ := asT_rep r1 ex
      obtain ⟨b, ws, rfl, q2, t2⟩ := asT_rep r2 ey
      split at p
      · rename_i hz
        rw [t1.length, t2.length] at hz
        refine .inr (.inr (.inr ⟨a, b, vs, ws, rfl, rfl, SqT.top q1, SqT.top q2, hz, fun e => ?_, fun _ e => ?_, fun _ _ pp hn => Po.new p hh hn _ (rep_newT hh (t1.append t2) hn)⟩))
        · subst e
          cases t1
          exact p.here hh _ (rep_tup q2 t2)
        · subst e
          cases t2
          rw [List.append_nil] at p
          exact p.here hh _ (rep_tup q1 t1)
      · exact p.elim
    · exact p.elim
theorem iop_mulM {X : Cx} : OpR X (inplaceOp .Mult) (rI IntMulOk fun i j => .int (i * j)) := opI fun _ _ _ _ _ _ _ hc q => imul_int q hc
def imul (v w : PV) (h : Cells) : Out PV := match v, w with
  | .d (.int i), .d (.int j) => if mulOk i j then .ok (.d (.int (i * j))) h else .bad
  | _, _ => .bad
theorem br_imul {K : PySem.W.Frag} {cs : List Tb} : Br K cs (rI IntMulOk fun i j => .int (i * j)) imul := by
  intro m z H h v w u1 u2 Q Wx hh r1 r2 p
  unfold imul at p
  split at p
  · split at p
    · rename_i hz
      rw [rep_int r1, rep_int r2]
      exact ⟨_, _, rfl, rfl, mulOk_ok hz, p.here hh _ (rI_ _)⟩
    · exact p.elim
  · exact p.elim
/-! ### order of data -/
def rLtD (K : PySem.W.Frag) (f : PyData → PyData → Bool) : R2 := fun x y H Q => ∃ d e, Dp K H x d ∧ Dp K H y e ∧ PySem.W.alike d e = true ∧ d ≠ .none ∧ min d.depth e.depth ≤ 64 ∧ Q (.bl (f d e)) H
theorem op_ltD {X : Cx} (hu : X.A.units + 64 < cLine) : OpR X (compareOp .Lt) (rLtD X.K fun d e => PySem.W.dataLt d e) := fun pins s σ H x y v u Q I rx ry ⟨d, e, hd, he, ha, hn, hm, q⟩ => by
  obtain ⟨as, r1⟩ := Dp.reads I d x v hd rx
  obtain ⟨bs, r2⟩ := Dp.reads I e y u he ry
  exact PySem.W.lt_data r1 r2 ha hn (by omega) ⟨.bl _, H, I, rfl, q⟩
theorem op_gtD {X : Cx} (hu : X.A.units + 64 < cLine) : OpR X (compareOp .Gt) (rLtD X.K fun d e => PySem.W.dataLt e d) := fun pins s σ H x y v u Q I rx ry ⟨d, e, hd, he, ha, hn, hm, q⟩ => by
  obtain ⟨as, r1⟩ := Dp.reads I d x v hd rx
  obtain ⟨bs, r2⟩ := Dp.reads I e y u he ry
  exact PySem.W.gt_data r1 r2 ha hn (by omega) ⟨.bl _, H, I, rfl, q⟩
theorem op_leD {X : Cx} (hu : X.A.units + 64 < cLine) : OpR X (compareOp .LtE) (rLtD X.K fun d e => !PySem.W.dataLt e d) := fun pins s σ H x y v u Q I rx ry ⟨d, e, hd, he, ha, hn, hm, q⟩ => by
  obtain ⟨as, r1⟩ := Dp.reads I d x v hd rx
  obtain ⟨bs, r2⟩ := Dp.reads I e y u he ry
  exact PySem.W.le_data r1 r2 ha hn (by omega) ⟨.bl _, H, I, rfl, q⟩
theorem op_geD {X : Cx} (hu : X.A.units + 64 < cLine) : OpR X (compareOp .GtE) (rLtD X.K fun d e => !PySem.W.dataLt d e) := fun pins s σ H x y v u Q I rx ry ⟨d, e, hd, he, ha, hn, hm, q⟩ => by
  obtain ⟨as, r1⟩ := Dp.reads I d x v hd rx
  obtain ⟨bs, r2⟩ := Dp.reads I e y u he ry
  exact PySem.W.ge_data r1 r2 ha hn (by omega) ⟨.bl _, H, I, rfl, q⟩
def isNon : PyData → Bool
  | .none => true
  | _ => false
/-- whole numbers, texts; other data by their order -/
def opOrd (f : PyData → PyData → Bool) (g : PV → PV → Cells → Out PV) (v w : PV) (h : Cells) : Out PV := match g v w h with
  | .bad => match asX v h, asX w h with
    | some d, some e => if PySem.W.alike d e && !isNon d && decide (min d.depth e.depth ≤ 64) then .ok (.d (.bool (f d e))) h else .bad
    | _, _ => .bad
  | o => o
theorem br_ordD {K : PySem.W.Frag} {cs : List Tb} {f : PyData → PyData → Bool} {g : PV → PV → Cells → Out PV} {r : R2} (hb : Br K cs r g) : Br K cs (fun x y H Q => r x y H Q ∨ rLtD K f x y H Q) (opOrd f g) := by
  intro m z H h v w u1 u2 Q Wx hh r1 r2 p
  unfold opOrd at p
  split at p
  · split at p
    · rename_i d e ed ee
      split at p
      · rename_i hz
        simp only [Bool.and_eq_true, Bool.not_eq_true', decide_eq_true_eq] at hz
        refine .inr ⟨d, e, (asX_rep hh r1 ed).1, (asX_rep hh r2 ee).1, hz.1.1, fun q => ?_, hz.2, p.here hh _ (rB_ _)⟩
        rw [q] at hz
        exact absurd hz.1.2 (by decide)
      · exact p.elim
    · exact p.elim
  · exact .inl (hb m z H h v w u1 u2 Q Wx hh r1 r2 p)
/-! ### what is walked: texts, pairs -/
/-- items that need no list: made as they are walked -/
theorem jok_str {K : PySem.W.Frag} {cs : List Tb} {z m : List Addr} {H : Hp} {x : Str} (o : PyData.strOk x = true) : JOk K cs z m H (x.cps.toList.map fun c => PV.d (.str ⟨#[c]⟩)) none (Its x) := fun z' m' h' H' f nx hh g => by
  refine ⟨fun i y hy => ?_, by show x.cps.size ≤ _; simp⟩
  rw [List.getElem?_map] at hy
  cases e : x.cps.toList[i]? with
  | none => rw [e] at hy; cases hy
  | some c =>
    obtain ⟨hl, ej⟩ := List.getElem?_eq_some_iff.mp e
    rw [e] at hy
    obtain rfl := Option.some.inj hy
    refine ⟨by show i < x.cps.size; simpa using hl, fun u H'' ⟨e1, c', e2, e3⟩ => ?_⟩
    subst e1 e3
    have e4 : x.cps[i]? = some c := by rw [← Array.getElem?_toList]; exact e
    rw [e4] at e2
    obtain rfl := Option.some.inj e2
    refine ⟨Nx.refl _ _ _, hh, rS_ ?_⟩
    unfold PyData.strOk at *
    rw [← Array.all_toList] at o
    have := List.all_eq_true.mp o c (List.mem_of_getElem? e)
    simpa using this
def iText (f : ME PV) : ME (List PV × Option SR) := fun e h => (f e h).bind fun v h1 => match v with
  | .d (.str x) => .ok (x.cps.toList.map fun c => PV.d (.str ⟨#[c]⟩), none) h1
  | _ => .bad
theorem i_text {X : Cx} {cs : List Tb} {W : WX} {tg l : Expr} {f : ME PV} (hl : SE X cs W l f) : SI X cs W tg l (iText f) := pi_imp (pi_str hl) fun σ H R ⟨m, z, e, h, hs, hh, p⟩ => tE_then hs hh p fun v h1 m1 H1 u hs1 hh1 r1 n1 p1 => by
  split at p1
  · obtain ⟨e1, o1⟩ := rep_str r1
    exact ⟨_, e1, p1.here hh1 _ (jok_str o1)⟩
  · exact p1.elim
/-- two items in a new pair -/
theorem rep_pair {K : PySem.W.Frag} {cs : List Tb} {m z : List Addr} {h : Cells} {H : Hp} {x y : PV} {u v : V} {p : Addr} (hh : HRel K cs m z h H) (r1 : Rep K m z H x u) (r2 : Rep K m z H y v) (hn : H p = none) : Rep K m z (upd H p (.tup [u, v])) (mkT [x, y]) (.ref p) := rep_newT hh (.cons r1 (.cons r2 .nil)) hn
theorem jok_enum {K : PySem.W.Frag} {cs : List Tb} {z m : List Addr} {H : Hp} {a : Addr} {xs : List PV} {vs : List V} (hq : fz m z H a = some (.lst vs)) (t : RepAll K m z H xs vs) :
    JOk K cs z m H (xs.mapIdx fun i x => mkT [.d (.int (i : Nat)), x]) none (Ite K a) := fun z' m' h' H' f n hh _ => by
  have hv := n.vwz f
  have h1 := hv _ _ hq noTb_lst
  have h2 : SqL K H' a vs := .inl (.inl (fz_some h1).2.2)
  have t' := Rep.vwAll hv (fun _ _ q => n.get q) t
  refine ⟨fun i x hx => ?_, vs, h2, by rw [List.length_mapIdx, t.length]; exact Nat.le_refl _⟩
  rw [List.getElem?_mapIdx] at hx
  obtain ⟨y, ey, ex⟩ := Option.map_eq_some_iff.mp hx
  subst ex
  obtain ⟨u, e1, r1⟩ := t'.get ey
  refine ⟨⟨vs, u, h2, e1⟩, fun w H'' ⟨T, u', e, hn, eH, hw⟩ => ?_⟩
  subst e eH
  have e3 := hw vs h2
  rw [e1] at e3
  obtain rfl := Option.some.inj e3
  exact ⟨Nx.new hn, hh.new hn, rep_pair hh (rI_ _) r1 hn⟩
theorem jok_enumC {K : PySem.W.Frag} {cs : List Tb} {z m : List Addr} {H : Hp} {a : Addr} {n : Nat} {xs : List PV} (hn : m[n]? = some a) :
    JOk K cs z m H (xs.mapIdx fun i x => mkT [.d (.int (i : Nat)), x]) none (Ite K a) → True := fun _ => trivial
/-- enumerate(a list that never changes) -/
def iEnumL (g : ME (List PV)) : ME (List PV × Option SR) := fun e h => (g e h).bind fun vs h1 => match vs with
  | [.d (.list ds)] => .ok ((ds.map PV.d).mapIdx fun i x => mkT [.d (.int (i : Nat)), x], none) h1
  | [.ls xs] => .ok (xs.mapIdx fun i x => mkT [.d (.int (i : Nat)), x], none) h1
  | _ => .bad
theorem i_enum {X : Cx} {cs : List Tb} {W : WX} {e : Expr} {g : ME (List PV)} {p pos tpos : Pos} {elts : List Expr} {kk : Nat} (hg : Gl X "enumerate") (hm : X.mg "enumerate" = none) (ha : SA X cs W [e] g) (hs : starEach [e] X.env = [(false, eval e X.env)] := by rfl) :
    SI X cs W (.Tuple elts kk tpos) (.Call (.Name "enumerate" p) [e] [] pos) (iEnumL g) :=
  pi_imp (pi_enum hg hm ha hs) fun σ H R ⟨m, z, e, h, hs, hh, p⟩ => tA_then hs hh p fun vs h1 m1 H1 us hs1 hh1 r1 n1 p1 => by
    split at p1
    · obtain ⟨u, rfl, r2⟩ := rep1 r1
      cases r2 with
      | d hd c =>
        cases hd with
        | lst hq ha =>
          exact ⟨_, _, rfl, .inl (.inl (fz_some hq).2.2), p1.here hh1 _ (jok_enum hq (RepAll.of_dp ha (by simpa [PyData.canLay0] using c)))⟩
    · obtain ⟨u, rfl, r2⟩ := rep1 r1
      cases r2 with
      | ls hq t => exact ⟨_, _, rfl, .inl (.inl (fz_some hq).2.2), p1.here hh1 _ (jok_enum hq t)⟩
    · exact p1.elim
/-- zip of two lists, of two tuples, that never change -/
def asF : PV → Option (List PV)
  | .d (.list ds) => some (ds.map .d)
  | .ls xs => some xs
  | _ => none
theorem asF_rep {K : PySem.W.Frag} {m z : List Addr} {H : Hp} {v : PV} {u : V} {xs : List PV} (r : Rep K m z H v u) (e : asF v = some xs) : ∃ a vs, u = .ref a ∧ fz m z H a = some (.lst vs) ∧ RepAll K m z H xs vs := by
  cases r with
  | d hd c =>
    cases hd with
    | lst hq ha =>
      obtain rfl : _ = xs := Option.some.inj e
      exact ⟨_, _, rfl, hq, RepAll.of_dp ha (by simpa [PyData.canLay0] using c)⟩
    | _ => simp [asF] at e
  | r hn => simp [asF] at e
  | ls hq ha =>
    obtain rfl : _ = xs := Option.some.inj e
    exact ⟨_, _, rfl, hq, ha⟩
  | tp hq ha => simp [asF] at e
  | sc hq => simp [asF] at e
def zipP (xs ys : List PV) : List PV := (xs.zip ys).map fun p => mkT [p.1, p.2]
def rqC (v : PV) (xs : List PV) : List (Nat × List PV) := match v with
  | .r n => [(n, xs)]
  | _ => []
def iZipM (g : ME (List PV)) : ME (List PV × Option SR) := fun e h => (g e h).bind fun vs h1 => match vs with
  | [v, w] => match asF v, asF w with
    | some xs, some ys => .ok (zipP xs ys, none) h1
    | _, _ => match asT v, asT w with
      | some xs, some ys => .ok (zipP xs ys, none) h1
      | _, _ => match asL v h1, asL w h1 with
        | some xs, some ys => .ok (zipP xs ys, some (.cells (rqC v xs ++ rqC w ys))) h1
        | _, _ => .bad
  | _ => .bad
theorem zipP_get {xs ys : List PV} {i : Nat} {x : PV} (e : (zipP xs ys)[i]? = some x) : ∃ a b, xs[i]? = some a ∧ ys[i]? = some b ∧ x = mkT [a, b] := by
  unfold zipP at e
  rw [List.getElem?_map] at e
  obtain ⟨p, h1, h2⟩ := Option.map_eq_some_iff.mp e
  obtain ⟨h3, h4⟩ := List.getElem?_zip_eq_some.mp h1
  exact ⟨p.1, p.2, h3, h4, h2.symm⟩
theorem jok_zip {K : PySem.W.Frag} {cs : List Tb} {z m : List Addr} {H : Hp} {a b : Addr} {xs ys : List PV} {vs ws : List V} (hq : fz m z H a = some (.lst vs)) (t : RepAll K m z H xs vs) (hq2 : fz m z H b = some (.lst ws)) (t2 : RepAll K m z H ys ws) :
    JOk K cs z m H (zipP xs ys) none (Itz K a b) := fun z' m' h' H' f n hh _ => by
  have hv := n.vwz f
  have h2 : SqL K H' a vs := .inl (.inl (fz_some (hv _ _ hq noTb_lst)).2.2)
  have h3 : SqL K H' b ws := .inl (.inl (fz_some (hv _ _ hq2 noTb_lst)).2.2)
  have t' := Rep.vwAll hv (fun _ _ q => n.get q) t
  have t2' := Rep.vwAll hv (fun _ _ q => n.get q) t2
  refine ⟨fun i x hx => ?_, vs, ws, h2, h3, by rw [← t.length, ← t2.length]; unfold zipP; rw [List.length_map, List.length_zip]; omega⟩
  obtain ⟨c, d, ec, ed, ex⟩ := zipP_get hx
  subst ex
  obtain ⟨u, e1, r1⟩ := t'.get ec
  obtain ⟨v, e2, r2⟩ := t2'.get ed
  refine ⟨⟨vs, ws, u, v, h2, h3, e1, e2⟩, fun w H'' ⟨T, u', v', e, hn, eH, hw1, hw2⟩ => ?_⟩
  subst e eH
  have e3 := hw1 vs h2
  have e4 := hw2 ws h3
  rw [e1] at e3
  rw [e2] at e4
  obtain rfl := Option.some.inj e3
  obtain rfl := Option.some.inj e4
  exact ⟨Nx.new hn, hh.new hn, rep_pair hh r1 r2 hn⟩
theorem jok_zipT {K : PySem.W.Frag} {cs : List Tb} {z m : List Addr} {H : Hp} {a b : Addr} {xs ys : List PV} {vs ws : List V} (hq : SqT K (fz m z H) a vs) (t : RepAll K m z H xs vs) (hq2 : SqT K (fz m z H) b ws) (t2 : RepAll K m z H ys ws) :
    JOk K cs z m H (zipP xs ys) none (RZ.ItzT K a b) := fun z' m' h' H' f n hh _ => by
  have hv := n.vwz f
  have h2 : SqT K H' a vs := SqT.top (SqT.vw hq hv)
  have h3 : SqT K H' b ws := SqT.top (SqT.vw hq2 hv)
  have t' := Rep.vwAll hv (fun _ _ q => n.get q) t
  have t2' := Rep.vwAll hv (fun _ _ q => n.get q) t2
  refine ⟨fun i x hx => ?_, vs, ws, h2, h3, by rw [← t.length, ← t2.length]; unfold zipP; rw [List.length_map, List.length_zip]; omega⟩
  obtain ⟨c, d, ec, ed, ex⟩ := zipP_get hx
  subst ex
  obtain ⟨u, e1, r1⟩ := t'.get ec
  obtain ⟨v, e2, r2⟩ := t2'.get ed
  refine ⟨⟨vs, ws, u, v, h2, h3, e1, e2⟩, fun w H'' ⟨T, u', v', e, hn, eH, hw1, hw2⟩ => ?_⟩
  subst e eH
  have e3 := hw1 vs h2
  have e4 := hw2 ws h3
  rw [e1] at e3
  rw [e2] at e4
  obtain rfl := Option.some.inj e3
  obtain rfl := Option.some.inj e4
  exact ⟨Nx.new hn, hh.new hn, rep_pair hh r1 r2 hn⟩
/-- the list at a holds xs as long as the cell (if it is one) does -/
def LiveL (K : PySem.W.Frag) (cs : List Tb) (z m : List Addr) (H : Hp) (v : PV) (xs : List PV) (a : Addr) : Prop := ∀ z' m' h' H', FrZ H z z' → Nx m z H m' H' → HRel K cs m' z' h' H' → (∀ p ∈ rqC v xs, h'[p.1]? = some (.lst p.2)) → ∃ vs, SqL K H' a vs ∧ RepAll K m' z' H' xs vs
theorem live_of {K : PySem.W.Frag} {cs : List Tb} {z m : List Addr} {H : Hp} {h : Cells} {v : PV} {u : V} {xs : List PV} (hh : HRel K cs m z h H) (r : Rep K m z H v u) (e : asL v h = some xs) : ∃ a vs, u = .ref a ∧ SqL K H a vs ∧ LiveL K cs z m H v xs a := by
  by_cases c : ∃ n, v = .r n
  · obtain ⟨n, rfl⟩ := c
    cases r with
    | r hn =>
      rename_i a
      have ex : h[n]? = some (.lst xs) := by
        unfold asL at e
        simp only at e
        split at e
        · rename_i q2; obtain rfl := Option.some.inj e; exact q2
        · cases e
      obtain ⟨vs, e1, t1⟩ := cellL hh hn ex
      refine ⟨a, vs, rfl, SqL.of e1, fun z' m' h' H' f n' hh' k => ?_⟩
      obtain ⟨ws, e2, t2⟩ := cellL hh' (n'.get hn) (k (n, xs) (by simp [rqC]))
      exact ⟨ws, SqL.of e2, t2⟩
  · have ef : asF v = some xs := by
      cases v with
      | r n => exact absurd ⟨n, rfl⟩ c
      | d x => cases x <;> first | exact e | cases e
      | ls ys => exact e
      | _ => cases e
    obtain ⟨a, vs, rfl, q1, t1⟩ := asF_rep r ef
    refine ⟨a, vs, rfl, .inl (.inl (fz_some q1).2.2), fun z' m' h' H' f n hh' _ => ?_⟩
    have hv := n.vwz f
    exact ⟨vs, .inl (.inl (fz_some (hv _ _ q1 noTb_lst)).2.2), Rep.vwAll hv (fun _ _ q => n.get q) t1⟩
theorem jok_zipC {K : PySem.W.Frag} {cs : List Tb} {z m : List Addr} {H : Hp} {a b : Addr} {v w : PV} {xs ys : List PV} (l1 : LiveL K cs z m H v xs a) (l2 : LiveL K cs z m H w ys b) :
    JOk K cs z m H (zipP xs ys) (some (.cells (rqC v xs ++ rqC w ys))) (Itz K a b) := fun z' m' h' H' f n hh hg => by
  have hc := gd_cells hg
  obtain ⟨vs, h2, t'⟩ := l1 z' m' h' H' f n hh (fun p hp => hc p (List.mem_append_left _ hp))
  obtain ⟨ws, h3, t2'⟩ := l2 z' m' h' H' f n hh (fun p hp => hc p (List.mem_append_right _ hp))
  refine ⟨fun i x hx => ?_, vs, ws, h2, h3, by rw [← t'.length, ← t2'.length]; unfold zipP; rw [List.length_map, List.length_zip]; omega⟩
  obtain ⟨c, d, ec, ed, ex⟩ := zipP_get hx
  subst ex
  obtain ⟨u, e1, r1⟩ := t'.get ec
  obtain ⟨v, e2, r2⟩ := t2'.get ed
  refine ⟨⟨vs, ws, u, v, h2, h3, e1, e2⟩, fun w H'' ⟨T, u', v', e, hn, eH, hw1, hw2⟩ => ?_⟩
  subst e eH
  have e3 := hw1 vs h2
  have e4 := hw2 ws h3
  rw [e1] at e3
  rw [e2] at e4
  obtain rfl := Option.some.inj e3
  obtain rfl := Option.some.inj e4
  exact ⟨Nx.new hn, hh.new hn, rep_pair hh r1 r2 hn⟩
theorem i_zip {X : Cx} {cs : List Tb} {W : WX} {e e2 : Expr} {g : ME (List PV)} {p pos tpos : Pos} {elts : List Expr} {kk : Nat} (hg : Gl X "zip") (hm : X.mg "zip" = none) (ha : SA X cs W [e, e2] g)
    (hs : starEach [e, e2] X.env = (false, eval e X.env) :: starEach [e2] X.env := by rfl) (hpl : (backTo pos (starEach [e2] X.env)).any (·.1) = false := by rfl) :
    SI X cs W (.Tuple elts kk tpos) (.Call (.Name "zip" p) [e, e2] [] pos) (iZipM g) :=
  pi_imp (RZ.pi_zipA hg hm ha hs hpl) fun σ H R ⟨m, z, e, h, hs, hh, p⟩ => tA_then hs hh p fun vs h1 m1 H1 us hs1 hh1 r1 n1 p1 => by
    split at p1
    · obtain ⟨u, w, rfl, r2, r3⟩ := rep2 r1
      split at p1
      · rename_i xs ys ex ey
        obtain ⟨a, vs, rfl, q1, t1⟩ := asF_rep r2 ex
        obtain ⟨b, ws, rfl, q2, t2⟩ := asF_rep r3 ey
        exact ⟨a, b, vs, ws, rfl, .inl ⟨.inl (.inl (fz_some q1).2.2), .inl (.inl (fz_some q2).2.2), p1.here hh1 _ (jok_zip q1 t1 q2 t2)⟩⟩
      · split at p1
        · rename_i xs ys ex ey
          obtain ⟨a, vs, rfl, q1, t1⟩ := asT_rep r2 ex
          obtain ⟨b, ws, rfl, q2, t2⟩ := asT_rep r3 ey
          exact ⟨a, b, vs, ws, rfl, .inr ⟨SqT.top q1, SqT.top q2, p1.here hh1 _ (jok_zipT q1 t1 q2 t2)⟩⟩
        · split at p1
          · rename_i xs ys ex ey
            obtain ⟨a, vs, rfl, q1, l1⟩ := live_of hh1 r2 ex
            obtain ⟨b, ws, rfl, q2, l2⟩ := live_of hh1 r3 ey
            exact ⟨a, b, vs, ws, rfl, .inl ⟨q1, q2, p1.here hh1 _ (jok_zipC l1 l2)⟩⟩
          · exact p1.elim
    · exact p1.elim
end Mi

set_option Elab.async false
set_option linter.all false
set_option maxRecDepth 100000
set_option maxHeartbeats 4000000
namespace Mi
open PySem PySem.Spec PyProof.Rows L2 GenW

/-! ## generator expressions -/
theorem over_gen {A : Around} {elt : Expr} {gs : List Comprehension} {scope : Scope} {pos : Pos} {it acc : Value} {env : Env} : A.over (.compLoop (.GeneratorExp elt gs scope pos) 0 it acc env) [] = A.deeper env := by
  first
    | rfl
    | (obtain ⟨hd, d, fr, gs, u⟩ := A; simp [Around.over, Around.deeper, marksOver, frameCount, unitsOf, envsOf, guardsOf, pushEnvs, pushGuards, Code.envs, Code.env?, Code.isFrame, Code.guards, Code.isGuard, Code.weight, Code.frames, Code.isCreation, Code.isCaller, Code.cUnits])
theorem over_gen0 {A : Around} {elt : Expr} {gs : List Comprehension} {scope : Scope} {pos : Pos} {it acc : Value} {env : Env} : A.over (.compStart (.GeneratorExp elt gs scope pos) 0 it acc env) [] = A.deeper env := by
  first
    | rfl
    | (obtain ⟨hd, d, fr, gs, u⟩ := A; simp [Around.over, Around.deeper, marksOver, frameCount, unitsOf, envsOf, guardsOf, pushEnvs, pushGuards, Code.envs, Code.env?, Code.isFrame, Code.guards, Code.isGuard, Code.weight, Code.frames, Code.isCreation, Code.isCaller, Code.cUnits])
/-- the generator's own context -/
abbrev gCx (X : Cx) (s : Shared) (H : Hp) (cenv : Env) (fp : List Addr) (A : Around) : Cx :=
  { X with A := A, s_0 := s, H_0 := H, env := cenv, outer := X.stack, stack := cenv :: X.stack, ex := fp, fn := fun _ => false, pn := [], calm := true, xe := fun _ _ => False }
/-- what comes out, the cells as they stand then; the cells at the end -/
def gTr (g : MG) (t : ME Bool) (fe : ME PV) (src : Option SR) (all : List PV) (e : Sl) : List PV → Cells → Option (List (PV × Cells) × Cells)
  | [], h => if gd src all h then some ([], h) else none
  | x :: r, h => if gd src all h then (match g x e h with
      | some (e1, h1) => match t e1 h1 with
        | .ok true h2 => match fe e1 h2 with
          | .ok y h3 => (gTr g t fe src all e r h3).map fun p => ((y, h3) :: p.1, p.2)
          | _ => none
        | .ok false h2 => gTr g t fe src all e r h2
        | _ => none
      | none => none) else none
structure GP where
  X : Cx
  cs : List Tb
  z : List Addr
  s4 : Shared
  H4 : Hp
  m4 : List Addr
  cenv : Env
  fp : List Addr
  it : Addr
  J : It
  tn : Nat → Heap → Prop
  g : MG
  t : ME Bool
  fe : ME PV
  e : Sl
  σ : L2.St
  src : Option SR
  all : List PV
  T : List (PV × Cells)
  hf : Cells
  a : Addr
  ps : List Addr
  C : List V → Heap → Prop
  B : Around
abbrev GP.cx (G : GP) : Cx := gCx G.X G.s4 G.H4 G.cenv G.fp (G.B.deeper G.cenv)
/-- objects kept -/
def Kp (ps : List Addr) (s s' : Shared) : Prop := ∀ b ∈ ps, ∀ o, s.heap.get? b = some o → s'.heap.get? b = some o
theorem Kp.refl (ps : List Addr) (s : Shared) : Kp ps s s := fun _ _ _ h => h
theorem Kp.trans {ps : List Addr} {s s1 s2 : Shared} (a : Kp ps s s1) (b : Kp ps s1 s2) : Kp ps s s2 := fun c hc o h => b c hc o (a c hc o h)
/-- what the consumer may do while the generator sleeps -/
structure Mv (ps : List Addr) (s s' : Shared) : Prop where
  os : s'.os = s.os
  bare : AllBare s'.gens
  keep : ∀ b o, b ∉ ps → s.heap.get? b = some o → s'.heap.get? b = some o
  there : ∀ b ∈ ps, ∃ o, s'.heap.get? b = some o ∧ ∀ v, o.data ≠ .cell v
def Pk (G : GP) (H : Hp) (s : Shared) : Prop := ∀ b ∈ G.a :: G.ps, FpOk G.cx [] H b ∧ ∃ o, s.heap.get? b = some o ∧ ∀ v, o.data ≠ .cell v
structure GP.Ok (G : GP) (j i : Nat) (h : Cells) (m : List Addr) (H : Hp) (vs : List V) (s : Shared) : Prop where
  inv : Inv G.cx [] G.σ H s
  hr : HRel G.X.K G.cs m G.z h H
  nx : Nx G.m4 G.z G.H4 m H
  sr : SRel G.X.K m G.z H G.e G.σ
  st : G.tn i s.heap
  fz : ∀ b ∈ G.fp, H b = none
  pk : Pk G H s
  ile : i ≤ G.all.length
  tr : gTr G.g G.t G.fe G.src G.all G.e (G.all.drop i) h = some (G.T.drop j, G.hf)
  jle : j ≤ G.T.length
  rv : RepAll G.X.K m G.z H ((G.T.take j).map (·.1)) vs
  cv : G.C vs s.heap
structure GP.Fix (G : GP) (tg elt : Expr) (ifs : List Expr) (own : List Nat) : Prop where
  hd : G.B.handled = none
  tu : Turn G.X.prog G.X.w G.X.K tg G.J G.fp G.it G.tn
  jok : JOk G.X.K G.cs G.z G.m4 G.H4 G.all G.src G.J
  apart : ∀ b ∈ G.a :: G.ps, b ∉ G.fp
  ap : G.a ∉ G.ps
  cst : ∀ vs h h', (∀ b ∈ G.ps, ∀ o, h.get? b = some o → h'.get? b = some o) → G.C vs h → G.C vs h'
  hg : SG G.cx G.cs own tg G.g
  ht : STs G.cx G.cs W0 ifs G.t
  he : SE G.cx G.cs W0 elt G.fe
  hσ : wipe G.σ own = G.σ
  co : G.cenv.scope.isCoroutine = false
def GP.Y (G : GP) : Protocol := fun n s₀ v s kap => ∃ m H vs y h u, G.T[G.T.length - n]? = some (y, h) ∧ Inv G.cx [] G.σ H s ∧ HRel G.X.K G.cs m G.z h H ∧ Nx G.m4 G.z G.H4 m H ∧
  RepAll G.X.K m G.z H ((G.T.take (G.T.length - n)).map (·.1)) vs ∧ Rep G.X.K m G.z H y u ∧ RelV u v ∧ G.C vs s.heap ∧ Kp (G.a :: G.ps) s₀ s ∧ Pk G H s ∧
  ∀ s', Mv G.ps s s' → G.C (vs ++ [u]) s'.heap → kap (.send .none) s'
def GP.RP (G : GP) (n : Nat) (s₀ s₁ : Shared) : Prop := n = 1 ∧ ∃ m H vs, Inv G.cx [] G.σ H s₁ ∧ HRel G.X.K G.cs m G.z G.hf H ∧ Nx G.m4 G.z G.H4 m H ∧ RepAll G.X.K m G.z H (G.T.map (·.1)) vs ∧ G.C vs s₁.heap ∧ Kp (G.a :: G.ps) s₀ s₁ ∧ Pk G H s₁
def GP.R (G : GP) : GenEnd := fun n s₀ r s₁ => r = .ok .next ∧ G.RP n s₀ s₁
/-- the consumer has moved -/
theorem inv_mv {Y : Cx} {σ : L2.St} {H : Hp} {s s' : Shared} {ps : List Addr} (I : Inv Y [] σ H s) (hf : ∀ b ∈ ps, FpOk Y [] H b) (v : Mv ps s s') : Inv Y [] σ H s' := by
  obtain ⟨z1, z2, z3, z4⟩ := v
  obtain ⟨hh, g, d, t, o⟩ := s'
  have ho : o = s.os := z1
  subst ho
  have nt : ∀ b u, H b = some u → b ∉ ps := fun b u q hb => by rw [(hf b hb).1] at q; cases q
  refine I.step (g' := g) (t' := t) (d' := d) (ch := ps) (fun b hb => ⟨(hf b hb).2.2.2.1, (hf b hb).2.1, (hf b hb).2.2.2.2.1, (hf b hb).2.2.2.2.2⟩)
    (fun b ob _ _ hc q _ => z3 b ob hc q) (fun b ob _ _ hc q _ => ⟨ob.slots, z3 b ob hc q⟩) (fun _ _ _ _ n => n) (fun b ob hc q => ⟨ob, z3 b ob hc q⟩)
    (fun _ _ q => q) (fun _ _ _ q => q) (fun b ps q => ⟨#[], by rw [q]; simp⟩) (fun m hm => ?_) (fun b u q => ?_) z2
  · obtain ⟨ob, es, ep, ho, r⟩ := hm
    exact ⟨ob, es, ep, z3 _ ob (fun q => (hf _ q).2.1 rfl) ho, r⟩
  · refine (I.hok b u q).stay (fun c v hc y => z3 c v ?_ y) (fun _ y => y) fun _ _ y => y
    rcases hc with y | y
    · rw [y]; exact nt b u q
    · exact nt c _ y
theorem seg_loop (G : GP) {tg elt iter : Expr} {ifs : List Expr} {own : List Nat} {scope : Scope} {pos : Pos} (F : G.Fix tg elt ifs own) : ∀ (k i j : Nat) (h : Cells) (m : List Addr) (H : Hp) (vs : List V) (s₀ s : Shared), G.all.length - i = k → G.Ok j i h m H vs s → Kp (G.a :: G.ps) s₀ s →
    Seg (model G.X.prog G.X.w) G.B G.R G.Y (G.T.length - j + 1) s₀ (.compLoop (.GeneratorExp elt [⟨tg, iter, ifs, 0⟩] scope pos) 0 (.ref G.it) .none G.cenv)
      ((model G.X.prog G.X.w).den (.compLoop (.GeneratorExp elt [⟨tg, iter, ifs, 0⟩] scope pos) 0 (.ref G.it) .none G.cenv)) [] s := by
  intro k
  induction k with
  | zero =>
    intro i j h m H vs s₀ s hk ok hkp
    have hin : i = G.all.length := by have := ok.ile; omega
    subst hin
    have tr := ok.tr
    rw [List.drop_length] at tr
    unfold gTr at tr
    split at tr
    · rename_i hgd
      have tr' := Option.some.inj tr
      have e1 : [] = G.T.drop j := congrArg Prod.fst tr'
      have e2 : h = G.hf := congrArg Prod.snd tr'
      have ej : j = G.T.length := by
        have := congrArg List.length e1
        rw [List.length_drop] at this
        have := ok.jle
        simp at *
        omega
      obtain ⟨_, hstop⟩ := F.jok G.z m h H (FrZ.refl _ _) ok.nx ok.hr hgd
      have Iq := ok.inv.pinned (fp := G.a :: G.ps) (fun b hb => (ok.pk b hb).1) (fun b hb => (ok.pk b hb).2)
      have stat : ∀ b ∈ G.fp, FpOk G.cx ([] ++ pinsAt (G.a :: G.ps) s.heap) H b := fun b hb =>
        ⟨ok.fz b hb, (ok.inv.ok.exf b hb).1, ok.inv.ok.exfs b hb, .inl hb, fun x c e => (ok.inv.ok.exf b hb).2 x c e, fun p hp => fun e => by
          have hp' : p ∈ pinsAt (G.a :: G.ps) s.heap := hp
          exact F.apart p.1 (of_pinsAt hp').1 (e ▸ hb)⟩
      show Seg _ G.B _ _ _ s₀ _ ((compTurn (.GeneratorExp elt [⟨tg, iter, ifs, 0⟩] scope pos) 0 (.ref G.it) .none G.cenv).onRaise (leaving G.cenv)) [] s
      rw [compTurn_gen, Sem.onRaise_eq_wrap]
      refine seg_bind_wrap (wpAny_standAt ?_)
      have td := F.tu.done G.cx rfl rfl rfl rfl _ _ s G.σ H (fun _ _ => False) Iq stat ok.st hstop
      refine seg_bind_wrap ?_
      rw [over_gen]
      refine thnF td fun r s6 ⟨hr, I6⟩ => ?_
      subst hr
      have kp6 : Kp (G.a :: G.ps) s s6 := fun b hb o e => (I6.pin (b, o) (List.mem_append_right _ (mem_pinsAt hb e))).1
      refine seg_end (.ok .next) ⟨rfl, by omega, m, H, vs, I6.unpinned, e2 ▸ ok.hr, ok.nx, ?_, F.cst _ _ _ (fun b hb o e => kp6 b (List.mem_cons_of_mem _ hb) o e) ok.cv, hkp.trans kp6, fun b hb => ⟨(ok.pk b hb).1, ?_⟩⟩
      · have := ok.rv
        rw [ej, List.take_length] at this
        exact this
      · obtain ⟨o, ho, hc⟩ := (ok.pk b hb).2
        exact ⟨o, kp6 b hb o ho, hc⟩
    · cases tr
  | succ k ih =>
    intro i j h m H vs s₀ s hk ok hkp
    have hlt : i < G.all.length := by omega
    have ex : G.all[i]? = some G.all[i] := List.getElem?_eq_getElem hlt
    have tr := ok.tr
    rw [List.drop_eq_getElem_cons hlt] at tr
    unfold gTr at tr
    split at tr
    · rename_i hgd
      obtain ⟨hgo, _⟩ := F.jok G.z m h H (FrZ.refl _ _) ok.nx ok.hr hgd
      obtain ⟨go, yl⟩ := hgo i _ ex
      have Iq := ok.inv.pinned (fp := G.a :: G.ps) (fun b hb => (ok.pk b hb).1) (fun b hb => (ok.pk b hb).2)
      have stat : ∀ {H' : Hp}, (∀ b ∈ G.fp, H' b = none) → ∀ b ∈ G.fp, FpOk G.cx ([] ++ pinsAt (G.a :: G.ps) s.heap) H' b := fun hn b hb =>
        ⟨hn b hb, (ok.inv.ok.exf b hb).1, ok.inv.ok.exfs b hb, .inl hb, fun x c e => (ok.inv.ok.exf b hb).2 x c e, fun p hp => fun e => by
          have hp' : p ∈ pinsAt (G.a :: G.ps) s.heap := hp
          exact F.apart p.1 (of_pinsAt hp').1 (e ▸ hb)⟩
      show Seg _ G.B _ _ _ s₀ _ ((compTurn (.GeneratorExp elt [⟨tg, iter, ifs, 0⟩] scope pos) 0 (.ref G.it) .none G.cenv).onRaise (leaving G.cenv)) [] s
      rw [compTurn_gen, Sem.onRaise_eq_wrap]
      refine seg_bind_wrap (wpAny_standAt ?_)
      have ti := F.tu.item G.cx rfl rfl rfl rfl i _ s G.σ H (fun _ _ => False) Iq (stat ok.fz) ok.st go
      refine seg_bind_wrap ?_
      rw [over_gen]
      refine thnF ti fun r s6 ⟨u, hr, h6⟩ => ?_
      subst hr
      refine seg_bind_wrap ?_
      rw [over_gen]
      refine thnF h6 fun _ s7 ⟨x, H7, I7, r7, y7, st7, n7⟩ => ?_
      have I7' := I7.pinned (stat n7) (F.tu.obj _ _ st7)
      obtain ⟨nx7, hr7, rep7⟩ := yl x H7 y7
      cases qg : G.g G.all[i] G.e h with
      | none => rw [qg] at tr; cases tr
      | some q' =>
        obtain ⟨e4, h4⟩ := q'
        rw [qg] at tr
        simp only at tr
        refine seg_bind_wrap ?_
        rw [over_gen]
        refine thnF (F.hg.run _ s7 G.σ H7 x u (fun σ' H' => ∃ m', Nx m G.z H7 m' H' ∧ HRel G.X.K G.cs m' G.z h4 H' ∧ SRel G.X.K m' G.z H' e4 σ' ∧ wipe σ' own = wipe G.σ own) I7' r7 ?_) fun _ s8 ⟨σ8, H8, I8, m8, nx8, hr8, sr8, hw8⟩ => ?_
        · refine ⟨m, G.z, G.e, h, G.all[i], ok.sr.nx nx7, hr7, rep7, ?_⟩
          rw [qg]
          exact fun m' σ' H' n' hh' hs' hw' => ⟨m', n', hh', hs', hw'⟩
        have nx08 := nx7.trans nx8
        cases qt : G.t e4 h4 with
        | bad => rw [qt] at tr; cases tr
        | ex c h5 => rw [qt] at tr; cases tr
        | ok b h5 =>
          rw [qt] at tr
          refine seg_bind_wrap ?_
          rw [over_gen]
          refine thnF (F.ht.run _ s8 σ8 H8 (fun b' H' => b' = b ∧ ∃ m', Nx m8 G.z H8 m' H' ∧ HRel G.X.K G.cs m' G.z h5 H') I8 ?_) fun b' s9 ⟨H9, I9, eb, m9, nx9, hr9⟩ => ?_
          · refine ⟨m8, G.z, e4, h4, sr8, hr8, ?_⟩
            rw [qt]
            exact fun m' H' n' hh' => ⟨rfl, m', n', hh'⟩
          subst eb
          have nx09 := nx08.trans nx9
          -- the turn's end
          have fin : ∀ {s' : Shared} {H' : Hp} {σ' : L2.St}, Inv G.cx (([] ++ pinsAt (G.a :: G.ps) s.heap) ++ pinsAt G.fp s7.heap) σ8 H' s' →
              Inv G.cx [] G.σ H' s' ∧ G.tn (i + 1) s'.heap ∧ (∀ b ∈ G.fp, H' b = none) ∧ Pk G H' s' ∧ Kp (G.a :: G.ps) s s' ∧ G.C vs s'.heap := fun {s' H' σ'} I' => by
            have pin' : ∀ b ∈ G.fp, ∀ o, s7.heap.get? b = some o → s'.heap.get? b = some o ∧ H' b = none := fun b hb o e =>
              let z := I'.pin (b, o) (List.mem_append_right _ (List.mem_append_right _ (mem_pinsAt hb e)))
              ⟨z.1, z.2.1⟩
            have pinA : ∀ b ∈ G.a :: G.ps, ∀ o, s.heap.get? b = some o → s'.heap.get? b = some o ∧ H' b = none := fun b hb o e =>
              let z := I'.pin (b, o) (List.mem_append_right _ (List.mem_append_left _ (mem_pinsAt hb e)))
              ⟨z.1, z.2.1⟩
            have hl : G.σ.length = σ8.length := by
              have e1 : (wipe σ8 own).length = (wipe G.σ own).length := by rw [hw8]
              rw [wipe_length, wipe_length] at e1
              exact e1.symm
            have kp : Kp (G.a :: G.ps) s s' := fun b hb o e => (pinA b hb o e).1
            refine ⟨(I'.unpinned (pins := [] ++ pinsAt (G.a :: G.ps) s.heap)).unpinned.weak hl (fun jj v e => ?_), F.tu.keep _ _ _ st7 fun b hb o e => (pin' b hb o e).1, fun b hb => ?_, fun b hb => ?_, kp, F.cst _ _ _ (fun b hb o e => kp b (List.mem_cons_of_mem _ hb) o e) ok.cv⟩
            · rw [← F.hσ, ← hw8] at e
              exact (wipe_some e).1
            · obtain ⟨o, e, _⟩ := F.tu.obj _ _ st7 b hb
              exact (pin' b hb o e).2
            · obtain ⟨o, e, hc⟩ := (ok.pk b hb).2
              exact ⟨⟨(pinA b hb o e).2, (ok.pk b hb).1.2⟩, o, (pinA b hb o e).1, hc⟩
          cases b' with
          | false =>
            simp only [Bool.false_eq_true, if_false] at tr ⊢
            obtain ⟨f1, f2, f3, f4, f5, f6⟩ := fin (σ' := σ8) I9
            refine seg_again rfl (ih (i + 1) j h5 m9 H9 vs s₀ s9 (by omega) ⟨f1, hr9, ok.nx.trans nx09, ok.sr.nx nx09, f2, f3, f4, hlt, tr, ok.jle, ok.rv.nx nx09, f6⟩ (hkp.trans f5))
          | true =>
            simp only at tr
            cases qe : G.fe e4 h5 with
            | bad => rw [qe] at tr; cases tr
            | ex c h6 => rw [qe] at tr; cases tr
            | ok y h6 =>
              rw [qe] at tr
              simp only at tr
              cases qr : gTr G.g G.t G.fe G.src G.all G.e (G.all.drop (i + 1)) h6 with
              | none => rw [qr] at tr; cases tr
              | some pp =>
                obtain ⟨T', hf'⟩ := pp
                rw [qr] at tr
                have tr' := Option.some.inj tr
                have e1 : (y, h6) :: T' = G.T.drop j := congrArg Prod.fst tr'
                have e2 : hf' = G.hf := congrArg Prod.snd tr'
                subst e2
                have hj : j < G.T.length := by
                  have := congrArg List.length e1
                  rw [List.length_drop] at this
                  simp at this
                  omega
                have eT : G.T[j]? = some (y, h6) := by
                  have h1 : (G.T.drop j)[0]? = some (y, h6) := by rw [← e1]; rfl
                  rw [List.getElem?_drop] at h1
                  simpa using h1
                have eD : T' = G.T.drop (j + 1) := by
                  have h1 : (G.T.drop j).drop 1 = T' := by rw [← e1]; rfl
                  rw [List.drop_drop] at h1
                  exact h1.symm
                subst eD
                simp only [if_true]
                have hy : ∀ v, yieldOut G.cenv v = yieldValue v := fun v => by simp only [yieldOut, F.co, Bool.false_eq_true, if_false]
                simp only [hy]
                rw [Sem.bind_eq_wrap', Sem.bind_eq_wrap', Sem.wrap_wrap, Sem.wrap_wrap]
                refine seg_wrap ?_
                rw [over_gen]
                refine thnF (F.he.run _ s9 σ8 H9 (fun v H' => ∃ m', Nx m9 G.z H9 m' H' ∧ HRel G.X.K G.cs m' G.z h6 H' ∧ Rep G.X.K m' G.z H' y v) I9 ?_) fun v s10 ⟨u10, H10, I10, r10, m10, nx10, hr10, rp10⟩ => ?_
                · refine ⟨m9, G.z, e4, h5, sr8.nx nx9, hr9, ?_⟩
                  rw [qe]
                  exact fun m' H' n' hh' u ru => ⟨m', n', hh', ru⟩
                obtain ⟨f1, f2, f3, f4, f5, f6⟩ := fin (σ' := σ8) I10
                have nx10' := nx09.trans nx10
                have ej : G.T.length - (G.T.length - j) = j := by omega
                refine seg_at (seg_yield rfl rfl rfl ⟨m10, H10, vs, y, h6, u10, by rw [ej]; exact eT, f1, hr10, ok.nx.trans nx10', by rw [ej]; exact ok.rv.nx nx10', rp10, r10, f6, hkp.trans f5, f4, fun s'' hm hc => ?_⟩)
                have I11 := inv_mv f1 (fun b hb => (f4 b (List.mem_cons_of_mem _ hb)).1) hm
                have kfp : ∀ b ∈ G.fp, ∀ o, s10.heap.get? b = some o → s''.heap.get? b = some o := fun b hb o e => hm.keep b o (fun q => F.apart b (List.mem_cons_of_mem _ q) hb) e
                have hn2 : G.T.length - j = G.T.length - (j + 1) + 1 := by omega
                rw [hn2]
                refine seg_again rfl (ih (i + 1) (j + 1) h6 m10 H10 (vs ++ [u10]) s'' s'' (by omega) ⟨I11, hr10, ok.nx.trans nx10', ok.sr.nx nx10', F.tu.keep _ _ _ f2 kfp, f3, fun b hb => ⟨(f4 b hb).1, ?_⟩, hlt, qr, hj, ?_, hc⟩ (Kp.refl _ _))
                · rcases List.mem_cons.mp hb with q | q
                  · obtain ⟨o, ho, hcc⟩ := (f4 b hb).2
                    exact ⟨o, hm.keep b o (q ▸ F.ap) ho, hcc⟩
                  · exact hm.there b q
                · rw [List.take_add_one, List.map_append, eT]
                  exact (ok.rv.nx nx10').append (.cons rp10 .nil)
    · cases tr

theorem seg_start (G : GP) {tg elt iter : Expr} {ifs : List Expr} {own : List Nat} {scope : Scope} {pos : Pos} (F : G.Fix tg elt ifs own) {h : Cells} {m : List Addr} {H : Hp} {vs : List V} {s₀ s : Shared} (ok : G.Ok 0 0 h m H vs s) (hkp : Kp (G.a :: G.ps) s₀ s) :
    Seg (model G.X.prog G.X.w) G.B G.R G.Y (G.T.length + 1) s₀ (.compStart (.GeneratorExp elt [⟨tg, iter, ifs, 0⟩] scope pos) 0 (.ref G.it) .none G.cenv)
      ((model G.X.prog G.X.w).den (.compStart (.GeneratorExp elt [⟨tg, iter, ifs, 0⟩] scope pos) 0 (.ref G.it) .none G.cenv)) [] s := by
  have loop := seg_loop G (iter := iter) (scope := scope) (pos := pos) F G.all.length 0 0 h m H vs s₀ s rfl ok hkp
  rw [Nat.sub_zero] at loop
  show Seg _ G.B _ _ _ s₀ _ ((compStart (.GeneratorExp elt [⟨tg, iter, ifs, 0⟩] scope pos) 0 (.ref G.it) .none G.cenv).onRaise (leaving G.cenv)) [] s
  unfold compStart
  rw [Sem.onRaise_eq_wrap]
  show Seg _ G.B _ _ _ s₀ _ ((ask >>= _).wrap _ _ _ _) [] s
  refine seg_bind_wrap (wpAny_askSetting ?_)
  split
  · exact seg_again rfl loop
  · first
      | exact seg_bind_wrap (wpAny_rule (seg_bind_wrap (wpAny_standAt (seg_bind_wrap (F.tu.self _ 0 s _ _ ok.st (seg_again rfl loop))))))
      | (refine seg_bind_wrap (wpAny_rule ?_); show Seg _ G.B _ _ _ s₀ _ ((standAt iter.pos >>= _).wrap _ _ _ _) [] s; exact seg_bind_wrap (wpAny_standAt (seg_bind_wrap (F.tu.self _ 0 s _ _ ok.st (seg_again rfl loop)))))
/-! ### the generator woken -/
def GSt (G : GP) (gn n : Nat) (s : Shared) : Prop := s.heap.IsGen G.a gn ∧ s.heap.NoLimit ∧ AllBare s.gens ∧ ∃ gs, s.gens[gn]? = some gs ∧ gs.Goes (model G.X.prog G.X.w) G.B G.R G.Y (n + 1) (.send .none) (s.setGen gn .running)
/-- what is known where the j-th thing has come out -/
structure GP.At (G : GP) (j : Nat) (h : Cells) (m : List Addr) (H : Hp) (vs : List V) (s : Shared) : Prop where
  inv : Inv G.cx [] G.σ H s
  hr : HRel G.X.K G.cs m G.z h H
  nx : Nx G.m4 G.z G.H4 m H
  rv : RepAll G.X.K m G.z H ((G.T.take j).map (·.1)) vs
  cv : G.C vs s.heap
  pk : Pk G H s
theorem inv_gens {Y : Cx} {σ : L2.St} {H : Hp} {s s' : Shared} (I : Inv Y [] σ H s) (hh : s'.heap = s.heap) (ho : s'.os = s.os) (hb : AllBare s'.gens) : Inv Y [] σ H s' :=
  inv_mv (ps := []) I (fun b hb => absurd hb (by simp)) ⟨ho, hb, fun b o _ e => by rw [hh]; exact e, fun b hb => absurd hb (by simp)⟩
theorem kp_at {ps : List Addr} {s s' : Shared} (h : Kp ps s s') {b : Addr} (hb : b ∈ ps) {o : Obj} (e : s.heap.get? b = some o) : s'.heap.get? b = some o := h b hb o e
section
variable {G : GP} {A : Around} {s : Shared} {gn : Nat}
theorem isGen_keep {h h' : Heap} {a : Addr} {g : Nat} (x : h.IsGen a g) (k : ∀ o, h.get? a = some o → h'.get? a = some o) : h'.IsGen a g := let ⟨o, nm, qn, ho, r⟩ := x; ⟨o, nm, qn, k o ho, r⟩
theorem gst_item {n : Nat} {Q : Option Value → Shared → Prop} {E : Value → Shared → Prop} (hh : A.handled = none) (hroom : A.depth < recursionLimit) (hB : A.in1 = G.B) (hn : 0 < n) (hle : n ≤ G.T.length) (st : GSt G gn n s)
    (hQ : ∀ v s' h m H vs y u, G.T[G.T.length - n]? = some (y, h) → G.At (G.T.length - n) h m H vs s' → Rep G.X.K m G.z H y u → RelV u v → Kp (G.a :: G.ps) s s' →
      (∀ s'', Mv G.ps s' s'' → G.a ∉ G.ps → cStatics ∉ G.ps → s''.gens = s'.gens → G.C (vs ++ [u]) s''.heap → GSt G gn (n - 1) s'') → Q (some v) s') : wpAny (model G.X.prog G.X.w) A (pyNext (.ref G.a)) Q E s := by
  obtain ⟨hg, hl, hb, gs, hgs, hgo⟩ := st
  have hgl : gn < s.gens.size := (Array.getElem?_eq_some_iff.mp hgs).1
  rw [← hB] at hgo
  refine wpAny_gsz (n := gn + 1) hgl (wpAny_pyNext_genexpQ (P := G.RP)
    hh hl hroom hg hgs hgo (fun v s₁ gs' hbare hv => ?_) fun s₁ hp h' hk => ?_)
  · intro hsz
    obtain ⟨m, H, vs, y, h, u, eT, I1, hr1, nx1, rv1, rp1, rl1, cv1, kp1, pk1, wk⟩ := hv
    have e1 : G.T.length - (n + 1 - 1) = G.T.length - n := by omega
    rw [e1] at eT rv1
    have hsz1 : gn < s₁.gens.size := by
      have q : (s₁.setGen gn gs').gens.size = s₁.gens.size := setGen_size _ _ _
      have hsz' : gn + 1 ≤ (s₁.setGen gn gs').gens.size := hsz
      omega
    have hb1 : AllBare (s₁.setGen gn gs').gens := allBare_setGen I1.bare hbare
    refine hQ v _ h m H vs y u eT ⟨inv_gens I1 rfl rfl hb1, hr1, nx1, rv1, cv1, pk1⟩ rp1 rl1 kp1 fun s'' mv na nc eg hc => ⟨?_, ?_, mv.bare, gs', ?_, ?_⟩
    · exact isGen_keep hg fun o ho => mv.keep _ o na (kp1 G.a List.mem_cons_self o ho)
    · exact (inv_mv I1 (fun b hb => (pk1 b (List.mem_cons_of_mem _ hb)).1) ⟨mv.os, mv.bare, mv.keep, mv.there⟩).nolimit
    · rw [eg]; exact setGen_at hsz1
    · have := wk (s''.setGen gn .running) ⟨mv.os, allBare_setGen mv.bare rfl, mv.keep, mv.there⟩ hc
      rw [hB] at this
      have e2 : n + 1 - 1 = n := by omega
      have e3 : n - 1 + 1 = n := by omega
      rw [e3]
      exact this
  · intro _
    have := hp.1
    omega
theorem gst_end {Q : Option Value → Shared → Prop} {E : Value → Shared → Prop} (cst : ∀ vs h h', (∀ b ∈ G.ps, ∀ o, h.get? b = some o → h'.get? b = some o) → G.C vs h → G.C vs h') (hh : A.handled = none) (hroom : A.depth < recursionLimit) (hB : A.in1 = G.B) (st : GSt G gn 0 s)
    (hQ : ∀ s' m H vs, G.At G.T.length G.hf m H vs s' → Kp (G.a :: G.ps) s s' → Q none s') : wpAny (model G.X.prog G.X.w) A (pyNext (.ref G.a)) Q E s := by
  obtain ⟨hg, hl, hb, gs, hgs, hgo⟩ := st
  rw [← hB] at hgo
  refine wpAny_pyNext_genexpQ (P := G.RP)
    hh hl hroom hg hgs hgo (fun v s₁ gs' hbare hv => ?_) fun s₁ hp h' hk => ?_
  · obtain ⟨m, H, vs, y, h, u, eT, _⟩ := hv
    have e : G.T.length - (0 + 1 - 1) = G.T.length := by omega
    rw [e, List.getElem?_eq_none (Nat.le_refl _)] at eT
    cases eT
  · obtain ⟨_, m, H, vs, I1, hr1, nx1, rv1, cv1, kp1, pk1⟩ := hp
    refine hQ _ m H vs ⟨inv_mv (ps := []) I1 (fun b hb => absurd hb (by simp)) ⟨rfl, allBare_setGen I1.bare rfl, fun b o _ e => hk b o e, fun b hb => absurd hb (by simp)⟩, hr1, nx1, by rw [List.take_length]; exact rv1, ?_, fun b hb => ⟨(pk1 b hb).1, ?_⟩⟩ fun b hb o e => hk b o (kp1 b hb o e)
    · exact cst _ _ _ (fun b _ o e => hk b o e) cv1
    · obtain ⟨o, ho, hc⟩ := (pk1 b hb).2
      exact ⟨o, hk b o ho, hc⟩
end
end Mi

set_option Elab.async false
set_option linter.all false
set_option maxRecDepth 100000
set_option maxHeartbeats 4000000
namespace Mi
open PySem PySem.Spec PyProof.Rows L2 GenW

/-! ## a generator made -/
theorem gen_inv {X : Cx} {pins : List (Addr × Obj)} {σ : L2.St} {H : Hp} {s : Shared} {scope : Scope} {own : List (Str × Nat)} {fp : List Addr} {code : Value} {B : Around} {mm : Str → Option Value} {h5 : Heap} {g5 : Array GenState} {t5 : Nat}
    (I : Inv X pins σ H s) (ok : BlkOk X.N X.env.scope scope own) (hcell : ∀ y ∈ scope.names, y.2 ≠ .cell) (hN : X.N.Nodup) (hfp : ∀ b ∈ fp, FpOk X pins H b ∧ b < s.heap.objs.size) (hB : B.handled = none) (hF : B.frames = some X.stack)
    (hns : h5.Ns s.heap.objs.size mm) (kp : ∀ b o, s.heap.get? b = some o → h5.get? b = some o) (hg : AllBare g5) :
    Inv (gCx X s H (genEnv scope (cloFrom X.env.cells scope.names []) s.heap.objs.size code builtinsNs X.env) fp (B.deeper (genEnv scope (cloFrom X.env.cells scope.names []) s.heap.objs.size code builtinsNs X.env))) [] (wipe σ (own.map (·.2))) H { s with heap := h5, gens := g5, toks := t5 } := by
  have hfree : ∀ y ∈ scope.names, y.2 = .free → ∃ c, X.env.cells.lookup y.1 = some c := fun y hy e => by
    rcases ok.free y hy e with k | k
    · exact I.ok.has _ (.inl k)
    · exact I.ok.has _ (.inr k)
  have cm : ∀ {y c}, (cloFrom X.env.cells scope.names []).lookup y = some c → X.env.cells.lookup y = some c := fun {y c} e => by
    rcases cloFrom_mem (PySem.mem_of_lookup e) with hm | ⟨h1, h2⟩
    · cases hm
    · obtain ⟨c1, hc⟩ := hfree _ h1 rfl
      have hc : X.env.cells.lookup y = some c1 := hc
      have e2 : c = c1 := by
        rw [h2, hc] <;> rfl
      rw [e2]
      exact hc
  have look : ∀ {y}, scope.names.lookup y = some .free → ∃ c, (cloFrom X.env.cells scope.names []).lookup y = some c := fun {y} hl => by
    have hy : (y, NameKind.free) ∈ scope.names := PySem.mem_of_lookup hl
    exact mem_lookup (cloFrom_has (cells := X.env.cells) (acc := []) hy)
  have clt : ∀ {y c}, X.env.cells.lookup y = some c → c < s.heap.objs.size := fun {y c} e => by
    obtain ⟨w, z⟩ := I.cell _ _ e
    exact z.lt
  generalize hcenv : genEnv scope (cloFrom X.env.cells scope.names []) s.heap.objs.size code builtinsNs X.env = cenv
  have hL : cenv.locals = s.heap.objs.size := by rw [← hcenv]; rfl
  have hcl : cenv.cells = cloFrom X.env.cells scope.names [] := by rw [← hcenv]; rfl
  have hsc : cenv.scope = scope := by rw [← hcenv]; rfl
  have hfr : cenv.frame = some cenv.locals := by rw [← hcenv]; rfl
  have okB : (gCx X s H cenv fp (B.deeper cenv)).Ok := by
    refine ⟨I.ok.mod, by show cenv.scope.kind = _; rw [hsc]; exact ok.kind, by show cenv.globals = _; rw [← hcenv]; exact I.ok.glob, by show cenv.builtins = _; rw [← hcenv]; rfl, by show s.heap.objs.size ≤ cenv.locals; rw [hL]; exact Nat.le_refl _,
      fun y z c e1 e2 => ?_, fun y hy => ?_, fun y c z e => (by cases z), fun _ => hB, Around.frames_deeper hF, .inr ⟨rfl, hfr⟩, fun b hb => ⟨?_, fun y c e z => ?_⟩, I.bs, Nat.le_trans I.ok.bsz I.sz, fun b o e hb => ?_, fun b hb z => ?_, I.stack, I.stkFree⟩
    · have e1 : cenv.cells.lookup y = some c := e1
      have e2 : cenv.cells.lookup z = some c := e2
      rw [hcl] at e1 e2
      exact I.ok.inj y z c (cm e1) (cm e2)
    · show ∃ c, cenv.cells.lookup y = some c
      rw [hcl]
      rcases hy with hy | hy
      · have hy : cenv.scope.names.lookup y = some .cell := hy
        rw [hsc] at hy
        exact absurd rfl (hcell _ (PySem.mem_of_lookup hy))
      · have hy : cenv.scope.names.lookup y = some .free := hy
        rw [hsc] at hy
        exact look hy
    · show b ≠ cenv.locals
      rw [hL]; exact Nat.ne_of_lt (hfp b hb).2
    · have e : cenv.cells.lookup y = some c := e
      rw [hcl] at e
      exact (hfp b hb).1.2.2.2.2.1 y c (cm e) z
    · rcases (hfp b hb).1.2.2.2.1 with z | z
      · exact I.ok.noex b o e z
      · exact absurd (Nat.lt_of_lt_of_le (Heap.lt_size e) (Nat.le_trans I.ok.bsz z)) (Nat.lt_irrefl _)
    · rcases List.mem_cons.mp (I.stkSub b z) with z | z
      · exact (hfp b hb).1.2.1 z
      · exact (hfp b hb).1.2.2.1 z
  refine ⟨okB, rfl, hg, Un.kept kp, ⟨mm, ?_, fun i y av e1 e2 e3 => ?_⟩, fun y c e => ?_, ?_, fun y c e => ?_, fun p hp => ?_, I.hok.kept kp, by rw [wipe_length]; exact I.len⟩
  · show Heap.Ns _ cenv.locals _
    rw [hL]
    exact hns
  · obtain ⟨e2, hne⟩ := wipe_some e2
    have no : ∀ k, scope.names.lookup y = some k → ¬ (k = .local ∨ k = .cell) := fun k e hh => by
      rcases ok.own _ (PySem.mem_of_lookup e) hh with e' | e'
      · obtain ⟨p, hp, hpy⟩ := List.mem_map.mp e'
        have e3 := ok.ix p hp
        have : p.1 = y := hpy
        rw [this] at e3
        exact hne (List.mem_map.mpr ⟨p, hp, nodup_ix hN e3 e1⟩)
      · exact e' (List.mem_of_getElem? e1)
    have e3 : Vis cenv.scope y := e3
    rw [hsc] at e3
    have hfr : scope.names.lookup y = some .free := by
      rcases e3 with k | k | k
      · exact absurd (.inl rfl) (no _ k)
      · exact absurd (.inr rfl) (no _ k)
      · exact k
    obtain ⟨m, hn, hl⟩ := I.loc
    have hvis : Vis X.env.scope y := (ok.free _ (PySem.mem_of_lookup hfr) rfl).elim (fun k => .inr (.inl k)) (fun k => .inr (.inr k))
    obtain ⟨w, r, q⟩ := hl i y av e1 e2 hvis
    obtain ⟨c, h1⟩ := look hfr
    refine ⟨w, r, .inr ⟨.inr ?_, c, by show cenv.cells.lookup y = _; rw [hcl]; exact h1, ?_⟩⟩
    · show cenv.scope.names.lookup y = some .free
      rw [hsc]; exact hfr
    have h2 := cm h1
    rcases q with ⟨k, _⟩ | ⟨_, c', e', z⟩
    · have k : X.env.scope.names.lookup y = some .local := k
      rcases ok.free _ (PySem.mem_of_lookup hfr) rfl with k' | k' <;> rw [show X.env.scope.names.lookup y = _ from k'] at k <;> cases k
    · rw [h2] at e'; cases e'
      exact z.keeps kp
  · have e : cenv.cells.lookup y = some c := e
    rw [hcl] at e
    obtain ⟨w, z⟩ := I.cell y c (cm e)
    exact ⟨w, z.keeps kp⟩
  · show H cenv.locals = none
    rw [hL]; exact I.hok.fresh (Nat.le_refl _)
  · have e : cenv.cells.lookup y = some c := e
    rw [hcl] at e
    exact I.freeC y c (cm e)
  · exact absurd (show p ∈ ([] : List (Addr × Obj)) ++ [] from hp) (by simp)
/-! ### a code object's table grows -/
theorem among_other {pos p' : Pos} {c : Value} (hne : (p'.line, p'.col) ≠ (pos.line, pos.col)) (l : List Value) (h : TriplesOk l) : codeAmong p' (l ++ [rawInt pos.line, rawInt pos.col, c]) = codeAmong p' l := by
  fun_induction TriplesOk l with
  | case1 =>
    simp only [List.nil_append, rawInt, codeAmong]
    rw [if_neg]
    intro q
    simp only [Bool.and_eq_true, beq_iff_eq] at q
    refine hne ?_
    have q1 := q.1
    have q2 := q.2
    simp only [Prod.mk.injEq]
    constructor <;> omega
  | case2 a t b u x rest ih =>
    simp only [List.cons_append, codeAmong]
    rw [ih h]
  | case3 l h1 h2 => exact h.elim
theorem HRel.tab {K : PySem.W.Frag} {cs : List Tb} {m z : List Addr} {h : Cells} {H : Hp} {P : Addr} {ps : Array Value} {pos : Pos} {cv : Value} (r : HRel K cs m z h H) (hP : H P = some (.tbl ps)) (ht : TriplesOk ps.toList) (hm : P ∉ m) (hl : ∀ t ∈ cs, t.P = P → (pos.line, pos.col) ∉ t.lam) :
    HRel K cs m z h (upd H P (.tbl (ps ++ #[rawInt pos.line, rawInt pos.col, cv]))) ∧ Nx m z H m (upd H P (.tbl (ps ++ #[rawInt pos.line, rawInt pos.col, cv]))) := by
  have n : Nx m z H m (upd H P (.tbl (ps ++ #[rawInt pos.line, rawInt pos.col, cv]))) := ⟨⟨[], by simp, fun _ h => absurd h (by simp)⟩, fun b u _ q nt => by
    rw [upd_ne (fun e => nt ps (by rw [e, hP] at q; exact (Option.some.inj q).symm))]; exact q, fun b q => by
    by_cases e : b = P
    · rw [e, upd_same]; simp
    · rw [upd_ne e]; exact q⟩
  refine ⟨⟨r.len, r.nd, r.dz, fun a q => n.lv a (r.lv a q), fun i o a h1 h2 => (r.obj i o a h1 h2).nx n (upd_ne (fun e => hm (e ▸ List.mem_of_getElem? h2))), fun t htc => ?_, r.tm⟩, n⟩
  obtain ⟨ps', h1, h2, h3⟩ := r.tb t htc
  have eL : (ps ++ #[rawInt pos.line, rawInt pos.col, cv]).toList = ps.toList ++ [rawInt pos.line, rawInt pos.col, cv] := by simp
  have keepC : ∀ {c : Addr}, H c = some (LamX.CodeO c t.q) → upd H P (.tbl (ps ++ #[rawInt pos.line, rawInt pos.col, cv])) c = some (LamX.CodeO c t.q) := fun {c} e => by
    rw [upd_ne (fun q => LamX.codeO_ne ps (by rw [q, hP] at e; exact (Option.some.inj e).symm))]; exact e
  by_cases e : t.P = P
  · rw [e, hP] at h1
    cases h1
    refine ⟨_, by rw [e, upd_same], by rw [eL]; exact PySem.TriplesOk_snoc _ _ _ _ ht, fun p' c' hp hc => ?_⟩
    rw [eL, among_other (fun q => hl t htc e (q ▸ hp)) _ ht] at hc
    obtain ⟨c, e1, e2⟩ := h3 p' c' hp hc
    exact ⟨c, e1, keepC e2⟩
  · refine ⟨ps', by rw [upd_ne e]; exact h1, h2, fun p' c' hp hc => ?_⟩
    obtain ⟨c, e1, e2⟩ := h3 p' c' hp hc
    exact ⟨c, e1, keepC e2⟩
/-- the running def's code object and table, where the expression stands -/
structure CodeAt (X : Cx) (cs : List Tb) (pos : Pos) : Prop where
  ex : ∃ c P, X.env.code = .ref c ∧ GxR.TabB X.base X.mg c P ∧ (∃ t ∈ cs, t.P = P) ∧ ∀ t ∈ cs, t.P = P → (pos.line, pos.col) ∉ t.lam
/-- a generator that has not begun -/
structure GNew (X : Cx) (cs : List Tb) (z : List Addr) (pins : List (Addr × Obj)) (σ : L2.St) (own : List Nat) (e : Sl) (tg iter elt : Expr) (ifs : List Expr) (scope : Scope) (pos : Pos) (m0 : List Addr) (H0 : Hp) (xs : List PV) (src : Option SR) (h4 : Cells)
    (a : Addr) (s5 : Shared) (s4 : Shared) (H4 : Hp) (m4 : List Addr) (code : Value) (fp : List Addr) (it : Addr) (J : It) (tn : Nat → Heap → Prop) (gn : Nat) : Prop where
  i4 : Inv X pins σ H4 s4
  hr : HRel X.K cs m4 z h4 H4
  nx : Nx m0 z H0 m4 H4
  tu : Turn X.prog X.w X.K tg J fp it tn
  jok : JOk X.K cs z m4 H4 xs src J
  fpk : ∀ b ∈ fp, FpOk X pins H4 b ∧ b < s4.heap.objs.size
  i5 : ∀ B : Around, B.handled = none → B.frames = some X.stack → Inv (gCx X s4 H4 (genEnv scope (cloFrom X.env.cells scope.names []) s4.heap.objs.size code builtinsNs X.env) fp (B.deeper (genEnv scope (cloFrom X.env.cells scope.names []) s4.heap.objs.size code builtinsNs X.env))) [] (wipe σ own) H4 s5
  sr : SRel X.K m4 z H4 (wipeE e own) (wipe σ own)
  st : tn 0 s5.heap
  gen : s5.heap.IsGen a gn
  gs : s5.gens[gn]? = some (.fresh (.compStart (.GeneratorExp elt [⟨tg, iter, ifs, 0⟩] scope pos) 0 (.ref it) .none (genEnv scope (cloFrom X.env.cells scope.names []) s4.heap.objs.size code builtinsNs X.env)))
  lt : s4.heap.objs.size < a
  kp : ∀ b o, s4.heap.get? b = some o → s5.heap.get? b = some o
section
variable {X : Cx} {cs : List Tb} {W : WX} {tg iter elt : Expr} {ifs : List Expr} {scope : Scope} {own : List (Str × Nat)} {gpos : Pos} {fi : ME (List PV × Option SR)}
theorem gen_mk {pins : List (Addr × Obj)} {s : Shared} {σ : L2.St} {H : Hp} {m z : List Addr} {e : Sl} {h : Cells} {Q' : Value → Shared → Prop} (hh : X.A.handled = none) (hroom : X.A.depth < recursionLimit) (hfr : X.A.frames = some X.stack) (hN : X.N.Nodup) (hi : SI X cs W tg iter fi) (ok : BlkOk X.N X.env.scope scope own)
    (hcell : ∀ y ∈ scope.names, y.2 ≠ .cell) (h0 : scope.names.lookup (".0" : Str) = some NameKind.local) (hco : scope.isCoroutine = false) (CA : CodeAt X cs gpos) (hs : ∀ v, genFold iter X.env v = pure v)
    (I : Inv X pins σ H s) (hsr : SRel X.K m z H e σ) (hhr : HRel X.K cs m z h H)
    (p : Po X.K cs z m H (fun pp h4 m1 H1 => ∀ a s5 s4 H4 m4 code fp it J tn gn, Nx m1 z H1 m4 H4 → GNew X cs z pins σ (own.map (·.2)) e tg iter elt ifs scope gpos m H pp.1 pp.2 h4 a s5 s4 H4 m4 code fp it J tn gn → Q' (.ref a) s5) (WxE X.K W σ) (fi e h)) :
    wpAny (model X.prog X.w) X.A (eval (.GeneratorExp elt [⟨tg, iter, ifs, 0⟩] scope gpos) X.env) Q' X.xe s := by
  have hfree : ∀ y ∈ scope.names, y.2 = .free → ∃ c, X.env.cells.lookup y.1 = some c := fun y hy e => by
    rcases ok.free y hy e with k | k
    · exact I.ok.has _ (.inl k)
    · exact I.ok.has _ (.inr k)
  obtain ⟨c, P, hcode, TB, ⟨t0, ht0, eP⟩, hlam⟩ := CA.ex
  refine wpAny_GeneratorExp_make hco (closure_ok hfree) hcell h0 ok.kind hroom ?_ hs
  have hir := hi.run pins s σ H (fun J H1 => ∃ pp h1 m1, JOk X.K cs z m1 H1 pp.1 pp.2 J ∧ Nx m z H m1 H1 ∧ HRel X.K cs m1 z h1 H1 ∧
    ∀ a s5 s4 H4 m4 code fp it J tn gn, Nx m1 z H1 m4 H4 → GNew X cs z pins σ (own.map (·.2)) e tg iter elt ifs scope gpos m H pp.1 pp.2 h1 a s5 s4 H4 m4 code fp it J tn gn → Q' (.ref a) s5) I
    ⟨m, z, e, h, hsr, hhr, p.imp (fun pp h1 m1 H1 n1 r1 q J hJ => ⟨pp, h1, m1, hJ, n1, r1, q⟩) fun _ _ q => q⟩
  refine thn hir fun xv s1 hx => thn hx fun itv s2 h2 => ?_
  obtain ⟨it, fp, tn, J, H2, e2, I2, T, st2, f2, pp, h1, m1, hJ, n1, r1, hQ⟩ := h2
  subst e2
  have hsr1 := hsr.nx n1
  refine ⟨I2.nolimit, ?_⟩
  obtain ⟨ps, hP, ht, _⟩ := r1.tb t0 ht0
  have hPm : P ∉ m1 := by rw [← eP]; exact r1.tm t0 ht0
  rw [eP] at hP
  have hPs : s2.heap.get? P = some { cls := .none, data := .fields ps } := I2.hok P _ hP
  have cd : PySem.W.CodeHd s2.heap c P := TB.code.keeps I2.bk
  have szfp : ∀ b ∈ fp, b < s2.heap.objs.size := fun b hb => by
    obtain ⟨o, e, _⟩ := T.obj _ _ st2 b hb
    exact Heap.lt_size e
  -- behind the code object
  have cont : ∀ (code : Value) (s3 : Shared) (H3 : Hp), Inv X pins σ H3 s3 → HRel X.K cs m1 z h1 H3 → Nx m1 z H2 m1 H3 → (∀ b ∈ fp, H3 b = none) → tn 0 s3.heap → s2.heap.objs.size ≤ s3.heap.objs.size →
      wpAny (model X.prog X.w) X.A (builtinsFor X.env.globals X.env.builtins) (fun bi s₄ =>
        ∀ h', h'.Ns s₄.heap.objs.size (fun y => if y = ".0" then some (Value.ref it) else none) → Heap.SameBut s₄.heap.objs.size (s₄.heap.push { cls := .type "frame", data := .dict #[] }) h' →
          Q' (.ref h'.objs.size) { s₄ with
            gens := s₄.gens.push (.fresh (.compStart (.GeneratorExp elt [⟨tg, iter, ifs, 0⟩] scope gpos) 0 (.ref it) .none (genEnv scope (cloFrom X.env.cells scope.names []) s₄.heap.objs.size code bi X.env))),
            toks := s₄.toks + 1 + 1 + 1,
            heap := h'.push { cls := .type "generator", data := .fields #[.int s₄.gens.size 0, .str "<genexpr>" (s₄.toks + 1), .str (X.env.qual ++ "<genexpr>") (s₄.toks + 1 + 1)] } }) X.xe s3 := by
    intro code s3 H3 I3 r3 n3 fz3 st3 hsz
    obtain ⟨bm, ob, e1, e2, e3, e4, e5, e6, e7, e8⟩ := TB.bm
    refine wpAny_builtinsFor (m := X.mg) (by rw [I3.ok.glob]; exact I3.mod.glob.keeps I3.bk) e1 e2 (I3.bk _ _ e5) e6 e7 e8 ?_
    intro h' hn' hs'
    have hsz' : h'.objs.size = s3.heap.objs.size + 1 := by rw [hs'.1, Heap.size_push]
    have keep' : ∀ b o, s3.heap.get? b = some o → h'.get? b = some o := fun b o e => hs'.extBut b o (Nat.ne_of_lt (Heap.lt_size e)) (Heap.get?_push_of_some _ e)
    refine hQ h'.objs.size _ s3 H3 m1 code fp it J tn s3.gens.size n3 ⟨I3, r3, n1.trans n3, T, fun z' m' h'' H' f n hh g => hJ z' m' h'' H' ?_ (n3.trans n) hh g, fun b hb => ⟨⟨fz3 b hb, (f2 b hb).2⟩, Nat.lt_of_lt_of_le (szfp b hb) hsz⟩, fun B hB hF => ?_, (hsr1.nx n3).wipe _, T.keep _ _ _ st3 fun b _ o e => Heap.get?_push_of_some _ (keep' b o e), ⟨_, _, _, Heap.get?_push_size _ rfl, rfl, rfl, rfl⟩, Array.getElem?_push_size .., by omega, fun b o e => Heap.get?_push_of_some _ (keep' b o e)⟩
    · obtain ⟨l, e, nl⟩ := f
      refine ⟨l, e, fun a ha => ?_⟩
      cases q : H2 a with
      | none => rfl
      | some o => exact absurd (nl a ha) (n3.lv a (by rw [q]; simp))
    · exact gen_inv I3 ok hcell hN (fun b hb => ⟨⟨fz3 b hb, (f2 b hb).2⟩, Nat.lt_of_lt_of_le (szfp b hb) hsz⟩) hB hF (hn'.push _) (fun b o e => Heap.get?_push_of_some _ (keep' b o e)) (I3.bare.push rfl)
  cases hf : codeAmong gpos ps.toList with
  | none =>
    refine wpAny_genexprCodeX hcode (cd.code hPs ht) (cd.tab hPs) hf fun c' h' tk hx hge hlt hco' _ htab' _ => ?_
    obtain ⟨o1, vs, f1, tf, fl, tg', inF, tx, tt, op, _, _, _, _, _, _, _, _, _, htr, _⟩ := hco'
    have I3 := GxR.inv_tab (more := #[rawInt gpos.line, rawInt gpos.col, .ref c']) (h' := h') (g' := s2.gens) (d' := s2.drawn) (t' := tk) I2 hP hx htab'.2 I2.bare
    obtain ⟨r3, n3⟩ := r1.tab (cv := .ref c') hP ht hPm hlam
    refine cont _ { s2 with heap := h', toks := tk } _ I3 r3 n3 (fun b hb => ?_) (T.keep _ _ _ st2 fun b hb o e => hx b o (fun q => ?_) e) (Nat.le_trans hge (Nat.le_of_lt hlt))
    · rw [upd_ne (fun q => by have := (f2 b hb).1; rw [q, hP] at this; cases this)]; exact (f2 b hb).1
    · have := (f2 b hb).1
      rw [q, hP] at this
      cases this
  | some cv =>
    refine wpAny_genexprCode_hit hcode (cd.code hPs ht) hf ?_
    exact cont cv s2 H2 I2 r1 (Nx.refl _ _ _) (fun b hb => (f2 b hb).1) st2 (Nat.le_refl _)
end
end Mi

set_option Elab.async false
set_option linter.all false
set_option maxRecDepth 100000
set_option maxHeartbeats 4000000
namespace Mi
open PySem PySem.Spec PyProof.Rows L2 GenW

/-! ## who walks a generator -/
def mGen (fi : ME (List PV × Option SR)) (g : MG) (t : ME Bool) (fe : ME PV) (own : List Nat) (c : List (PV × Cells) → Cells → Out PV) : ME PV := fun e h => (fi e h).bind fun p h1 => match gTr g t fe p.2 p.1 (wipeE e own) p.1 h1 with
  | some (T, hf) => c T hf
  | none => .bad
/-- the generator's parts, in its own context -/
structure GEl (X : Cx) (cs : List Tb) (k : Nat) (scope : Scope) (own : List Nat) (tg elt : Expr) (ifs : List Expr) (g : MG) (t : ME Bool) (fe : ME PV) : Prop where
  hg : ∀ (s : Shared) (H : Hp) (C : Addr) (cl : List (Str × Addr)) (code : Value) (fp : List Addr) (A : Around), Room k A → SG (gCx X s H (genEnv scope cl C code builtinsNs X.env) fp A) cs own tg g
  ht : ∀ (s : Shared) (H : Hp) (C : Addr) (cl : List (Str × Addr)) (code : Value) (fp : List Addr) (A : Around), Room k A → STs (gCx X s H (genEnv scope cl C code builtinsNs X.env) fp A) cs W0 ifs t
  he : ∀ (s : Shared) (H : Hp) (C : Addr) (cl : List (Str × Addr)) (code : Value) (fp : List Addr) (A : Around), Room k A → SE (gCx X s H (genEnv scope cl C code builtinsNs X.env) fp A) cs W0 elt fe
/-- the call f(generator) does what c says -/
def ConsR (X : Cx) (cs : List Tb) (k : Nat) (f : Value) (c : List (PV × Cells) → Cells → Out PV) : Prop :=
  ∀ (z : List Addr) (pins : List (Addr × Obj)) (σ : L2.St) (own : List (Str × Nat)) (e : Sl) (tg iter elt : Expr) (ifs : List Expr) (scope : Scope) (pos : Pos) (m0 : List Addr) (H0 : Hp) (xs : List PV) (src : Option SR) (h4 : Cells)
    (a : Addr) (s5 s4 : Shared) (H4 : Hp) (m4 : List Addr) (code : Value) (fp : List Addr) (it : Addr) (J : It) (tn : Nat → Heap → Prop) (gn : Nat) (g : MG) (t : ME Bool) (fe : ME PV) (T : List (PV × Cells)) (hf : Cells) (Q : VK) (Wx : Str → Hp → Prop),
    GNew X cs z pins σ (own.map (·.2)) e tg iter elt ifs scope pos m0 H0 xs src h4 a s5 s4 H4 m4 code fp it J tn gn → GEl X cs k scope (own.map (·.2)) tg elt ifs g t fe → scope.isCoroutine = false → wipe (wipe σ (own.map (·.2))) (own.map (·.2)) = wipe σ (own.map (·.2)) →
    gTr g t fe src xs (wipeE e (own.map (·.2))) xs h4 = some (T, hf) → Po X.K cs z m4 H4 (RxE X.K z Q) Wx (c T hf) →
    wpAny (model X.prog X.w) X.A (call f [.ref a]) (EP X pins σ Q) X.xe s5
section
variable {X : Cx} {cs : List Tb} {W : WX} {tg iter elt : Expr} {ifs : List Expr} {scope : Scope} {own : List (Str × Nat)} {gpos : Pos} {fi : ME (List PV × Option SR)} {g : MG} {t : ME Bool} {fe : ME PV} {c : List (PV × Cells) → Cells → Out PV} {k : Nat} {x : Str} {p pos : Pos}
theorem gen_call {f : Value} {pins : List (Addr × Obj)} {s : Shared} {σ : L2.St} {H : Hp} {Q : VK} (hr : Room (k + 1) X.A) (hN : X.N.Nodup) (hi : SI X cs W tg iter fi) (ok : BlkOk X.N X.env.scope scope own)
    (hcell : ∀ y ∈ scope.names, y.2 ≠ .cell) (h0 : scope.names.lookup (".0" : Str) = some NameKind.local) (hco : scope.isCoroutine = false) (CA : CodeAt X cs gpos) (hs : ∀ v, genFold iter X.env v = pure v) (E : GEl X cs k scope (own.map (·.2)) tg elt ifs g t fe) (hc : ConsR X cs k f c)
    (I : Inv X pins σ H s) (tt : tE X.K cs W (mGen fi g t fe (own.map (·.2)) c) σ H Q) :
    wpAny (model X.prog X.w) X.A (eval (.GeneratorExp elt [⟨tg, iter, ifs, 0⟩] scope gpos) X.env) (fun v s5 => wpAny (model X.prog X.w) X.A (call f [v]) (EP X pins σ Q) X.xe s5) X.xe s := by
  obtain ⟨m, z, e, h, hsr, hhr, pp⟩ := tt
  refine gen_mk hr.hd (by have := hr.dp; omega) I.ok.frames hN hi ok hcell h0 hco CA hs I hsr hhr (pp.bind.imp (fun p1 h1 m1 H1 n1 r1 q a s5 s4 H4 m4 code fp it J tn gn n4 G => ?_) fun _ _ q => q)
  cases qt : gTr g t fe p1.2 p1.1 (wipeE e (own.map (·.2))) p1.1 h1 with
  | none => rw [qt] at q; exact q.elim
  | some T =>
    rw [qt] at q
    exact hc z pins σ own e tg iter elt ifs scope gpos m H p1.1 p1.2 h1 a s5 s4 H4 m4 code fp it J tn gn g t fe T.1 T.2 Q _ G E hco (wipe_wipe _ _) qt (q.step n4)
theorem s_genB {id : String} (hc : ConsR X cs k (.builtin id) c) (hr : Room (k + 1) X.A) (hN : X.N.Nodup) (hg : Gl X x) (hm : X.mg x = none) (hv : bootBuiltins x = some (.builtin id)) (hi : SI X cs W tg iter fi) (ok : BlkOk X.N X.env.scope scope own)
    (hcell : ∀ y ∈ scope.names, y.2 ≠ .cell) (h0 : scope.names.lookup (".0" : Str) = some NameKind.local) (hco : scope.isCoroutine = false) (CA : CodeAt X cs gpos) (E : GEl X cs k scope (own.map (·.2)) tg elt ifs g t fe) (hs : ∀ v, genFold iter X.env v = pure v := by intro _; rfl)
    (hn : x ≠ "__name__" := by decide) (hdb : (x == ("__debug__" : Str)) = false := by decide)
    (he : starEach [.GeneratorExp elt [⟨tg, iter, ifs, 0⟩] scope gpos] X.env = (false, eval (.GeneratorExp elt [⟨tg, iter, ifs, 0⟩] scope gpos) X.env) :: starEach [] X.env := by rfl) :
    SE X cs W (.Call (.Name x p) [.GeneratorExp elt [⟨tg, iter, ifs, 0⟩] scope gpos] [] pos) (mGen fi g t fe (own.map (·.2)) c) := by
  refine ⟨fun pins s σ H Q I h => ?_⟩
  refine wpAny_Call_Name_kw (ld_blt I hg hm hv ?_ hn hdb)
  refine PyProof.Rows.callWith_builtin1 ?_ he (by rfl)
  rw [he]
  show wpAny _ _ (spliced ((false, eval (.GeneratorExp elt [⟨tg, iter, ifs, 0⟩] scope gpos) X.env) :: backTo pos (starEach [] X.env))) _ _ s
  exact Calls.spliced_cons (thn (gen_call hr hN hi ok hcell h0 hco CA hs E hc I h) fun v s5 q => Calls.spliced_nil q)
theorem s_genT {id : String} (hc : ConsR X cs k (.type id) c) (hr : Room (k + 1) X.A) (hN : X.N.Nodup) (hg : Gl X x) (hm : X.mg x = none) (hv : bootBuiltins x = some (.type id)) (hi : SI X cs W tg iter fi) (ok : BlkOk X.N X.env.scope scope own)
    (hcell : ∀ y ∈ scope.names, y.2 ≠ .cell) (h0 : scope.names.lookup (".0" : Str) = some NameKind.local) (hco : scope.isCoroutine = false) (CA : CodeAt X cs gpos) (E : GEl X cs k scope (own.map (·.2)) tg elt ifs g t fe) (hs : ∀ v, genFold iter X.env v = pure v := by intro _; rfl)
    (hn : x ≠ "__name__" := by decide) (hdb : (x == ("__debug__" : Str)) = false := by decide)
    (he : starEach [.GeneratorExp elt [⟨tg, iter, ifs, 0⟩] scope gpos] X.env = (false, eval (.GeneratorExp elt [⟨tg, iter, ifs, 0⟩] scope gpos) X.env) :: starEach [] X.env := by rfl) :
    SE X cs W (.Call (.Name x p) [.GeneratorExp elt [⟨tg, iter, ifs, 0⟩] scope gpos] [] pos) (mGen fi g t fe (own.map (·.2)) c) := by
  refine ⟨fun pins s σ H Q I h => ?_⟩
  refine wpAny_Call_Name_kw (ld_blt I hg hm hv ?_ hn hdb)
  refine PyProof.Rows.callWith_type1 ?_ he (by rfl)
  rw [he]
  show wpAny _ _ (spliced ((false, eval (.GeneratorExp elt [⟨tg, iter, ifs, 0⟩] scope gpos) X.env) :: backTo pos (starEach [] X.env))) _ _ s
  exact Calls.spliced_cons (thn (gen_call hr hN hi ok hcell h0 hco CA hs E hc I h) fun v s5 q => Calls.spliced_nil q)
end

theorem gnew_st {X : Cx} {cs : List Tb} {k : Nat} {z : List Addr} {pins : List (Addr × Obj)} {σ : L2.St} {own : List (Str × Nat)} {e : Sl} {tg iter elt : Expr} {ifs : List Expr} {scope : Scope} {pos : Pos} {m0 : List Addr} {H0 : Hp} {xs : List PV} {src : Option SR} {h4 : Cells}
    {a : Addr} {s5 s4 : Shared} {H4 : Hp} {m4 : List Addr} {code : Value} {fp : List Addr} {it : Addr} {J : It} {tn : Nat → Heap → Prop} {gn : Nat} {g : MG} {t : ME Bool} {fe : ME PV} {T : List (PV × Cells)} {hf : Cells}
    (N : GNew X cs z pins σ (own.map (·.2)) e tg iter elt ifs scope pos m0 H0 xs src h4 a s5 s4 H4 m4 code fp it J tn gn) (E : GEl X cs k scope (own.map (·.2)) tg elt ifs g t fe) (hco : scope.isCoroutine = false)
    (hT : gTr g t fe src xs (wipeE e (own.map (·.2))) xs h4 = some (T, hf)) (B : Around) (hB : B.handled = none) (hF : B.frames = some X.stack) (hr : Room k (B.deeper (genEnv scope (cloFrom X.env.cells scope.names []) s4.heap.objs.size code builtinsNs X.env)))
    (ps : List Addr) (C : List V → Heap → Prop) (hps : ∀ b ∈ ps, s5.heap.objs.size ≤ b) (cst : ∀ vs h h', (∀ b ∈ ps, ∀ o, h.get? b = some o → h'.get? b = some o) → C vs h → C vs h')
    {s : Shared} (kp : ∀ b o, s5.heap.get? b = some o → s.heap.get? b = some o) (eg : s.gens = s5.gens) (eo : s.os = s5.os) (th : ∀ b ∈ ps, ∃ o, s.heap.get? b = some o ∧ ∀ v, o.data ≠ .cell v) (hC : C [] s.heap) :
    let G : GP := ⟨X, cs, z, s4, H4, m4, genEnv scope (cloFrom X.env.cells scope.names []) s4.heap.objs.size code builtinsNs X.env, fp, it, J, tn, g, t, fe, wipeE e (own.map (·.2)), wipe σ (own.map (·.2)), src, xs, T, hf, a, ps, C, B⟩
    G.Fix tg elt ifs (own.map (·.2)) ∧ GSt G gn T.length s := by
  intro G
  have I5 := N.i5 B hB hF
  have alt : a < s5.heap.objs.size := let ⟨o, _, _, ho, _⟩ := N.gen; Heap.lt_size ho
  have pkA : FpOk G.cx [] H4 a := by
    refine ⟨N.i4.hok.fresh (Nat.le_of_lt N.lt), Nat.ne_of_gt N.lt, fun q => ?_, .inr (Nat.le_of_lt N.lt), fun x c ec q => ?_, fun p hp => absurd (show p ∈ ([] : List (Addr × Obj)) ++ [] from hp) (by simp)⟩
    · rcases List.mem_cons.mp (N.i4.stkSub a q) with q | q
      · have := N.i4.lt
        rw [← q] at this
        exact absurd (Nat.lt_trans this N.lt) (Nat.lt_irrefl _)
      · exact N.i4.nofs (Nat.le_of_lt N.lt) q
    · obtain ⟨v, o, ho, hd⟩ := I5.cell x c ec
      obtain ⟨o', nm, qn, ho', hc', hd', _⟩ := N.gen
      rw [q, ho'] at ho
      cases ho
      rw [hd'] at hd
      cases hd
  have pk : ∀ b ∈ a :: ps, FpOk G.cx [] H4 b := fun b hb => by
    rcases List.mem_cons.mp hb with q | q
    · rw [q]; exact pkA
    · exact I5.fpOk (hps b q) (I5.hok.fresh (hps b q))
  have F : G.Fix tg elt ifs (own.map (·.2)) := ⟨hB, N.tu, N.jok, fun b hb q => by
      have h1 := (N.fpk b q).2
      rcases List.mem_cons.mp hb with q2 | q2
      · rw [q2] at h1; exact absurd (Nat.lt_trans h1 N.lt) (Nat.lt_irrefl _)
      · exact absurd (Nat.lt_of_lt_of_le (Nat.lt_trans h1 (Nat.lt_trans N.lt alt)) (hps b q2)) (Nat.lt_irrefl _),
    fun q => absurd (Nat.lt_of_lt_of_le alt (hps a q)) (Nat.lt_irrefl _), cst, E.hg _ _ _ _ _ _ _ hr, E.ht _ _ _ _ _ _ _ hr, E.he _ _ _ _ _ _ _ hr, wipe_wipe _ _, hco⟩
  have mv : Mv ps s5 s := ⟨eo, by rw [eg]; exact I5.bare, fun b o _ e => kp b o e, th⟩
  have I6 := inv_mv I5 (fun b hb => pk b (List.mem_cons_of_mem _ hb)) mv
  have hgen : s.heap.IsGen a gn := isGen_keep N.gen fun o ho => kp _ o ho
  refine ⟨F, hgen, I6.nolimit, I6.bare, .fresh (.compStart (.GeneratorExp elt [⟨tg, iter, ifs, 0⟩] scope pos) 0 (.ref it) .none G.cenv), by rw [eg]; exact N.gs, rfl, ?_⟩
  have thA : ∃ o, s.heap.get? a = some o ∧ ∀ v, o.data ≠ .cell v := by
    obtain ⟨o', nm, qn, ho', hc', hd', _⟩ := hgen
    exact ⟨o', ho', fun v q => by rw [hd'] at q; cases q⟩
  have ok : G.Ok 0 0 h4 m4 H4 [] s := ⟨I6, N.hr, Nx.refl _ _ _, N.sr, N.tu.keep _ _ _ N.st fun b _ o e => kp b o e, fun b hb => (N.fpk b hb).1.1, fun b hb => ⟨pk b hb, by
      rcases List.mem_cons.mp hb with q | q
      · rw [q]; exact thA
      · exact th b q⟩, Nat.zero_le _, by rw [List.drop_zero, List.drop_zero]; exact hT, Nat.zero_le _, .nil, hC⟩
  have ok' : G.Ok 0 0 h4 m4 H4 [] (s.setGen gn .running) := ⟨inv_gens ok.inv rfl rfl (allBare_setGen ok.inv.bare rfl), ok.hr, ok.nx, ok.sr, ok.st, ok.fz, ok.pk, ok.ile, ok.tr, ok.jle, ok.rv, ok.cv⟩
  exact seg_start G F ok' (Kp.refl _ _)
/-- at the end: back in the def -/
theorem gnew_end {X : Cx} {cs : List Tb} {z : List Addr} {pins : List (Addr × Obj)} {σ : L2.St} {own : List Nat} {e : Sl} {tg iter elt : Expr} {ifs : List Expr} {scope : Scope} {pos : Pos} {m0 : List Addr} {H0 : Hp} {xs : List PV} {src : Option SR} {h4 : Cells}
    {a : Addr} {s5 s4 : Shared} {H4 : Hp} {m4 : List Addr} {code : Value} {fp : List Addr} {it : Addr} {J : It} {tn : Nat → Heap → Prop} {gn : Nat} {cenv : Env} {A : Around} {σ' : L2.St} {H : Hp} {s : Shared}
    (N : GNew X cs z pins σ own e tg iter elt ifs scope pos m0 H0 xs src h4 a s5 s4 H4 m4 code fp it J tn gn) (I : Inv (gCx X s4 H4 cenv fp A) [] σ' H s) : Inv X pins σ H s :=
  N.i4.call' (ch := fp) I.os I.base I.hok I.bare fun b hb => ⟨(N.fpk b hb).1.2.2.2.1, (N.fpk b hb).1.2.1, (N.fpk b hb).1.2.2.2.2.1, (N.fpk b hb).1.2.2.2.2.2⟩
/-! ### any, all -/
def cAny : List (PV × Cells) → Cells → Out PV
  | [], hf => .ok (.d (.bool false)) hf
  | (.d (.bool true), h) :: _, _ => .ok (.d (.bool true)) h
  | (.d (.bool false), _) :: r, hf => cAny r hf
  | _ :: _, _ => .bad
def cAll : List (PV × Cells) → Cells → Out PV
  | [], hf => .ok (.d (.bool true)) hf
  | (.d (.bool false), h) :: _, _ => .ok (.d (.bool false)) h
  | (.d (.bool true), _) :: r, hf => cAll r hf
  | _ :: _, _ => .bad
section
variable {G : GP} {A : Around} {gn : Nat} {R : Result → Shared → Prop}
theorem any_loop (hh : A.handled = none) (hroom : A.depth < recursionLimit) (hB : A.in1.in1 = G.B) (hps : G.ps = []) (cst : ∀ vs h, G.C vs h) : ∀ (n : Nat) (s : Shared), n ≤ G.T.length → GSt G gn n s → cAny (G.T.drop (G.T.length - n)) G.hf ≠ .bad →
    (∀ b h m H s', cAny (G.T.drop (G.T.length - n)) G.hf = .ok (.d (.bool b)) h → Inv G.cx [] G.σ H s' → HRel G.X.K G.cs m G.z h H → Nx G.m4 G.z G.H4 m H → R (.ok (.ret (.bool b))) s') →
    codeAny (model G.X.prog G.X.w) A (.builtin "any.loop" ⟨[.ref G.a], []⟩) R s := by
  intro n
  induction n with
  | zero =>
    intro s hle st hb hR
    rw [Nat.sub_zero, List.drop_length] at hR
    refine codeAny_builtin F.entry_any_loop ?_
    rw [Around.under_plainId F.plain_any_loop _]
    show wpAny _ A.in1 (pyNext (.ref G.a) >>= _) _ _ s
    refine wpAny_bind (gst_end (A := A.in1) (fun _ _ _ _ _ => cst _ _) hh hroom hB st fun s' m H vs at_ _ => ?_)
    exact wpAny_bind (wpAny_rule (wpAny_pure (hR false _ m H s' rfl at_.inv at_.hr at_.nx)))
  | succ n ih =>
    intro s hle st hb hR
    refine codeAny_builtin F.entry_any_loop ?_
    rw [Around.under_plainId F.plain_any_loop _]
    show wpAny _ A.in1 (pyNext (.ref G.a) >>= _) _ _ s
    refine wpAny_bind (gst_item (A := A.in1) hh hroom hB (Nat.succ_pos n) hle st fun v s' h m H vs y u eT at_ rp rl kp wk => ?_)
    have hlt : G.T.length - (n + 1) < G.T.length := by omega
    have e1 : G.T.drop (G.T.length - (n + 1)) = (y, h) :: G.T.drop (G.T.length - n) := by
      rw [List.drop_eq_getElem_cons hlt]
      have e2 := List.getElem?_eq_getElem hlt
      rw [eT] at e2
      rw [← Option.some.inj e2]
      congr 1
      congr 1
      omega
    rw [e1] at hR hb
    have hbool : ∃ b, y = .d (.bool b) := by
      cases y with
      | d x =>
        cases x with
        | bool b => exact ⟨b, rfl⟩
        | _ => exact absurd rfl hb
      | _ => exact absurd rfl hb
    obtain ⟨b, rfl⟩ := hbool
    obtain rfl : v = .bool b := by rw [rep_bool rp] at rl; exact rl
    refine wpAny_bind (wpAny_holding (wpAny_truthy_bool ?_))
    refine wpAny_bind (wpAny_letGo ?_)
    cases b with
    | false =>
      simp only [Bool.false_eq_true, if_false]
      have hst := wk s' ⟨rfl, at_.inv.bare, fun _ _ _ e => e, fun b hb => by rw [hps] at hb; cases hb⟩ (by rw [hps]; simp) (by rw [hps]; simp) rfl (cst _ _)
      exact wpAny_pure ⟨plainId_quiet F.plain_any_loop _, ih s' (by omega) hst hb hR⟩
    | true =>
      simp only [if_true]
      exact wpAny_bind (wpAny_rule (wpAny_pure (hR true _ m H s' rfl at_.inv at_.hr at_.nx)))
theorem all_loop (hh : A.handled = none) (hroom : A.depth < recursionLimit) (hB : A.in1.in1 = G.B) (hps : G.ps = []) (cst : ∀ vs h, G.C vs h) : ∀ (n : Nat) (s : Shared), n ≤ G.T.length → GSt G gn n s → cAll (G.T.drop (G.T.length - n)) G.hf ≠ .bad →
    (∀ b h m H s', cAll (G.T.drop (G.T.length - n)) G.hf = .ok (.d (.bool b)) h → Inv G.cx [] G.σ H s' → HRel G.X.K G.cs m G.z h H → Nx G.m4 G.z G.H4 m H → R (.ok (.ret (.bool b))) s') →
    codeAny (model G.X.prog G.X.w) A (.builtin "all.loop" ⟨[.ref G.a], []⟩) R s := by
  intro n
  induction n with
  | zero =>
    intro s hle st hb hR
    rw [Nat.sub_zero, List.drop_length] at hR
    refine codeAny_builtin F.entry_all_loop ?_
    rw [Around.under_plainId F.plain_all_loop _]
    show wpAny _ A.in1 (pyNext (.ref G.a) >>= _) _ _ s
    refine wpAny_bind (gst_end (A := A.in1) (fun _ _ _ _ _ => cst _ _) hh hroom hB st fun s' m H vs at_ _ => ?_)
    exact wpAny_bind (wpAny_rule (wpAny_pure (hR true _ m H s' rfl at_.inv at_.hr at_.nx)))
  | succ n ih =>
    intro s hle st hb hR
    refine codeAny_builtin F.entry_all_loop ?_
    rw [Around.under_plainId F.plain_all_loop _]
    show wpAny _ A.in1 (pyNext (.ref G.a) >>= _) _ _ s
    refine wpAny_bind (gst_item (A := A.in1) hh hroom hB (Nat.succ_pos n) hle st fun v s' h m H vs y u eT at_ rp rl kp wk => ?_)
    have hlt : G.T.length - (n + 1) < G.T.length := by omega
    have e1 : G.T.drop (G.T.length - (n + 1)) = (y, h) :: G.T.drop (G.T.length - n) := by
      rw [List.drop_eq_getElem_cons hlt]
      have e2 := List.getElem?_eq_getElem hlt
      rw [eT] at e2
      rw [← Option.some.inj e2]
      congr 1
      congr 1
      omega
    rw [e1] at hR hb
    have hbool : ∃ b, y = .d (.bool b) := by
      cases y with
      | d x =>
        cases x with
        | bool b => exact ⟨b, rfl⟩
        | _ => exact absurd rfl hb
      | _ => exact absurd rfl hb
    obtain ⟨b, rfl⟩ := hbool
    obtain rfl : v = .bool b := by rw [rep_bool rp] at rl; exact rl
    refine wpAny_bind (wpAny_holding (wpAny_truthy_bool ?_))
    refine wpAny_bind (wpAny_letGo ?_)
    cases b with
    | true =>
      simp only [if_true]
      have hst := wk s' ⟨rfl, at_.inv.bare, fun _ _ _ e => e, fun b hb => by rw [hps] at hb; cases hb⟩ (by rw [hps]; simp) (by rw [hps]; simp) rfl (cst _ _)
      exact wpAny_pure ⟨plainId_quiet F.plain_all_loop _, ih s' (by omega) hst hb hR⟩
    | false =>
      simp only [Bool.false_eq_true, if_false]
      exact wpAny_bind (wpAny_rule (wpAny_pure (hR false _ m H s' rfl at_.inv at_.hr at_.nx)))
end
theorem room_gen {k : Nat} {A B : Around} (hr : Room (k + 1) A) (env : Env) (hd : B.depth = A.depth) (hu : B.units ≤ A.units + 10) (hh : B.handled = none) : Room k (B.deeper env) :=
  ⟨hh, by have := hr.dp; show B.depth + 1 + 3 * k + 5 < _; omega, by have := hr.un; show B.units + 3 + 16 * k + 200 < _; omega⟩
theorem cAny_val : ∀ {T : List (PV × Cells)} {hf : Cells} {o : Out PV}, cAny T hf = o → o ≠ .bad → ∃ b h, o = .ok (.d (.bool b)) h
  | [], hf, _, e, _ => ⟨false, hf, e.symm⟩
  | (.d (.bool true), h) :: _, _, _, e, _ => ⟨true, h, e.symm⟩
  | (.d (.bool false), _) :: r, hf, _, e, n => cAny_val (T := r) e n
  | (.d .none, _) :: _, _, _, e, n | (.d (.int _), _) :: _, _, _, e, n | (.d (.str _), _) :: _, _, _, e, n | (.d (.list _), _) :: _, _, _, e, n | (.d (.tuple _), _) :: _, _, _, e, n | (.d (.dict _), _) :: _, _, _, e, n => absurd e.symm n
  | (.r _, _) :: _, _, _, e, n | (.ls _, _) :: _, _, _, e, n | (.tp _, _) :: _, _, _, e, n | (.cl _, _) :: _, _, _, e, n | (.sc _, _) :: _, _, _, e, n => absurd e.symm n
theorem any_cons {X : Cx} {cs : List Tb} {k : Nat} (hr : Room (k + 1) X.A) : ConsR X cs k (.builtin "any") cAny := by
  intro z pins σ own e tg iter elt ifs scope pos m0 H0 xs src h4 a s5 s4 H4 m4 code fp it J tn gn g t fe T hf Q Wx N E hco hw hT p
  refine call_function_tree F.kind_any F.plain_any F.entry_any (F.args_any1 _) ?_
  unfold Builtin.«any»
  refine wpAny_bind (m := oneArg "any" _) (wpAny_pure ?_)
  refine wpAny_bind (wpAny_pyIter_gen N.gen ?_)
  obtain ⟨Fx, st⟩ := gnew_st N E hco hT X.A.in1.in1 hr.hd N.i4.ok.frames (room_gen hr _ rfl (by show X.A.units + 1 + 1 ≤ _; omega) hr.hd) [] (fun _ _ => True) (fun b hb => absurd hb (by simp)) (fun _ _ _ _ _ => trivial) (s := s5) (fun _ _ e => e) rfl rfl (fun b hb => absurd hb (by simp)) trivial
  have hnb : cAny T hf ≠ .bad := fun q => by rw [q] at p; exact p
  refine wpAny_pure ⟨plainId_quiet F.plain_any_loop _, any_loop (A := X.A) hr.hd (by have := hr.dp; omega) rfl rfl (fun _ _ => trivial) T.length s5 (Nat.le_refl _) st (by rw [Nat.sub_self, List.drop_zero]; exact hnb) fun b h m H s' eb I hh n => ?_⟩
  rw [Nat.sub_self, List.drop_zero] at eb
  have eb' : cAny T hf = .ok (.d (.bool b)) h := eb
  rw [eb'] at p
  exact ⟨.bl b, H, gnew_end N I, rfl, p m H n hh _ (rB_ b)⟩
theorem all_cons {X : Cx} {cs : List Tb} {k : Nat} (hr : Room (k + 1) X.A) : ConsR X cs k (.builtin "all") cAll := by
  intro z pins σ own e tg iter elt ifs scope pos m0 H0 xs src h4 a s5 s4 H4 m4 code fp it J tn gn g t fe T hf Q Wx N E hco hw hT p
  refine call_function_tree F.kind_all F.plain_all F.entry_all (F.args_all1 _) ?_
  unfold Builtin.«all»
  refine wpAny_bind (m := oneArg "all" _) (wpAny_pure ?_)
  refine wpAny_bind (wpAny_pyIter_gen N.gen ?_)
  obtain ⟨Fx, st⟩ := gnew_st N E hco hT X.A.in1.in1 hr.hd N.i4.ok.frames (room_gen hr _ rfl (by show X.A.units + 1 + 1 ≤ _; omega) hr.hd) [] (fun _ _ => True) (fun b hb => absurd hb (by simp)) (fun _ _ _ _ _ => trivial) (s := s5) (fun _ _ e => e) rfl rfl (fun b hb => absurd hb (by simp)) trivial
  have hnb : cAll T hf ≠ .bad := fun q => by rw [q] at p; exact p
  refine wpAny_pure ⟨plainId_quiet F.plain_all_loop _, all_loop (A := X.A) hr.hd (by have := hr.dp; omega) rfl rfl (fun _ _ => trivial) T.length s5 (Nat.le_refl _) st (by rw [Nat.sub_self, List.drop_zero]; exact hnb) fun b h m H s' eb I hh n => ?_⟩
  rw [Nat.sub_self, List.drop_zero] at eb
  have eb' : cAll T hf = .ok (.d (.bool b)) h := eb
  rw [eb'] at p
  exact ⟨.bl b, H, gnew_end N I, rfl, p m H n hh _ (rB_ b)⟩
end Mi

set_option Elab.async false
set_option linter.all false
set_option maxRecDepth 100000
set_option maxHeartbeats 4000000
namespace Mi
open PySem PySem.Spec PyProof.Rows L2 GenW

/-! ## what has come out stands in a list -/
def CL (S : Addr) (vs : List V) (h : Heap) : Prop := ∃ acc c, h.get? S = some (lstObj acc c) ∧ Vals vs acc.toList
theorem cl_st {S : Addr} : ∀ vs h h', (∀ b ∈ [S], ∀ o, h.get? b = some o → h'.get? b = some o) → CL S vs h → CL S vs h' := fun vs h h' k ⟨acc, c, e, r⟩ => ⟨acc, c, k S (by simp) _ e, r⟩
theorem drop_at {α : Type} {T : List α} {n : Nat} {y : α} (hle : n + 1 ≤ T.length) (eT : T[T.length - (n + 1)]? = some y) : T.drop (T.length - (n + 1)) = y :: T.drop (T.length - n) := by
  have hlt : T.length - (n + 1) < T.length := by omega
  rw [List.drop_eq_getElem_cons hlt]
  have e2 := List.getElem?_eq_getElem hlt
  rw [eT] at e2
  rw [← Option.some.inj e2]
  congr 1
  congr 1
  omega
section
variable {G : GP} {A : Around} {gn : Nat} {R : Result → Shared → Prop} {S : Addr} {res : Value}
theorem ext_loop (hh : A.handled = none) (hroom : A.depth < recursionLimit) (hB : A.in1.in1 = G.B) (hps : G.ps = [S]) (hC : G.C = CL S) (na : G.a ≠ S) (nc : cStatics ≠ S) (hz : G.T.length ≤ sizeLine)
    (hR : ∀ s' m H vs acc c, G.At G.T.length G.hf m H vs s' → s'.heap.get? S = some (lstObj acc c) → Vals vs acc.toList → R (.ok (.ret res)) s') : ∀ (n : Nat) (s : Shared), n ≤ G.T.length → GSt G gn n s →
    codeAny (model G.X.prog G.X.w) A (.builtin "list.extend.loop" ⟨[.ref S, .ref G.a, res], []⟩) R s := by
  have cst : ∀ vs h h', (∀ b ∈ G.ps, ∀ o, h.get? b = some o → h'.get? b = some o) → G.C vs h → G.C vs h' := by rw [hps, hC]; exact cl_st
  intro n
  induction n with
  | zero =>
    intro s hle st
    refine codeAny_builtin F.entry_extend_loop ?_
    rw [Around.under_plainId F.plain_extend_loop _]
    show wpAny _ A.in1 (pyNext (.ref G.a) >>= _) _ _ s
    refine wpAny_bind (gst_end (A := A.in1) cst hh hroom hB st fun s' m H vs at_ _ => ?_)
    obtain ⟨acc, c, e, r⟩ := (show CL S vs s'.heap by rw [← hC]; exact at_.cv)
    exact wpAny_pure (hR s' m H vs acc c at_ e r)
  | succ n ih =>
    intro s hle st
    refine codeAny_builtin F.entry_extend_loop ?_
    rw [Around.under_plainId F.plain_extend_loop _]
    show wpAny _ A.in1 (pyNext (.ref G.a) >>= _) _ _ s
    refine wpAny_bind (gst_item (A := A.in1) hh hroom hB (Nat.succ_pos n) hle st fun v s' h m H vs y u eT at_ rp rl kp wk => ?_)
    obtain ⟨acc, c, hS', rv⟩ := (show CL S vs s'.heap by rw [← hC]; exact at_.cv)
    have hlen : acc.size = G.T.length - (n + 1) := by
      have h1 := rv.length
      have h2 := at_.rv.length
      rw [List.length_map, List.length_take, Nat.min_eq_left (Nat.sub_le _ _)] at h2
      rw [Array.length_toList] at h1
      exact (h2.trans h1).symm
    show wpAny _ A.in1 (updateSeq S (·.push v) >>= _) _ _ _
    refine wpAny_bind ?_
    refine wpAny_updateSeq hS' rfl (wpAny_pure ⟨plainId_quiet F.plain_extend_loop _, ih _ (by omega) ?_⟩)
      (by rw [hlen]; omega) (by show (acc.push v).size ≤ sizeLine + 1; rw [Array.size_push, hlen]; omega)
    have eS := Heap.get?_update_self (Obj.mapSeq (·.push v)) hS' rfl
    refine wk _ ⟨rfl, at_.inv.bare, fun b o hb e => ?_, fun b hb => ?_⟩ (by rw [hps]; simpa using na) (by rw [hps]; simpa using nc) rfl ?_
    · rw [hps] at hb
      exact (Heap.get?_update_other _ _ (fun h : S = b => hb (by rw [h]; simp))).trans e
    · rw [hps] at hb
      rw [List.mem_singleton.mp hb]
      exact ⟨_, eS, fun v q => by cases q⟩
    · rw [hC]
      exact ⟨acc.push v, _, eS, by rw [Array.toList_push]; exact rv.append (.cons rl .nil)⟩
end
theorem collect_g {X : Cx} {cs : List Tb} {k : Nat} {z : List Addr} {pins : List (Addr × Obj)} {σ : L2.St} {own : List (Str × Nat)} {e : Sl} {tg iter elt : Expr} {ifs : List Expr} {scope : Scope} {pos : Pos} {m0 : List Addr} {H0 : Hp} {xs : List PV} {src : Option SR} {h4 : Cells}
    {a : Addr} {s5 s4 : Shared} {H4 : Hp} {m4 : List Addr} {code : Value} {fp : List Addr} {it : Addr} {J : It} {tn : Nat → Heap → Prop} {gn : Nat} {g : MG} {t : ME Bool} {fe : ME PV} {T : List (PV × Cells)} {hf : Cells} {A : Around} {E1 : Value → Shared → Prop} {Q : List Value → Shared → Prop}
    (N : GNew X cs z pins σ (own.map (·.2)) e tg iter elt ifs scope pos m0 H0 xs src h4 a s5 s4 H4 m4 code fp it J tn gn) (E : GEl X cs k scope (own.map (·.2)) tg elt ifs g t fe) (hco : scope.isCoroutine = false)
    (hT : gTr g t fe src xs (wipeE e (own.map (·.2))) xs h4 = some (T, hf)) (hz : T.length ≤ sizeLine) (hA : A.handled = none) (hF : A.frames = some X.stack) (hroom : A.depth < recursionLimit) (hr : Room k (A.in1.in1.deeper (genEnv scope (cloFrom X.env.cells scope.names []) s4.heap.objs.size code builtinsNs X.env)))
    (hQ : ∀ s' m H vs us, Inv X pins σ H s' → HRel X.K cs m z hf H → Nx m4 z H4 m H → RepAll X.K m z H (T.map (·.1)) vs → Vals vs us → Q us s') :
    wpAny (model X.prog X.w) A (collect (.ref a)) Q E1 s5 := by
  have alt : a < s5.heap.objs.size := let ⟨o, _, _, ho, _⟩ := N.gen; Heap.lt_size ho
  have hSI : s5.heap.objs.size ≠ a := Nat.ne_of_gt alt
  have I5 := N.i5 A.in1.in1 hA hF
  have hcl : cStatics < s5.heap.objs.size := let ⟨_, hns, _⟩ := I5.nolimit; hns.lt
  unfold collect
  refine wpAny_bind (wpAny_runValue (codeAny_builtin F.entry_proto_collect ?_))
  rw [Around.under_plainId F.plain_proto_collect _]
  show wpAny _ A.in1 (newList [] >>= fun l => again (.builtin "list.__iadd__" ⟨[l, .ref a], []⟩)) _ _ s5
  refine wpAny_bind (wpAny_newObj_type ?_)
  refine wpAny_pure ⟨plainId_quiet F.plain_list_iadd _, codeAny_builtin F.entry_list_iadd ?_⟩
  rw [Around.under_plainId F.plain_list_iadd _]
  have g1 : ∀ {h : Heap}, (∀ o, s5.heap.get? a = some o → h.get? a = some o) → h.IsGen a gn := fun k => isGen_keep N.gen k
  show wpAny _ A.in1 (Builtin.List.listExtendWith (.ref s5.heap.objs.size) (.ref a) (.ref s5.heap.objs.size)) _ _ _
  unfold Builtin.List.listExtendWith
  have k1 : ∀ b o, s5.heap.get? b = some o → (s5.heap.push { cls := .type "list", data := .seq ([] : List Value).toArray }).get? b = some o := fun b o e => Heap.get?_push_of_some _ e
  refine wpAny_bind (wpAny_typeOf (Heap.IsGen.typeIs (s := { s5 with heap := _ }) (g1 (k1 a))) ?_)
  have h1 : Builtin.List.listSameRef (.ref s5.heap.objs.size) (.ref a) = false := by simp [Builtin.List.listSameRef, hSI]
  have h2 : (Value.type "generator" == Value.type "list") = false := by decide
  have h3 : (Value.type "generator" == Value.type "tuple") = false := by decide
  simp only [h1, h2, h3, Bool.or_false, Bool.false_eq_true, if_false]
  refine wpAny_bind (wpAny_pyIter_gen (s := { s5 with heap := _ }) (g1 (k1 a)) ?_)
  refine wpAny_bind (wpAny_holding ?_)
  unfold Builtin.List.listLengthHint
  refine wpAny_bind (wpAny_specialOf (Heap.IsGen.typeIs (s := { s5 with heap := _ }) (g1 (k1 a))) F.gen_no_len ?_)
  show wpAny _ A.in1 (specialOf (Value.ref a) (Str.ofString "__length_hint__") >>= _) _ _ _
  refine wpAny_bind (wpAny_specialOf (Heap.IsGen.typeIs (s := { s5 with heap := _ }) (g1 (k1 a))) F.gen_no_hint ?_)
  refine wpAny_pure ?_
  show wpAny _ A.in1 (rule "list.extend.makes-room" >>= fun _ => Builtin.List.listTouch (.ref s5.heap.objs.size) >>= fun _ =>
    again (.builtin "list.extend.loop" ⟨[.ref s5.heap.objs.size, .ref a, .ref s5.heap.objs.size], []⟩)) _ _ _
  refine wpAny_bind (wpAny_rule ?_)
  have hS1 : (s5.heap.push { cls := .type "list", data := .seq ([] : List Value).toArray }).get? s5.heap.objs.size = some { cls := .type "list", data := .seq ([] : List Value).toArray } := Heap.get?_push_size _ rfl
  refine wpAny_bind ?_
  show wpAny _ A.in1 (updateSeq s5.heap.objs.size (·.push .none) >>= fun _ => updateSeq s5.heap.objs.size (·.pop)) _ _ _
  refine wpAny_bind (wpAny_updateSeq hS1 rfl ?_)
  have hS2 := Heap.get?_update_self (Obj.mapSeq (·.push Value.none)) hS1 rfl
  refine wpAny_updateSeq (hz := by seq_fits) hS2 rfl ?_
  have hS3 := Heap.get?_update_self (Obj.mapSeq (·.pop)) hS2 rfl
  have oth : ∀ b o, s5.heap.get? b = some o → (((s5.heap.push { cls := .type "list", data := .seq ([] : List Value).toArray }).update s5.heap.objs.size (Obj.mapSeq (·.push Value.none))).update s5.heap.objs.size (Obj.mapSeq (·.pop))).get? b = some o :=
    fun b o e => (Heap.get?_update_other _ _ (Ne.symm (Nat.ne_of_lt (Heap.lt_size e)))).trans ((Heap.get?_update_other _ _ (Ne.symm (Nat.ne_of_lt (Heap.lt_size e)))).trans (k1 b o e))
  obtain ⟨Fx, st⟩ := gnew_st N E hco hT A.in1.in1 hA hF hr [s5.heap.objs.size] (CL s5.heap.objs.size) (fun b hb => by rw [List.mem_singleton.mp hb]; exact Nat.le_refl _) cl_st
    (s := { s5 with heap := ((s5.heap.push { cls := .type "list", data := .seq ([] : List Value).toArray }).update s5.heap.objs.size (Obj.mapSeq (·.push Value.none))).update s5.heap.objs.size (Obj.mapSeq (·.pop)) }) oth rfl rfl
    (fun b hb => by rw [List.mem_singleton.mp hb]; exact ⟨_, hS3, fun v q => by cases q⟩) ⟨_, _, hS3, .nil⟩
  refine wpAny_pure ⟨plainId_quiet F.plain_extend_loop _, ext_loop (A := A) (S := s5.heap.objs.size) hA hroom rfl rfl rfl (Ne.symm hSI) (Nat.ne_of_lt hcl) hz (fun s' m H vs acc c at_ e r => ?_) T.length _ (Nat.le_refl _) st⟩
  have I6 := gnew_end N at_.inv
  have rv := at_.rv
  rw [List.take_length] at rv
  show wpAny _ A (load s5.heap.objs.size >>= _) _ _ s'
  refine wpAny_bind (wpAny_load e ?_)
  exact wpAny_pure (hQ s' m H vs acc.toList I6 at_.hr at_.nx rv r)

/-! ### tuple(generator) -/
def cTup (T : List (PV × Cells)) (hf : Cells) : Out PV := if T.length ≤ sizeLine then .ok (mkT (T.map (·.1))) hf else .bad
theorem tuple_cons {X : Cx} {cs : List Tb} {k : Nat} (hr : Room (k + 1) X.A) : ConsR X cs k (.type "tuple") cTup := by
  intro z pins σ own e tg iter elt ifs scope pos m0 H0 xs src h4 a s5 s4 H4 m4 code fp it J tn gn g t fe T hf Q Wx N E hco hw hT p
  unfold cTup at p
  split at p
  · rename_i hz
    have hgt : s5.TypeIs (.ref a) "generator" := N.gen.typeIs
    have fin : ∀ s' m H vs us, Inv X pins σ H s' → HRel X.K cs m z hf H → Nx m4 z H4 m H → RepAll X.K m z H (T.map (·.1)) vs → Vals vs us →
        EP X pins σ Q (.ref s'.heap.objs.size) { s' with heap := s'.heap.push { cls := .type "tuple", data := .seq us.toArray } } := fun s' m H vs us I hh n rv r => by
      have hn := I.hok.fresh (Nat.le_refl s'.heap.objs.size)
      have hl : vs.length ≤ sizeLine := by rw [← rv.length, List.length_map]; exact hz
      exact ⟨.ref s'.heap.objs.size, _, I.laid (t' := s'.toks) (o := .tup vs) (fun b ob q => Heap.get?_push_of_some _ q) (Nat.le_refl _) ⟨hl, us, r, IsTup.new _ _⟩, rfl, p m _ (n.trans (Nx.new hn)) (hh.new hn) _ (rep_newT hh rv hn)⟩
    refine callType_codes (Q₁ := fun obj s₁ => s₁.TypeIs obj "tuple" ∧ EP X pins σ Q obj s₁) F.called_tuple (F.typeCall_tuple_1 _) F.entry_object_init ?_ fun obj s₁ h₁ => ?_
    · refine codeAny_of_tree ?_
      show wpAny _ X.A.in1.in1 (do checkBuiltinCall "tuple.__new__" ⟨[.type "tuple", .ref a], []⟩; again (.builtin "tuple.__new__" ⟨[.type "tuple", .ref a], []⟩)) _ _ s5
      refine wpAny_bind (wpAny_of_eq (F.newCall_tuple_1 _) (wpAny_pure ⟨plainId_quiet F.plain_tuple_new _, codeAny_builtin F.entry_tuple_new ?_⟩))
      rw [Around.under_plainId F.plain_tuple_new _]
      have hsub := sub_tuple_self
      have hinit := init_tuple_lookup
      have hmh := madeHere_tuple
      have col : ∀ {E1 : Value → Shared → Prop} {Q1 : List Value → Shared → Prop}, (∀ s' us, us.length ≤ sizeLine → EP X pins σ Q (.ref s'.heap.objs.size) { s' with heap := s'.heap.push { cls := .type "tuple", data := .seq us.toArray } } → Q1 us s') → wpAny (model X.prog X.w) X.A.in1.in1 (collect (.ref a)) Q1 E1 s5 := fun {E1 Q1} hq =>
        collect_g N E hco hT hz hr.hd N.i4.ok.frames (by have := hr.dp; show X.A.depth < _; omega) (room_gen hr _ rfl (by show X.A.units + 1 + 1 + 1 + 1 ≤ _; omega) hr.hd) fun s' m H vs us I hh n rv r => hq s' us (by rw [← r.length, ← rv.length, List.length_map]; exact hz) (fin s' m H vs us I hh n rv r)
      wp_walk using wpAny_typeOf hgt, col
      intro s' us hlen hep
      show wpAny _ _ (Builtin.Tuple.tupleExact us.toArray >>= fun v => ret v) _ _ _
      unfold Builtin.Tuple.tupleExact
      refine wpAny_bind (wpAny_newObj_type ?_ (by show us.toArray.size ≤ sizeLine; rw [List.size_toArray]; exact hlen))
      refine wpAny_pure ?_
      exact ⟨⟨_, Heap.get?_push_size _ rfl, rfl⟩, hep⟩
    · exact ⟨h₁.1, F.args_object_init_2 obj _, object_init_meets F.called_tuple.init.lookup F.called_tuple.made (by decide) X.prog X.w X.A.in1 _ s₁ ⟨h₁.1, rfl, h₁.2⟩⟩
  · exact p.elim
end Mi

set_option Elab.async false
set_option linter.all false
set_option maxRecDepth 100000
set_option maxHeartbeats 4000000
namespace Mi
open PySem PySem.Spec PyProof.Rows L2 GenW

/-! ## lambdas -/
def LamO (f c' : Addr) (q : Str) (params : Arguments) (body : Expr) (scope : Scope) (cl : List (Str × Addr)) : HO := .ext fun h => ∃ pm ctv, h.get? f = some (PySem.W.kla_obj "<lambda>" q params body scope cl pm c' ctv)
theorem lamO_ne {f c' : Addr} {q : Str} {params : Arguments} {body : Expr} {scope : Scope} {cl : List (Str × Addr)} (ps : Array Value) : LamO f c' q params body scope cl ≠ .tbl ps := fun e => by unfold LamO at e; cases e
theorem lamO_ok {P : Program} {w : World} {H : Hp} {h : Heap} {f c' : Addr} {q : Str} {params : Arguments} {body : Expr} {scope : Scope} {cl : List (Str × Addr)} {pm ctv : Value} (e : h.get? f = some (PySem.W.kla_obj "<lambda>" q params body scope cl pm c' ctv)) : ObjOk P w H h f (LamO f c' q params body scope cl) :=
  ⟨⟨pm, ctv, e⟩, ⟨_, e⟩, fun h1 h2 ⟨pm, ctv, e⟩ st => ⟨pm, ctv, st _ e⟩⟩
structure LamTab (X : Cx) (cs : List Tb) (pos : Pos) : Prop where
  ex : ∃ c P, X.env.code = .ref c ∧ LamX.TabB X.base X.mg c P ∧ ∃ t ∈ cs, t.P = P ∧ t.q = X.env.qual ++ "<lambda>" ∧ (pos.line, pos.col) ∈ t.lam ∧ ∀ t' ∈ cs, t'.P = P → t' = t
theorem nx_upd {m z : List Addr} {H H' : Hp} (k : ∀ b o, H b = some o → NoTb o → H' b = some o) (lv : ∀ b, H b ≠ none → H' b ≠ none) : Nx m z H m H' := ⟨⟨[], by simp, fun _ h => absurd h (by simp)⟩, fun b o _ h n => k b o h n, lv⟩
theorem HRel.tabL {K : PySem.W.Frag} {cs : List Tb} {m z : List Addr} {h : Cells} {H : Hp} {P c' : Addr} {ps : Array Value} {pos : Pos} {q : Str} {t : Tb} (r : HRel K cs m z h H) (hP : H P = some (.tbl ps)) (ht : TriplesOk ps.toList) (hm : P ∉ m) (hc : H c' = none) (hq : t.q = q) (hu : ∀ t' ∈ cs, t'.P = P → t' = t) :
    HRel K cs m z h (upd (upd H P (.tbl (ps ++ #[rawInt pos.line, rawInt pos.col, .ref c']))) c' (LamX.CodeO c' q)) ∧ Nx m z H m (upd (upd H P (.tbl (ps ++ #[rawInt pos.line, rawInt pos.col, .ref c']))) c' (LamX.CodeO c' q)) := by
  have nPc : P ≠ c' := ne_of_none hP hc
  have k : ∀ b o, H b = some o → NoTb o → upd (upd H P (.tbl (ps ++ #[rawInt pos.line, rawInt pos.col, .ref c']))) c' (LamX.CodeO c' q) b = some o := fun b o e nt => by
    rw [upd_ne (ne_of_none e hc), upd_ne (fun w => nt ps (by rw [w, hP] at e; exact (Option.some.inj e).symm))]; exact e
  have lv : ∀ b, H b ≠ none → upd (upd H P (.tbl (ps ++ #[rawInt pos.line, rawInt pos.col, .ref c']))) c' (LamX.CodeO c' q) b ≠ none := fun b e => by
    by_cases e1 : b = c'
    · rw [e1, upd_same]; simp
    · rw [upd_ne e1]
      by_cases e2 : b = P
      · rw [e2, upd_same]; simp
      · rw [upd_ne e2]; exact e
  have n := nx_upd (m := m) (z := z) k lv
  refine ⟨⟨r.len, r.nd, r.dz, fun a q => lv a (r.lv a q), fun i o a h1 h2 => (r.obj i o a h1 h2).nx n ?_, fun t' htc => ?_, r.tm⟩, n⟩
  · have h3 := List.mem_of_getElem? h2
    rw [upd_ne (fun (e : a = c') => r.lv a (.inl h3) (by rw [e]; exact hc)), upd_ne (fun (e : a = P) => hm (e ▸ h3))]
  obtain ⟨ps', h1, h2, h3⟩ := r.tb t' htc
  have eL : (ps ++ #[rawInt pos.line, rawInt pos.col, .ref c']).toList = ps.toList ++ [rawInt pos.line, rawInt pos.col, .ref c'] := by simp
  by_cases e : t'.P = P
  · rw [e, hP] at h1
    cases h1
    refine ⟨_, by rw [e, upd_ne nPc, upd_same], by rw [eL]; exact PySem.TriplesOk_snoc _ _ _ _ ht, fun p' cv hp hcv => ?_⟩
    rw [eL] at hcv
    rcases LamX.among_app _ ht hcv with w | w
    · obtain ⟨c0, e1, e2⟩ := h3 p' cv hp w
      exact ⟨c0, e1, k _ _ e2 LamX.codeO_ne⟩
    · refine ⟨c', w, ?_⟩
      rw [hu t' htc e, hq, upd_same]
  · refine ⟨ps', ?_, h2, fun p' cv hp hcv => ?_⟩
    · rw [upd_ne (ne_of_none h1 hc), upd_ne e]; exact h1
    · obtain ⟨c0, e1, e2⟩ := h3 p' cv hp hcv
      exact ⟨c0, e1, k _ _ e2 LamX.codeO_ne⟩
section
variable {X : Cx} {cs : List Tb} {pins : List (Addr × Obj)} {σ : L2.St} {H : Hp} {s : Shared} {m z : List Addr} {h : Cells} {params : Arguments} {body : Expr} {scope : Scope} {pos : Pos}
theorem lam_make3 {E : Value → Shared → Prop} {Q : Value → Shared → Prop} (I : Inv X pins σ H s) (hh : HRel X.K cs m z h H) (LT : LamTab X cs pos) (hdef : defaultsOf params X.env = ([], [])) (hfree : ∀ y ∈ scope.names, y.2 = .free → ∃ c, X.env.cells.lookup y.1 = some c)
    (hQ : ∀ (f c' : Addr) (H2 : Hp) (s' : Shared), Inv X pins σ H2 s' → HRel X.K cs m z h H2 → Nx m z H m H2 → H f = none → H2 f = some (LamO f c' (X.env.qual ++ "<lambda>") params body scope (cloFrom X.env.cells scope.names [])) → H2 c' = some (LamX.CodeO c' (X.env.qual ++ "<lambda>")) → Q (.ref f) s') :
    wpAny (model X.prog X.w) X.A (eval (.Lambda params body scope pos) X.env) Q E s := by
  obtain ⟨c, P, hcode, TB, t, htc, eP, eq, hpos, huq⟩ := LT.ex
  obtain ⟨ps, hP, ht, ha⟩ := hh.tb t htc
  have hPm : P ∉ m := by rw [← eP]; exact hh.tm t htc
  rw [eP] at hP
  refine PySem.W.kla_eval hdef ?_
  have bP : s.heap.BuiltinsAt X.mg P := TB.bm.keeps I.bk
  have hP' : s.heap.get? P = some { cls := .none, data := .fields ps } := I.hok P _ hP
  -- the lambda's object is laid
  have fin : ∀ (H1 : Hp) (h1 : Heap) (t1 : Tok) (c' : Addr) (ctv : Value), Inv X pins σ H1 { s with heap := h1, toks := t1 } → HRel X.K cs m z h H1 → Nx m z H m H1 → H1 c' = some (LamX.CodeO c' (X.env.qual ++ "<lambda>")) → s.heap.objs.size ≤ h1.objs.size →
      Q (.ref h1.objs.size) { s with heap := h1.push (PySem.W.kla_obj "<lambda>" (X.env.qual ++ "<lambda>") params body scope (cloFrom X.env.cells scope.names []) ((X.mg "__name__").getD .none) c' ctv), toks := t1 } := fun H1 h1 t1 c' ctv I1 r1 n1 hc1 hsz => by
    have hn := I1.hok.fresh (Nat.le_refl h1.objs.size)
    have I2 : Inv X pins σ (upd H1 h1.objs.size (LamO h1.objs.size c' (X.env.qual ++ "<lambda>") params body scope (cloFrom X.env.cells scope.names []))) { s with heap := h1.push (PySem.W.kla_obj "<lambda>" (X.env.qual ++ "<lambda>") params body scope (cloFrom X.env.cells scope.names []) ((X.mg "__name__").getD .none) c' ctv), toks := t1 } :=
      I1.laid (t' := t1) (fun b o e => Heap.get?_push_of_some _ e) (Nat.le_refl _) (lamO_ok (Heap.get?_push_size _ rfl))
    exact hQ h1.objs.size c' _ _ I2 (r1.new hn) (n1.trans (Nx.new hn)) (I.hok.fresh hsz) upd_same (upd_of hn hc1)
  cases hc : codeAmong pos ps.toList with
  | none =>
    refine PySem.W.kla_makeFunction (mg := X.mg) (c := c) (P := P) (ps := ps) (closure_ok hfree) I.ok.glob (I.mod.glob.keeps I.bk) hcode (TB.code.keeps I.bk) hP' ht hc TB.gP bP fun c' ctv h' tk hx hge hlt hrec htb => ?_
    obtain ⟨c2, oc, vs, tt, e2, hoc, hd, hv⟩ := hrec
    cases e2
    have nC : H c' = none := I.hok.fresh hge
    have I1 := LamX.inv_table (t' := tk) (more := #[rawInt pos.line, rawInt pos.col, .ref c']) (h' := h') I hP hx htb hge ⟨oc, vs, tt, hoc, hd, hv⟩
    obtain ⟨r1, n1⟩ := hh.tabL (pos := pos) hP ht hPm nC eq huq
    exact fin _ h' tk c' ctv I1 r1 n1 upd_same (Nat.le_trans hge (Nat.le_of_lt hlt))
  | some cv =>
    obtain ⟨c', e, hco⟩ := ha pos cv hpos hc
    subst e
    rw [eq] at hco
    refine PySem.W.kla_makeFunctionHit (mg := X.mg) (c := c) (P := P) (ps := ps) (closure_ok hfree) I.ok.glob (I.mod.glob.keeps I.bk) hcode (TB.code.keeps I.bk) hP' ht hc bP fun ctv h' tk hx hsz => ?_
    exact fin H h' tk c' ctv (I.kept hx) hh (Nx.refl _ _ _) hco hsz
/-- x(), in the def that got the lambda -/
theorem lam_act {CXg : CXT} {Eg : XK} {Ng : List Str} {qg : Str} {sg : Scope} {g f c' : Addr} {cdg : Value} {k i : Nat} {a : Str} {pn : List (Addr × Obj)} {xe : Value → Shared → Prop} {W : WX} {E : XK} {tb : TE} {p1 p2 : Pos}
    (I : Inv X pins σ H s) (L : LamX.LamS X.env.scope scope)
    (hbind : ∀ (q : Str) (cl : List (Str × Addr)) (pm cv ctv : Value), bindArgs (PySem.W.kla_fn "<lambda>" q params body scope cl pm cv ctv) ⟨[], []⟩ = pure [])
    (tk : Takes ((cxOf CXg X.prog X.w X.K X.mg X.base Ng qg sg g cdg X.A X.stack s H Eg).tr pn xe) W) (hW : ∀ cls d σ' H', E cls d H' → W cls d σ' H') (hr : Room (k + 1) (X.A.deeper (envOfC qg sg s.heap.objs.size g cdg)))
    (hbody : ∀ (A : Around) (outer : List Env) (s : Shared) (H : Hp), Room k (A.deeper (LamX.lamEnv X scope s.heap.objs.size f c')) → PE (LamX.lamCx X A outer s H E scope f c') body tb)
    (hN : Ng[i]? = some a) (hv : Vis sg a) (hd : (a == ("__debug__" : Str)) = false := by decide) (hcd : (a == ("__classdict__" : Str)) = false := by decide) :
    PE ((cxOf CXg X.prog X.w X.K X.mg X.base Ng qg sg g cdg X.A X.stack s H Eg).tr pn xe) (.Call (.Name a p1) [] [] p2)
      (fun σZ HZ Q => σZ[i]? = some (some (.ref f)) ∧ HZ c' = some (LamX.CodeO c' (X.env.qual ++ "<lambda>")) ∧ HZ f = some (LamO f c' (X.env.qual ++ "<lambda>") params body scope (cloFrom X.env.cells scope.names [])) ∧ tb σ HZ Q) := by
  refine ⟨fun pinsZ sZ σZ HZ Q IZ h => ?_⟩
  obtain ⟨hs, hc, hf, ht⟩ := h
  refine wpAny_Call_Name_kw (thn ((pe_var (pos := p1) (i := i) hN hv hd hcd).run pinsZ sZ σZ HZ (fun v H1 => v = .ref f ∧ H1 = HZ) IZ ⟨.ref f, hs, rfl, rfl⟩) fun u s1 ⟨v, H1, I1, r1, q1⟩ => ?_)
  obtain ⟨ev, eH⟩ := q1
  subst ev
  rw [eH] at I1
  obtain rfl : u = Value.ref f := r1
  obtain ⟨⟨pm, ctv, of1⟩, _, _⟩ := I1.hok f _ hf
  refine PySem.W.callWith_F0 ⟨_, _, _, _, of1⟩ ?_
  have un : Un (frs X.stack) [] H HZ s.heap s1.heap := I1.base
  obtain ⟨⟨oc, vs, t, hoc, hdc, hvc⟩, _, _⟩ := I1.hok c' _ hc
  have rc : codeAny (model X.prog X.w) (X.A.deeper (envOfC qg sg s.heap.objs.size g cdg)) (.call (.ref f) ⟨[], []⟩) (CR (L2.CX X.prog X.w) (envOfC qg sg s.heap.objs.size g cdg :: X.stack) X.prog X.w HZ s1 Q E) s1 := by
    refine PySem.W.kla_callFunE hr.depth of1 rfl L.co L.gen rfl ⟨c', oc, vs, t, rfl, hoc, hdc, hvc⟩ ?_
    rw [hbind]
    refine wpAny_pure (wpAny_newFunctionEnv (fun y hy => (L.own y hy).2) (fun y hy => absurd hy (by simp)) (fun h₁ hns hsb => ⟨I1.nolimit.fresh _ hsb, ?_⟩) L.kind)
    show codeAny _ _ (.expr body (LamX.lamEnv X scope s1.heap.objs.size f c')) _ _
    have kp : ∀ b o, s1.heap.get? b = some o → h₁.get? b = some o := fun b o e => hsb.extBut b o (Nat.ne_of_lt (Heap.lt_size e)) (Heap.get?_push_of_some _ e)
    have J := LamX.lam_start2 (A := X.A.deeper (envOfC qg sg s.heap.objs.size g cdg)) (E := E) (f := f) (c' := c') (tk := s1.toks + ([] : List (Str × Value)).length) I L I1.env0 hr.hd un hns kp
    refine PySem.W.kla_codeExpr (wpAny_mono ((hbody _ _ s1 HZ (hr.deeper _)).run [] _ _ HZ Q J ht) (fun v s' hq => ?_) fun e s' hq => hq)
    obtain ⟨w', H', J', rv, q⟩ := hq
    exact ⟨w', H', J'.os, J'.bare, J'.base, J'.hok, rv, q⟩
  have hx : Passes (L2.CX X.prog X.w) ((cxOf CXg X.prog X.w X.K X.mg X.base Ng qg sg g cdg X.A X.stack s H Eg).tr pn xe) E := passes_call tk hW
  refine wpAny_call (codeAny_mono rc fun r s' hq => ?_)
  cases r with
  | error e => exact hx pinsZ σZ HZ s1 e s' I1 hq
  | ok fl =>
    cases fl with
    | ret u => exact I1.after hq
    | next => exact False.elim hq
    | brk => exact False.elim hq
    | cont => exact False.elim hq
end

/-! ### the def that is given a lambda -/
structure Told (K : PySem.W.Frag) (mg : Str → Option Value) (x a : Str) (g CS : Addr) (ret : Str) : Prop where
  ex : ∃ (oc : Value) (od : Option Addr) (osl : Array (Option Value)) (pg : Arguments) (bg : List Stmt) (sg : Scope) (dV kV doc pm : Value) (an : Option Addr) (cdv ct : Value) (Ng : List Str),
    K.lookup g = some ⟨oc, od, .func (PySem.W.fnOf x x pg bg sg dV kV doc pm an cdv ct), osl⟩ ∧ PySem.W.codeIn K cdv x = true ∧ L2.Binds K (PySem.W.fnOf x x pg bg sg dV kV doc pm an cdv ct) [a] [] ∧ FnScope Ng [a] sg ∧ Ng[0]? = some a ∧ Vis sg a ∧
    ∀ X : Cx, X.K = K → X.mg = mg → ∀ q, LamX.GivesTo X Ng x sg g cdv bg a q (LamX.TTold K CS ret)
  at_ : mg x = some (.ref g)
  kp : PySem.W.keepIn K (.ref g) = true
  db : (x == ("__debug__" : Str)) = false
  da : (a == ("__debug__" : Str)) = false
  dc : (a == ("__classdict__" : Str)) = false
section
variable {X : Cx} {cs : List Tb} {pins : List (Addr × Obj)} {σ : L2.St} {H : Hp} {s : Shared} {params : Arguments} {body : Expr} {scope : Scope} {x a ret : Str} {g CS f c' : Addr} {k : Nat} {tb : XK → TE}
theorem told_run {Q : VK} {E1 : Value → Shared → Prop} (T : Told X.K X.mg x a g CS ret) (I : Inv X pins σ H s) (L : LamX.LamS X.env.scope scope) (hr : Room (k + 2) X.A)
    (hbind : ∀ (q : Str) (cl : List (Str × Addr)) (pm cv ctv : Value), bindArgs (PySem.W.kla_fn "<lambda>" q params body scope cl pm cv ctv) ⟨[], []⟩ = pure [])
    (hbody : ∀ (A : Around) (outer : List Env) (s : Shared) (H : Hp) (E : XK) (L : Addr), Room k (A.deeper (LamX.lamEnv X scope L f c')) → PE (LamX.lamCx X A outer s H E scope f c') body (tb E))
    (hf : H f = some (LamO f c' (X.env.qual ++ "<lambda>") params body scope (cloFrom X.env.cells scope.names []))) (hc : H c' = some (LamX.CodeO c' (X.env.qual ++ "<lambda>")))
    (h : LamX.TTold X.K CS ret (fun E H' Q' => tb E σ H' Q') H Q) :
    wpAny (model X.prog X.w) X.A (call (.ref g) [.ref f]) (fun u s' => CE X.stack X.prog X.w H s Q u s') E1 s := by
  obtain ⟨oc, od, osl, pg, bg, sg, dV, kV, doc, pm, an, cdv, ct, Ng, lk, hcg, hb, Sg, hNg, hva, hG⟩ := T.ex
  have rc : codeAny (model X.prog X.w) X.A (.call (.ref g) ⟨[.ref f], []⟩) (CR C8.CX0 X.stack X.prog X.w H s Q C8.E0) s := by
    refine LamX.run_ofS (N := Ng) (ps := [a]) (us := [.ref f]) (vs := [.ref f]) lk hcg Sg hr I.env0 (hb s [.ref f] I.kIn rfl) (.cons rfl .nil) rfl fun hr' => ?_
    obtain ⟨t', ht', hq'⟩ := hG X rfl rfl (X.env.qual ++ "<lambda>") f c' s H Q (fun E H' Q' => H' f = some (LamO f c' (X.env.qual ++ "<lambda>") params body scope (cloFrom X.env.cells scope.names [])) ∧ tb E σ H' Q')
      (fun W pn xe E p1 p2 tk hW => lam_act (i := 0) I L hbind tk hW hr' (fun A outer s H hr2 => hbody A outer s H E _ hr2) hNg hva T.da T.dc) hc ⟨hf, h⟩
    exact ⟨t', ht'.nox, hq'⟩
  refine wpAny_call (codeAny_mono rc fun r s2 hq => ?_)
  cases r with
  | error e => exact (show False from hq).elim
  | ok fl =>
    cases fl with
    | ret u => exact hq
    | next => exact False.elim hq
    | brk => exact False.elim hq
    | cont => exact False.elim hq
end
/-- told(lambda: e) -/
def mTold (fb : ME PV) (catch_ : Str → Bool) (ret : Str) : ME PV := fun e h => match fb e h with
  | .ok v h1 => .ok v h1
  | .ex c h1 => if catch_ c then .ok (.d (.str ret)) h1 else .bad
  | .bad => .bad
def CatchOk (K : PySem.W.Frag) (CS : Addr) (catch_ : Str → Bool) : Prop := ∀ c, catch_ c = true → PySem.W.exmOne K (.ref (He.ga K c)) (.ref CS) = some true
theorem told_tt {K : PySem.W.Frag} {cs : List Tb} {z m : List Addr} {σ : L2.St} {H : Hp} {Q : VK} {Wx : Str → Hp → Prop} {fb : ME PV} {catch_ : Str → Bool} {ret : Str} {CS : Addr} {e : Sl} {h : Cells} (hcat : CatchOk K CS catch_) (hret : PyData.strOk ret = true)
    (hs : SRel K m z H e σ) (hh : HRel K cs m z h H) (p : Po K cs z m H (RxE K z Q) Wx (mTold fb catch_ ret e h)) : LamX.TTold K CS ret (fun E H' Q' => tE K cs (WB E) fb σ H' Q') H Q := by
  refine ⟨m, z, e, h, hs, hh, ?_⟩
  unfold mTold at p
  cases q : fb e h with
  | ok v h1 => rw [q] at p; exact p
  | ex c h1 =>
    rw [q] at p
    simp only at p
    split at p
    · rename_i hc
      intro m' H' n' hh'
      exact ⟨true, hcat c hc, fun _ => p m' H' n' hh' _ (rS_ hret), fun q => by cases q⟩
    · exact p.elim
  | bad => rw [q] at p; exact p.elim
section
variable {X : Cx} {cs : List Tb} {W : WX} {params : Arguments} {body : Expr} {scope : Scope} {x a ret : Str} {g CS : Addr} {k : Nat} {fb : ME PV} {catch_ : Str → Bool} {p lpos pos : Pos}
/-- a lambda's body, in its own context -/
def LamEl (X : Cx) (cs : List Tb) (k : Nat) (scope : Scope) (body : Expr) (fb : ME PV) : Prop :=
  ∀ (A : Around) (outer : List Env) (s : Shared) (H : Hp) (E : XK) (f c' L : Addr), Room k (A.deeper (LamX.lamEnv X scope L f c')) → SE (LamX.lamCx X A outer s H E scope f c') cs (WB E) body fb
theorem s_told (T : Told X.K X.mg x a g CS ret) (hr : Room (k + 2) X.A) (hg : Gl X x) (LT : LamTab X cs lpos) (L : LamX.LamS X.env.scope scope) (hdef : defaultsOf params X.env = ([], []))
    (hbind : ∀ (q : Str) (cl : List (Str × Addr)) (pm cv ctv : Value), bindArgs (PySem.W.kla_fn "<lambda>" q params body scope cl pm cv ctv) ⟨[], []⟩ = pure []) (hcat : CatchOk X.K CS catch_) (hret : PyData.strOk ret = true) (hb : LamEl X cs k scope body fb) :
    SE X cs W (.Call (.Name x p) [.Lambda params body scope lpos] [] pos) (mTold fb catch_ ret) := by
  refine ⟨fun pins s σ H Q I ⟨m, z, e, h, hs, hh, pp⟩ => ?_⟩
  refine wpAny_Call_Name_kw (ld_glob I hg T.at_ ?_ T.db)
  refine PySem.W.callWith_K (h₀ := X.base) I.ok.mod.kin T.kp ?_ (by rfl) (by rfl)
  show wpAny _ _ (spliced ((false, eval (.Lambda params body scope lpos) X.env) :: backTo pos (starEach [] X.env))) _ _ s
  refine Calls.spliced_cons (lam_make3 I hh LT hdef (L.has I.ok) fun f c' H2 s' I2 hh2 n2 _ hf hc => ?_)
  refine Calls.spliced_nil ⟨I2.kIn, ?_⟩
  refine wpAny_mono (told_run (tb := fun E => tE X.K cs (WB E) fb) T I2 L hr hbind (fun A outer s H E LL hr2 => hb A outer s H E f c' LL hr2) hf hc (told_tt hcat hret (hs.nx n2) hh2 (pp.step n2))) (fun u s2 hq => I2.after hq) fun _ _ x => x
end
end Mi

set_option Elab.async false
set_option linter.all false
set_option maxRecDepth 100000
set_option maxHeartbeats 4000000
namespace Mi
open PySem PySem.Spec PyProof.Rows L2 GenW

/-! ## a list of lambdas, each one told -/
structure LamD where
  params : Arguments
  body : Expr
  scope : Scope
  pos : Pos
  fb : ME PV
def LamD.ex (l : LamD) : Expr := .Lambda l.params l.body l.scope l.pos
structure LamD.Ok (X : Cx) (cs : List Tb) (k : Nat) (l : LamD) : Prop where
  tab : LamTab X cs l.pos
  ls : LamX.LamS X.env.scope l.scope
  dfl : defaultsOf l.params X.env = ([], [])
  bind : ∀ (q : Str) (cl : List (Str × Addr)) (pm cv ctv : Value), bindArgs (PySem.W.kla_fn "<lambda>" q l.params l.body l.scope cl pm cv ctv) ⟨[], []⟩ = pure []
  el : LamEl X cs k l.scope l.body l.fb
/-- the lambda's object and its code object -/
def LamAt (X : Cx) (m : List Addr) (H : Hp) (l : LamD) (f : Addr) : Prop := ∃ c', f ∉ m ∧ c' ∉ m ∧ H f = some (LamO f c' (X.env.qual ++ "<lambda>") l.params l.body l.scope (cloFrom X.env.cells l.scope.names [])) ∧ H c' = some (LamX.CodeO c' (X.env.qual ++ "<lambda>"))
inductive LamsAt (X : Cx) (m : List Addr) (H : Hp) : List LamD → List Addr → Prop
  | nil : LamsAt X m H [] []
  | cons {l : LamD} {f : Addr} {ls : List LamD} {fs : List Addr} : LamAt X m H l f → LamsAt X m H ls fs → LamsAt X m H (l :: ls) (f :: fs)
theorem noTb_lam {f c' : Addr} {q : Str} {params : Arguments} {body : Expr} {scope : Scope} {cl : List (Str × Addr)} : NoTb (LamO f c' q params body scope cl) := lamO_ne
theorem Nx.notm {m z m' : List Addr} {H H' : Hp} (n : Nx m z H m' H') {a : Addr} (hm : a ∉ m) {o : HO} (h : H a = some o) : a ∉ m' := by
  obtain ⟨l, e, nl⟩ := n.pre
  rw [e]
  intro q
  rcases List.mem_append.mp q with q | q
  · exact hm q
  · rw [nl a q] at h; cases h
theorem LamAt.nx {X : Cx} {m z m' : List Addr} {H H' : Hp} {l : LamD} {f : Addr} (h : LamAt X m H l f) (n : Nx m z H m' H') : LamAt X m' H' l f := by
  obtain ⟨c', h1, h2, h3, h4⟩ := h
  exact ⟨c', n.notm h1 h3, n.notm h2 h4, n.kp f _ h1 h3 noTb_lam, n.kp c' _ h2 h4 LamX.codeO_ne⟩
theorem LamsAt.nx {X : Cx} {m z m' : List Addr} {H H' : Hp} {ls : List LamD} {fs : List Addr} (h : LamsAt X m H ls fs) (n : Nx m z H m' H') : LamsAt X m' H' ls fs := by
  induction h with
  | nil => exact .nil
  | cons a _ ih => exact .cons (a.nx n) ih
theorem LamsAt.get {X : Cx} {m : List Addr} {H : Hp} : ∀ {ls : List LamD} {fs : List Addr} {i : Nat} {l : LamD}, LamsAt X m H ls fs → ls[i]? = some l → ∃ f, fs[i]? = some f ∧ LamAt X m H l f
  | _, _, _, _, .nil, e => by simp at e
  | _, _, 0, _, .cons a _, e => by simp at e; subst e; exact ⟨_, rfl, a⟩
  | _, _, i + 1, l, .cons _ t, e => by
    obtain ⟨f, h1, h2⟩ := LamsAt.get (i := i) (l := l) t (by simpa using e)
    exact ⟨f, by simpa using h1, h2⟩
theorem LamsAt.length {X : Cx} {m : List Addr} {H : Hp} {ls : List LamD} {fs : List Addr} (h : LamsAt X m H ls fs) : ls.length = fs.length := by
  induction h with
  | nil => rfl
  | cons _ _ ih => simp [ih]
theorem codeO_dT {c : Addr} {q : Str} {xs : List (List Key × V)} : LamX.CodeO c q ≠ .dT xs := fun e => by unfold LamX.CodeO at e; cases e
theorem codeO_ins {c C dx : Addr} {q : Str} {xs : List (Str × V)} : LamX.CodeO c q ≠ .ins C dx xs := fun e => by unfold LamX.CodeO at e; cases e
theorem HRel.notCode {K : PySem.W.Frag} {cs : List Tb} {m z : List Addr} {h : Cells} {H : Hp} (hh : HRel K cs m z h H) {a c : Addr} {q : Str} (e : H a = some (LamX.CodeO c q)) : a ∉ m := fun qm => by
  obtain ⟨i, hi, ei⟩ := List.getElem_of_mem qm
  have h1 : h[i]? = some (h[i]'(by rw [hh.len]; exact hi)) := List.getElem?_eq_getElem _
  have h2 := hh.obj i _ a h1 (by rw [List.getElem?_eq_getElem hi, ei])
  generalize h[i]'(by rw [hh.len]; exact hi) = o at h2
  cases o with
  | lst xs => obtain ⟨vs, h3, _⟩ := h2; rw [e] at h3; exact codeO_lst (Option.some.inj h3)
  | dk xs => obtain ⟨vs, h3, _⟩ := h2; rw [e] at h3; exact codeO_dK (Option.some.inj h3)
  | dt xs => obtain ⟨vs, h3, _⟩ := h2; rw [e] at h3; exact codeO_dT (Option.some.inj h3)
  | ins c xs => obtain ⟨dx, vs, h3, _⟩ := h2; rw [e] at h3; exact codeO_ins (Option.some.inj h3)
def tLams (X : Cx) (cs : List Tb) (z : List Addr) (ls : List LamD) : TA := fun σ H Q => ∃ m h, HRel X.K cs m z h H ∧ ∀ fs H2, HRel X.K cs m z h H2 → Nx m z H m H2 → LamsAt X m H2 ls fs → Q (fs.map V.ref) H2
theorem pa_lams {X : Cx} {cs : List Tb} {k : Nat} {z : List Addr} : ∀ {ls : List LamD}, (∀ l ∈ ls, l.Ok X cs k) → PA X (ls.map LamD.ex) (tLams X cs z ls)
  | [], _ => ⟨fun _ _ _ _ H Q I ⟨m, h, hh, q⟩ => Calls.spliced_nil ⟨_, H, I, .nil, q [] H hh (Nx.refl _ _ _) .nil⟩⟩
  | l :: ls, ok => ⟨fun pos pins s σ H Q I ⟨m, h, hh, q⟩ => by
    have o := ok l (by simp)
    show wpAny _ _ (spliced ((false, eval (.Lambda l.params l.body l.scope l.pos) X.env) :: backTo pos (starEach (ls.map LamD.ex) X.env))) _ _ s
    refine Calls.spliced_cons (lam_make3 I hh o.tab o.dfl (o.ls.has I.ok) fun f c' H2 s' I2 hh2 n2 hn hf hc => ?_)
    have la : LamAt X m H2 l f := ⟨c', fun qm => hh.lv f (.inl qm) hn, hh2.notCode hc, hf, hc⟩
    exact thn ((pa_lams (fun l hl => ok l (List.mem_cons_of_mem _ hl))).run pos pins s' σ H2 (fun vs H3 => Q (V.ref f :: vs) H3) I2 ⟨m, h, hh2, fun fs H3 hh3 n3 hl => q (f :: fs) H3 hh3 (n2.trans n3) (.cons (la.nx n3) hl)⟩) fun us s3 ⟨vs, H3, I3, r3, q3⟩ => ⟨_, H3, I3, .cons (show RelV (V.ref f) (Value.ref f) from rfl) r3, q3⟩⟩
/-! ### [1 for f in bad if told(f) != 'E'] -/
def runBads (catch_ : Str → Bool) (ret : Str) (e : Sl) : List (ME PV) → Cells → Option Cells
  | [], h => some h
  | fb :: r, h => match mTold fb catch_ ret e h with
    | .ok (.d (.str x)) h1 => if x = ret then runBads catch_ ret e r h1 else none
    | _ => none
/-- told(f) in the block -/
theorem pe_toldB {X : Cx} {cs : List Tb} {pins : List (Addr × Obj)} {σ : L2.St} {s : Shared} {H0 : Hp} {m0 z : List Addr} {h0 : Cells} {e : Sl} {x a ret : Str} {g CS : Addr} {k i : Nat} {catch_ : Str → Bool} {scope : Scope} {cenv : Env} {fp : List Addr} {y : Str} {p1 p2 p3 : Pos} {l : LamD}
    (T : Told X.K X.mg x a g CS ret) (hr : Room (k + 2) X.A) (hcat : CatchOk X.K CS catch_) (hret : PyData.strOk ret = true) (ok : l.Ok X cs k) (I0 : Inv X pins σ H0 s) (hfp : ∀ b ∈ fp, FpOk X pins H0 b) (hs0 : SRel X.K m0 z H0 e σ)
    (hg : Gl (X.blk s H0 scope cenv fp) x) (hN : X.N[i]? = some y) (hv : Vis cenv.scope y) (hyd : (y == ("__debug__" : Str)) = false) (hyc : (y == ("__classdict__" : Str)) = false) :
    PE (X.blk s H0 scope cenv fp) (.Call (.Name x p1) [.Name y p2] [] p3) (fun σb H Q => ∃ f m h, σb[i]? = some (some (.ref f)) ∧ HRel X.K cs m z h H ∧ Nx m0 z H0 m H ∧ LamAt X m H l f ∧ Po X.K cs z m H (RxE X.K z Q) (fun _ _ => False) (mTold l.fb catch_ ret e h)) := by
  refine ⟨fun pinsb sb σb H Q I ⟨f, m, h, h1, hh, n, ⟨c', _, _, hf, hc⟩, pp⟩ => ?_⟩
  have db : (x == ("__debug__" : Str)) = false := T.db
  refine wpAny_Call_Name_kw (ld_glob I hg T.at_ ?_ db)
  refine PySem.W.callWith_K (h₀ := X.base) I.ok.mod.kin T.kp ?_ (by rfl) (by rfl)
  show wpAny _ _ (spliced ((false, eval (.Name y p2) cenv) :: backTo p3 (starEach [] cenv))) _ _ sb
  refine Calls.spliced_cons (thn ((pe_var (X := X.blk s H0 scope cenv fp) (pos := p2) (i := i) hN hv hyd hyc).run pinsb sb σb H (fun v H1 => v = .ref f ∧ H1 = H) I ⟨.ref f, h1, rfl, rfl⟩) fun u s1 ⟨v, H1, I1, r1, q1⟩ => ?_)
  obtain ⟨ev, eH⟩ := q1
  subst ev
  rw [eH] at I1
  obtain rfl : u = Value.ref f := r1
  refine Calls.spliced_nil ⟨I1.kIn, ?_⟩
  have I2 : Inv X pins σ H s1 := I0.call' (ch := fp) I1.os I1.base I1.hok I1.bare fun b hb => ⟨(hfp b hb).2.2.2.1, (hfp b hb).2.1, (hfp b hb).2.2.2.2.1, (hfp b hb).2.2.2.2.2⟩
  have q : wpAny (model X.prog X.w) X.A (call (.ref g) [.ref f]) (fun u s' => CE X.stack X.prog X.w H s1 Q u s') (fun _ _ => False) s1 :=
    told_run (X := X) (tb := fun E => tE X.K cs (WB E) l.fb) T I2 ok.ls hr ok.bind (fun A outer s H E LL hr2 => ok.el A outer s H E f c' LL hr2) hf hc (told_tt hcat hret (hs0.nx n) hh pp)
  show wpAny (model X.prog X.w) X.A (call (.ref g) [.ref f]) _ _ s1
  refine wpAny_mono q (fun u s2 hq => ?_) fun _ _ x => x.elim
  have hq' : CE (X.blk s H0 scope cenv fp).stack (X.blk s H0 scope cenv fp).prog (X.blk s H0 scope cenv fp).w H s1 Q u s2 := hq
  exact I1.after hq'

def tBadC (X : Cx) (cs : List Tb) (z : List Addr) (ls : List LamD) (catch_ : Str → Bool) (ret : Str) (ib : Nat) : TE := fun σ H Q => ∃ m h e D fs, σ[ib]? = some (some (.ref D)) ∧ H D = some (.lst (fs.map V.ref)) ∧ D ∉ m ∧ LamsAt X m H ls fs ∧ SRel X.K m z H e σ ∧ HRel X.K cs m z h H ∧
  match runBads catch_ ret e (ls.map LamD.fb) h with
  | some h' => ∀ m' H' D', Nx m z H m' H' → HRel X.K cs m' z h' H' → H' D' = some (.lst []) → D' ∉ m' → Q (.ref D') H'
  | none => False
theorem str_neq {x : Str} {b : Bool} (h : PyData.eqv (.str x) (.str x) = b) : b = true := by
  rw [← h]; simp [PyData.eqv]
theorem pe_badC {X : Cx} {cs : List Tb} {z : List Addr} {x a ret b y : Str} {g CS : Addr} {k iy ib : Nat} {catch_ : Str → Bool} {scope : Scope} {p1 p2 p3 p4 py pb pos c1 c2 : Pos} {j1 j2 : Nat} {ls : List LamD}
    (T : Told X.K X.mg x a g CS ret) (hr : Room (k + 2) X.A) (hcat : CatchOk X.K CS catch_) (hret : PyData.strOk ret = true) (hls : ∀ l ∈ ls, l.Ok X cs k) (hc : X.calm = true) (hN : X.N.Nodup)
    (ok : BlkOk X.N X.env.scope scope [(y, iy)]) (hib : X.N[ib]? = some b) (hvb : Vis X.env.scope b) (hbd : (b == ("__debug__" : Str)) = false) (hbc : (b == ("__classdict__" : Str)) = false)
    (hyl : scope.names.lookup y = some .local) (hyd : (y == ("__debug__" : Str)) = false) (hyc : (y == ("__classdict__" : Str)) = false)
    (hgx : ∀ (s : Shared) (H : Hp) (C : Addr) (cl : List (Str × Addr)) (fp : List Addr), Gl (X.blk s H scope (compEnvC scope cl C X.env) fp) x)
    (hm : behindInMarks .NotEq (.Constant (.str ret) j2 c2) = false) (hs : ∀ x, foldedSetIterable (.Name b pb) X.env x = pure x) :
    PE X (.ListComp (.Constant (.int 1) j1 c1) [⟨.Name y py, .Name b pb, [.Compare (.Call (.Name x p1) [.Name y p2] [] p3) [.NotEq] [.Constant (.str ret) j2 c2] p4], 0⟩] scope pos) (tBadC X cs z ls catch_ ret ib) := by
  refine ⟨fun pins s σ H Q I ⟨m, h, e, D0, fs, hσ, hD0, hDm, hla, hsr, hhr, pp⟩ => ?_⟩
  have hfree : ∀ y ∈ scope.names, y.2 = .free → ∃ c, X.env.cells.lookup y.1 = some c := fun y hy e => by
    rcases ok.free y hy e with k | k
    · exact I.ok.has _ (.inl k)
    · exact I.ok.has _ (.inr k)
  rw [eval_ListComp]
  refine wpAny_comprehension_free (use := none) rfl hs (closure_ok hfree) ok.kind (fun y hy e => by rw [ok.uniq y hy, e])
    (thn ((pi_list (tg := .Name y py) (pe_var (i := ib) hib hvb hbd hbc)).run pins s σ H (fun J H1 => J = Itl X.K D0 ∧ H1 = H) I ⟨.ref D0, hσ, D0, rfl, ⟨_, .inl (.inl hD0)⟩, rfl, rfl⟩) fun xv s1 hx => thn hx fun itv s2 h2 => ?_)
  obtain ⟨it, fp, tn, J, H2, e2, I2, Tu, st2, f2, eJ, eH⟩ := h2
  subst e2 eJ eH
  refine wpAny_newObj_type (newEnv_comp ?_) (by show 0 ≤ sizeLine; decide)
  generalize hD : s2.heap.objs.size = D
  have hDn : H2 D = none := I2.hok.fresh (Nat.le_of_eq hD)
  have nD := Nx.new (m := m) (z := z) (o := .lst []) hDn
  have hhr3 := hhr.new (o := .lst []) hDn
  have hsr3 := hsr.nx nD
  have hla3 := hla.nx nD
  have hDmD : D ∉ m := fun q => hhr.lv D (.inl q) hDn
  generalize hs3 : ({ s2 with heap := s2.heap.push { cls := .type "list", data := .seq ([] : List Value).toArray } } : Shared) = s3
  have I3 : Inv X pins σ (upd H2 D (.lst [])) s3 := by
    rw [← hs3]
    refine I2.laid (t' := s2.toks) (fun b o e => Heap.get?_push_of_some _ e) (Nat.le_of_eq hD) ⟨Nat.zero_le _, [], 0, .nil, ?_⟩
    rw [← hD]
    exact Heap.get?_push_size _ rfl
  have h3 : s3.heap = s2.heap.push { cls := .type "list", data := .seq ([] : List Value).toArray } := by rw [← hs3]
  have sz : ∀ b ∈ fp, b < s2.heap.objs.size := fun b hb => by
    obtain ⟨o, e, _⟩ := Tu.obj _ _ st2 b hb
    exact Heap.lt_size e
  have f3 : ∀ b ∈ fp, FpOk X pins (upd H2 D (.lst [])) b ∧ b < s3.heap.objs.size := fun b hb => by
    have hlt := sz b hb
    refine ⟨⟨?_, (f2 b hb).2⟩, by rw [h3, Heap.size_push]; exact Nat.lt_succ_of_lt hlt⟩
    rw [upd_ne (by rw [← hD]; exact Nat.ne_of_lt hlt)]
    exact (f2 b hb).1
  have st3 : tn 0 s3.heap := Tu.keep _ _ _ st2 fun b _ o e => by rw [h3]; exact Heap.get?_push_of_some _ e
  have I4 := block_start I3 ok hN f3
  have hgl := hgx s3 (upd H2 D (.lst [])) s3.heap.objs.size (cellsFrom (s3.heap.objs.size + 1) scope.names (cloFrom X.env.cells scope.names [])) fp
  show codeAny _ _ (.compStart (.ListComp (.Constant (.int 1) j1 c1) [⟨.Name y py, .Name b pb, [.Compare (.Call (.Name x p1) [.Name y p2] [] p3) [.NotEq] [.Constant (.str ret) j2 c2] p4], 0⟩] scope pos) 0 (.ref it) (.ref D) (compEnvC scope (cellsFrom (s3.heap.objs.size + 1) scope.names (cloFrom X.env.cells scope.names [])) s3.heap.objs.size X.env)) (compPost (model X.prog X.w) X.A X.xe none (EP X pins σ Q) (.ref D) s3.heap.objs.size) { s3 with heap := pushCells (s3.heap.push { cls := .type "dict", data := .dict #[] }) scope.names }
  have nfp : ∀ b ∈ fp, (upd H2 D (.lst [])) b = none := fun b hb => (f3 b hb).1.1
  have hyL : (compEnvC scope (cellsFrom (s3.heap.objs.size + 1) scope.names (cloFrom X.env.cells scope.names [])) s3.heap.objs.size X.env).scope.names.lookup y = some .local := lookup_relS_keep (by decide) hyl
  generalize hce : compEnvC scope (cellsFrom (s3.heap.objs.size + 1) scope.names (cloFrom X.env.cells scope.names [])) s3.heap.objs.size X.env = ce at I4 hgl hyL ⊢
  have cL : ce.locals = s3.heap.objs.size := by subst hce; rfl
  have hD3 : upd H2 D (.lst []) D = some (.lst []) := upd_same
  have hD03 : upd H2 D (.lst []) D0 = some (.lst (fs.map V.ref)) := upd_of hDn hD0
  generalize hH3 : upd H2 D (.lst []) = H3 at I3 I4 hgl nfp f3 hhr3 hsr3 hla3 hD3 hD03 nD
  generalize hs4 : ({ s3 with heap := pushCells (s3.heap.push { cls := .type "dict", data := .dict #[] }) scope.names } : Shared) = s4 at I4 ⊢
  have st4 : tn 0 s4.heap := Tu.keep _ _ _ st3 fun b _ o e => by rw [← hs4]; exact pushCells_keeps _ _ _ _ (Heap.get?_push_of_some _ e)
  have stat : ∀ {σ' : L2.St} {H' : Hp} {s' : Shared}, Inv (X.blk s3 H3 scope ce fp) [] σ' H' s' → (∀ b ∈ fp, H' b = none) → ∀ b ∈ fp, FpOk (X.blk s3 H3 scope ce fp) [] H' b := fun {σ' H' s'} I' hn b hb =>
    ⟨hn b hb, (I'.ok.exf b hb).1, I'.ok.exfs b hb, .inl hb, fun x c e => (I'.ok.exf b hb).2 x c e, fun p hp => absurd (show p ∈ ([] : List (Addr × Obj)) ++ [] from hp) (by simp)⟩
  have hNy : X.N[iy]? = some y := ok.ix (y, iy) (by simp)
  have hlen := hla.length
  have loop : codeAny (model X.prog X.w) X.A (.compLoop (.ListComp (.Constant (.int 1) j1 c1) [⟨.Name y py, .Name b pb, [.Compare (.Call (.Name x p1) [.Name y p2] [] p3) [.NotEq] [.Constant (.str ret) j2 c2] p4], 0⟩] scope pos) 0 (.ref it) (.ref D) ce) (compPost (model X.prog X.w) X.A X.xe none (EP X pins σ Q) (.ref D) s3.heap.objs.size) s4 := by
    refine compLoop_any (fun n s' => ∃ i H' m' h', n = ls.length - i ∧ i ≤ ls.length ∧ Inv (X.blk s3 H3 scope ce fp) [] (wipe σ [iy]) H' s' ∧ tn i s'.heap ∧ (∀ b ∈ fp, H' b = none) ∧ HRel X.K cs m' z h' H' ∧ Nx m z H3 m' H' ∧
      (match runBads catch_ ret e ((ls.drop i).map LamD.fb) h' with
        | some h' => ∀ m'' H'' D', Nx m z H2 m'' H'' → HRel X.K cs m'' z h' H'' → H'' D' = some (.lst []) → D' ∉ m'' → Q (.ref D') H''
        | none => False)) ?_ ls.length ⟨0, H3, m, h, rfl, Nat.zero_le _, I4, st4, nfp, hhr3, Nx.refl _ _ _, by rw [List.drop_zero]; exact pp⟩
    rintro n s5 ⟨i, H5, m5, h5, rfl, hle, I5, st5, n5, hh5, nx5, w5⟩
    have hD5 : H5 D = some (.lst []) := nx5.kp D _ hDmD hD3 noTb_lst
    have hD05 : H5 D0 = some (.lst (fs.map V.ref)) := nx5.kp D0 _ hDm hD03 noTb_lst
    by_cases hlt : i < ls.length
    · have hget : ls[i]? = some ls[i] := List.getElem?_eq_getElem hlt
      obtain ⟨f, hf, hlf⟩ := hla3.get hget
      have hlf5 := hlf.nx nx5
      have go : (Itl X.K D0).go i H5 := ⟨_, V.ref f, .inl (.inl hD05), by rw [List.getElem?_map, hf]; rfl⟩
      have ti := Tu.item (X.blk s3 H3 scope ce fp) rfl rfl rfl hc i [] s5 _ H5 (fun _ _ => False) I5 (stat I5 n5) st5 go
      refine thnF ti fun r s6 ⟨u, hr', h6⟩ => ?_
      subst hr'
      refine thnF h6 fun _ s7 ⟨xx, H7, I7, r7, ⟨eH7, yx⟩, st7, n7⟩ => ?_
      subst eH7
      have ex := yx _ (.inl (.inl hD05))
      rw [List.getElem?_map, hf] at ex
      obtain rfl : V.ref f = xx := Option.some.inj ex
      have I7' := I7.pinned (stat I7 n7) (Tu.obj _ _ st7)
      -- the target
      have pg := (pg_name (X := X.blk s3 H3 scope ce fp) (pos := py) (i := iy) hN hNy (.inl hyL) (.inr hyL)).run _ s7 (wipe σ [iy]) H7 (V.ref f) u (fun σ' H' => σ' = (wipe σ [iy]).set iy (some (V.ref f)) ∧ H' = H7) I7' r7 ⟨rfl, rfl⟩
      refine thnF pg fun _ s8 ⟨σ8, H8, I8, e8, e9⟩ => ?_
      rw [e9] at I8
      rw [List.drop_eq_getElem_cons hlt, List.map_cons] at w5
      unfold runBads at w5
      cases qm : mTold (ls[i]).fb catch_ ret e h5 with
      | bad => rw [qm] at w5; exact w5.elim
      | ex c h9 => rw [qm] at w5; exact w5.elim
      | ok v h9 =>
        rw [qm] at w5
        have hv : v = .d (.str ret) ∧ (match runBads catch_ ret e ((ls.drop (i + 1)).map LamD.fb) h9 with
            | some h' => ∀ m'' H'' D', Nx m z H2 m'' H'' → HRel X.K cs m'' z h' H'' → H'' D' = some (.lst []) → D' ∉ m'' → Q (.ref D') H''
            | none => False) := by
          cases v with
          | d dd =>
            cases dd with
            | str xx =>
              simp only at w5
              by_cases qx : xx = ret
              · rw [if_pos qx] at w5
                subst qx
                exact ⟨rfl, w5⟩
              · rw [if_neg qx] at w5
                exact w5.elim
            | _ => exact w5.elim
          | _ => exact w5.elim
        obtain ⟨rfl, w6⟩ := hv
        have hmem : ls[i] ∈ ls := List.getElem_mem hlt
        have hiy : iy < σ.length := by
          have h1 := I.len
          rw [h1]
          exact (List.getElem?_eq_some_iff.mp hNy).1
        have pe1 := pe_toldB (h0 := h) (l := ls[i]) (p1 := p1) (p2 := p2) (p3 := p3) T hr hcat hret (hls _ hmem) I3 (fun b hb => (f3 b hb).1) hsr3 hgl hNy (.inl hyL) hyd hyc
        have pt := pts_one (pt_cmpR (pos := p4) (op_neM (X := X.blk s3 H3 scope ce fp) hr.units) pe1 (pe_str (x := ret) (j := j2) (pos := c2)) hm)
        refine thnF (pt.run _ s8 σ8 H7 (fun b' H' => b' = false ∧ ∃ m', Nx m5 z H7 m' H' ∧ HRel X.K cs m' z h9 H') I8 ?_) fun b' s9 ⟨H9, I9, eb, m9, n9, hh9⟩ => ?_
        · refine ⟨f, m5, h5, ?_, hh5, nx5, hlf5, ?_⟩
          · rw [e8, List.getElem?_set_self (by rw [wipe_length]; exact hiy)]
          · rw [qm]
            intro m' H' n' hh' u' ru
            rw [(rep_str ru).1]
            have hcan : PyData.canLay0 (.str ret) = true := by simpa [PyData.canLay0] using hret
            refine ⟨.str ret, .str ret, .str ret, .str ret, hcan, hcan, by simp [PyData.depth], false, ?_, rfl, m', n', hh'⟩
            simp [PyData.eqv]
        subst eb
        simp only [Bool.false_eq_true, if_false]
        have pin' : ∀ b ∈ fp, ∀ o, s7.heap.get? b = some o → s9.heap.get? b = some o ∧ H9 b = none := fun b hb o e =>
          let zz := I9.pin (b, o) (List.mem_append_right _ (List.mem_append_right _ (mem_pinsAt hb e)))
          ⟨zz.1, zz.2.1⟩
        refine ⟨ls.length - (i + 1), by omega, i + 1, H9, m9, h9, rfl, hlt, (I9.unpinned (pins := [])).weak (by rw [e8, List.length_set]) (fun j v e => ?_), Tu.keep _ _ _ st7 fun b hb o e => (pin' b hb o e).1, fun b hb => ?_, hh9, nx5.trans n9, w6⟩
        · rw [e8]
          by_cases hj : iy = j
          · subst hj
            have := (wipe_some e).2
            simp at this
          · rw [List.getElem?_set_ne hj]; exact e
        · obtain ⟨o, e, _⟩ := Tu.obj _ _ st7 b hb
          exact (pin' b hb o e).2
    · have ei : i = ls.length := by omega
      subst ei
      rw [List.drop_length, List.map_nil] at w5
      have stop : (Itl X.K D0).stop ls.length H5 := ⟨_, .inl (.inl hD05), by rw [List.length_map, ← hlen]; exact Nat.le_refl _⟩
      have td := Tu.done (X.blk s3 H3 scope ce fp) rfl rfl rfl hc ls.length [] s5 _ H5 (fun _ _ => False) I5 (stat I5 n5) st5 stop
      refine thnF td fun r s6 ⟨hr', I6⟩ => ?_
      subst hr'
      have I7 : Inv X pins σ H5 s6 := I3.call' (ch := fp) I6.os I6.base I6.hok I6.bare fun b hb => ⟨(f3 b hb).1.2.2.2.1, (f3 b hb).1.2.1, (f3 b hb).1.2.2.2.2.1, (f3 b hb).1.2.2.2.2.2⟩
      have nC : H5 s3.heap.objs.size = none := by
        have zz : H5 ce.locals = none := I6.free
        rw [cL] at zz
        exact zz
      obtain ⟨mm, hn, _⟩ := I6.loc
      have hn : s6.heap.Ns ce.locals mm := hn
      rw [cL] at hn
      have ff := I3.fpOk (Nat.le_refl _) nC
      refine ⟨mm, hn, fun h'' sb => ?_⟩
      obtain ⟨f0, f1, f2', f3', f4, f5⟩ := ff
      have w6 : ∀ m'' H'' D', Nx m z H2 m'' H'' → HRel X.K cs m'' z h5 H'' → H'' D' = some (.lst []) → D' ∉ m'' → Q (.ref D') H'' := w5
      exact ⟨.ref D, H5, I7.turned (t' := s6.toks) (fun b o hb e => (sb.2 b hb).trans e) f0 f1 f3' f4 f5, rfl, w6 m5 H5 D (nD.trans nx5) hh5 hD5 (nx5.notm hDmD hD3)⟩
  exact codeAny_compStart_list loop (Tu.self X.A 0 _ _ _ st4 loop)

theorem pa_ex {ι : Type} {X : Cx} {es : List Expr} {t : ι → TA} (h : ∀ i, PA X es (t i)) : PA X es (fun σ H Q => ∃ i, t i σ H Q) := ⟨fun pos pins s σ H Q I ⟨i, q⟩ => (h i).run pos pins s σ H Q I q⟩
theorem pe_ex {ι : Type} {X : Cx} {e : Expr} {t : ι → TE} (h : ∀ i, PE X e (t i)) : PE X e (fun σ H Q => ∃ i, t i σ H Q) := ⟨fun pins s σ H Q I ⟨i, q⟩ => (h i).run pins s σ H Q I q⟩
theorem SRel.forget {K : PySem.W.Frag} {m z : List Addr} {H : Hp} {e : Sl} {σ : L2.St} {i : Nat} {v : Option V} (s : SRel K m z H e σ) : SRel K m z H (e.set i none) (σ.set i v) := by
  refine ⟨by simp [s.len], fun j q h => ?_⟩
  by_cases hj : j = i
  · subst hj
    by_cases hl : j < e.length
    · rw [List.getElem?_set_self hl] at h; cases h
    · rw [List.getElem?_eq_none (by simpa using hl)] at h; cases h
  · rw [List.getElem?_set_ne (Ne.symm hj)] at h
    rw [List.getElem?_set_ne (Ne.symm hj)]
    exact s.at_ j q h
def mBads (ib : Nat) (fbs : List (ME PV)) (catch_ : Str → Bool) (ret : Str) (fr : MS) : MS := fun e h => if ib < e.length then (match runBads catch_ ret (e.set ib none) fbs h with
  | some h' => fr (e.set ib none) h'
  | none => .bad) else .bad
theorem s_bads {X : Cx} {cs : List Tb} {W : WX} {x a ret b y : Str} {g CS : Addr} {k iy ib : Nat} {catch_ : Str → Bool} {scope : Scope} {p1 p2 p3 p4 p5 p6 p7 p8 p9 p10 py pb pos c1 c2 : Pos} {j1 j2 : Nat} {ls : List LamD} {es : List Expr} {thenb rest : List Stmt} {fr : MS}
    (he : es = ls.map LamD.ex) (hr : Room (k + 2) X.A) (T : Told X.K X.mg x a g CS ret) (hcat : CatchOk X.K CS catch_) (hret : PyData.strOk ret = true) (hls : ∀ l ∈ ls, l.Ok X cs k) (hc : X.calm = true) (hN : X.N.Nodup)
    (ok : BlkOk X.N X.env.scope scope [(y, iy)]) (hib : X.N[ib]? = some b) (hlb : Loc X.env.scope b) (hfb : X.fn b = true ∨ X.env.scope.names.lookup b = some .local) (hbd : (b == ("__debug__" : Str)) = false) (hbc : (b == ("__classdict__" : Str)) = false)
    (hyl : scope.names.lookup y = some .local) (hyd : (y == ("__debug__" : Str)) = false) (hyc : (y == ("__classdict__" : Str)) = false)
    (hgx : ∀ (s : Shared) (H : Hp) (C : Addr) (cl : List (Str × Addr)) (fp : List Addr), Gl (X.blk s H scope (compEnvC scope cl C X.env) fp) x)
    (hm : behindInMarks .NotEq (.Constant (.str ret) j2 c2) = false) (hm2 : behindInMarks .NotEq (.List [] p5) = false) (hlen : ls.length ≤ sizeLine)
    (hR : SB X cs W rest fr)
    (hs : ∀ x, foldedSetIterable (.Name b pb) X.env x = pure x := by intro _; rfl) (hsw : swapsWith (.List es p8) (some (.Name b p9)) p10.line X.env = pure false := by rfl) :
    SB X cs W (.Assign [.Name b p9] (.List es p8) p10 :: .If (.Compare (.ListComp (.Constant (.int 1) j1 c1) [⟨.Name y py, .Name b pb, [.Compare (.Call (.Name x p1) [.Name y p2] [] p3) [.NotEq] [.Constant (.str ret) j2 c2] p4], 0⟩] scope pos) [.NotEq] [.List [] p5] p6) thenb [] p7 :: rest)
      (mBads ib (ls.map LamD.fb) catch_ ret fr) := by
  subst he
  have hvb : Vis X.env.scope b := hlb.elim .inl fun q => .inr (.inl q)
  have h1 := ps_set (pos := p10) (pos' := p9) hN hib hlb (pe_lst (pos := p8) (pa_ex fun z => pa_lams (k := k) (z := z) hls)) hsw hfb
  have h2 := ps_if (a := thenb) (pos := p7) (pt_cmpR (pos := p6) (op_neM hr.units) (pe_ex fun z => pe_badC (z := z) (p1 := p1) (p2 := p2) (p3 := p3) (p4 := p4) (py := py) (pb := pb) (pos := pos) (c1 := c1) (j1 := j1) T hr hcat hret hls hc hN ok hib hvb hbd hbc hyl hyd hyc hgx hm hs) (pe_lst (pos := p5) pa_nil) hm2) pss_never pss_nil
  refine pss_imp (pss_cons h1 (pss_cons h2 hR)) fun D σ H ⟨m, z, e, h, hsr, hhr, p⟩ => ?_
  unfold mBads at p
  split at p
  rotate_left
  · exact p.elim
  rename_i hie
  refine ⟨z, m, h, hhr, fun fs H2 hh2 n2 hla => ⟨by rw [List.length_map, ← hla.length]; exact hlen, fun D0 hD0 => ?_⟩⟩
  have hiσ : ib < σ.length := by rw [← hsr.len]; exact hie
  have hs2 := (hsr.nx n2).nx (Nx.new (o := .lst (fs.map V.ref)) hD0)
  refine ⟨z, m, h, e.set ib none, D0, fs, by rw [List.getElem?_set_self hiσ], upd_same, fun q => hh2.lv D0 (.inl q) hD0, hla.nx (Nx.new (z := z) hD0), hs2.forget, hh2.new hD0, ?_⟩
  cases q : runBads catch_ ret (e.set ib none) (ls.map LamD.fb) h with
  | none => rw [q] at p; exact p.elim
  | some h' =>
    rw [q] at p
    intro m' H' D' n' hh' hD' hDm'
    refine ⟨Nat.zero_le _, fun E hE => ?_⟩
    have n3 := n2.trans ((Nx.new (o := .lst (fs.map V.ref)) hD0).trans n')
    have hDE : upd H' E (.lst []) D' = some (.lst []) := upd_of hE hD'
    refine ⟨.list [], .list [], .lst (.inl (.inl hDE)) .nil, .lst (.inl (.inl upd_same)) .nil, by simp [PyData.canLay0, PyData.canLayAll0], by simp [PyData.canLay0, PyData.canLayAll0], by simp [PyData.depth, PyData.depthAll], false, ?_, ?_⟩
    · simp [PyData.eqv, PyData.eqvAll]
    · simp only [Bool.false_eq_true, if_false]
      refine ⟨m', z, e.set ib none, h', ?_, hh'.new hE, PoS.step p (n3.trans (Nx.new hE))⟩
      exact (hs2.nx (n'.trans (Nx.new hE))).forget
end Mi

set_option Elab.async false
set_option linter.all false
set_option maxRecDepth 100000
set_option maxHeartbeats 4000000
namespace Mi
open PySem PySem.Spec PyProof.Rows L2

/-! ## the head's facts, defs by name -/
structure Fx (fa : List He.Fa) (fn : List He.DefD) (K : PySem.W.Frag) (mg : Str → Option Value) : Prop where
  d : He.SaysD fa fn K
  glo : ∀ (i : Nat) (x : Str), fa[i]? = some (.glo x) → mg x = some (.ref (He.ga K x))
  free : ∀ (i : Nat) (x : Str), fa[i]? = some (.free x) → mg x = none
  int : ∀ (i : Nat) (x : Str) (n : Int), fa[i]? = some (.int x n) → ∃ t, mg x = some (.int n t)
  str : ∀ (i : Nat) (x z : Str), fa[i]? = some (.str x z) → ∃ t, mg x = some (.str z t)
theorem fx_of {fa : List He.Fa} {fn : List He.DefD} {K : PySem.W.Frag} {mg : Str → Option Value} {h : Heap} (X : K.In h) (G : h.Ns mainGlobals mg) (d : He.SaysD fa fn K) : Fx fa fn K mg where
  d := d
  glo := fun i x e => He.glo_ok X G (d.fact i e)
  free := fun i x e => He.free_ok X G (d.fact i e)
  int := fun i x n e => He.int_ok X G (d.fact i e)
  str := fun i x z e => He.str_ok X G (d.fact i e)
structure DefOk (P : Program) (w : World) (K : PySem.W.Frag) (mg : Str → Option Value) (base : Heap) (cs : List Tb) (k : Nat) (x : Str) (np : Nat) (dp : List PV) (f : MF) : Prop where
  ex : ∃ fd ps ds dvs, FnOk P w K mg base (L2.CX P w) k (He.ga K x) fd ps (spF K cs np f) ∧ ps.length = np ∧ Binds K fd ps ds ∧ Vals dvs ds ∧ DRep K dp dvs
  hm : mg x = some (.ref (He.ga K x))
  hk : PySem.W.keepIn K (.ref (He.ga K x)) = true
section
variable {fa : List He.Fa} {fn : List He.DefD} {P : Program} {w : World} {K : PySem.W.Frag} {mg : Str → Option Value} {base : Heap} {cs : List Tb}
theorem DefOk.sim {k : Nat} {x : Str} {np : Nat} {dp : List PV} {f g : MF} (D : DefOk P w K mg base cs k x np dp f)
    (h : ∀ pvs hc, pvs.length = np → WfH hc → bds hc.length pvs = true → Sim hc.length (f pvs hc) (g pvs hc)) : DefOk P w K mg base cs k x np dp g := by
  obtain ⟨fd, ps, ds, dvs, F, e, b, v, r⟩ := D.ex
  exact ⟨⟨fd, ps, ds, dvs, fn_sim F h, e, b, v, r⟩, D.hm, D.hk⟩
theorem def_mk (F : Fx fa fn K mg) {d : He.DefD} {x : Str} {N ps : List Str} {dp : List PV} {k : Nat} {fb : MS} (i j : Nat) (hd : fn[i]? = some d) (he : d.at_ = (x, none)) (hx : fa[j]? = some (.glo x)) (S : FnScope N ps d.scope)
    (bd : ∀ fd, FunD K d.name d.qual d.params d.body d.scope (d.dvs K) (d.kws K) (He.fAd K d.at_) fd → ∃ ds dvs, Binds K fd ps ds ∧ Vals dvs ds ∧ DRep K dp dvs)
    (hb : ∀ (cdv : Value) (A : Around) (outer : List Env) (s : Shared) (H : Hp) (E : XK), Room k (A.deeper (envOfC d.qual d.scope s.heap.objs.size (He.ga K x) cdv)) → SB (cxOf (L2.CX P w) P w K mg base N d.qual d.scope (He.ga K x) cdv A outer s H E) cs (WB E) d.body fb) :
    DefOk P w K mg base cs (k + 1) x ps.length dp (runF N.length fb) := by
  obtain ⟨fd, FD⟩ := F.d.def_ i hd
  obtain ⟨ds, dvs, b1, b2, b3⟩ := bd fd FD
  have e1 : He.fAd K d.at_ = He.ga K x := by rw [he]; rfl
  have kp := FD.kp
  rw [e1] at FD kp
  exact ⟨⟨fd, ps, ds, dvs, fn_mk FD S hb, rfl, b1, b2, b3⟩, F.glo j x hx, kp⟩
/-- without defaults -/
theorem bd_all {ps : List Str} {d : He.DefD} (h0 : d.dfl = [])
    (h : ∀ (kV doc pm : Value) (an : Option Addr) (cdv ct : Value) (us : List Value), us.length = ps.length → bindArgs (PySem.W.fnOf d.name d.qual d.params d.body d.scope .none kV doc pm an cdv ct) ⟨us, []⟩ = pure (ps.zip us)) :
    ∀ fd, FunD K d.name d.qual d.params d.body d.scope (d.dvs K) (d.kws K) (He.fAd K d.at_) fd → ∃ ds dvs, Binds K fd ps ds ∧ Vals dvs ds ∧ DRep K [] dvs := fun fd F => by
  have e : d.dvs K = [] := by unfold He.DefD.dvs; rw [h0]; rfl
  rw [e] at F
  exact ⟨[], [], F.bindsN h, .nil, dr_nil⟩
def ALen (fa : ME (List PV)) (n : Nat) : Prop := ∀ e h vs h1, fa e h = .ok vs h1 → vs.length = n
theorem al_nil : ALen aNil 0 := fun e h vs h1 q => by
  unfold aNil at q
  injection q with q1 q2
  rw [← q1]; rfl
theorem al_cons {f : ME PV} {g : ME (List PV)} {n : Nat} (t : ALen g n) : ALen (aCons f g) (n + 1) := fun e h vs h1 q => by
  unfold aCons at q
  cases q1 : f e h with
  | ok a h2 =>
    rw [q1] at q
    cases q2 : g e h2 with
    | ok b h3 =>
      have q' : (g e h2).bind (fun vs h2 => Out.ok (a :: vs) h2) = .ok vs h1 := q
      rw [q2] at q'
      have q3 : Out.ok (a :: b) h3 = .ok vs h1 := q'
      injection q3 with q4 q5
      rw [← q4, List.length_cons, t _ _ _ _ q2]
    | ex c h3 =>
      have q' : (g e h2).bind (fun vs h2 => Out.ok (a :: vs) h2) = .ok vs h1 := q
      rw [q2] at q'; cases q'
    | bad =>
      have q' : (g e h2).bind (fun vs h2 => Out.ok (a :: vs) h2) = .ok vs h1 := q
      rw [q2] at q'; cases q'
  | ex c h2 => rw [q1] at q; cases q
  | bad => rw [q1] at q; cases q
end
section
variable {X : Cx} {cs : List Tb} {W : WX} {x : Str} {p pos : Pos}
theorem s_fn {k np n : Nat} {g : MF} {a : Expr} {es : List Expr} {fa : ME (List PV)} {dp : List PV} (D : DefOk X.prog X.w X.K X.mg X.base cs k x np dp g) (tk : Takes X W) (hr : Room k X.A) (hg : Gl X x) (hl : ALen fa n) (hn : n + dp.length = np) (ha : SA X cs W (a :: es) fa)
    (hdb : (x == ("__debug__" : Str)) = false := by decide) (he : starEach (a :: es) X.env = (false, eval a X.env) :: starEach es X.env := by rfl) (hpl : (backTo pos (starEach es X.env)).any (·.1) = false := by rfl) :
    SE X cs W (.Call (.Name x p) (a :: es) [] pos) (mCallD g dp fa) := by
  obtain ⟨fd, ps, ds, dvs, F, e, b, v, r⟩ := D.ex
  exact s_call tk F hr hg D.hm D.hk b v r e (fun e h vs h1 q => by rw [List.length_append, hl _ _ _ _ q]; exact hn) ha hdb he hpl
theorem s_fn0 {k np : Nat} {g : MF} {dp : List PV} (D : DefOk X.prog X.w X.K X.mg X.base cs k x np dp g) (tk : Takes X W) (hr : Room k X.A) (hg : Gl X x) (hl : dp.length = np) (hdb : (x == ("__debug__" : Str)) = false := by decide) : SE X cs W (.Call (.Name x p) [] [] pos) (mCall0 g dp) := by
  obtain ⟨fd, ps, ds, dvs, F, e, b, v, r⟩ := D.ex
  exact s_call0 tk F hr hg D.hm D.hk b v r hl hdb
/-- raise C("..") -/
theorem s_raiseF {fa : List He.Fa} {fn : List He.DefD} {m : Str} {j : Nat} {p1 p2 p3 : Pos} (F : Fx fa fn X.K X.mg) (i k : Nat) (hi : fa[i]? = some (.glo x)) (hk : fa[k]? = some (.exc x)) (hc : X.calm = true) (tk : Takes X W) (hg : Gl X x) (hdb : (x == ("__debug__" : Str)) = false := by decide) :
    SS X cs W (.Raise (some (.Call (.Name x p1) [.Constant (.str m) j p2] [] p3)) none pos) (mRaise x) := by
  have q := He.exc_ok (F.d.fact k hk)
  exact s_raise hc tk hg (F.glo i x hi) q.1 q.2.1 q.2.2.1 q.2.2.2 hdb
/-- a fuel that is more than any list here -/
def FU : Nat := 1099511627776
end
/-! order of all data -/
abbrev oLt := opOrd (fun d e => PySem.W.dataLt d e) opLt
abbrev oGt := opOrd (fun d e => PySem.W.dataLt e d) opGt
abbrev oLe := opOrd (fun d e => !PySem.W.dataLt e d) opLe
abbrev oGe := opOrd (fun d e => !PySem.W.dataLt d e) opGe
section
variable {X : Cx} {cs : List Tb}
theorem op_ltU (hu : X.A.units + 64 < cLine) : OpR X (compareOp .Lt) (fun x y H Q => (rOrd (fun i j => decide (i < j)) ltS) x y H Q ∨ (rLtD X.K fun d e => PySem.W.dataLt d e) x y H Q) := op_ltM.or (op_ltD hu)
theorem op_gtU (hu : X.A.units + 64 < cLine) : OpR X (compareOp .Gt) (fun x y H Q => (rOrd (fun i j => decide (j < i)) fun x y => ltS y x) x y H Q ∨ (rLtD X.K fun d e => PySem.W.dataLt e d) x y H Q) := op_gtM.or (op_gtD hu)
theorem op_leU (hu : X.A.units + 64 < cLine) : OpR X (compareOp .LtE) (fun x y H Q => (rOrd (fun i j => decide (i ≤ j)) fun x y => !ltS y x) x y H Q ∨ (rLtD X.K fun d e => !PySem.W.dataLt e d) x y H Q) := op_leM.or (op_leD hu)
theorem op_geU (hu : X.A.units + 64 < cLine) : OpR X (compareOp .GtE) (fun x y H Q => (rOrd (fun i j => decide (j ≤ i)) fun x y => !ltS x y) x y H Q ∨ (rLtD X.K fun d e => !PySem.W.dataLt d e) x y H Q) := op_geM.or (op_geD hu)
theorem br_ltU {K : PySem.W.Frag} : Br K cs (fun x y H Q => (rOrd (fun i j => decide (i < j)) ltS) x y H Q ∨ (rLtD K fun d e => PySem.W.dataLt d e) x y H Q) oLt := br_ordD br_lt
theorem br_gtU {K : PySem.W.Frag} : Br K cs (fun x y H Q => (rOrd (fun i j => decide (j < i)) fun x y => ltS y x) x y H Q ∨ (rLtD K fun d e => PySem.W.dataLt e d) x y H Q) oGt := br_ordD br_gt
theorem br_leU {K : PySem.W.Frag} : Br K cs (fun x y H Q => (rOrd (fun i j => decide (i ≤ j)) fun x y => !ltS y x) x y H Q ∨ (rLtD K fun d e => !PySem.W.dataLt e d) x y H Q) oLe := br_ordD br_le
theorem br_geU {K : PySem.W.Frag} : Br K cs (fun x y H Q => (rOrd (fun i j => decide (j ≤ i)) fun x y => !ltS x y) x y H Q ∨ (rLtD K fun d e => !PySem.W.dataLt d e) x y H Q) oGe := br_ordD br_ge
end
end Mi
namespace Mi
open PySem PySem.Spec PyProof.Rows L2
section
variable {fa : List He.Fa} {fn : List He.DefD} {P : Program} {w : World} {K : PySem.W.Frag} {mg : Str → Option Value} {base : Heap} {cs : List Tb}
/-- the same, the code object known -/
theorem fn_mkC {x qual : Str} {params : Arguments} {body : List Stmt} {scope : Scope} {dvs : List V} {kws : List (Str × V)} {f : Addr} {fd : FuncData} {N ps : List Str} {k : Nat} {fb : MS} (F : FunD K x qual params body scope dvs kws f fd) (S : FnScope N ps scope) {p : He.Defn} (hf : He.fAd K p = f)
    (hb : ∀ (A : Around) (outer : List Env) (s : Shared) (H : Hp) (E : XK), Room k (A.deeper (envOfC qual scope s.heap.objs.size f (.ref (He.codeOf K p)))) → SB (cxOf (L2.CX P w) P w K mg base N qual scope f (.ref (He.codeOf K p)) A outer s H E) cs (WB E) body fb) :
    FnOk P w K mg base (L2.CX P w) (k + 1) f fd ps (spF K cs ps.length (runF N.length fb)) := by
  obtain ⟨oc, od, dV, kV, doc, pm, an, cdv, ct, osl, e, lk, hcd, _, _⟩ := F.ex
  obtain ⟨c, rfl⟩ := He.codeIn_ref hcd
  have ec : He.codeOf K p = c := He.codeOf_eq (by rw [hf]; exact lk) (by rw [e])
  rw [ec] at hb
  subst e
  refine fn_of lk hcd S (fun vs H Q E h => h.1) fun A outer s H vs Q E hr h => ⟨_, hb A outer s H E hr, ?_⟩
  obtain ⟨hl, m, z, hc, pvs, r, hh, p⟩ := h
  refine ⟨m, z, _, hc, srel_start (N := N) r, hh, ?_⟩
  unfold runF at p
  cases q : fb (pvs.map some ++ List.replicate (N.length - pvs.length) none) hc with
  | nx e1 h1 => rw [q] at p; exact fun m' σ' H' n hh' hs' => p m' H' n hh' .non rN_
  | rt v h1 => rw [q] at p; exact fun m' u H' n hh' hr' => p m' H' n hh' u hr'
  | ex c h1 => rw [q] at p; exact fun m' σ' H' n hh' => p m' H' n hh'
  | bk e1 h1 => rw [q] at p; exact p.elim
  | ct e1 h1 => rw [q] at p; exact p.elim
  | bad => rw [q] at p; exact p.elim
theorem def_mkC (F : Fx fa fn K mg) {d : He.DefD} {x : Str} {N ps : List Str} {dp : List PV} {k : Nat} {fb : MS} (i j : Nat) (hd : fn[i]? = some d) (he : d.at_ = (x, none)) (hx : fa[j]? = some (.glo x)) (S : FnScope N ps d.scope)
    (bd : ∀ fd, FunD K d.name d.qual d.params d.body d.scope (d.dvs K) (d.kws K) (He.fAd K d.at_) fd → ∃ ds dvs, Binds K fd ps ds ∧ Vals dvs ds ∧ DRep K dp dvs)
    (hb : ∀ (A : Around) (outer : List Env) (s : Shared) (H : Hp) (E : XK), Room k (A.deeper (envOfC d.qual d.scope s.heap.objs.size (He.ga K x) (.ref (He.codeOf K (x, none))))) → SB (cxOf (L2.CX P w) P w K mg base N d.qual d.scope (He.ga K x) (.ref (He.codeOf K (x, none))) A outer s H E) cs (WB E) d.body fb) :
    DefOk P w K mg base cs (k + 1) x ps.length dp (runF N.length fb) := by
  obtain ⟨fd, FD⟩ := F.d.def_ i hd
  obtain ⟨ds, dvs, b1, b2, b3⟩ := bd fd FD
  have e1 : He.fAd K d.at_ = He.ga K x := by rw [he]; rfl
  have kp := FD.kp
  rw [e1] at FD kp
  exact ⟨⟨fd, ps, ds, dvs, fn_mkC FD S (p := (x, none)) rfl hb, rfl, b1, b2, b3⟩, F.glo j x hx, kp⟩
/-- the defs' tables: tf the defs that have one, with their lambdas' places -/
def qn : He.Defn → Str
  | (x, none) => x
  | (x, some m) => x ++ "." ++ m
def tbOf (K : PySem.W.Frag) (t : He.Defn × List (Nat × Nat)) : Tb := ⟨(He.cT K t.1).1, (He.cT K t.1).2, qn t.1 ++ ".<locals>.<lambda>", t.2⟩
structure TabsF (K : PySem.W.Frag) (mg : Str → Option Value) (base : Heap) (tf : List (He.Defn × List (Nat × Nat))) : Prop where
  tab : ∀ t ∈ tf, LamX.TabB base mg (He.cT K t.1).1 (He.cT K t.1).2
  inj : (tf.map fun t => (He.cT K t.1).2).Nodup
def clearOf (tf : List (He.Defn × List (Nat × Nat))) (p : Nat × Nat) : Bool := tf.all fun t => !t.2.contains p
theorem code_at {X : Cx} {tf : List (He.Defn × List (Nat × Nat))} {x : He.Defn} {pos : Pos} (G : TabsF X.K X.mg X.base tf) (i : Nat) {l : List (Nat × Nat)} (hi : tf[i]? = some (x, l)) (hc : X.env.code = .ref (He.codeOf X.K x)) (hp : clearOf tf (pos.line, pos.col) = true) : CodeAt X (tf.map (tbOf X.K)) pos := by
  have hm : (x, l) ∈ tf := List.mem_of_getElem? hi
  refine ⟨_, _, hc, ⟨(G.tab _ hm).code, (G.tab _ hm).bm, (G.tab _ hm).gP⟩, ⟨tbOf X.K (x, l), List.mem_map.mpr ⟨_, hm, rfl⟩, rfl⟩, fun t ht _ hq => ?_⟩
  obtain ⟨u, hu, rfl⟩ := List.mem_map.mp ht
  have := List.all_eq_true.mp hp u hu
  simp only [Bool.not_eq_true', List.contains_eq_mem, decide_eq_false_iff_not] at this
  exact this hq
end
end Mi

set_option Elab.async false
set_option linter.all false
set_option maxRecDepth 100000
set_option maxHeartbeats 4000000
namespace Mi
open PySem PySem.Spec PyProof.Rows L2
theorem _root_.L2.Room.units1 {k : Nat} {A : Around} (r : Room k A) : A.units + 1 < cLine := by have := r.un; omega
theorem _root_.L2.Room.units5 {k : Nat} {A : Around} (r : Room k A) : A.units + 65 < cLine := by have := r.un; omega
section
variable {X : Cx} {cs : List Tb} {W : WX} {tg l : Expr}
def iAny (f : ME PV) : ME (List PV × Option SR) := iBoth (iBoth (iSeq f) (iTp f)) (iText f)
theorem i_any {f : ME PV} (hl : SE X cs W l f) : SI X cs W tg l (iAny f) := i_or (i_or (i_list hl) (i_tup hl)) (i_text hl)
end
/-! ### enumerate of a text -/
def ItES (x : Str) : It := ⟨fun i _ => i < x.cps.size, fun i H v H' => ∃ T c, v = .ref T ∧ H T = none ∧ H' = upd H T (.tup [.int (i : Nat), .str ⟨#[c]⟩]) ∧ x.cps[i]? = some c, fun i _ => x.cps.size ≤ i⟩
theorem turn_enumS {P : Program} {w : World} {K : PySem.W.Frag} {elts : List Expr} {kk : Nat} {tpos : Pos} (x : Str) (t : Tok) (e it : Addr) :
    Turn P w K (.Tuple elts kk tpos) (ItES x) [e, it] e (fun i h => i ≤ x.cps.size ∧ (∃ old, IsEnum h e it ((i : Nat) : Int) old) ∧ h.IsStrIter it (strIterType x) x t i ∧ e ≠ it) where
  mem := by simp
  obj := fun i h st b hb => by
    obtain ⟨_, ⟨old, he⟩, ⟨o, ho, hc, hd⟩, _⟩ := st
    have e' : b = e ∨ b = it := by simpa using hb
    rcases e' with z | z
    · rw [z]; exact ⟨_, he, fun v q => nomatch q⟩
    · rw [z]; exact ⟨o, ho, fun v q => by rw [hd] at q; cases q⟩
  keep := fun i h h' st k => let ⟨hle, ⟨old, he⟩, ⟨o, ho, r⟩, hne⟩ := st; ⟨hle, ⟨old, k e (by simp) _ he⟩, ⟨o, k it (by simp) _ ho, r⟩, hne⟩
  item := by
    intro X hP hw hK hc i pins s σ H E I hf st hg
    subst hP hw hK
    obtain ⟨_, ⟨old, he⟩, hit, hne⟩ := st
    have hel : e < s.heap.objs.size := Heap.lt_size he
    have hil : it < s.heap.objs.size := by obtain ⟨_, q, _⟩ := hit; exact Heap.lt_size q
    have D := Draws.text (prog := X.prog) (w := X.w) (A := X.A.in1) (I.ok.hd hc) it x t
    refine wpAny_pyNext_enum_itemD D he hit hg hne (by simpa using hne) fun v h' tk hv ho hit' hT hsz hk => ?_
    obtain ⟨c, u, hcx, rfl⟩ := hv
    refine ⟨_, rfl, wpAny_letOwnedTupleGo_enum (s := { s with heap := h', toks := tk + 1 }) ho fun h'' he' sb => ?_⟩
    have hT2 : h''.get? s.heap.objs.size = some { cls := .type "tuple", data := .seq #[.int i tk, .str ⟨#[c]⟩ u] } := (sb.2 _ (Nat.ne_of_gt hel)).trans hT
    have new : ObjOk X.prog X.w (upd H s.heap.objs.size (.tup [.int (i : Nat), .str ⟨#[c]⟩])) h'' s.heap.objs.size (.tup [.int (i : Nat), .str ⟨#[c]⟩]) :=
      ⟨by show 2 ≤ sizeLine; decide, [.int i tk, .str ⟨#[c]⟩ u], .cons ⟨_, rfl⟩ (.cons ⟨_, rfl⟩ .nil), ⟨_, hT2, rfl, _, rfl⟩⟩
    have I1 : Inv X pins σ (upd H s.heap.objs.size (.tup [.int (i : Nat), .str ⟨#[c]⟩])) { s with heap := h'', toks := tk + 1 } :=
      I.turnedNew (ch := [e, it]) (fun b ob hb q => (sb.2 b (fun z => hb (by simp [z]))).trans (hk b ob (fun z => hb (by simp [z])) (fun z => hb (by simp [z])) q)) hf (Nat.le_refl _) new
    obtain ⟨oi, ei, ri⟩ := hit'
    refine ⟨.ref s.heap.objs.size, _, I1, rfl, ⟨_, c, rfl, I.hok.fresh (Nat.le_refl _), rfl, hcx⟩, ⟨hg, ⟨.str ⟨#[c]⟩ u, ?_⟩, ⟨oi, (sb.2 it (Ne.symm hne)).trans ei, ri⟩, hne⟩, fun b hb => ?_⟩
    · have e1 : ((i + 1 : Nat) : Int) = (i : Int) + 1 := by omega
      rw [e1]; exact he'
    · have hb' : b < s.heap.objs.size := by
        have e' : b = e ∨ b = it := by simpa using hb
        rcases e' with z | z
        · rw [z]; exact hel
        · rw [z]; exact hil
      rw [upd_ne (Nat.ne_of_lt hb')]
      exact (hf b hb).1
  done := by
    intro X hP hw hK hc i pins s σ H E I hf st hg
    subst hP hw hK
    obtain ⟨hle, ⟨old, he⟩, hit, hne⟩ := st
    obtain ⟨f0, f1, f2, f3, f4, f5⟩ := hf it (by simp)
    have hi : i = x.cps.size := Nat.le_antisymm hle hg
    rw [hi] at hit
    exact wpAny_pyNext_enum_endD (Draws.text (prog := X.prog) (w := X.w) (A := X.A.in1) (I.ok.hd hc) it x t) he hit fun h' eb => ⟨rfl, I.turned (t' := s.toks) (fun b o hb q => eb b o hb q) f0 f1 f3 f4 f5⟩
  self := fun A i s Q E st h => let ⟨_, ⟨_, he⟩, _⟩ := st; wpAny_pyIter_enum he h
def iEnumSR (ta : TA) : TI := fun σ H R => ta σ H fun vs H1 => ∃ x, vs = [.str x] ∧ R (ItES x) H1
theorem pi_enumS {X : Cx} {e : Expr} {ta : TA} {p pos tpos : Pos} {elts : List Expr} {kk : Nat} (hg : Gl X "enumerate") (hm : X.mg "enumerate" = none) (ha : PA X [e] ta) (hs : starEach [e] X.env = [(false, eval e X.env)] := by rfl) :
    PI X (.Tuple elts kk tpos) (.Call (.Name "enumerate" p) [e] [] pos) (iEnumSR ta) := by
  refine ⟨fun pins s σ H R I h => ?_⟩
  refine Call_ (ld_blt I hg hm boot_enumerate (PyProof.Rows.callWith_type1 (thn (ha.run pos pins s σ H _ I h) fun us s1 ⟨vs, H1, I1, r1, q1⟩ => ?_) hs rfl))
  obtain ⟨x, ex, q⟩ := q1
  subst ex
  cases r1 with
  | cons r rr =>
    cases rr
    obtain ⟨t, rfl⟩ := r
    refine call_enumerate_str fun h' he hit hsz hk => wpAny_pyIter_enum he ?_
    have I2 : Inv X pins σ H1 { s1 with heap := h' } := I1.kept (t' := s1.toks) hk
    refine ⟨s1.heap.objs.size + 1, [s1.heap.objs.size + 1, s1.heap.objs.size], _, _, H1, rfl, I2, turn_enumS x t (s1.heap.objs.size + 1) s1.heap.objs.size, ⟨Nat.zero_le _, ⟨.none, he⟩, hit, Nat.succ_ne_self _⟩, fun b hb => ?_, q⟩
    have e' : b = s1.heap.objs.size + 1 ∨ b = s1.heap.objs.size := by simpa using hb
    have hle : s1.heap.objs.size ≤ b := by
      rcases e' with z | z
      · rw [z]; exact Nat.le_add_right _ _
      · rw [z]; exact Nat.le_refl _
    exact I1.fpOk hle (I1.hok.fresh hle)
theorem jok_enumS {K : PySem.W.Frag} {cs : List Tb} {z m : List Addr} {H : Hp} {x : Str} (o : PyData.strOk x = true) :
    JOk K cs z m H (x.cps.toList.mapIdx fun i c => mkT [.d (.int (i : Nat)), .d (.str ⟨#[c]⟩)]) none (ItES x) := fun z' m' h' H' f n hh _ => by
  refine ⟨fun i y hx => ?_, by show x.cps.size ≤ _; simp⟩
  rw [List.getElem?_mapIdx] at hx
  obtain ⟨c, ey, ex⟩ := Option.map_eq_some_iff.mp hx
  subst ex
  obtain ⟨hl, ej⟩ := List.getElem?_eq_some_iff.mp ey
  refine ⟨by show i < x.cps.size; simpa using hl, fun w H'' ⟨T, c', e, hn, eH, hw⟩ => ?_⟩
  subst e eH
  have e4 : x.cps[i]? = some c := by rw [← Array.getElem?_toList]; exact ey
  rw [e4] at hw
  obtain rfl := Option.some.inj hw
  refine ⟨Nx.new hn, hh.new hn, rep_pair hh (rI_ _) (rS_ ?_) hn⟩
  unfold PyData.strOk at o ⊢
  simp only [Array.all_eq_true', List.all_eq_true] at o ⊢
  intro y hy
  have : y = c := by simpa using hy
  subst this
  exact o _ (by first | (simpa using List.mem_of_getElem? ey) | exact Array.mem_of_getElem? e4)
def iEnumT (g : ME (List PV)) : ME (List PV × Option SR) := fun e h => (g e h).bind fun vs h1 => match vs with
  | [.d (.str x)] => .ok (x.cps.toList.mapIdx fun i c => mkT [.d (.int (i : Nat)), .d (.str ⟨#[c]⟩)], none) h1
  | _ => .bad
theorem i_enumT {X : Cx} {cs : List Tb} {W : WX} {e : Expr} {g : ME (List PV)} {p pos tpos : Pos} {elts : List Expr} {kk : Nat} (hg : Gl X "enumerate") (hm : X.mg "enumerate" = none) (ha : SA X cs W [e] g) (hs : starEach [e] X.env = [(false, eval e X.env)] := by rfl) :
    SI X cs W (.Tuple elts kk tpos) (.Call (.Name "enumerate" p) [e] [] pos) (iEnumT g) :=
  pi_imp (pi_enumS hg hm ha hs) fun σ H R ⟨m, z, e, h, hs, hh, p⟩ => tA_then hs hh p fun vs h1 m1 H1 us hs1 hh1 r1 n1 p1 => by
    split at p1
    · obtain ⟨u, rfl, r2⟩ := rep1 r1
      obtain ⟨e1, o1⟩ := rep_str r2
      subst e1
      exact ⟨_, rfl, p1.here hh1 _ (jok_enumS o1)⟩
    · exact p1.elim
/-- a def of which nothing is said: the ground of a def that calls itself -/
theorem def_bad {fa : List He.Fa} {fn : List He.DefD} {P : Program} {w : World} {K : PySem.W.Frag} {mg : Str → Option Value} {base : Heap} {cs : List Tb} (F : Fx fa fn K mg) {d : He.DefD} {x : Str} {N ps : List Str} {dp : List PV} (i j : Nat) (hd : fn[i]? = some d) (he : d.at_ = (x, none)) (hx : fa[j]? = some (.glo x)) (S : FnScope N ps d.scope)
    (bd : ∀ fd, FunD K d.name d.qual d.params d.body d.scope (d.dvs K) (d.kws K) (He.fAd K d.at_) fd → ∃ ds dvs, Binds K fd ps ds ∧ Vals dvs ds ∧ DRep K dp dvs) : DefOk P w K mg base cs 1 x ps.length dp (fun _ _ => .bad) := by
  obtain ⟨fd, FD⟩ := F.d.def_ i hd
  obtain ⟨ds, dvs, b1, b2, b3⟩ := bd fd FD
  have e1 : He.fAd K d.at_ = He.ga K x := by rw [he]; rfl
  have kp := FD.kp
  rw [e1] at FD kp
  exact ⟨⟨fd, ps, ds, dvs, FD.ok S (k := 0) (fun vs H Q E h => h.1) fun cdv A outer s H vs Q E hr h => by obtain ⟨_, m, z, hc, pvs, r, hh, p⟩ := h; exact p.elim, rfl, b1, b2, b3⟩, F.glo j x hx, kp⟩
end Mi

set_option Elab.async false
set_option linter.all false
set_option maxRecDepth 100000
set_option maxHeartbeats 4000000
namespace Mi
open PySem PySem.Spec PyProof.Rows L2
/-! ### texts in order -/
def leS (a b : Str) : Bool := !ltS b a
/-- a sort that the kernel can run -/
def insL {α : Type} (le : α → α → Bool) (x : α) : List α → List α
  | [] => [x]
  | y :: r => if le x y then x :: y :: r else y :: insL le x r
def srtL {α : Type} (le : α → α → Bool) : List α → List α
  | [] => []
  | x :: r => insL le x (srtL le r)
theorem insL_perm {α : Type} (le : α → α → Bool) (x : α) : ∀ l : List α, (insL le x l).Perm (x :: l)
  | [] => .refl _
  | y :: r => by
    unfold insL
    split
    · exact .refl _
    · exact ((insL_perm le x r).cons y).trans (.swap x y r)
theorem srtL_perm {α : Type} (le : α → α → Bool) : ∀ l : List α, (srtL le l).Perm l
  | [] => .refl _
  | x :: r => (insL_perm le x _).trans ((srtL_perm le r).cons x)
theorem insL_pw {α : Type} {le : α → α → Bool} (tr : ∀ a b c, le a b = true → le b c = true → le a c = true) (tot : ∀ a b, (le a b || le b a) = true) (x : α) : ∀ l : List α, l.Pairwise (fun a b => le a b = true) → (insL le x l).Pairwise (fun a b => le a b = true)
  | [], _ => List.pairwise_singleton _ _
  | y :: r, h => by
    obtain ⟨h1, h2⟩ := List.pairwise_cons.mp h
    unfold insL
    split
    · rename_i q
      exact List.pairwise_cons.mpr ⟨fun z hz => by
        rcases List.mem_cons.mp hz with e | hz
        · rw [e]; exact q
        · exact tr _ _ _ q (h1 z hz), h⟩
    · rename_i q
      refine List.pairwise_cons.mpr ⟨fun z hz => ?_, insL_pw tr tot x r h2⟩
      rcases List.mem_cons.mp ((insL_perm le x r).mem_iff.mp hz) with e | hz
      · rw [e]
        have := tot x y
        rw [Bool.or_eq_true] at this
        exact this.resolve_left q
      · exact h1 z hz
theorem srtL_pw {α : Type} {le : α → α → Bool} (tr : ∀ a b c, le a b = true → le b c = true → le a c = true) (tot : ∀ a b, (le a b || le b a) = true) : ∀ l : List α, (srtL le l).Pairwise (fun a b => le a b = true)
  | [] => .nil
  | x :: r => insL_pw tr tot x _ (srtL_pw tr tot r)
def sortS (l : List Str) : List Str := srtL leS l
theorem ltS_irr (a : Str) : ltS a a = false := by unfold ltS; simp
theorem leS_iff {a b : Str} : leS a b = true ↔ ¬ b.cps.toList < a.cps.toList := by unfold leS ltS; simp
theorem leS_trans (a b c : Str) (h1 : leS a b = true) (h2 : leS b c = true) : leS a c = true := by
  rw [leS_iff] at *
  intro h
  rcases List.le_total a.cps.toList b.cps.toList with q | q
  · have q1 : a.cps.toList ≤ b.cps.toList := q
    have : b.cps.toList ≤ c.cps.toList := h2
    exact (List.le_trans q1 this) h
  · have : b.cps.toList ≤ c.cps.toList := h2
    have q1 : a.cps.toList ≤ b.cps.toList := h1
    exact (List.le_trans q1 this) h
theorem leS_total (a b : Str) : (leS a b || leS b a) = true := by
  rw [Bool.or_eq_true, leS_iff, leS_iff]
  rcases List.le_total a.cps.toList b.cps.toList with q | q
  · exact .inl q
  · exact .inr q
theorem leS_anti {a b : Str} (h1 : leS a b = true) (h2 : leS b a = true) : a = b := by
  rw [leS_iff] at *
  have e : a.cps.toList = b.cps.toList := List.le_antisymm h1 h2
  obtain ⟨x⟩ := a
  obtain ⟨y⟩ := b
  have : x = y := by cases x; cases y; exact congrArg Array.mk e
  rw [this]
theorem sortS_perm (l : List Str) : (sortS l).Perm l := srtL_perm leS l
theorem sortS_pw (l : List Str) : (sortS l).Pairwise (fun a b => leS a b = true) := srtL_pw leS_trans leS_total l
theorem pw_rising : ∀ {l : List Str} {p : Str}, risingS p l = true → (p :: l).Pairwise (fun a b => leS a b = true)
  | [], p, _ => List.pairwise_singleton _ _
  | x :: r, p, h => by
    have h' : (!ltCps x.cps.toList p.cps.toList && risingS x r) = true := h
    rw [Bool.and_eq_true] at h'
    have t := pw_rising h'.2
    have hpx : leS p x = true := by
      unfold leS ltS
      rw [ltCps_eq] at h'
      exact h'.1
    refine List.pairwise_cons.mpr ⟨fun y hy => ?_, t⟩
    rcases List.mem_cons.mp hy with e | hy
    · rw [e]; exact hpx
    · exact leS_trans _ _ _ hpx (List.rel_of_pairwise_cons t hy)
theorem sortS_of {ys ks : List Str} (h : ys.Perm ks) (s : sortedS ys = true) : ys = sortS ks := by
  have pw : ys.Pairwise (fun a b => leS a b = true) := by
    cases ys with
    | nil => exact .nil
    | cons x r => exact pw_rising s
  exact List.Perm.eq_of_pairwise (fun a b _ _ => leS_anti) pw (sortS_pw ks) (h.trans (sortS_perm ks).symm)
def sortI (l : List Int) : List Int := srtL (fun a b => decide (a ≤ b)) l
theorem sortI_perm' (l : List Int) : (sortI l).Perm l := srtL_perm _ l
theorem sortI_pw (l : List Int) : (sortI l).Pairwise (· ≤ ·) := (srtL_pw (fun a b c h1 h2 => by simp at *; omega) (fun a b => by simp; omega) l).imp (by simp)
theorem sortI_of {ys ks : List Int} (h : ys.Perm ks) (s : ys.Pairwise (· ≤ ·)) : ys = sortI ks :=
  List.Perm.eq_of_pairwise (fun a b _ _ x y => Int.le_antisymm x y) s (sortI_pw ks) (h.trans (sortI_perm' ks).symm)
/-! ### dict(a list of pairs) -/
def pairP (x : PV) : Option (Key × PV) := match asT x with
  | some [k, v] => (keyOf k).map fun q => (q, v)
  | _ => none
def pairsP : List PV → Option (List (Key × PV))
  | [] => some []
  | x :: r => match pairP x, pairsP r with
    | some p, some ps => some (p :: ps)
    | _, _ => none
def mergeP (kvs more : List (Key × PV)) : List (Key × PV) := more.foldl (fun acc kv => putP acc kv.1 kv.2) kvs
theorem KVR.merge {K : PySem.W.Frag} {m z : List Addr} {H : Hp} {more : List (Key × PV)} {mw : List (Key × V)} (r : KVR K m z H more mw) : ∀ {kvs : List (Key × PV)} {ws : List (Key × V)}, KVR K m z H kvs ws → KVR K m z H (mergeP kvs more) (mergeK ws mw) := by
  induction r with
  | nil => intro kvs ws h; exact h
  | @cons k x v xs vs r1 t ih =>
    intro kvs ws h
    exact ih (h.put r1)
theorem pairsP_rep {K : PySem.W.Frag} {m z : List Addr} {H : Hp} : ∀ {xs : List PV} {vs : List V} {kvs : List (Key × PV)}, RepAll K m z H xs vs → pairsP xs = some kvs →
    ∃ (ps : List Addr) (ws : List (Key × V)), vs = ps.map V.ref ∧ Paired (fun p kv => SqT K (fz m z H) p [kV kv.1, kv.2]) ps ws ∧ KVR K m z H kvs ws
  | [], _, _, h, e => by
    cases h
    obtain rfl := Option.some.inj e
    exact ⟨[], [], rfl, .nil, .nil⟩
  | x :: r, _, kvs, h, e => by
    cases h with
    | cons h t =>
      unfold pairsP at e
      split at e
      · rename_i p ps e1 e2
        obtain rfl := Option.some.inj e
        obtain ⟨as, ws, ev, pr, kv⟩ := pairsP_rep t e2
        unfold pairP at e1
        split at e1
        · rename_i k v ea
          obtain ⟨q, ek, ep⟩ := Option.map_eq_some_iff.mp e1
          subst ep
          obtain ⟨a, us, eu, sq, ra⟩ := asT_rep h ea
          obtain ⟨u1, u2, eus, r1, r2⟩ := rep2 ra
          subst eus eu
          have := keyOf_rep r1 ek
          subst this
          exact ⟨a :: as, (q, u2) :: ws, by rw [ev]; rfl, .cons sq pr, .cons r2 kv⟩
        · cases e1
      · cases e
def biDictP (vs : List PV) (h : Cells) : Out PV := match vs with
  | [v] => match asL v h with
    | some xs => match pairsP xs with
      | some kvs => .ok (.r h.length) (h ++ [.dk (mergeP [] kvs)])
      | none => .bad
    | none => .bad
  | _ => .bad
theorem bc_dictP {K : PySem.W.Frag} {cs : List Tb} : Bc K cs (fun xs H Q => ∃ (a : Addr) (ps : List Addr) (kvs : List (Key × V)), xs = [V.ref a] ∧ SqL K H a (ps.map V.ref) ∧ Paired (fun p kv => SqT K H p [kV kv.1, kv.2]) ps kvs ∧
    ∀ p, H p = none → Q (.ref p) (upd H p (.dK (mergeK [] kvs)))) biDictP := by
  intro m z H h vs us Q Wx hh r p
  unfold biDictP at p
  split at p
  · obtain ⟨u, rfl, r1⟩ := rep1 r
    split at p
    · rename_i xs ex
      split at p
      · rename_i kvs ek
        obtain ⟨a, ws, eu, hl, ra⟩ := asL_rep hh r1 ex
        subst eu
        obtain ⟨ps, kws, ev, pr, kv⟩ := pairsP_rep ra ek
        subst ev
        refine ⟨a, ps, kws, rfl, .inl (.inl hl), L2.Paired.mapP pr fun b q sq => SqT.top sq, fun b hb => ?_⟩
        have kv2 : KVR K (m ++ [b]) z (upd H b (.dK (mergeK [] kws))) (mergeP [] kvs) (mergeK [] kws) := (KVR.merge kv .nil).nx (Nx.cell hb)
        exact p (m ++ [b]) _ (Nx.cell hb) (hh.cell hb ⟨_, upd_same, kv2.keys, kv2.vals⟩) (.ref b) (rep_len hh)
      · exact p.elim
    · exact p.elim
  · exact p.elim
/-! ### sorted -/
def keysS : List (Key × PV) → Option (List Str)
  | [] => some []
  | (.inr x, _) :: r => (keysS r).map (x :: ·)
  | _ => none
theorem keysS_eq : ∀ {kvs : List (Key × PV)} {ks : List Str}, keysS kvs = some ks → kvs.map (·.1) = ks.map Sum.inr
  | [], _, e => by obtain rfl := Option.some.inj e; rfl
  | (.inr x, _) :: r, ks, e => by
    obtain ⟨t, e1, rfl⟩ := Option.map_eq_some_iff.mp (show (keysS r).map (x :: ·) = some ks from e)
    rw [List.map_cons, keysS_eq e1]; rfl
  | (.inl _, _) :: _, _, e => by cases e
def biSortedD (vs : List PV) (h : Cells) : Out PV := match vs with
  | [v] => match asDict v h with
    | some kvs => match keysS kvs with
      | some ks => if ks.length < 64 ∧ (ks.all PyData.strOk) = true then .ok (.d (.list ((sortS ks).map .str))) h else .bad
      | none => .bad
    | none => .bad
  | _ => .bad
theorem dd_strs {K : PySem.W.Frag} {F : Hp} : ∀ ns : List Str, DDAll K F (ns.map V.str) (ns.map .str)
  | [] => .nil
  | x :: r => .cons (.str x) (dd_strs r)
theorem can_strs : ∀ {ns : List Str}, ns.all PyData.strOk = true → PyData.canLayAll0 (ns.map .str) = true
  | [], _ => rfl
  | x :: r, h => by
    rw [List.all_cons, Bool.and_eq_true] at h
    simp [PyData.canLayAll0, PyData.canLay0, h.1, can_strs h.2]
theorem rep_strsN {K : PySem.W.Frag} {cs : List Tb} {m z : List Addr} {h : Cells} {H : Hp} {p : Addr} {ys : List Str} (hh : HRel K cs m z h H) (hn : H p = none) (o : ys.all PyData.strOk = true) : Rep K m z (upd H p (.lst (ys.map V.str))) (.d (.list (ys.map .str))) (.ref p) := by
  have e : mkL ((ys.map PyData.str).map PV.d) = .d (.list (ys.map .str)) := mkL_map _
  rw [← e]
  exact rep_newL hh (RepAll.of_dp (dd_strs ys) (can_strs o)) hn
theorem bc_sortedD {K : PySem.W.Frag} {cs : List Tb} : Bc K cs (fun xs H Q => ∃ (a : Addr) (kvs : List (Key × V)) (ks : List Str), xs = [V.ref a] ∧ Rd H a (.dK kvs) ∧ kvs.map (·.1) = ks.map Sum.inr ∧ ks.length < 64 ∧
    ∀ ys p, ys.Perm ks → sortedS ys = true → H p = none → Q (.ref p) (upd H p (.lst (ys.map V.str)))) biSortedD := by
  intro m z H h vs us Q Wx hh r p
  unfold biSortedD at p
  split at p
  · obtain ⟨u, rfl, r1⟩ := rep1 r
    split at p
    · rename_i kvs ex
      split at p
      · rename_i ks ek
        split at p
        · rename_i c
          obtain ⟨a, ws, eu, hl, kv⟩ := asDict_rep hh r1 ex
          subst eu
          refine ⟨a, ws, ks, rfl, .inl hl, by rw [← kv.keys]; exact keysS_eq ek, c.1, fun ys b hp hs hb => ?_⟩
          rw [sortS_of hp hs]
          refine p.new hh hb _ (rep_strsN hh hb ?_)
          rw [List.all_eq_true] at *
          exact fun y hy => c.2 y ((sortS_perm ks).mem_iff.mp hy)
        · exact p.elim
      · exact p.elim
    · exact p.elim
  · exact p.elim
end Mi

set_option Elab.async false
set_option linter.all false
set_option maxRecDepth 100000
set_option maxHeartbeats 4000000
namespace Mi
open PySem PySem.Spec PyProof.Rows L2
/-! ### sorted of data, any length -/
abbrev srtD (ds : List PyData) : List PyData := ds.mergeSort (PySem.W.dataLe false id)
def rSortedA (K : PySem.W.Frag) : List V → Hp → VK → Prop := fun xs H Q => ∃ (a : Addr) (vs : List V) (ds : List PyData) (R : V → PyData → Prop), xs = [V.ref a] ∧ SqL K H a vs ∧ Paired R vs ds ∧ (∀ v d, R v d → Dp K H v d) ∧
  PySem.W.AllAlike ds ∧ PySem.W.Sortable ds ∧ (∀ d ∈ ds, d.depth ≤ 60) ∧ ∀ ws p, Paired R ws (srtD ds) → H p = none → Q (.ref p) (upd H p (.lst ws))
theorem each_of {X : Cx} {pins : List (Addr × Obj)} {s : Shared} {σ : L2.St} {H : Hp} (I : L2.Inv X pins σ H s) {R : V → PyData → Prop} (hR : ∀ v d, R v d → Dp X.K H v d) : ∀ {vs : List V} {us : List Value} {ds : List PyData}, Vals vs us → Paired R vs ds →
    PySem.W.EachIs (fun v b => ∃ w, RelV w v ∧ R w b) us ds ∧ PySem.W.EachIs (fun v b => ∃ as, Reads s.heap v b as) us ds
  | [], _, _, .nil, .nil => ⟨.nil, .nil⟩
  | v :: vs, u :: us, d :: ds, .cons r t, .cons q p => by
    obtain ⟨h1, h2⟩ := each_of I hR t p
    exact ⟨.cons ⟨v, r, q⟩ h1, .cons (Dp.reads I d v u (hR _ _ q) r) h2⟩
theorem each_back {R : V → PyData → Prop} : ∀ {us : List Value} {ds : List PyData}, PySem.W.EachIs (fun v b => ∃ w, RelV w v ∧ R w b) us ds → ∃ ws, Vals ws us ∧ Paired R ws ds
  | _, _, .nil => ⟨[], .nil, .nil⟩
  | _, _, .cons ⟨w, r, q⟩ t => by
    obtain ⟨ws, h1, h2⟩ := each_back t
    exact ⟨w :: ws, .cons r h1, .cons q h2⟩
theorem cr_sortedA {X : Cx} (hu : X.A.units + 64 < cLine) : CallR X (.builtin "sorted") (rSortedA X.K) := by
  intro pins s σ H vs us Q I r h
  obtain ⟨a, xs, ds, R, rfl, hs, hp, hR, hal, hso, hd, q⟩ := h
  obtain ⟨its, rv, hl, hz⟩ := I.list hs
  rw [Vals.ref1 r]
  obtain ⟨e1, e2⟩ := each_of I hR rv hp
  have lp : xs.length = ds.length := Paired.length hp
  have li : ds.length = its.length := by rw [← lp]; exact rv.length
  refine PySem.W.sorted_data (bs := ds) (enc := id) (R := fun v b => ∃ w, RelV w v ∧ R w b) hl.isList e1 e2 (by rw [List.map_id]; exact hal) (by rw [List.map_id]; exact hso) (by rw [← lp]; exact hz) (fun b hb => by have := hd b hb; show X.A.units + 2 + b.depth < cLine; omega) fun out ho he => ?_
  obtain ⟨ws, hw, hpw⟩ := each_back he
  obtain ⟨ep, he'⟩ := PyProof.Rows.sortedAll_at s.heap its out.toArray
  have hlen : ws.length ≤ sizeLine := by rw [hw.length, ho, ← lp]; exact hz
  exact ⟨.ref _, upd H (s.heap.objs.size + 1) (.lst ws), I.laid (t' := s.toks) (fun _ _ => PyProof.Rows.sortedAll_old) (Nat.le_succ _) ⟨hlen, out, ep, hw, he'⟩, rfl, q ws _ hpw (I.hok.fresh (Nat.le_succ _))⟩

theorem items_each : ∀ (us : List Value) (cps : List Nat), us.length = cps.length → (∀ (j : Nat) (v : Value), us[j]? = some v → ∃ c u, cps[j]? = some c ∧ v = .str ⟨#[c]⟩ u) →
    PySem.W.EachIs (fun v b => ∃ c u, v = Value.str ⟨#[c]⟩ u ∧ b = PyData.str ⟨#[c]⟩) us (cps.map fun c => .str ⟨#[c]⟩)
  | [], [], _, _ => .nil
  | u :: us, c :: cps, hl, h => by
    obtain ⟨c', t, e1, e2⟩ := h 0 u rfl
    obtain rfl : c = c' := Option.some.inj e1
    exact .cons ⟨c, t, e2, rfl⟩ (items_each us cps (by simpa using hl) fun j v e => by
      obtain ⟨c', t, e1, e2⟩ := h (j + 1) v (by simpa using e)
      exact ⟨c', t, by simpa using e1, e2⟩)
  | [], _ :: _, hl, _ => by simp at hl
  | _ :: _, [], hl, _ => by simp at hl
theorem strs_back : ∀ {us : List Value} {ds : List PyData}, PySem.W.EachIs (fun v b => ∃ c u, v = Value.str ⟨#[c]⟩ u ∧ b = PyData.str ⟨#[c]⟩) us ds → ∃ ys : List Str, Vals (ys.map V.str) us ∧ ds = ys.map .str
  | _, _, .nil => ⟨[], .nil, rfl⟩
  | _, _, .cons ⟨c, u, e, e2⟩ t => by
    obtain ⟨ys, h1, h2⟩ := strs_back t
    exact ⟨⟨#[c]⟩ :: ys, .cons ⟨u, e⟩ h1, by rw [e2, h2]; rfl⟩
def signsD (x : Str) : List PyData := x.cps.toList.map fun c => .str ⟨#[c]⟩
def rSortedT : List V → Hp → VK → Prop := fun xs H Q => ∃ x, xs = [V.str x] ∧ x.cps.size ≤ sizeLine ∧ ∀ (ys : List Str) p, srtD (signsD x) = ys.map .str → H p = none → Q (.ref p) (upd H p (.lst (ys.map V.str)))
theorem alike_strs (l : List Nat) : PySem.W.AllAlike ((l.map fun c => PyData.str ⟨#[c]⟩)) := by
  intro d hd d' hd'
  obtain ⟨b, _, rfl⟩ := List.mem_map.mp hd
  obtain ⟨b', _, rfl⟩ := List.mem_map.mp hd'
  rfl
theorem sortable_strs (l : List Nat) : PySem.W.Sortable ((l.map fun c => PyData.str ⟨#[c]⟩)) := .inr fun d hd => by
  obtain ⟨b, _, rfl⟩ := List.mem_map.mp hd
  exact ⟨(by intro e; cases e), fun xs e => (by cases e)⟩
theorem cr_sortedT {X : Cx} (hc : X.calm = true) (hu : X.A.units + 64 < cLine) : CallR X (.builtin "sorted") rSortedT := by
  intro pins s σ H vs us Q I r h
  obtain ⟨x, rfl, hz, q⟩ := h
  obtain ⟨u, eu, rx⟩ := vals1 r
  subst eu
  obtain ⟨t, rfl⟩ := rx
  refine Calls.call_function_entry PyProof.Rows.kind_sorted PyProof.Rows.plain_sorted PyProof.Rows.entry_sorted (PyProof.Rows.args_sorted1 _) ?_
  unfold Builtin.«sorted»
  refine wpAny_bind (m := checkCount "sorted" 1 1 _) (wpAny_pure ?_)
  refine wpAny_bind (wpAny_collect_str (A := X.A.in1) (I.ok.hd hc) x t (fun s' acc hk hg hdr hos hacc => ?_) hz)
  have es : s' = { s with heap := s'.heap, toks := s'.toks } := by
    obtain ⟨a, b, c, d, e⟩ := s'
    obtain ⟨a2, b2, c2, d2, e2⟩ := s
    simp only at hg hdr hos
    subst hg hdr hos
    rfl
  have I1 : Inv X pins σ H s' := by rw [es]; exact I.kept hk
  have hal : acc.toList.length = x.cps.toList.length := by rw [Array.length_toList, hacc.1, Array.length_toList]
  have hle : acc.toList.length ≤ sizeLine := by rw [hal, Array.length_toList]; exact hz
  have EI := items_each acc.toList x.cps.toList hal fun j v e => by
    obtain ⟨c, w, e1, e2⟩ := hacc.2 j v (by rw [← Array.getElem?_toList]; exact e)
    exact ⟨c, w, by rw [Array.getElem?_toList]; exact e1, e2⟩
  refine wpAny_bind (wpAny_newList ?_ hle)
  have hoL : (s'.heap.push (seqObj "list" acc.toList.toArray 0)).get? s'.heap.objs.size = some (seqObj "list" acc.toList.toArray 0) := Heap.get?_push_size _ rfl
  show wpAny _ _ _ _ _ { s' with heap := s'.heap.push (seqObj "list" acc.toList.toArray 0) }
  have ER : ∀ hh : Heap, PySem.W.EachIs (fun v b => ∃ as, Reads hh v b as) acc.toList (signsD x) := fun hh => EI.mono fun v b ⟨c, w, e1, e2⟩ => by subst e1 e2; exact ⟨_, .str _ _⟩
  have S := PySem.W.SortsAt.data (prog := X.prog) (w := X.w) (A := X.A.in1.in1) (s := { s' with heap := PySem.W.sortingHeap (s'.heap.push (seqObj "list" acc.toList.toArray 0)) s'.heap.objs.size acc.toList }) (ER _) (alike_strs _) (sortable_strs _) (fun d hd => by
    obtain ⟨b, _, rfl⟩ := List.mem_map.mp hd
    show X.A.units + 1 + 1 + _ < cLine
    simp [PyData.depth]
    omega)
  have SV := PySem.W.sortVals_data (h' := PySem.W.sortingHeap (s'.heap.push (seqObj "list" acc.toList.toArray 0)) s'.heap.objs.size acc.toList) (enc := id) false EI (ER _) (by rw [List.map_id]; exact alike_strs _)
  rw [List.map_id] at SV
  obtain ⟨ys, g1, g2⟩ := strs_back SV
  refine wpAny_bind (wpAny_holding (wpAny_call_entry PyProof.Rows.slot_list_sort ⟨_, hoL, rfl⟩ PyProof.Rows.entry_list_sort
    (PySem.W.list_sort_vals (s := { s' with heap := s'.heap.push (seqObj "list" acc.toList.toArray 0) }) hoL S hle ?_)
    (PyProof.Rows.args_list_sort _)))
  refine ⟨_, rfl, wpAny_pure ⟨_, rfl, ?_⟩⟩
  obtain ⟨e', he'⟩ := PyProof.Rows.sortedHeap_at (vs := acc.toList) (out := (PySem.W.sortVals (PySem.W.dataKind (PySem.W.sortingHeap (s'.heap.push (seqObj "list" acc.toList.toArray 0)) s'.heap.objs.size acc.toList) (signsD x)) false acc.toList acc.toList).toArray) hoL
  have lo : ys.length = acc.toList.length := by
    have e1 := congrArg List.length g2
    rw [(List.mergeSort_perm _ _).length_eq, List.length_map, List.length_map] at e1
    rw [← e1, hal]
  have hlen : (ys.map V.str).length ≤ sizeLine := by rw [List.length_map, lo]; exact hle
  refine ⟨.ref s'.heap.objs.size, upd H s'.heap.objs.size (.lst (ys.map V.str)), I1.laid (t' := s'.toks) (fun b u e => ?_) (Nat.le_refl _)
    (show ObjOk X.prog X.w _ _ _ (.lst (ys.map V.str)) from ⟨hlen, _, e', g1, he'⟩), rfl, q ys _ g2 (I1.hok.fresh (Nat.le_refl _))⟩
  have hb : b < s'.heap.objs.size := Heap.lt_size e
  rw [PyProof.Rows.sortedHeap_old (Nat.ne_of_lt hb) (by rw [size_push']; exact Nat.lt_succ_of_lt hb)]
  exact Heap.get?_push_of_some _ e
/-- list(x) of a text -/
def rListT : List V → Hp → VK → Prop := fun xs H Q => ∃ x, xs = [V.str x] ∧ x.cps.size ≤ sizeLine ∧ ∀ p, H p = none → Q (.ref p) (upd H p (.lst (x.cps.toList.map fun c => V.str ⟨#[c]⟩)))
theorem cr_listT {X : Cx} (hc : X.calm = true) : CallR X (.type "list") rListT := by
  intro pins s σ H vs us Q I r h
  obtain ⟨x, rfl, hz, q⟩ := h
  obtain ⟨u, eu, rx⟩ := vals1 r
  subst eu
  obtain ⟨t, rfl⟩ := rx
  refine call_list_str (I.ok.hd hc) x t (fun h' tk acc' c' hk hS hacc => ?_) hz
  have hal : acc'.toList.length = x.cps.toList.length := by rw [Array.length_toList, hacc.1, Array.length_toList]
  have EI := items_each acc'.toList x.cps.toList hal fun j v e => by
    obtain ⟨c, w, e1, e2⟩ := hacc.2 j v (by rw [← Array.getElem?_toList]; exact e)
    exact ⟨c, w, by rw [Array.getElem?_toList]; exact e1, e2⟩
  obtain ⟨ys, g1, g2⟩ := strs_back EI
  have ey : ys.map V.str = x.cps.toList.map fun c => V.str ⟨#[c]⟩ := by
    have := congrArg (List.map fun d => match d with | .str y => V.str y | _ => V.non) g2
    rw [List.map_map, List.map_map] at this
    exact this.symm
  rw [ey] at g1
  have hlen : (x.cps.toList.map fun c => V.str ⟨#[c]⟩).length ≤ sizeLine := by rw [List.length_map, Array.length_toList]; exact hz
  exact ⟨.ref s.heap.objs.size, upd H s.heap.objs.size (.lst (x.cps.toList.map fun c => V.str ⟨#[c]⟩)), I.laid (t' := tk) (fun b u e => hk b u e) (Nat.le_refl _)
    (show ObjOk X.prog X.w _ _ _ (.lst _) from ⟨hlen, acc'.toList, c', g1, hS⟩), rfl, q _ (I.hok.fresh (Nat.le_refl _))⟩
/-! ### by outcomes -/
/-- in order already: the kernel need not sort -/
def pwB : List PyData → Bool
  | [] => true
  | x :: r => r.all (fun y => PySem.W.dataLe false id x y) && pwB r
theorem pwB_ok : ∀ {l : List PyData}, pwB l = true → l.Pairwise (fun a b => PySem.W.dataLe false id a b = true)
  | [], _ => .nil
  | x :: r, h => by
    have h' : (r.all (fun y => PySem.W.dataLe false id x y) && pwB r) = true := h
    rw [Bool.and_eq_true] at h'
    exact List.pairwise_cons.mpr ⟨fun y hy => List.all_eq_true.mp h'.1 y hy, pwB_ok h'.2⟩
def srtC (ds : List PyData) : List PyData := if pwB ds = true then ds else srtD ds
theorem srtC_eq (ds : List PyData) : srtC ds = srtD ds := by
  unfold srtC
  split
  · rename_i h
    exact (List.mergeSort_of_pairwise (pwB_ok h)).symm
  · rfl
def biSortedT (vs : List PV) (h : Cells) : Out PV := match vs with
  | [.d (.str x)] => if x.cps.size ≤ sizeLine then .ok (.d (.list (srtC (signsD x)))) h else .bad
  | _ => .bad
def biListT (vs : List PV) (h : Cells) : Out PV := match vs with
  | [.d (.str x)] => if x.cps.size ≤ sizeLine then .ok (.d (.list (signsD x))) h else .bad
  | _ => .bad
theorem sign_ok {x : Str} (o : PyData.strOk x = true) {c : Nat} (hc : c ∈ x.cps.toList) : PyData.strOk ⟨#[c]⟩ = true := by
  unfold PyData.strOk at *
  rw [← Array.all_toList] at o
  have := List.all_eq_true.mp o c hc
  simpa using this
theorem bc_sortedT {K : PySem.W.Frag} {cs : List Tb} : Bc K cs rSortedT biSortedT := by
  intro m z H h vs us Q Wx hh r p
  unfold biSortedT at p
  split at p
  · rename_i x
    obtain ⟨u, rfl, r1⟩ := rep1 r
    obtain ⟨e1, o1⟩ := rep_str r1
    subst e1
    split at p
    · rename_i hz
      refine ⟨_, rfl, hz, fun ys b e hb => ?_⟩
      rw [srtC_eq, e] at p
      refine p.new hh hb _ (rep_strsN hh hb ?_)
      rw [List.all_eq_true]
      intro y hy
      have h1 : PyData.str y ∈ srtD (signsD x) := by rw [e]; exact List.mem_map.mpr ⟨y, hy, rfl⟩
      obtain ⟨c, hc, ec⟩ := List.mem_map.mp ((List.mergeSort_perm _ _).mem_iff.mp h1)
      injection ec with ec
      rw [← ec]
      exact sign_ok o1 hc
    · exact p.elim
  · exact p.elim
theorem bc_listT {K : PySem.W.Frag} {cs : List Tb} : Bc K cs rListT biListT := by
  intro m z H h vs us Q Wx hh r p
  unfold biListT at p
  split at p
  · rename_i x
    obtain ⟨u, rfl, r1⟩ := rep1 r
    obtain ⟨e1, o1⟩ := rep_str r1
    subst e1
    split at p
    · rename_i hz
      refine ⟨_, rfl, hz, fun b hb => ?_⟩
      have e2 : signsD x = (x.cps.toList.map fun c => (⟨#[c]⟩ : Str)).map PyData.str := by rw [List.map_map]; rfl
      have e3 : (x.cps.toList.map fun c => V.str ⟨#[c]⟩) = (x.cps.toList.map fun c => (⟨#[c]⟩ : Str)).map V.str := by rw [List.map_map]; rfl
      rw [e2] at p
      rw [e3]
      refine p.new hh hb _ (rep_strsN hh hb ?_)
      rw [List.all_eq_true]
      intro y hy
      obtain ⟨c, hc, ec⟩ := List.mem_map.mp hy
      rw [← ec]
      exact sign_ok o1 hc
    · exact p.elim
  · exact p.elim
end Mi

set_option Elab.async false
set_option linter.all false
set_option maxRecDepth 100000
set_option maxHeartbeats 4000000
namespace Mi
open PySem PySem.Spec PyProof.Rows L2
/-! ## lambdas: the tables, the def that calls -/
theorem lam_at {X : Cx} {tf : List (He.Defn × List (Nat × Nat))} {x : He.Defn} {pos : Pos} (G : TabsF X.K X.mg X.base tf) (i : Nat) {l : List (Nat × Nat)} (hi : tf[i]? = some (x, l)) (hc : X.env.code = .ref (He.codeOf X.K x)) (hq : qn x ++ ".<locals>.<lambda>" = X.env.qual ++ "<lambda>")
    (hp : l.contains (pos.line, pos.col) = true) : LamTab X (tf.map (tbOf X.K)) pos := by
  have hm : (x, l) ∈ tf := List.mem_of_getElem? hi
  refine ⟨_, _, hc, G.tab _ hm, tbOf X.K (x, l), List.mem_map.mpr ⟨_, hm, rfl⟩, rfl, hq, (by show (pos.line, pos.col) ∈ l; simpa using hp), fun t ht e => ?_⟩
  obtain ⟨u, hu, rfl⟩ := List.mem_map.mp ht
  have e' : (He.cT X.K u.1).2 = (He.cT X.K x).2 := e
  obtain ⟨i1, h1⟩ := List.mem_iff_getElem?.mp hu
  have a1 : (tf.map fun t => (He.cT X.K t.1).2)[i1]? = some (He.cT X.K x).2 := by rw [List.getElem?_map, h1, ← e']; rfl
  have a2 : (tf.map fun t => (He.cT X.K t.1).2)[i]? = some (He.cT X.K x).2 := by rw [List.getElem?_map, hi]; rfl
  have e3 := getElem?_inj_nodup G.inj a1 a2
  rw [e3, hi] at h1
  rw [← Option.some.inj h1]
section
variable {fa : List He.Fa} {fn : List He.DefD} {K : PySem.W.Frag} {mg : Str → Option Value}
theorem told_of (F : Fx fa fn K mg) {d : He.DefD} {x a e ret : Str} {Ng : List Str} {jj : Nat} {p1 p2 p3 p4 p5 p6 p7 p8 : Pos} (i j je : Nat) (hd : fn[i]? = some d) (he : d.at_ = (x, none)) (hn : d.name = x) (hq : d.qual = x) (h0 : d.dfl = []) (hx : fa[j]? = some (.glo x)) (hme : fa[je]? = some (.glo e)) (S : FnScope Ng [a] d.scope)
    (hb : d.body = [.Try [.Return (some (.Call (.Name a p1) [] [] p2)) p3] [.ExceptHandler (some (.Name e p4)) none [.Return (some (.Constant (.str ret) jj p5)) p6] p7] [] [] p8])
    (hN : Ng[0]? = some a) (hv : Vis d.scope a) (hge : d.scope.names.lookup e = some .globalImplicit)
    (hbind : ∀ (kV doc pm : Value) (an : Option Addr) (cdv ct : Value) (us : List Value), us.length = [a].length → bindArgs (PySem.W.fnOf d.name d.qual d.params d.body d.scope .none kV doc pm an cdv ct) ⟨us, []⟩ = pure ([a].zip us))
    (db : (x == ("__debug__" : Str)) = false := by decide +kernel) (da : (a == ("__debug__" : Str)) = false := by decide +kernel) (dc : (a == ("__classdict__" : Str)) = false := by decide +kernel) (de : (e == ("__debug__" : Str)) = false := by decide +kernel) : Told K mg x a (He.ga K x) (He.ga K e) ret := by
  obtain ⟨fd, FD⟩ := F.d.def_ i hd
  have e1 : He.fAd K d.at_ = He.ga K x := by rw [he]; rfl
  have kp := FD.kp
  rw [e1] at FD kp
  have e0 : d.dvs K = [] := by unfold He.DefD.dvs; rw [h0]; rfl
  rw [e0] at FD
  have bnd := FD.bindsN (ps := [a]) hbind
  obtain ⟨oc, od, dV, kV, doc, pm, an, cdv, ct, osl, efd, lk, hcd, _, _⟩ := FD.ex
  subst efd
  rw [hn, hq, hb] at lk bnd
  rw [hq] at hcd
  refine ⟨⟨oc, od, osl, d.params, _, d.scope, dV, kV, doc, pm, an, cdv, ct, Ng, lk, hcd, bnd, S, hN, hv, fun X hK hM q => ?_⟩, F.glo j x hx, kp, db, da, dc⟩
  have := LamX.told_gives (X := X) (Ng := Ng) (x := x) (a := a) (e := e) (q := q) (ret := ret) (sg := d.scope) (g := He.ga K x) (CS := He.ga K e) (cdg := cdv) (j := jj) (p1 := p1) (p2 := p2) (p3 := p3) (p4 := p4) (p5 := p5) (p6 := p6) (p7 := p7) (p8 := p8) hge (by rw [hM]; exact F.glo je e hme) de (fun f => by
    have hlen : 0 < Ng.length := (List.getElem?_eq_some_iff.mp hN).1
    rfl)
  rw [hK] at this
  exact this
/-- the names that are caught -/
def inS (l : List Str) (c : Str) : Bool := l.contains c
theorem catch_of (F : Fx fa fn K mg) {e : Str} {l : List Str} (h : ∀ c ∈ l, ∃ i : Nat, fa[i]? = some (He.Fa.exm c e true)) : CatchOk K (He.ga K e) (inS l) := fun c hc => by
  obtain ⟨i, hi⟩ := h c (by unfold inS at hc; simpa using hc)
  exact He.exm_ok (F.d.fact i hi)
end
end Mi
namespace Mi
open PySem PySem.Spec PyProof.Rows L2
/-- the lambdas, one by one -/
inductive AllOk (X : Cx) (cs : List Tb) (k : Nat) : List Expr → List (ME PV) → Prop
  | nil : AllOk X cs k [] []
  | cons {p : Arguments} {b : Expr} {sc : Scope} {pos : Pos} {fb : ME PV} {es : List Expr} {fs : List (ME PV)} : LamTab X cs pos → LamX.LamS X.env.scope sc → defaultsOf p X.env = ([], []) → (∀ (q : Str) (cl : List (Str × Addr)) (pm cv ctv : Value), bindArgs (PySem.W.kla_fn "<lambda>" q p b sc cl pm cv ctv) ⟨[], []⟩ = pure []) → LamEl X cs k sc b fb → AllOk X cs k es fs → AllOk X cs k (.Lambda p b sc pos :: es) (fb :: fs)
theorem AllOk.list {X : Cx} {cs : List Tb} {k : Nat} {es : List Expr} {fs : List (ME PV)} (h : AllOk X cs k es fs) : ∃ ls : List LamD, es = ls.map LamD.ex ∧ fs = ls.map LamD.fb ∧ ∀ l ∈ ls, l.Ok X cs k := by
  induction h with
  | nil => exact ⟨[], rfl, rfl, fun _ h => absurd h (by simp)⟩
  | cons a1 a2 a3 a4 a5 t ih =>
    obtain ⟨ls, e1, e2, h3⟩ := ih
    refine ⟨⟨_, _, _, _, _⟩ :: ls, by rw [e1]; rfl, by rw [e2]; rfl, fun l hl => ?_⟩
    rcases List.mem_cons.mp hl with e | hl
    · rw [e]; exact ⟨a1, a2, a3, a4, a5⟩
    · exact h3 l hl
theorem s_badsF {X : Cx} {cs : List Tb} {W : WX} {x a ret b y : Str} {g CS : Addr} {k iy ib : Nat} {catch_ : Str → Bool} {scope : Scope} {p1 p2 p3 p4 p5 p6 p7 p8 p9 p10 py pb pos c1 c2 : Pos} {j1 j2 : Nat} {es : List Expr} {fbs : List (ME PV)} {thenb rest : List Stmt} {fr : MS}
    (hx : x = x) (hr : Room (k + 2) X.A) (T : Told X.K X.mg x a g CS ret) (hcat : CatchOk X.K CS catch_) (hret : PyData.strOk ret = true) (hls : AllOk X cs k es fbs) (hc : X.calm = true) (hN : X.N.Nodup)
    (ok : BlkOk X.N X.env.scope scope [(y, iy)]) (hib : X.N[ib]? = some b) (hlb : Loc X.env.scope b) (hfb : X.fn b = true ∨ X.env.scope.names.lookup b = some .local) (hbd : (b == ("__debug__" : Str)) = false) (hbc : (b == ("__classdict__" : Str)) = false)
    (hyl : scope.names.lookup y = some .local) (hyd : (y == ("__debug__" : Str)) = false) (hyc : (y == ("__classdict__" : Str)) = false)
    (hgx : ∀ (s : Shared) (H : Hp) (C : Addr) (cl : List (Str × Addr)) (fp : List Addr), Gl (X.blk s H scope (compEnvC scope cl C X.env) fp) x)
    (hm : behindInMarks .NotEq (.Constant (.str ret) j2 c2) = false) (hm2 : behindInMarks .NotEq (.List [] p5) = false) (hlen : fbs.length ≤ 100)
    (hR : SB X cs W rest fr)
    (hs : ∀ x, foldedSetIterable (.Name b pb) X.env x = pure x := by intro _; rfl) (hsw : swapsWith (.List es p8) (some (.Name b p9)) p10.line X.env = pure false := by rfl) :
    SB X cs W (.Assign [.Name b p9] (.List es p8) p10 :: .If (.Compare (.ListComp (.Constant (.int 1) j1 c1) [⟨.Name y py, .Name b pb, [.Compare (.Call (.Name x p1) [.Name y p2] [] p3) [.NotEq] [.Constant (.str ret) j2 c2] p4], 0⟩] scope pos) [.NotEq] [.List [] p5] p6) thenb [] p7 :: rest)
      (mBads ib fbs catch_ ret fr) := by
  obtain ⟨ls, e1, e2, h⟩ := hls.list
  subst e2
  exact s_bads e1 hr T hcat hret h hc hN ok hib hlb hfb hbd hbc hyl hyd hyc hgx hm hm2 (by rw [List.length_map] at hlen; exact Nat.le_trans hlen (by decide)) hR hs hsw
end Mi
namespace Mi
open PySem PySem.Spec PyProof.Rows L2
def opIsN (k : Bool) (v w : PV) (h : Cells) : Out PV := match w with
  | .d .none => .ok (.d (.bool (if k then isNone v else !isNone v))) h
  | _ => .bad
theorem br_isN {K : PySem.W.Frag} {cs : List Tb} : Br K cs (fun x y H Q => y = V.non ∧ Q (.bl (decide (x = V.non))) H) (opIsN true) := by
  intro m z H h v w u1 u2 Q Wx hh r1 r2 p
  unfold opIsN at p
  split at p
  · have := rep_none r2
    rw [isNone_rep r1]
    exact ⟨this, p.here hh _ (rB_ _)⟩
  · exact p.elim
theorem br_notN {K : PySem.W.Frag} {cs : List Tb} : Br K cs (fun x y H Q => y = V.non ∧ Q (.bl (!decide (x = V.non))) H) (opIsN false) := by
  intro m z H h v w u1 u2 Q Wx hh r1 r2 p
  unfold opIsN at p
  split at p
  · have := rep_none r2
    rw [isNone_rep r1]
    exact ⟨this, p.here hh _ (rB_ _)⟩
  · exact p.elim
end Mi
namespace Mi
open PySem PySem.Spec PyProof.Rows L2
theorem roomE {k : Nat} {A : Around} {e e' : Env} (r : Room k (A.deeper e)) : Room k (A.deeper e') := ⟨r.hd, r.dp, r.un⟩
end Mi

set_option Elab.async false
set_option linter.all false
set_option maxRecDepth 100000
set_option maxHeartbeats 4000000
namespace Mi
open PySem PySem.Spec PyProof.Rows L2
/-! ## the end: a law's def of one script -/
def tfD (tf : List (He.Defn × List (Nat × Nat))) : List He.Defn := tf.map fun t => t.1
/-- the tables lie apart -/
def apart (tf : List (He.Defn × List (Nat × Nat))) (K : PySem.W.Frag) : Bool := decide ((tf.map fun t => (He.cT K t.1).2).Nodup)
theorem apart_ok {tf : List (He.Defn × List (Nat × Nat))} {K : PySem.W.Frag} (h : apart tf K = true) : (tf.map fun t => (He.cT K t.1).2).Nodup := of_decide_eq_true h
theorem law_end {l : PySem.W.OpenLaw} {w : World} {fa : List He.Fa} {fn : List He.DefD} {tf : List (He.Defn × List (Nat × Nat))} {mg : Str → Option Value} {h : Heap} {k n : Nat} {x : Str} {f : MF} {nm : Str} (i : Nat) {d : He.DefD} (j : Nat)
    (hfn : fn[i]? = some d) (hat : d.at_ = (nm, none)) (hfa : fa[j]? = some (.glo nm)) (h0 : d.dfl = []) (hN : h.Ns mainGlobals mg)
    (hbind : ∀ (kV doc pm : Value) (an : Option Addr) (cdv ct : Value) (us : List Value), us.length = [x].length → bindArgs (PySem.W.fnOf d.name d.qual d.params d.body d.scope .none kV doc pm an cdv ct) ⟨us, []⟩ = pure ([x].zip us))
    (Y : ∃ K : PySem.W.Frag, K.In h ∧ He.SaysX fa fn [] (tfD tf) (apart tf) w h K)
    (D : ∀ (K : PySem.W.Frag) (base : Heap), Fx fa fn K mg → TabsF K mg base tf → ∀ fd, FunD K d.name d.qual d.params d.body d.scope (d.dvs K) (d.kws K) (He.ga K nm) fd → FnOk l.prog w K mg base (L2.CX l.prog w) k (He.ga K nm) fd [x] (spF K (tf.map (tbOf K)) 1 f))
    (T : ∀ ns : List Int, ns.length ≤ n → ∃ h', f [.sc ns] [] = .ok (.d (.bool true)) h') :
    ∀ fad, mg nm = some (.ref fad) → ∃ K : PySem.W.Frag, K.In h ∧ LamX.LawAtS l w K (L2.CX l.prog w) k n x mg fad h := by
  intro fad hm
  obtain ⟨K, KX, c⟩ := Y
  have F : Fx fa fn K mg := fx_of KX hN c.t.d
  have e0 : fad = He.ga K nm := by
    have := F.glo j nm hfa
    rw [hm] at this
    injection (Option.some.inj this)
  subst e0
  obtain ⟨fd, FD⟩ := F.d.def_ i hfn
  have e1 : He.fAd K d.at_ = He.ga K nm := by rw [hat]; rfl
  rw [e1] at FD
  have FD0 := FD
  have ed : d.dvs K = [] := by unfold He.DefD.dvs; rw [h0]; rfl
  rw [ed] at FD
  have lk0 : ∃ oc od osl, K.lookup (He.ga K nm) = some ⟨oc, od, .func fd, osl⟩ := by
    obtain ⟨oc, od, dV, kV, doc, pm, an, cdv, ct, osl, efd, lk, _⟩ := FD.ex
    exact ⟨oc, od, osl, lk⟩
  refine ⟨K, KX, fd, (tfD tf).map (He.cT K), spF K (tf.map (tbOf K)) 1 f, ?_, ?_, ?_, ?_, ?_, ?_⟩
  · intro p hp
    obtain ⟨q, hq, rfl⟩ := List.mem_map.mp hp
    exact c.empty q hq
  · intro p hp
    obtain ⟨q, hq, rfl⟩ := List.mem_map.mp hp
    exact c.out q hq
  · intro p hp
    obtain ⟨q, hq, rfl⟩ := List.mem_map.mp hp
    exact PySem.W.codeHd_of_K KX (c.hd q hq)
  · intro s u
    exact FD.bindsA (ps := [x]) hbind s [u] rfl
  · intro H a ns hl _ hT hS
    refine ⟨rfl, [], [], [], [.sc ns], .cons (.sc (SqL.vw hS fun b o e nt => fz_of (by simp) (by simp) e)) .nil, ?_, ?_⟩
    · refine ⟨rfl, List.nodup_nil, fun b hb => absurd hb (by simp), fun b hb => absurd hb (by simp), fun i o b hi => absurd hi (by simp), fun t ht => ?_, fun t ht => by simp⟩
      obtain ⟨u, hu, rfl⟩ := List.mem_map.mp ht
      refine ⟨#[], hT _ (List.mem_map.mpr ⟨u.1, List.mem_map.mpr ⟨u, hu, rfl⟩, rfl⟩), ?_, fun pos cv _ hc => ?_⟩
      · exact trivial
      · cases hc
    · obtain ⟨h', e⟩ := T ns hl
      rw [e]
      exact fun m' H' _ _ v r => rep_bool r
  · intro base KB _ hTB
    have TB : TabsF K mg base tf := ⟨fun t ht => hTB _ (List.mem_map.mpr ⟨t.1, List.mem_map.mpr ⟨t, ht, rfl⟩, rfl⟩), apart_ok c.more⟩
    exact D K base F TB fd FD0
end Mi

set_option Elab.async false
set_option linter.all false
set_option maxRecDepth 100000
set_option maxHeartbeats 4000000
namespace Mi
open PySem PySem.Spec PyProof.Rows L2
/-! ### sum of a list or a tuple of ints -/
theorem sum_tupG {prog : Program} {w : World} {A : Around} {E : Value → Shared → Prop} {s : Shared} {l : Addr} {xs : Array (Int × Tok)} {Q : Value → Shared → Prop} (hh : A.handled = none) (hl : s.heap.IsTuple l (intItems xs))
    (h : ∀ h' tk t', (∀ b o, s.heap.get? b = some o → h'.get? b = some o) → Q (.int (preSum (numAt xs) xs.size) t') { s with heap := h', toks := tk }) :
    wpAny (model prog w) A (call (.builtin "sum") [.ref l]) Q E s := by
  have hlt : l < s.heap.objs.size := by obtain ⟨_, e, _⟩ := hl; exact Heap.lt_size e
  refine call_sum_walkG (wpAny_pyIter_tuple hl ?_)
  refine ⟨_, _, _, _, _, _, numAt xs, rfl, Walks.tuple (A := A.in1) hh _ l (Nat.ne_of_lt hlt) (intItems xs), ⟨⟨_, Heap.get?_push_size _ rfl, rfl, rfl⟩, hl.push _⟩, fun b hb => ?_, (fun _ _ => intItems_at), fun h' tk t' hk => ?_⟩
  · show b < (s.heap.push _).objs.size
    rw [Heap.size_push]
    rcases List.mem_cons.mp hb with rfl | hb
    · exact Nat.lt_succ_self _
    · rcases List.mem_cons.mp hb with rfl | hb
      · exact Nat.lt_succ_of_lt hlt
      · cases hb
  · have := h h' tk t' fun b o e => hk b o (fun hm => by
      rw [List.mem_singleton.mp hm] at e
      exact absurd (Heap.lt_size e) (Nat.lt_irrefl _)) (Heap.get?_push_of_some _ e)
    simpa [intItems] using this
def rSumT (K : PySem.W.Frag) : List V → Hp → VK → Prop := fun vs H Q => ∃ (a : Addr) (ns : List Int), vs = [V.ref a] ∧ SqT K H a (ns.map V.int) ∧ Q (.int ns.sum) H
theorem cr_sumT {X : Cx} (hc : X.calm = true) : CallR X (.builtin "sum") (rSumT X.K) := by
  intro pins s σ H vs us Q I r h
  obtain ⟨a, ns, rfl, hs, q⟩ := h
  obtain ⟨its, rv, hl, _⟩ := I.tuple hs
  rw [Vals.ref1 r]
  have hi := rv.ints
  obtain ⟨xs, e⟩ := hi.allInts.items
  have hn : numsOf (intItems xs).toList = ns := by rw [← e]; exact hi.numsOf
  rw [nums_intItems] at hn
  rw [e] at hl
  refine sum_tupG (I.ok.hd hc) hl fun h' tk t' hk => ?_
  rw [preSum_eq, List.take_of_length_le (by simp), hn]
  exact ⟨.int _, H, I.kept hk, ⟨_, rfl⟩, q⟩
def biSumA (vs : List PV) (h : Cells) : Out PV := match vs with
  | [v] => match asL v h with
    | some xs => match asInts xs with
      | some ns => .ok (.d (.int ns.sum)) h
      | none => .bad
    | none => match asT v with
      | some xs => match asInts xs with
        | some ns => .ok (.d (.int ns.sum)) h
        | none => .bad
      | none => .bad
  | _ => .bad
theorem cr_sumA {X : Cx} (hc : X.calm = true) : CallR X (.builtin "sum") (fun xs H Q => rSum X.K xs H Q ∨ rSumT X.K xs H Q) := CallR.or (cr_sum hc) (cr_sumT hc)
theorem bc_sumA {K : PySem.W.Frag} {cs : List Tb} : Bc K cs (fun xs H Q => rSum K xs H Q ∨ rSumT K xs H Q) biSumA := by
  intro m z H h vs us Q Wx hh r p
  unfold biSumA at p
  split at p
  · obtain ⟨u, rfl, r1⟩ := rep1 r
    split at p
    · rename_i xs ex
      split at p
      · rename_i ns en
        obtain ⟨a, ws, rfl, hl, ra⟩ := asL_rep hh r1 ex
        have := asInts_rep ra en
        subst this
        exact .inl ⟨a, ns, rfl, .inl (.inl hl), p.here hh _ (rI_ _)⟩
      · exact p.elim
    · split at p
      · rename_i xs ex
        split at p
        · rename_i ns en
          obtain ⟨a, ws, rfl, hl, ra⟩ := asT_rep r1 ex
          have := asInts_rep ra en
          subst this
          exact .inr ⟨a, ns, rfl, SqT.top hl, p.here hh _ (rI_ _)⟩
        · exact p.elim
      · exact p.elim
  · exact p.elim
end Mi

set_option Elab.async false
set_option linter.all false
set_option maxRecDepth 100000
set_option maxHeartbeats 4000000
namespace Mi
open PySem PySem.Spec PyProof.Rows L2

/-! ## what a call left behind and nobody sees is dropped -/
def wfB (h : Cells) : Bool := h.all fun o => AO.bd h.length o
def trim (f : MF) : MF := fun pvs hc => match f pvs hc with
  | .ok v h => if decide (hc.length ≤ h.length) && wfB (h.take hc.length) && v.bd hc.length then .ok v (h.take hc.length) else .ok v h
  | .ex c h => if decide (hc.length ≤ h.length) && wfB (h.take hc.length) then .ex c (h.take hc.length) else .ex c h
  | .bad => .bad
theorem wfB_all {h : Cells} (w : wfB h = true) : ∀ o ∈ h, AO.bd h.length o = true := List.all_eq_true.mp w
theorem trim_sim (f : MF) {np : Nat} : ∀ (pvs : List PV) (hc : Cells), pvs.length = np → WfH hc → bds hc.length pvs = true → Sim hc.length (f pvs hc) (trim f pvs hc) := fun pvs hc _ _ _ => by
  unfold trim
  split
  · rename_i v h e
    rw [e]
    split
    · rename_i q
      simp only [Bool.and_eq_true, decide_eq_true_eq] at q
      have hl : (h.take hc.length).length = hc.length := by rw [List.length_take]; omega
      have s : Sim hc.length (.ok v (h.take hc.length ++ h.drop hc.length)) (.ok v (h.take hc.length)) := .drop (by omega) (wfB_all q.1.2) (by rw [hl]; exact q.2)
      rwa [List.take_append_drop] at s
    · exact .same
  · rename_i c h e
    rw [e]
    split
    · rename_i q
      simp only [Bool.and_eq_true, decide_eq_true_eq] at q
      have hl : (h.take hc.length).length = hc.length := by rw [List.length_take]; omega
      have s : Sim hc.length (.ex c (h.take hc.length ++ h.drop hc.length)) (.ex c (h.take hc.length)) := .exd (by omega) (wfB_all q.2)
      rwa [List.take_append_drop] at s
    · exact .same
  · rename_i e
    rw [e]
    exact .same
theorem trim_ok {f : MF} {pvs : List PV} {h g : Cells} {v : PV} (e : f pvs h = .ok v (h ++ g)) (w : wfB h = true) (b : v.bd h.length = true) : trim f pvs h = .ok v h := by
  unfold trim; rw [e]; simp [w, b]
theorem trim_ex {f : MF} {pvs : List PV} {h g : Cells} {c : Str} (e : f pvs h = .ex c (h ++ g)) (w : wfB h = true) : trim f pvs h = .ex c h := by
  unfold trim; rw [e]; simp [w]
theorem trim_same {f : MF} {pvs : List PV} {h h' : Cells} {v : PV} (e : f pvs h = .ok v h') (l : h'.length = h.length) : trim f pvs h = .ok v h' := by
  unfold trim; rw [e]; simp [← l]
theorem trim_sameX {f : MF} {pvs : List PV} {h h' : Cells} {c : Str} (e : f pvs h = .ex c h') (l : h'.length = h.length) : trim f pvs h = .ex c h' := by
  unfold trim; rw [e]; simp [← l]
/-- cells may have changed, new ones are dropped -/
theorem trim_chg {f : MF} {pvs : List PV} {h h1 g : Cells} {v : PV} (e : f pvs h = .ok v (h1 ++ g)) (l : h1.length = h.length) (w : wfB h1 = true) (b : v.bd h.length = true) : trim f pvs h = .ok v h1 := by
  unfold trim; rw [e]; simp [w, b, ← l]
  rw [l] ; simp [b]

/-! ## a call that is handed data alone sees no cell: it may be reckoned with none -/
def iso (g : MF) : MF := fun ps h => if bds 0 ps then (match g ps [] with
  | .ok v _ => if v.bd 0 then .ok v h else g ps h
  | .ex c _ => .ex c h
  | .bad => g ps h) else g ps h
theorem fz_all {m z : List Addr} {H : Hp} : fz [] (m ++ z) H = fz m z H := by
  funext a
  unfold fz
  by_cases h : a ∈ m ∨ a ∈ z
  · rw [if_pos h, if_pos (.inr (List.mem_append.mpr h))]
  · rw [if_neg h, if_neg (fun q => q.elim (fun x => absurd x (by simp)) (fun x => h (List.mem_append.mp x)))]
mutual
theorem Rep.hide {K : PySem.W.Frag} {m z m' z' : List Addr} {H H' : Hp} (w : Vw (fz m z H) (fz m' z' H')) : ∀ {x : PV} {v : V}, Rep K m z H x v → x.bd 0 = true → Rep K m' z' H' x v
  | _, _, .d h c, _ => .d (DD.vw w h) c
  | _, _, .r h, b => by simp [PV.bd] at b
  | _, _, .ls h t, b => .ls (w _ _ h noTb_lst) (Rep.hideAll w t (by simpa [PV.bd] using b))
  | _, _, .tp h t, b => .tp (SqT.vw h w) (Rep.hideAll w t (by simpa [PV.bd] using b))
  | _, _, .sc h, _ => .sc (SqL.vw h w)
theorem Rep.hideAll {K : PySem.W.Frag} {m z m' z' : List Addr} {H H' : Hp} (w : Vw (fz m z H) (fz m' z' H')) : ∀ {x : List PV} {v : List V}, RepAll K m z H x v → bds 0 x = true → RepAll K m' z' H' x v
  | _, _, .nil, _ => .nil
  | _, _, .cons h t, b => by
    simp only [bds, Bool.and_eq_true] at b
    exact .cons (Rep.hide w h b.1) (Rep.hideAll w t b.2)
end
theorem ORep.noTb {K : PySem.W.Frag} {m z : List Addr} {H : Hp} {a : Addr} {o : AO} (r : ORep K m z H a o) : ∃ u, H a = some u ∧ NoTb u := by
  cases o with
  | lst xs => obtain ⟨vs, h1, _⟩ := r; exact ⟨_, h1, fun _ q => by cases q⟩
  | dk xs => obtain ⟨vs, h1, _⟩ := r; exact ⟨_, h1, fun _ q => by cases q⟩
  | dt xs => obtain ⟨vs, h1, _⟩ := r; exact ⟨_, h1, fun _ q => by cases q⟩
  | ins c xs => obtain ⟨_, vs, h1, _⟩ := r; exact ⟨_, h1, fun _ q => by cases q⟩
section
variable {K : PySem.W.Frag} {cs : List Tb} {m z m1 : List Addr} {h h1 : Cells} {H H1 : Hp}
theorem HRel.alone (r : HRel K cs m z h H) : HRel K cs [] (m ++ z) [] H where
  len := rfl
  nd := by simp
  dz := fun a q => by simp at q
  lv := fun a q => r.lv a (q.elim (fun x => by simp at x) List.mem_append.mp)
  obj := fun n o a q => by simp at q
  tb := r.tb
  tm := fun t _ q => by simp at q
theorem Nx.back (n : Nx [] (m ++ z) H m1 H1) : Nx m z H m H1 := ⟨⟨[], by simp, fun _ h => absurd h (by simp)⟩, fun a o _ e t => n.kp a o (by simp) e t, n.lv⟩
theorem HRel.back (r : HRel K cs m z h H) (n : Nx [] (m ++ z) H m1 H1) (r1 : HRel K cs m1 (m ++ z) h1 H1) : HRel K cs m z h H1 where
  len := r.len
  nd := r.nd
  dz := r.dz
  lv := fun a q => n.lv a (r.lv a q)
  obj := fun k o a e1 e2 => by
    have o1 := r.obj k o a e1 e2
    obtain ⟨u, e, t⟩ := o1.noTb
    exact o1.nx n.back ((n.kp a u (by simp) e t).trans e.symm)
  tb := r1.tb
  tm := r.tm
theorem vw_back (n : Nx [] (m ++ z) H m1 H1) : Vw (fz m1 (m ++ z) H1) (fz m z H1) := fun a o e _ => by
  obtain ⟨_, q2, q3⟩ := fz_some e
  exact fz_of (fun x => q2 (List.mem_append.mpr (.inl x))) (fun x => q2 (List.mem_append.mpr (.inr x))) q3
end
theorem fn_iso {P : Program} {w : World} {K : PySem.W.Frag} {mg : Str → Option Value} {base : Heap} {CX : CXT} {k : Nat} {f : Addr} {fd : FuncData} {ps : List Str} {cs : List Tb} {np : Nat} {g : MF} (F : FnOk P w K mg base CX k f fd ps (spF K cs np g)) :
    FnOk P w K mg base CX k f fd ps (spF K cs np (iso g)) :=
  F.imp fun vs H Q E ⟨hl, m, z, hc, pvs, r, hh, p⟩ => by
    have dflt : iso g pvs hc = g pvs hc → spF K cs np g vs H Q E := fun e => ⟨hl, m, z, hc, pvs, r, hh, by rw [← e]; exact p⟩
    by_cases b : bds 0 pvs = true
    · have w : Vw (fz m z H) (fz [] (m ++ z) H) := by rw [fz_all]; exact Vw.refl _
      cases e : g pvs [] with
      | bad => exact dflt (by unfold iso; rw [if_pos b, e])
      | ex c h1 =>
        have ei : iso g pvs hc = .ex c hc := by unfold iso; rw [if_pos b, e]
        rw [ei] at p
        refine ⟨hl, [], m ++ z, [], pvs, Rep.hideAll w r b, hh.alone, ?_⟩
        rw [e]
        exact fun m1 H1 n r1 => p m H1 n.back (hh.back n r1)
      | ok v h1 =>
        by_cases q : v.bd 0 = true
        · have ei : iso g pvs hc = .ok v hc := by unfold iso; rw [if_pos b, e]; simp only [q, if_true]
          rw [ei] at p
          refine ⟨hl, [], m ++ z, [], pvs, Rep.hideAll w r b, hh.alone, ?_⟩
          rw [e]
          exact fun m1 H1 n r1 u ru => p m H1 n.back (hh.back n r1) u (Rep.hide (vw_back n) ru q)
        · exact dflt (by unfold iso; rw [if_pos b, e]; simp only [q]; rfl)
    · exact dflt (by unfold iso; rw [if_neg b])
theorem DefOk.iso {P : Program} {w : World} {K : PySem.W.Frag} {mg : Str → Option Value} {base : Heap} {cs : List Tb} {k : Nat} {x : Str} {np : Nat} {dp : List PV} {f : MF} (D : DefOk P w K mg base cs k x np dp f) : DefOk P w K mg base cs k x np dp (Mi.iso f) := by
  obtain ⟨fd, ps, ds, dvs, F, e, b, v, r⟩ := D.ex
  exact ⟨⟨fd, ps, ds, dvs, fn_iso F, e, b, v, r⟩, D.hm, D.hk⟩
theorem iso_ok {g : MF} {ps : List PV} {h h1 : Cells} {v : PV} (b : bds 0 ps = true) (e : g ps [] = .ok v h1) (q : v.bd 0 = true) : iso g ps h = .ok v h := by unfold iso; rw [if_pos b, e]; simp only [q, if_true]
theorem iso_ex {g : MF} {ps : List PV} {h h1 : Cells} {c : Str} (b : bds 0 ps = true) (e : g ps [] = .ex c h1) : iso g ps h = .ex c h := by unfold iso; rw [if_pos b, e]

/-! ## short names -/
abbrev pI (i : Int) : PV := .d (.int i)
abbrev pB (b : Bool) : PV := .d (.bool b)
abbrev pS (x : Str) : PV := .d (.str x)
abbrev pN : PV := .d .none
abbrev pL (ds : List PyData) : PV := .d (.list ds)
abbrev pT (ds : List PyData) : PV := .d (.tuple ds)
abbrev pIs (l : List Int) : List PyData := l.map .int
abbrev nI (n : Nat) : PV := pI (n : Int)
/-- a list or a tuple of data -/
def pQ (t : Bool) (ds : List PyData) : PV := if t then pT ds else pL ds

/-! ## terms, evaluated -/
section
variable {α β : Type}
@[simp] theorem bind_ok (a : α) (h : Cells) (g : α → Cells → Out β) : (Out.ok a h).bind g = g a h := rfl
@[simp] theorem bind_ex (c : Str) (h : Cells) (g : α → Cells → Out β) : (Out.ex c h : Out α).bind g = .ex c h := rfl
@[simp] theorem toS_ok (a : α) (h : Cells) (g : α → Cells → OS) : (Out.ok a h).toS g = g a h := rfl
@[simp] theorem toS_ex (c : Str) (h : Cells) (g : α → Cells → OS) : (Out.ex c h : Out α).toS g = .ex c h := rfl
@[simp] theorem calm_ok (a : α) (h : Cells) (g : α → Cells → Out β) : (Out.ok a h).calm g = g a h := rfl
theorem mV_at {i : Nat} {e : Sl} {p : PV} (q : e[i]? = some (some p)) (h : Cells) : mV i e h = .ok p h := by unfold mV; rw [q]
@[simp] theorem mV_0 (p : PV) (r : Sl) (h : Cells) : mV 0 (some p :: r) h = .ok p h := rfl
@[simp] theorem mV_1 (a : Option PV) (p : PV) (r : Sl) (h : Cells) : mV 1 (a :: some p :: r) h = .ok p h := rfl
@[simp] theorem mV_2 (a b : Option PV) (p : PV) (r : Sl) (h : Cells) : mV 2 (a :: b :: some p :: r) h = .ok p h := rfl
@[simp] theorem mV_3 (a b c : Option PV) (p : PV) (r : Sl) (h : Cells) : mV 3 (a :: b :: c :: some p :: r) h = .ok p h := rfl
@[simp] theorem mV_4 (a b c d : Option PV) (p : PV) (r : Sl) (h : Cells) : mV 4 (a :: b :: c :: d :: some p :: r) h = .ok p h := rfl
@[simp] theorem mV_5 (a b c d f : Option PV) (p : PV) (r : Sl) (h : Cells) : mV 5 (a :: b :: c :: d :: f :: some p :: r) h = .ok p h := rfl
@[simp] theorem mV_6 (a b c d f i : Option PV) (p : PV) (r : Sl) (h : Cells) : mV 6 (a :: b :: c :: d :: f :: i :: some p :: r) h = .ok p h := rfl
@[simp] theorem mV_7 (a b c d f i j : Option PV) (p : PV) (r : Sl) (h : Cells) : mV 7 (a :: b :: c :: d :: f :: i :: j :: some p :: r) h = .ok p h := rfl
@[simp] theorem mV_8 (a b c d f i j k : Option PV) (p : PV) (r : Sl) (h : Cells) : mV 8 (a :: b :: c :: d :: f :: i :: j :: k :: some p :: r) h = .ok p h := rfl
@[simp] theorem mK_eq (p : PV) (e : Sl) (h : Cells) : mK p e h = .ok p h := rfl
@[simp] theorem mBin_eq (g : PV → PV → Cells → Out PV) (a b : ME PV) (e : Sl) (h : Cells) : mBin g a b e h = (a e h).bind fun v h1 => (b e h1).bind fun w h2 => g v w h2 := rfl
@[simp] theorem mTb_eq (f : ME PV) (e : Sl) (h : Cells) : mTb f e h = (f e h).bind fun v h1 => match v with
  | .d (.bool b) => .ok b h1
  | _ => .bad := rfl
@[simp] theorem mNot_eq (f : ME Bool) (e : Sl) (h : Cells) : mNot f e h = (f e h).bind fun b h1 => .ok (!b) h1 := rfl
@[simp] theorem mAnd_eq (f g : ME Bool) (e : Sl) (h : Cells) : mAnd f g e h = (f e h).bind fun b h1 => if b then g e h1 else .ok false h1 := rfl
@[simp] theorem mOr_eq (f g : ME Bool) (e : Sl) (h : Cells) : mOr f g e h = (f e h).bind fun b h1 => if b then .ok true h1 else g e h1 := rfl
@[simp] theorem mAndV_eq (f g : ME PV) (e : Sl) (h : Cells) : mAndV f g e h = (mTb f e h).bind fun b h1 => if b then g e h1 else .ok (.d (.bool false)) h1 := rfl
@[simp] theorem mOrV_eq (f g : ME PV) (e : Sl) (h : Cells) : mOrV f g e h = (mTb f e h).bind fun b h1 => if b then .ok (.d (.bool true)) h1 else g e h1 := rfl
@[simp] theorem mNotV_eq (f : ME PV) (e : Sl) (h : Cells) : mNotV f e h = (mTb f e h).bind fun b h1 => .ok (.d (.bool !b)) h1 := rfl
@[simp] theorem mIfE_eq (c : ME Bool) (f g : ME PV) (e : Sl) (h : Cells) : mIfE c f g e h = (c e h).bind fun b h1 => if b then f e h1 else g e h1 := rfl
@[simp] theorem aNil_eq (e : Sl) (h : Cells) : aNil e h = .ok [] h := rfl
@[simp] theorem aCons_eq (f : ME PV) (g : ME (List PV)) (e : Sl) (h : Cells) : aCons f g e h = (f e h).bind fun v h1 => (g e h1).bind fun vs h2 => .ok (v :: vs) h2 := rfl
@[simp] theorem mChain_eq (g1 g2 : PV → PV → Cells → Out PV) (a b c : ME PV) (e : Sl) (h : Cells) : mChain g1 g2 a b c e h = (a e h).bind fun v h1 => (b e h1).bind fun w h2 => (g1 v w h2).bind fun q h3 => match q with
  | .d (.bool true) => (c e h3).bind fun x h4 => g2 w x h4
  | .d (.bool false) => .ok q h3
  | _ => .bad := rfl
@[simp] theorem mNeg_eq (f : ME PV) (e : Sl) (h : Cells) : mNeg f e h = (f e h).bind fun v h1 => match v with
  | .d (.int i) => .ok (.d (.int (-i))) h1
  | _ => .bad := rfl
@[simp] theorem mTup_eq (g : ME (List PV)) (e : Sl) (h : Cells) : mTup g e h = (g e h).bind fun vs h1 => if vs.length ≤ sizeLine then .ok (mkT vs) h1 else .bad := rfl
@[simp] theorem mLst_eq (g : ME (List PV)) (e : Sl) (h : Cells) : mLst g e h = (g e h).bind fun vs h1 => if vs.length ≤ sizeLine then .ok (mkL vs) h1 else .bad := rfl
@[simp] theorem mCell_eq (g : ME (List PV)) (e : Sl) (h : Cells) : mCell g e h = (g e h).bind fun vs h1 => if vs.length ≤ sizeLine then .ok (.r h1.length) (h1 ++ [.lst vs]) else .bad := rfl
@[simp] theorem mCall_eq (g : List PV → Cells → Out PV) (f : ME (List PV)) (e : Sl) (h : Cells) : mCall g f e h = (f e h).bind g := rfl
@[simp] theorem mCallD_eq (g : MF) (dp : List PV) (f : ME (List PV)) (e : Sl) (h : Cells) : mCallD g dp f e h = (f e h).bind fun vs h1 => g (vs ++ dp) h1 := rfl
@[simp] theorem mCall0_eq (g : MF) (dp : List PV) (e : Sl) (h : Cells) : mCall0 g dp e h = g dp h := rfl
@[simp] theorem oNo_eq (e : Sl) (h : Cells) : oNo e h = .ok none h := rfl
@[simp] theorem oSo_eq (f : ME PV) (e : Sl) (h : Cells) : oSo f e h = (f e h).bind fun v h1 => match v with
  | .d (.int i) => .ok (some i) h1
  | _ => .bad := rfl
@[simp] theorem mSl_eq (f : ME PV) (g1 g2 : ME (Option Int)) (e : Sl) (h : Cells) : mSl f g1 g2 e h = (f e h).bind fun v h1 => (g1 e h1).bind fun lo h2 => (g2 e h2).bind fun hi h3 => opSl v lo hi h3 := rfl
@[simp] theorem mMeth_eq (ty : PV → Cells → Bool) (g : PV → List PV → Cells → Out PV) (fo : ME PV) (fa : ME (List PV)) (e : Sl) (h : Cells) : mMeth ty g fo fa e h = (fo e h).bind fun v h1 => if ty v h1 then (fa e h1).bind fun vs h2 => g v vs h2 else .bad := rfl
@[simp] theorem mSkip_eq (e : Sl) (h : Cells) : mSkip e h = .nx e h := rfl
theorem mSeq_eq (f g : MS) (e : Sl) (h : Cells) : mSeq f g e h = match f e h with
  | .nx e1 h1 => g e1 h1
  | o => o := rfl
@[simp] theorem mExp_eq (f : ME PV) (e : Sl) (h : Cells) : mExp f e h = (f e h).toS fun _ h1 => .nx e h1 := rfl
@[simp] theorem mRet_eq (f : ME PV) (e : Sl) (h : Cells) : mRet f e h = (f e h).toS fun v h1 => .rt v h1 := rfl
@[simp] theorem mIf_eq (c : ME Bool) (f g : MS) (e : Sl) (h : Cells) : mIf c f g e h = (c e h).toS fun b h1 => if b then f e h1 else g e h1 := rfl
@[simp] theorem mRaise_eq (c : Str) (e : Sl) (h : Cells) : mRaise c e h = .ex c h := rfl
@[simp] theorem gN_eq (i : Nat) (v : PV) (e : Sl) (h : Cells) : gN i v e h = some (e.set i (some v), h) := rfl
@[simp] theorem gsNil_eq (e : Sl) (h : Cells) : gsNil [] e h = some (e, h) := rfl
@[simp] theorem gsCons_eq (f : MG) (g : MGs) (v : PV) (r : List PV) (e : Sl) (h : Cells) : gsCons f g (v :: r) e h = match f v e h with
  | some (e1, h1) => g r e1 h1
  | none => none := rfl
@[simp] theorem mAsg_eq (f : ME PV) (g : MG) (e : Sl) (h : Cells) : mAsg f g e h = (f e h).toS fun v h1 => match g v e h1 with
  | some (e2, h2) => .nx e2 h2
  | none => .bad := rfl
@[simp] theorem mPar_eq (i j : Nat) (f : ME (List PV)) (e : Sl) (h : Cells) : mPar i j f e h = (f e h).toS fun vs h1 => match vs with
  | [v, w] => .nx ((e.set i (some v)).set j (some w)) h1
  | _ => .bad := rfl
@[simp] theorem mPar3_eq (i j l : Nat) (f : ME (List PV)) (e : Sl) (h : Cells) : mPar3 i j l f e h = (f e h).toS fun vs h1 => match vs with
  | [v, w, x] => .nx (((e.set i (some v)).set j (some w)).set l (some x)) h1
  | _ => .bad := rfl
@[simp] theorem mAug_0 (g : PV → PV → Cells → Out PV) (f : ME PV) (v : PV) (r : Sl) (h : Cells) : mAug 0 g f (some v :: r) h = (f (some v :: r) h).toS fun w h1 => (g v w h1).toS fun x h2 => .nx (some x :: r) h2 := rfl
theorem mAug_at {i : Nat} {g : PV → PV → Cells → Out PV} {f : ME PV} {e : Sl} {v : PV} (q : e[i]? = some (some v)) (h : Cells) : mAug i g f e h = (f e h).toS fun w h1 => (g v w h1).toS fun x h2 => .nx (e.set i (some x)) h2 := by unfold mAug; rw [q]
@[simp] theorem mAug_1 (g : PV → PV → Cells → Out PV) (f : ME PV) (a : Option PV) (v : PV) (r : Sl) (h : Cells) : mAug 1 g f (a :: some v :: r) h = (f (a :: some v :: r) h).toS fun w h1 => (g v w h1).toS fun x h2 => .nx (a :: some x :: r) h2 := rfl
@[simp] theorem mAug_2 (g : PV → PV → Cells → Out PV) (f : ME PV) (a b : Option PV) (v : PV) (r : Sl) (h : Cells) : mAug 2 g f (a :: b :: some v :: r) h = (f (a :: b :: some v :: r) h).toS fun w h1 => (g v w h1).toS fun x h2 => .nx (a :: b :: some x :: r) h2 := rfl
@[simp] theorem mAug_3 (g : PV → PV → Cells → Out PV) (f : ME PV) (a b c : Option PV) (v : PV) (r : Sl) (h : Cells) : mAug 3 g f (a :: b :: c :: some v :: r) h = (f (a :: b :: c :: some v :: r) h).toS fun w h1 => (g v w h1).toS fun x h2 => .nx (a :: b :: c :: some x :: r) h2 := rfl
@[simp] theorem mAug_4 (g : PV → PV → Cells → Out PV) (f : ME PV) (a b c d : Option PV) (v : PV) (r : Sl) (h : Cells) : mAug 4 g f (a :: b :: c :: d :: some v :: r) h = (f (a :: b :: c :: d :: some v :: r) h).toS fun w h1 => (g v w h1).toS fun x h2 => .nx (a :: b :: c :: d :: some x :: r) h2 := rfl
theorem mWh_succ (c : ME Bool) (b : MS) (n : Nat) (e : Sl) (h : Cells) : mWh c b (n + 1) e h = (c e h).toS fun k h1 => if k then (match b e h1 with
      | .nx e2 h2 => mWh c b n e2 h2
      | .ct e2 h2 => mWh c b n e2 h2
      | .bk e2 h2 => .nx e2 h2
      | o => o) else .nx e h1 := by
  first
  | rfl
  | (
      conv => lhs; unfold mWh
      cases c e h with
      | ok k h1 =>
        cases k with
        | false => rfl
        | true =>
          simp only [Out.toS, if_true]
          cases b e h1 <;> rfl
      | ex _ _ => rfl
      | bad => rfl
    )
theorem wh_stop {c : ME Bool} {b : MS} {n : Nat} {e : Sl} {h h1 : Cells} (q : c e h = .ok false h1) (hn : 0 < n) : mWh c b n e h = .nx e h1 := by
  obtain ⟨n, rfl⟩ : ∃ m, n = m + 1 := ⟨n - 1, by omega⟩
  rw [mWh_succ, q]; rfl
theorem wh_turn {c : ME Bool} {b : MS} {n : Nat} {e e2 : Sl} {h h1 h2 : Cells} (q : c e h = .ok true h1) (p : b e h1 = .nx e2 h2) : mWh c b (n + 1) e h = mWh c b n e2 h2 := by
  rw [mWh_succ, q]; simp only [toS_ok, if_true]; rw [p]

/-! ## operations on values -/
@[simp] theorem vadd (i j : Int) (h : Cells) : opAdd (pI i) (pI j) h = .ok (pI (i + j)) h := rfl
@[simp] theorem vsub (i j : Int) (h : Cells) : opSub (pI i) (pI j) h = .ok (pI (i - j)) h := rfl
@[simp] theorem viadd (i j : Int) (h : Cells) : iadd (pI i) (pI j) h = .ok (pI (i + j)) h := rfl
theorem vmul (i j : Int) (h : Cells) (q : mulOk i j = true) : opMul (pI i) (pI j) h = .ok (pI (i * j)) h := by simp [opMul, q]
theorem vimul (i j : Int) (h : Cells) (q : mulOk i j = true) : imul (pI i) (pI j) h = .ok (pI (i * j)) h := by simp [imul, q]
theorem mulOk_r {i j : Int} (a : -18446744073709551616 < j) (b : j < 18446744073709551616) : mulOk i j = true := by simp [mulOk]; omega
theorem mulOk_l {i j : Int} (a : -18446744073709551616 < i) (b : i < 18446744073709551616) : mulOk i j = true := by simp [mulOk]; omega
theorem vdiv (i j : Int) (h : Cells) (a : 0 < j) (b : j < 18446744073709551616) : opDiv (pI i) (pI j) h = .ok (pI (i / j)) h := by simp [opDiv, a]; omega
theorem vmod (i j : Int) (h : Cells) (a : 0 < j) : opMod (pI i) (pI j) h = .ok (pI (i % j)) h := by simp [opMod, a]
@[simp] theorem vlt (i j : Int) (h : Cells) : oLt (pI i) (pI j) h = .ok (pB (decide (i < j))) h := rfl
@[simp] theorem vgt (i j : Int) (h : Cells) : oGt (pI i) (pI j) h = .ok (pB (decide (j < i))) h := rfl
@[simp] theorem vle (i j : Int) (h : Cells) : oLe (pI i) (pI j) h = .ok (pB (decide (i ≤ j))) h := rfl
@[simp] theorem vge (i j : Int) (h : Cells) : oGe (pI i) (pI j) h = .ok (pB (decide (j ≤ i))) h := rfl
@[simp] theorem veq (k : Bool) (i j : Int) (h : Cells) : opEq k (pI i) (pI j) h = .ok (pB (if k then i == j else !(i == j))) h := by simp [opEq, asX, PyData.depth, PyData.eqv]
@[simp] theorem is_none_d (k : Bool) (v : PV) (h : Cells) : opIsN k v pN h = .ok (pB (if k then isNone v else !isNone v)) h := rfl
/-- == of data -/
theorem eq_data (k : Bool) (a b : PyData) (h : Cells) (q : min a.depth b.depth ≤ 64) : opEq k (.d a) (.d b) h = .ok (pB (if k then PyData.eqv a b else !PyData.eqv a b)) h := by simp [opEq, asX, q]
mutual
theorem eqv_self : ∀ d : PyData, d.canLay0 = true → PyData.eqv d d = true
  | .none, _ => by simp [PyData.eqv]
  | .bool _, _ => by simp [PyData.eqv]
  | .int _, _ => by simp [PyData.eqv]
  | .str _, _ => by simp [PyData.eqv]
  | .list xs, h => by simp only [PyData.eqv]; exact eqv_selfs xs (by simpa [PyData.canLay0] using h)
  | .tuple xs, h => by simp only [PyData.eqv]; exact eqv_selfs xs (by simpa [PyData.canLay0] using h)
  | .dict _, h => by simp [PyData.canLay0] at h
theorem eqv_selfs : ∀ ds : List PyData, PyData.canLayAll0 ds = true → PyData.eqvAll ds ds = true
  | [], _ => by simp [PyData.eqvAll]
  | x :: xs, h => by
    simp only [PyData.canLayAll0, Bool.and_eq_true] at h
    simp [PyData.eqvAll, eqv_self x h.1, eqv_selfs xs h.2]
end
theorem canLay_ints (l : List Int) : PyData.canLayAll0 (pIs l) = true := by
  induction l with
  | nil => simp [PyData.canLayAll0]
  | cons x r ih => simpa [PyData.canLayAll0, PyData.canLay0] using ih
theorem depth_ints (l : List Int) : PyData.depthAll (pIs l) = 0 := by
  induction l with
  | nil => simp [PyData.depthAll]
  | cons x r ih => simp [PyData.depthAll, PyData.depth, ih]
theorem eqv_ints : ∀ (l m : List Int), PyData.eqvAll (pIs l) (pIs m) = decide (l = m)
  | [], [] => by simp [PyData.eqvAll]
  | [], _ :: _ => by simp [PyData.eqvAll]
  | _ :: _, [] => by simp [PyData.eqvAll]
  | x :: l, y :: m => by
    have := eqv_ints l m
    simp only [pIs, List.map_cons, PyData.eqvAll, PyData.eqv] at this ⊢
    rw [this]
    by_cases h : x = y <;> by_cases h2 : l = m <;> simp [h, h2]
@[simp] theorem eq_ints_t (k : Bool) (l m : List Int) (h : Cells) : opEq k (pT (pIs l)) (pT (pIs m)) h = .ok (pB (if k then decide (l = m) else !decide (l = m))) h := by
  rw [eq_data _ _ _ _ (by simp [PyData.depth, depth_ints])]
  simp only [PyData.eqv, eqv_ints]
@[simp] theorem eq_ints_l (k : Bool) (l m : List Int) (h : Cells) : opEq k (pL (pIs l)) (pL (pIs m)) h = .ok (pB (if k then decide (l = m) else !decide (l = m))) h := by
  rw [eq_data _ _ _ _ (by simp [PyData.depth, depth_ints])]
  simp only [PyData.eqv, eqv_ints]
theorem eq_same (k : Bool) (a : PyData) (h : Cells) (c : a.canLay0 = true) (q : a.depth ≤ 64) : opEq k (.d a) (.d a) h = .ok (pB k) h := by
  rw [eq_data _ _ _ _ (by omega), eqv_self a c]; cases k <;> rfl
/-! sequences -/
theorem allD_cons (x : PyData) (r : List PV) : allD (.d x :: r) = (allD r).map (x :: ·) := rfl
@[simp] theorem asL_pL (ds : List PyData) (h : Cells) : asL (pL ds) h = some (ds.map .d) := rfl
@[simp] theorem asL_pT (ds : List PyData) (h : Cells) : asL (pT ds) h = none := rfl
@[simp] theorem asT_pT (ds : List PyData) : asT (pT ds) = some (ds.map .d) := rfl
@[simp] theorem asT_pL (ds : List PyData) : asT (pL ds) = none := rfl
@[simp] theorem asL_ls (xs : List PV) (h : Cells) : asL (.ls xs) h = some xs := rfl
@[simp] theorem asT_tp (xs : List PV) : asT (.tp xs) = some xs := rfl
theorem asL_cell {n : Nat} {h : Cells} {xs : List PV} (e : h[n]? = some (.lst xs)) : asL (.r n) h = some xs := by simp [asL, e]
theorem asS_pQ (t : Bool) (ds : List PyData) (h : Cells) : asS (pQ t ds) h = some (ds.map .d) := by cases t <;> rfl
theorem len_pQ (t : Bool) (ds : List PyData) (h : Cells) : biLen [pQ t ds] h = .ok (nI ds.length) h := by cases t <;> simp [pQ, biLen, pL, pT, asL, asT]
@[simp] theorem len_pL (ds : List PyData) (h : Cells) : biLen [pL ds] h = .ok (nI ds.length) h := len_pQ false ds h
@[simp] theorem len_pT (ds : List PyData) (h : Cells) : biLen [pT ds] h = .ok (nI ds.length) h := len_pQ true ds h
theorem len_str (x : Str) (h : Cells) (q : x.length ≤ sizeLine) : biLen [pS x] h = .ok (nI x.length) h := by simp [biLen, q]
theorem atI_nat {γ : Type} (xs : List γ) (i : Nat) : atI xs (i : Int) = xs[i]? := by
  unfold atI ixN
  by_cases q : i < xs.length
  · simp [q]
  · simp [q]
theorem ix_pQ (t : Bool) (ds : List PyData) (i : Nat) (h : Cells) (x : PyData) (e : ds[i]? = some x) : opIx (pQ t ds) (nI i) h = .ok (.d x) h := by
  cases t <;> simp [pQ, opIx, asS, asL, asT, atI_nat, e]
theorem add_pL (a b : List PyData) (h : Cells) (q : a.length + b.length ≤ sizeLine) : opAdd (pL a) (pL b) h = .ok (pL (a ++ b)) h := by
  simp only [opAdd, asL, List.length_map, q, if_true]
  rw [← List.map_append, mkL_map]
theorem add_pT (a b : List PyData) (h : Cells) (q : a.length + b.length ≤ sizeLine) : opAdd (pT a) (pT b) h = .ok (pT (a ++ b)) h := by
  simp only [opAdd, asL, asT, List.length_map, q, if_true]
  rw [← List.map_append, mkT_map]
theorem iadd_pT (a b : List PyData) (h : Cells) (q : a.length + b.length ≤ sizeLine) : iadd (pT a) (pT b) h = .ok (pT (a ++ b)) h := by
  simp only [iadd, asT, List.length_map, q, if_true]
  rw [← List.map_append, mkT_map]
theorem vadd_str (a b : Str) (h : Cells) (q : a.length + b.length ≤ sizeLine) : opAdd (pS a) (pS b) h = .ok (pS (a ++ b)) h := by simp [opAdd, q]
theorem cutL_map {γ δ : Type} (f : γ → δ) (xs : List γ) (lo hi : Option Int) : cutL (xs.map f) lo hi = (cutL xs lo hi).map f := by
  unfold cutL; simp [List.map_drop, List.map_take]
theorem sl_pL (ds : List PyData) (lo hi : Option Int) (h : Cells) : opSl (pL ds) lo hi h = .ok (pL (cutL ds lo hi)) h := by
  simp only [opSl, asL]; rw [cutL_map, mkL_map]
theorem sl_pT (ds : List PyData) (lo hi : Option Int) (h : Cells) : opSl (pT ds) lo hi h = .ok (pT (cutL ds lo hi)) h := by
  simp only [opSl, asL, asT]; rw [cutL_map, mkT_map]
theorem sl_pQ (t : Bool) (ds : List PyData) (lo hi : Option Int) (h : Cells) : opSl (pQ t ds) lo hi h = .ok (pQ t (cutL ds lo hi)) h := by cases t <;> simp [pQ, sl_pL, sl_pT]
theorem sIx_some (n d k : Nat) : HT.sIx n d (some (k : Int)) = min k n := HT.sIx_nat n d k
/-- from a place on, up to a place -/
theorem cut_nn {γ : Type} (xs : List γ) (a b : Nat) : cutL xs (some (a : Int)) (some (b : Int)) = (xs.drop a).take (b - a) := by
  unfold cutL; rw [sIx_some, sIx_some]
  by_cases q : a ≤ xs.length
  · rw [Nat.min_eq_left q]
    by_cases p : b ≤ xs.length
    · rw [Nat.min_eq_left p]
    · rw [Nat.min_eq_right (show xs.length ≤ b by omega), List.take_of_length_le (by simp), List.take_of_length_le (by simp; omega)]
  · rw [Nat.min_eq_right (show xs.length ≤ a by omega)]; simp [List.drop_of_length_le (show xs.length ≤ a by omega)]
theorem cut_n {γ : Type} (xs : List γ) (a : Nat) : cutL xs (some (a : Int)) none = xs.drop a := by
  unfold cutL; rw [sIx_some, HT.sIx_none]
  by_cases q : a ≤ xs.length
  · rw [Nat.min_eq_left q, List.take_of_length_le (by simp)]
  · rw [Nat.min_eq_right (show xs.length ≤ a by omega)]; simp [List.drop_of_length_le (show xs.length ≤ a by omega)]
theorem cut_to {γ : Type} (xs : List γ) (b : Nat) : cutL xs none (some (b : Int)) = xs.take b := by
  unfold cutL; rw [sIx_some, HT.sIx_none]
  by_cases q : b ≤ xs.length
  · rw [Nat.min_eq_left q]; simp
  · rw [Nat.min_eq_right (show xs.length ≤ b by omega)]; simp [List.take_of_length_le (show xs.length ≤ b by omega)]
theorem tuple_pL (ds : List PyData) (h : Cells) : biTuple [pL ds] h = .ok (pT ds) h := by simp [biTuple, mkT_map]
theorem tuple_pT (ds : List PyData) (h : Cells) : biTuple [pT ds] h = .ok (pT ds) h := by simp [biTuple, mkT_map]
theorem tuple_pQ (t : Bool) (ds : List PyData) (h : Cells) : biTuple [pQ t ds] h = .ok (pT ds) h := by cases t <;> simp [pQ, tuple_pL, tuple_pT]
theorem list_pL (ds : List PyData) (h : Cells) : biList [pL ds] h = .ok (pL ds) h := by simp [biList, mkL_map]
theorem list_pT (ds : List PyData) (h : Cells) : biList [pT ds] h = .ok (pL ds) h := by simp [biList, mkL_map]
theorem allD_int (l : List Int) : allD (l.map pI) = some (pIs l) := by
  have : l.map pI = (l.map PyData.int).map .d := by rw [List.map_map]; rfl
  rw [this, allD_map]
theorem asInts_pI (l : List Int) : asInts (l.map pI) = some l := by
  induction l with
  | nil => rfl
  | cons x r ih => simp [asInts, ih]
theorem pI_map (l : List Int) : (pIs l).map PV.d = l.map pI := by rw [List.map_map]; rfl
theorem sum_pQ (t : Bool) (l : List Int) (h : Cells) : biSumA [pQ t (pIs l)] h = .ok (pI l.sum) h := by
  cases t
  · show biSumA [pL (pIs l)] h = _
    simp only [biSumA, asL_pL, pI_map, asInts_pI]
  · show biSumA [pT (pIs l)] h = _
    simp only [biSumA, asL_pT, asT_pT, pI_map, asInts_pI]
/-! ## what is walked -/
@[simp] theorem gd_none (all : List PV) (h : Cells) : gd none all h = true := rfl
theorem any_pQ {f : ME PV} {e : Sl} {h h1 : Cells} {t : Bool} {ds : List PyData} (q : f e h = .ok (pQ t ds) h1) : iAny f e h = .ok (ds.map .d, none) h1 := by
  cases t <;> simp [pQ] at q <;> simp [iAny, iBoth, iSeq, iTp, q]
theorem any_pL {f : ME PV} {e : Sl} {h h1 : Cells} {ds : List PyData} (q : f e h = .ok (pL ds) h1) : iAny f e h = .ok (ds.map .d, none) h1 := any_pQ (t := false) q
theorem any_pT {f : ME PV} {e : Sl} {h h1 : Cells} {ds : List PyData} (q : f e h = .ok (pT ds) h1) : iAny f e h = .ok (ds.map .d, none) h1 := any_pQ (t := true) q
theorem any_str {f : ME PV} {e : Sl} {h h1 : Cells} {x : Str} (q : f e h = .ok (pS x) h1) : iAny f e h = .ok (x.cps.toList.map (fun c => pS ⟨#[c]⟩), none) h1 := by
  simp [iAny, iBoth, iSeq, iTp, iText, q, asL, asT]
theorem any_ls {f : ME PV} {e : Sl} {h h1 : Cells} {xs : List PV} (q : f e h = .ok (.ls xs) h1) : iAny f e h = .ok (xs, none) h1 := by
  simp [iAny, iBoth, iSeq, q]
theorem any_cell {f : ME PV} {e : Sl} {h h1 : Cells} {n : Nat} {xs : List PV} (q : f e h = .ok (.r n) h1) (c : h1[n]? = some (.lst xs)) : iAny f e h = .ok (xs, some (.one n)) h1 := by
  simp [iAny, iBoth, iSeq, q, c]
theorem rng_eq (lo : Int) (n : Nat) : rngL lo n = (List.range n).map fun i => pI (lo + (i : Nat)) := rfl
@[simp] theorem forL_nil (g : MG) (b : MS) (all : List PV) (e : Sl) (h : Cells) : forL g b none all [] e h = .nx e h := rfl
theorem forL_cons (g : MG) (b : MS) (all : List PV) (x : PV) (r : List PV) (e : Sl) (h : Cells) : forL g b none all (x :: r) e h = match g x e h with
      | some (e1, h1) => (match b e1 h1 with
        | .nx e2 h2 => forL g b none all r e2 h2
        | .ct e2 h2 => forL g b none all r e2 h2
        | .bk e2 h2 => .nx e2 h2
        | o => o)
      | none => .bad := by
  first
  | rfl
  | (
      conv => lhs; unfold forL
      simp only [gd_none, if_true]
      cases g x e h with
      | none => rfl
      | some p =>
        obtain ⟨e1, h1⟩ := p
        simp only
        cases b e1 h1 <;> rfl
    )
theorem mFor_eq {fi : ME (List PV × Option SR)} {g : MG} {b : MS} {e : Sl} {h h1 : Cells} {xs : List PV} {src : Option SR} (q : fi e h = .ok (xs, src) h1) : mFor fi g b e h = forL g b src xs xs e h1 := by
  unfold mFor; rw [q]; rfl
/-- a comprehension whose parts change no cell -/
theorem lc_pure {γ : Type} {g : MG} {t : ME Bool} {fe : ME PV} {all : List PV} {e : Sl} {h : Cells} (inj : γ → PV) (p : γ → Bool) (φ : γ → PV) : ∀ (xs : List γ) (acc : List PV),
    (∀ x ∈ xs, ∃ e1, g (inj x) e h = some (e1, h) ∧ t e1 h = .ok (p x) h ∧ (p x = true → fe e1 h = .ok (φ x) h)) → acc.length + xs.length ≤ sizeLine →
    lcL g t fe none all e (xs.map inj) h acc = .ok (mkL (acc ++ (xs.filter p).map φ)) h
  | [], acc, _, _ => by simp [lcL]
  | x :: xs, acc, k, l => by
    obtain ⟨e1, k1, k2, k3⟩ := k x (by simp)
    have ih := fun a b => lc_pure (all := all) inj p φ xs a (fun y hy => k y (by simp [hy])) b
    simp only [List.map_cons, lcL, gd_none, if_true, k1, k2, calm_ok]
    cases q : p x with
    | true =>
      rw [k3 q]
      simp only [List.length_cons] at l
      simp only [if_true, calm_ok]
      rw [if_pos (by omega), ih _ (by simp; omega)]
      simp [q]
    | false =>
      simp only [List.length_cons] at l
      rw [if_neg (by simp), ih _ (by omega)]
      simp [q]
theorem lc_all {γ : Type} {g : MG} {fe : ME PV} {all : List PV} {e : Sl} {h : Cells} (inj : γ → PV) (φ : γ → PV) (xs : List γ) (acc : List PV)
    (k : ∀ x ∈ xs, ∃ e1, g (inj x) e h = some (e1, h) ∧ fe e1 h = .ok (φ x) h) (l : acc.length + xs.length ≤ sizeLine) :
    lcL g mYes fe none all e (xs.map inj) h acc = .ok (mkL (acc ++ xs.map φ)) h := by
  rw [lc_pure inj (fun _ => true) φ xs acc (fun x hx => by obtain ⟨e1, a, b⟩ := k x hx; exact ⟨e1, a, rfl, fun _ => b⟩) l]
  rw [List.filter_eq_self.mpr (fun _ _ => rfl)]
/-- a comprehension whose parts may change cells -/
theorem lc_inv {g : MG} {fe : ME PV} {all : List PV} {e : Sl} (I : Cells → Prop) (P : PV → Prop) : ∀ (xs : List PV) (acc : List PV) (h : Cells),
    (∀ x ∈ xs, ∀ h, I h → ∃ e1 h1 v h2, g x e h = some (e1, h1) ∧ fe e1 h1 = .ok v h2 ∧ P v ∧ I h2) → acc.length + xs.length ≤ sizeLine → I h →
    ∃ vs h', lcL g mYes fe none all e xs h acc = .ok (mkL (acc ++ vs)) h' ∧ I h' ∧ vs.length = xs.length ∧ ∀ v ∈ vs, P v
  | [], acc, h, _, _, i => ⟨[], h, by simp [lcL], i, rfl, by simp⟩
  | x :: xs, acc, h, k, l, i => by
    obtain ⟨e1, h1, v, h2, k1, k2, k3, k4⟩ := k x (by simp) h i
    simp only [List.length_cons] at l
    obtain ⟨vs, h', a1, a2, a3, a4⟩ := lc_inv I P xs (acc ++ [v]) h2 (fun y hy => k y (by simp [hy])) (by simp; omega) k4
    refine ⟨v :: vs, h', ?_, a2, by simp [a3], fun w hw => ?_⟩
    · simp only [lcL, gd_none, if_true, k1, mYes, calm_ok, k2]
      rw [if_pos (by omega), a1]
      simp
    · rcases List.mem_cons.mp hw with q | q
      · subst q; exact k3
      · exact a4 w q
theorem mLc_eq {fi : ME (List PV × Option SR)} {g : MG} {t : ME Bool} {fe : ME PV} {vs : List Nat} {e : Sl} {h h1 : Cells} {xs : List PV} {src : Option SR} (q : fi e h = .ok (xs, src) h1) : mLc fi g t fe vs e h = lcL g t fe src xs (wipeE e vs) xs h1 [] := by
  unfold mLc; rw [q]; rfl
/-- a generator whose parts change no cell -/
theorem gen_pure {γ : Type} {g : MG} {fe : ME PV} {all : List PV} {e : Sl} {h : Cells} (inj : γ → PV) (φ : γ → PV) : ∀ (xs : List γ),
    (∀ x ∈ xs, ∃ e1, g (inj x) e h = some (e1, h) ∧ fe e1 h = .ok (φ x) h) → gTr g mYes fe none all e (xs.map inj) h = some (xs.map (fun x => (φ x, h)), h)
  | [], _ => by simp [gTr]
  | x :: xs, k => by
    obtain ⟨e1, k1, k2⟩ := k x (by simp)
    have ih := gen_pure (all := all) inj φ xs (fun y hy => k y (by simp [hy]))
    simp only [List.map_cons, gTr, gd_none, if_true, k1, mYes, k2, ih]
    rfl
theorem mGen_eq {fi : ME (List PV × Option SR)} {g : MG} {t : ME Bool} {fe : ME PV} {own : List Nat} {c : List (PV × Cells) → Cells → Out PV} {e : Sl} {h h1 hf : Cells} {xs : List PV} {src : Option SR} {T : List (PV × Cells)}
    (q : fi e h = .ok (xs, src) h1) (p : gTr g t fe src xs (wipeE e own) xs h1 = some (T, hf)) : mGen fi g t fe own c e h = c T hf := by
  unfold mGen; rw [q]; simp only [bind_ok]; rw [p]
theorem cAny_pure {γ : Type} (f : γ → Bool) (xs : List γ) (h : Cells) : cAny (xs.map fun x => (pB (f x), h)) h = .ok (pB (xs.any f)) h := by
  induction xs with
  | nil => rfl
  | cons x r ih => 
    cases q : f x with
    | true => simp [cAny, q]
    | false => simpa [cAny, q] using ih
theorem cAll_pure {γ : Type} (f : γ → Bool) (xs : List γ) (h : Cells) : cAll (xs.map fun x => (pB (f x), h)) h = .ok (pB (xs.all f)) h := by
  induction xs with
  | nil => rfl
  | cons x r ih => 
    cases q : f x with
    | true => simpa [cAll, q] using ih
    | false => simp [cAll, q]
theorem runF_rt {n : Nat} {b : MS} {ps : List PV} {h h1 : Cells} {v : PV} (q : b (ps.map some ++ List.replicate (n - ps.length) none) h = .rt v h1) : runF n b ps h = .ok v h1 := by unfold runF; rw [q]
theorem runF_ex {n : Nat} {b : MS} {ps : List PV} {h h1 : Cells} {c : Str} (q : b (ps.map some ++ List.replicate (n - ps.length) none) h = .ex c h1) : runF n b ps h = .ex c h1 := by unfold runF; rw [q]
theorem runF_nx {n : Nat} {b : MS} {ps : List PV} {h h1 : Cells} {e : Sl} (q : b (ps.map some ++ List.replicate (n - ps.length) none) h = .nx e h1) : runF n b ps h = .ok pN h1 := by unfold runF; rw [q]
theorem seq_nx {f g : MS} {e e1 : Sl} {h h1 : Cells} (q : f e h = .nx e1 h1) : mSeq f g e h = g e1 h1 := by unfold mSeq; rw [q]
theorem seq_ex {f g : MS} {e : Sl} {h h1 : Cells} {c : Str} (q : f e h = .ex c h1) : mSeq f g e h = .ex c h1 := by unfold mSeq; rw [q]
theorem seq_rt {f g : MS} {e : Sl} {h h1 : Cells} {v : PV} (q : f e h = .rt v h1) : mSeq f g e h = .rt v h1 := by unfold mSeq; rw [q]
theorem if_yes {c : ME Bool} {f k : MS} {e : Sl} {h h1 : Cells} (q : c e h = .ok true h1) : mIf c f k e h = f e h1 := by unfold mIf; rw [q]; rfl
/-- a test of the law that holds -/
theorem if_no {c : ME Bool} {f : MS} {e : Sl} {h h1 : Cells} (q : c e h = .ok false h1) : mIf c f mSkip e h = .nx e h1 := by unfold mIf; rw [q]; rfl
theorem sz (n : Nat) (h : n ≤ 16777216) : n ≤ sizeLine := h
end
end Mi

set_option Elab.async false
set_option linter.all false
set_option maxRecDepth 100000
set_option maxHeartbeats 4000000
namespace Mi
open PySem PySem.Spec PyProof.Rows L2
/-! ## instances -/
def putA (f : Str) (v : PV) : List (Str × PV) → List (Str × PV)
  | [] => [(f, v)]
  | (g, x) :: r => if g = f then (g, v) :: r else (g, x) :: putA f v r
section
variable {K : PySem.W.Frag} {cs : List Tb} {m z : List Addr} {h : Cells} {H : Hp}
theorem ra_cons {x : PV} {xs : List PV} {vs : List V} (r : RepAll K m z H (x :: xs) vs) : ∃ v t, vs = v :: t ∧ Rep K m z H x v ∧ RepAll K m z H xs t := by
  cases r with
  | cons a b => exact ⟨_, _, rfl, a, b⟩
theorem fs_look : ∀ {fs : List (Str × PV)} {ws : List (Str × V)} (f : Str), fs.map (·.1) = ws.map (·.1) → RepAll K m z H (fs.map (·.2)) (ws.map (·.2)) →
    (∀ x, fs.lookup f = some x → ∃ v, ws.lookup f = some v ∧ Rep K m z H x v) ∧ (fs.lookup f = none → ws.lookup f = none)
  | [], [], f, _, _ => ⟨fun x e => (by cases e), fun _ => rfl⟩
  | [], _ :: _, f, e, _ => by simp at e
  | _ :: _, [], f, e, _ => by simp at e
  | (g, x) :: fs, (g', v) :: ws, f, e, r => by
    simp only [List.map_cons, List.cons.injEq] at e
    obtain ⟨e1, e2⟩ := e
    subst e1
    obtain ⟨_, _, q, rx, rr⟩ := ra_cons r
    simp only [List.map_cons, List.cons.injEq] at q
    obtain ⟨q1, q2⟩ := q
    subst q1 q2
    have ih := fs_look f e2 rr
    by_cases k : f = g
    · subst k
      refine ⟨fun y hy => ?_, fun hn => ?_⟩
      · simp only [List.lookup_cons_self, Option.some.injEq] at hy ⊢
        subst hy
        exact ⟨v, rfl, rx⟩
      · simp at hn
    · have kb : (f == g) = false := by simpa using k
      refine ⟨fun y hy => ?_, fun hn => ?_⟩
      · rw [List.lookup_cons, kb] at hy ⊢
        exact ih.1 y hy
      · rw [List.lookup_cons, kb] at hn ⊢
        exact ih.2 hn
theorem fs_put {f : Str} {x : PV} {v : V} (rx : Rep K m z H x v) : ∀ {fs : List (Str × PV)} {ws : List (Str × V)}, fs.map (·.1) = ws.map (·.1) → RepAll K m z H (fs.map (·.2)) (ws.map (·.2)) →
    (putA f x fs).map (·.1) = (putF f v ws).map (·.1) ∧ RepAll K m z H ((putA f x fs).map (·.2)) ((putF f v ws).map (·.2))
  | [], [], _, _ => ⟨rfl, .cons rx .nil⟩
  | [], _ :: _, e, _ => by simp at e
  | _ :: _, [], e, _ => by simp at e
  | (g, y) :: fs, (g', w) :: ws, e, r => by
    simp only [List.map_cons, List.cons.injEq] at e
    obtain ⟨e1, e2⟩ := e
    subst e1
    obtain ⟨_, _, q, ry, rr⟩ := ra_cons r
    simp only [List.map_cons, List.cons.injEq] at q
    obtain ⟨q1, q2⟩ := q
    subst q1 q2
    have ih := fs_put (f := f) rx e2 rr
    unfold putA putF
    by_cases k : g = f
    · rw [if_pos k, if_pos k]
      exact ⟨by simp [e2], .cons rx rr⟩
    · rw [if_neg k, if_neg k]
      exact ⟨by simp [ih.1], .cons ry ih.2⟩
theorem fs_len {fs : List (Str × PV)} {ws : List (Str × V)} (e : fs.map (·.1) = ws.map (·.1)) : fs.length = ws.length := by
  have := congrArg List.length e; simpa using this
theorem cellI (hh : HRel K cs m z h H) {n : Nat} {a : Addr} {c : Str} {fs : List (Str × PV)} (hn : m[n]? = some a) (e : h[n]? = some (.ins c fs)) : ∃ dx ws, H a = some (.ins (He.ga K c) dx ws) ∧ fs.map (·.1) = ws.map (·.1) ∧ RepAll K m z H (fs.map (·.2)) (ws.map (·.2)) := hh.obj n _ a e hn
theorem HRel.wrI (hh : HRel K cs m z h H) {n : Nat} {a : Addr} {c : Str} {fs : List (Str × PV)} {dx : Addr} {ws ws0 : List (Str × V)} {dx0 : Addr} (hn : m[n]? = some a) (e0 : H a = some (.ins (He.ga K c) dx0 ws0)) (e1 : fs.map (·.1) = ws.map (·.1)) (t : RepAll K m z H (fs.map (·.2)) (ws.map (·.2))) :
    HRel K cs m z (h.set n (.ins c fs)) (upd H a (.ins (He.ga K c) dx ws)) :=
  hh.wr hn (fun c' q w => by rw [e0] at w; exact codeO_ins (Option.some.inj w).symm) ⟨dx, ws, upd_same, e1, t.nx (Nx.wr hn)⟩
end
section
variable {X : Cx} {cs : List Tb} {W : WX}
/-- classes whose instances have f -/
def ClsF (K : PySem.W.Frag) (cl : List Str) (f : Str) : Prop := ∀ c ∈ cl, Cls K (He.ga K c) ∧ NoAttr K (He.ga K c) f
def mFld (cl : List Str) (f : Str) (fo : ME PV) : ME PV := fun e h => (fo e h).bind fun v h1 => match v with
  | .r n => match h1[n]? with
    | some (.ins c fs) => if c ∈ cl then (match fs.lookup f with
        | some x => .ok x h1
        | none => .bad) else .bad
    | _ => .bad
  | _ => .bad
theorem s_fld {cl : List Str} {f : Str} {o : Expr} {pos : Pos} {fo : ME PV} (hc : ClsF X.K cl f) (ho : SE X cs W o fo) (hb : attributeBase o f X.env (eval o X.env) = eval o X.env := by rfl) : SE X cs W (.Attribute o f pos) (mFld cl f fo) :=
  pe_imp (pe_fld ho hb) fun σ H Q ⟨m, z, e, h, hs, hh, p⟩ => tE_then hs hh p fun v h1 m1 H1 u hs1 hh1 r1 n1 p1 => by
    split at p1
    · rename_i n
      cases r1 with
      | r hn =>
        rename_i a
        split at p1
        · rename_i c fs ex
          obtain ⟨dx, ws, ea, ek, er⟩ := cellI hh1 hn ex
          split at p1
          · rename_i hm
            have fl := fs_look f ek er
            cases q : fs.lookup f with
            | none => rw [q] at p1; exact p1.elim
            | some x =>
              rw [q] at p1
              obtain ⟨v, lv, rv⟩ := fl.1 x q
              exact ⟨a, _, dx, ws, v, rfl, ea, (hc c hm).1, (hc c hm).2, lv, p1.here hh1 v rv⟩
          · exact p1.elim
        · exact p1.elim
    · exact p1.elim
/-- .. = v at o.f -/
def fldSet (cl : List Str) (f : Str) (o v : PV) (h : Cells) : Option Cells := match o with
  | .r n => match h[n]? with
    | some (.ins c fs) => if c ∈ cl ∧ fs.length < 1000 then some (h.set n (.ins c (putA f v fs))) else none
    | _ => none
  | _ => none
def gFld (cl : List Str) (f : Str) (fo : ME PV) : MG := fun v e h => match fo e h with
  | .ok o h1 => match fldSet cl f o v h1 with
    | some h2 => some (e, h2)
    | none => none
  | _ => none
def gFldT (K : PySem.W.Frag) (to : TE) (f : Str) : TG := fun v σ H Q => to σ H fun x H1 => ∃ a C dx fs, x = .ref a ∧ H1 a = some (.ins C dx fs) ∧ Cls K C ∧ NoAttr K C f ∧ fs.length < 1000 ∧ Q σ (upd H1 a (.ins C dx (putF f v fs)))
theorem pg_fld {o : Expr} {f : Str} {pos : Pos} {to : TE} (ho : PE X o to) : PG X (.Attribute o f pos) (gFldT X.K to f) := by
  refine ⟨fun pins s σ H v u Q I r h => ?_⟩
  rw [assign_Attribute]
  refine wpAny_bind (wpAny_holding (thn (ho.run pins s σ H _ I h) fun ov s1 ⟨x, H1, I1, r1, a, C, dx, fs, ex, ea, c, n, l, q1⟩ => ?_))
  subst ex
  obtain rfl : ov = Value.ref a := r1
  refine wpAny_bind (wpAny_standAt (wpAny_bind (wpAny_holding (setattr_ok I1 ea c n l r fun s3 I3 => wpAny_release ⟨σ, _, I3, q1⟩))))
theorem fldSet_some {cl : List Str} {f : Str} {o v : PV} {h h' : Cells} (e : fldSet cl f o v h = some h') : ∃ n c fs, o = .r n ∧ h[n]? = some (.ins c fs) ∧ c ∈ cl ∧ fs.length < 1000 ∧ h' = h.set n (.ins c (putA f v fs)) := by
  unfold fldSet at e
  split at e
  · rename_i n
    split at e
    · rename_i c fs ex
      split at e
      · rename_i hc
        exact ⟨n, c, fs, rfl, ex, hc.1, hc.2, (Option.some.inj e).symm⟩
      · cases e
    · cases e
  · cases e
theorem g_fld {vs : List Nat} {cl : List Str} {f : Str} {o : Expr} {pos : Pos} {fo : ME PV} (hc : ClsF X.K cl f) (ho : SE X cs W o fo) : SG X cs vs (.Attribute o f pos) (gFld cl f fo) :=
  pg_imp (pg_fld ho) fun u σ H Q ⟨m, z, e, h, v, hs, hh, r, p⟩ => by
    unfold gFld at p
    cases q1 : fo e h with
    | bad => rw [q1] at p; exact p.elim
    | ex c h1 => rw [q1] at p; exact p.elim
    | ok o h1 =>
      rw [q1] at p
      simp only at p
      refine ⟨m, z, e, h, hs, hh, ?_⟩
      rw [q1]
      intro m1 H1 n1 hh1 u1 r1
      cases q3 : fldSet cl f o v h1 with
      | none => rw [q3] at p; exact p.elim
      | some h3 =>
        rw [q3] at p
        obtain ⟨n, c, fs, rfl, ex, hm, hl, rfl⟩ := fldSet_some q3
        cases r1 with
        | r hn =>
          rename_i a
          obtain ⟨dx, ws, ea, ek, er⟩ := cellI hh1 hn ex
          have pf := fs_put (f := f) (r.nx n1) ek er
          refine ⟨a, _, dx, ws, rfl, ea, (hc c hm).1, (hc c hm).2, by rw [← fs_len ek]; exact hl, ?_⟩
          exact p m1 σ _ (n1.trans (Nx.wr hn)) (hh1.wrI hn ea pf.1 pf.2) ((hs.nx n1).nx (Nx.wr hn)) rfl
/-- o.f op= value -/
def mFldAug (cl : List Str) (f : Str) (g : PV → PV → Cells → Out PV) (fo fe : ME PV) : MS := fun e h => (fo e h).toS fun o h1 => match o with
  | .r n => match h1[n]? with
    | some (.ins c fs) => if c ∈ cl then (match fs.lookup f with
      | some x => (fe e h1).toS fun w h2 => (g x w h2).toS fun y h3 => match fldSet [c] f (.r n) y h3 with
        | some h4 => .nx e h4
        | none => .bad
      | none => .bad) else .bad
    | _ => .bad
  | _ => .bad
theorem s_fldAug {cl : List Str} {f : Str} {o a : Expr} {op : Operator} {r : R2} {g : PV → PV → Cells → Out PV} {fo fe : ME PV} {pos tpos : Pos} (hc : ClsF X.K cl f) (ho : SE X cs W o fo) (ha : SE X cs W a fe) (hop : OpR X (inplaceOp op) r) (hb : Br X.K cs r g) :
    SS X cs W (.AugAssign (.Attribute o f tpos) op a pos) (mFldAug cl f g fo fe) :=
  ps_imp (ps_fldaug (rd := r) ho ha (fun pins s σ H x y u v Q I rx ry q => hop pins s σ H x y u v Q I rx ry q)) fun D σ H ⟨m, z, e, h, hs, hh, p⟩ => by
    unfold mFldAug at p
    refine tE_S hs hh p fun v h1 m1 H1 u hs1 hh1 r1 n1 p1 => ?_
    split at p1
    · rename_i n
      cases r1 with
      | r hn =>
        rename_i b
        split at p1
        · rename_i c fs ex
          split at p1
          · rename_i hm
            obtain ⟨dx, ws, ea, ek, er⟩ := cellI hh1 hn ex
            cases q : fs.lookup f with
            | none => rw [q] at p1; exact p1.elim
            | some x =>
              rw [q] at p1
              obtain ⟨v, lv, rv⟩ := (fs_look f ek er).1 x q
              refine ⟨b, _, dx, ws, v, rfl, ea, (hc c hm).1, (hc c hm).2, lv, tE_S hs1 hh1 p1 fun w h2 m2 H2 u2 hs2 hh2 r2 n2 p2 => ?_⟩
              refine hb m2 z H2 h2 x w v u2 _ _ hh2 (rv.nx n2) r2 ((PoS.of (σ := σ) p2).imp (fun y h3 m3 H3 n3 hh3 q3 u3 ru => ?_) fun _ _ q => q)
              cases q4 : fldSet [c] f (.r n) y h3 with
              | none => rw [q4] at q3; exact q3.elim
              | some h4 =>
                rw [q4] at q3
                obtain ⟨n', c', fs', e1, ex', hm', hl, rfl⟩ := fldSet_some q4
                injection e1 with e1
                subst e1
                obtain rfl : c' = c := List.mem_singleton.mp hm'
                have hn3 := n3.get (n2.get hn)
                obtain ⟨dx', ws', ea', ek', er'⟩ := cellI hh3 hn3 ex'
                have pf := fs_put (f := f) ru ek' er'
                exact ⟨dx', ws', ea', by rw [← fs_len ek']; exact hl, q3 m3 σ _ (Nx.wr hn3) (hh3.wrI hn3 ea' pf.1 pf.2) (((hs2.nx n3)).nx (Nx.wr hn3))⟩
          · exact p1.elim
        · exact p1.elim
    · exact p1.elim
/-! ### o[i] op= value -/
theorem get_list : PGet X (rIxL X.K) := by
  intro pins s σ H x y v u Q I rx ry h
  obtain ⟨p, xs, i, z, rfl, rfl, hq, he, q⟩ := h
  cases rx
  obtain ⟨t, rfl⟩ := ry
  obtain ⟨its, r, pl, hz⟩ := I.list hq
  obtain ⟨j, h1, h2, h3, h4, h5⟩ := atI_get he
  obtain ⟨w, ew, rw'⟩ := r.get h2
  have hl := r.length
  have hn := line63
  have fin : EP X pins σ Q w s := ⟨z, H, I, rw', q⟩
  by_cases h0 : 0 ≤ i
  · have hj : i.toNat = j := by
      rw [seqIndex_of h0 h5] at h1
      exact Option.some.inj h1
    exact wpAny_getItem_list pl.isList h0 (by omega) (by rw [hj]; simpa using ew) fin
  · have hj : (i + (its.toArray.size : Int)).toNat = j := by
      rw [seqIndex_neg (by omega) h4] at h1
      rw [List.size_toArray, ← hl]
      exact Option.some.inj h1
    exact wpAny_getItem_list_neg pl.isList (by omega) (by rw [List.size_toArray] <;> omega) (by omega) (by rw [hj]; simpa using ew) fin
def rGetM (K : PySem.W.Frag) : V → V → Hp → VK → Prop := fun x y H Q => rIxL K x y H Q ∨ ∃ a v, x = .ref a ∧ DGet H a y (some v) ∧ Q v H
theorem get_M (hu : X.A.units + 1 < cLine) : PGet X (rGetM X.K) := by
  intro pins s σ H x y v u Q I rx ry h
  rcases h with h | ⟨a, w, rfl, g, q⟩
  · exact get_list pins s σ H x y v u Q I rx ry h
  · obtain rfl : v = Value.ref a := rx
    exact d_getItem hu I g ry fun w' s' I' rw' => ⟨w, H, I', rw', q⟩
def asCellL : PV → Cells → Option (List PV)
  | .r n, h => match h[n]? with
    | some (.lst xs) => some xs
    | _ => none
  | _, _ => none
/-- what stands at o[i], o a cell -/
def opGet (o i : PV) (h : Cells) : Option PV := match asCellL o h, i with
  | some xs, .d (.int k) => atI xs k
  | _, _ => match asDict o h, keyOf i with
    | some kvs, some k => getP kvs k
    | _, _ => none
def mAugS (g : PV → PV → Cells → Out PV) (fo fi fe : ME PV) : MS := fun e h => (fo e h).toS fun o h1 => (fi e h1).toS fun i h2 => match opGet o i h2 with
  | some x => (fe e h2).toS fun w h3 => (g x w h3).toS fun y h4 => match opSet o i y h4 with
    | some h5 => .nx e h5
    | none => .bad
  | none => .bad
end
end Mi

set_option Elab.async false
set_option linter.all false
set_option maxRecDepth 100000
set_option maxHeartbeats 4000000
namespace Mi
open PySem PySem.Spec PyProof.Rows L2
section
variable {K : PySem.W.Frag} {cs : List Tb} {m z : List Addr} {h : Cells} {H : Hp}
theorem get_rep (hh : HRel K cs m z h H) {o i x : PV} {uo ui : V} (ro : Rep K m z H o uo) (ri : Rep K m z H i ui) (e : opGet o i h = some x) : ∃ v, Rep K m z H x v ∧ ∀ Q : VK, Q v H → rGetM K uo ui H Q := by
  unfold opGet at e
  split at e
  · rename_i xs k ex
    unfold asCellL at ex
    split at ex
    · rename_i n
      split at ex
      · rename_i ys ey
        obtain rfl := Option.some.inj ex
        cases ro with
        | r hn =>
          rename_i a
          obtain ⟨vs, e1, t1⟩ := cellL hh hn ey
          obtain ⟨j, hj, h2⟩ := atI_some e
          obtain ⟨v, ev, rv⟩ := t1.get h2
          refine ⟨v, rv, fun Q q => .inl ⟨a, vs, k, v, rfl, rep_int ri, SqL.of e1, ?_, q⟩⟩
          unfold atI
          rw [← t1.length, hj]
          exact ev
      · cases ex
    · cases ex
  · split at e
    · rename_i kvs k ed ek
      obtain ⟨a, ws, rfl, e1, t1⟩ := asDict_rep hh ro ed
      have g := t1.get (k := k)
      rw [e] at g
      obtain ⟨v, ev, rv⟩ := g
      refine ⟨v, rv, fun Q q => .inr ⟨a, v, rfl, ?_, q⟩⟩
      rw [keyOf_rep ri ek, ← ev]
      exact DGet.k e1
    · cases e
end
section
variable {X : Cx} {cs : List Tb} {W : WX}
theorem s_augS {o i a : Expr} {op : Operator} {r : R2} {g : PV → PV → Cells → Out PV} {fo fi fe : ME PV} {pos tpos : Pos} (hu : X.A.units + 1 < cLine) (ho : SE X cs W o fo) (hi : SE X cs W i fi) (ha : SE X cs W a fe) (hop : OpR X (inplaceOp op) r) (hb : Br X.K cs r g)
    (hs : ∀ ov iv new, augStore i ov iv new = (do holding [new, ov, iv] (setItem ov iv new); release [new, ov, iv] []; pure .next) := by intros; rfl) : SS X cs W (.AugAssign (.Subscript o i tpos) op a pos) (mAugS g fo fi fe) :=
  ps_imp (ps_augS (tip := r) ho hi (get_M hu) ha (fun pins s σ H x y u v Q I rx ry q => hop pins s σ H x y u v Q I rx ry q) (set_M hu) hs) fun D σ H ⟨m, z, e, h, hs, hh, p⟩ => by
    unfold mAugS at p
    refine tE_S hs hh p fun o1 h1 m1 H1 u1 hs1 hh1 r1 n1 p1 => tE_S hs1 hh1 p1 fun i2 h2 m2 H2 u2 hs2 hh2 r2 n2 p2 => ?_
    cases q : opGet o1 i2 h2 with
    | none => rw [q] at p2; exact p2.elim
    | some x =>
      rw [q] at p2
      obtain ⟨v, rv, k⟩ := get_rep hh2 (r1.nx n2) r2 q
      refine k _ (tE_S hs2 hh2 p2 fun w h3 m3 H3 u3 hs3 hh3 r3 n3 p3 => ?_)
      refine hb m3 z H3 h3 x w v u3 _ _ hh3 (rv.nx n3) r3 ((PoS.of (σ := σ) p3).imp (fun y h4 m4 H4 n4 hh4 q4 u4 ru => ?_) fun _ _ q => q)
      cases q5 : opSet o1 i2 y h4 with
      | none => rw [q5] at q4; exact q4.elim
      | some h5 =>
        rw [q5] at q4
        exact set_rep hh4 (((r1.nx n2).nx n3).nx n4) ((r2.nx n3).nx n4) ru q5 fun H' n5 hh5 => q4 m4 σ H' n5 hh5 ((hs3.nx n4).nx n5)
/-! ### o[i], o a dict too -/
def opIxM (v w : PV) (h : Cells) : Out PV := match asDict v h, keyOf w with
  | some kvs, some k => match getP kvs k with
    | some x => .ok x h
    | none => .bad
  | _, _ => opIx v w h
theorem pe_or {e : Expr} {t u : TE} (a : PE X e t) (b : PE X e u) : PE X e (fun σ H Q => t σ H Q ∨ u σ H Q) := ⟨fun pins s σ H Q I q => q.elim (a.run pins s σ H Q I) (b.run pins s σ H Q I)⟩
theorem s_ixM {a b : Expr} {pos : Pos} {f1 f2 : ME PV} (hu : X.A.units + 1 < cLine) (ha : SE X cs W a f1) (hb : SE X cs W b f2) (hs : PlainIx b := by exact fun _ _ => rfl) (hn : NoSl b := by exact fun _ _ => rfl) : SE X cs W (.Subscript a b pos) (mBin opIxM f1 f2) :=
  pe_imp (pe_or (pe_dget hu ha hb hn) (pe_ix ix_seq ha hb hs)) fun σ H Q ⟨m, z, e, h, hs, hh, p⟩ => by
    by_cases q : ∃ v h1 w h2 kvs k, f1 e h = .ok v h1 ∧ f2 e h1 = .ok w h2 ∧ asDict v h2 = some kvs ∧ keyOf w = some k
    · obtain ⟨v, h1, w, h2, kvs, k, q1, q2, q3, q4⟩ := q
      have e0 : mBin opIxM f1 f2 e h = opIxM v w h2 := by
        unfold mBin
        rw [q1]
        show (f2 e h1).bind _ = _
        rw [q2]
        rfl
      rw [e0] at p
      refine .inl ⟨m, z, e, h, hs, hh, ?_⟩
      rw [q1]
      intro m1 H1 n1 hh1 u ru
      refine ⟨m1, z, e, h1, hs.nx n1, hh1, ?_⟩
      rw [q2]
      intro m2 H2 n2 hh2 u2 ru2
      obtain ⟨a, ws, rfl, e1, t1⟩ := asDict_rep hh2 (ru.nx n2) q3
      have g := t1.get (k := k)
      have ps := Po.step (o := opIxM v w h2) p (n1.trans n2)
      unfold opIxM at ps
      rw [q3, q4] at ps
      dsimp only at ps
      cases q5 : getP kvs k with
      | none => rw [q5] at ps; exact ps.elim
      | some x =>
        rw [q5] at ps g
        obtain ⟨v', ev, rv⟩ := g
        refine ⟨a, v', rfl, ?_, ps.here hh2 v' rv⟩
        rw [keyOf_rep ru2 q4, ← ev]
        exact DGet.k e1
    · refine .inr (tE_bin br_ix ⟨m, z, e, h, hs, hh, ?_⟩)
      have : mBin opIxM f1 f2 e h = mBin opIx f1 f2 e h := by
        unfold mBin
        cases q1 : f1 e h with
        | ok v h1 =>
          show (f2 e h1).bind _ = (f2 e h1).bind _
          cases q2 : f2 e h1 with
          | ok w h2 =>
            show opIxM v w h2 = opIx v w h2
            unfold opIxM
            split
            · rename_i kvs k q3 q4
              exact absurd ⟨v, h1, w, h2, kvs, k, q1, q2, q3, q4⟩ q
            · rfl
          | ex _ _ => rfl
          | bad => rfl
        | ex _ _ => rfl
        | bad => rfl
      rw [← this]; exact p
end
/-! ## methods, classes -/
structure MethOk (P : Program) (w : World) (K : PySem.W.Frag) (mg : Str → Option Value) (base : Heap) (cs : List Tb) (k : Nat) (c x : Str) (np : Nat) (dp : List PV) (f : MF) : Prop where
  ex : ∃ fd ps ds dvs, FnOk P w K mg base (L2.CX P w) k (He.ma K (He.ga K c) x) fd ps (spF K cs np f) ∧ ps.length = np ∧ Binds K fd ps ds ∧ Vals dvs ds ∧ DRep K dp dvs
section
variable {fa : List He.Fa} {fn : List He.DefD} {P : Program} {w : World} {K : PySem.W.Frag} {mg : Str → Option Value} {base : Heap} {cs : List Tb}
theorem MethOk.sim {k : Nat} {c x : Str} {np : Nat} {dp : List PV} {f g : MF} (D : MethOk P w K mg base cs k c x np dp f)
    (h : ∀ pvs hc, pvs.length = np → WfH hc → bds hc.length pvs = true → Sim hc.length (f pvs hc) (g pvs hc)) : MethOk P w K mg base cs k c x np dp g := by
  obtain ⟨fd, ps, ds, dvs, F, e, b, v, r⟩ := D.ex
  exact ⟨⟨fd, ps, ds, dvs, fn_sim F h, e, b, v, r⟩⟩
theorem meth_mkC (F : Fx fa fn K mg) {d : He.DefD} {c x : Str} {N ps : List Str} {dp : List PV} {k : Nat} {fb : MS} (i : Nat) (hd : fn[i]? = some d) (he : d.at_ = (c, some x)) (S : FnScope N ps d.scope)
    (bd : ∀ fd, FunD K d.name d.qual d.params d.body d.scope (d.dvs K) (d.kws K) (He.fAd K d.at_) fd → ∃ ds dvs, Binds K fd ps ds ∧ Vals dvs ds ∧ DRep K dp dvs)
    (hb : ∀ (A : Around) (outer : List Env) (s : Shared) (H : Hp) (E : XK), Room k (A.deeper (envOfC d.qual d.scope s.heap.objs.size (He.ma K (He.ga K c) x) (.ref (He.codeOf K (c, some x))))) → SB (cxOf (L2.CX P w) P w K mg base N d.qual d.scope (He.ma K (He.ga K c) x) (.ref (He.codeOf K (c, some x))) A outer s H E) cs (WB E) d.body fb) :
    MethOk P w K mg base cs (k + 1) c x ps.length dp (runF N.length fb) := by
  obtain ⟨fd, FD⟩ := F.d.def_ i hd
  obtain ⟨ds, dvs, b1, b2, b3⟩ := bd fd FD
  have e1 : He.fAd K d.at_ = He.ma K (He.ga K c) x := by rw [he]; rfl
  rw [e1] at FD
  exact ⟨⟨fd, ps, ds, dvs, fn_mkC FD S (p := (c, some x)) rfl hb, rfl, b1, b2, b3⟩⟩
end
section
variable {X : Cx} {cs : List Tb} {W : WX} {x : Str} {p pos apos : Pos} {k : Nat} {f C : Addr} {fd : FuncData} {ps : List Str} {sp : Sp} {dvs : List V} {ds : List Value} {E : L2.St → XK} {e o : Expr} {es : List Expr} {ta : TE} {t : TA} {m : Str} {CX : CXT}
/-- o.m(e, ..) -/
theorem pe_methSD {pl : Sem Bool} (he : PE X o ta) (c : Cls X.K C) (hm : Meth X.K C m f) (F : FnOk X.prog X.w X.K X.mg X.base CX k f fd ps sp) (hr : Room k X.A) (hb : Binds X.K fd ps ds) (hd : Vals dvs ds) (hx : ∀ σ, PassesAt CX X σ (E σ)) (ha : PA X (e :: es) t)
    (hst : starEach (e :: es) X.env = (false, eval e X.env) :: starEach es X.env := by rfl) (hpl : (backTo pos (starEach es X.env)).any (·.1) = false := by rfl)
    (ht : eval (.Call (.Attribute o m apos) (e :: es) [] pos) X.env = (do
      let ov ← eval o X.env
      standAt apos.atName
      let (f, first) ← holding [ov] (getMethod ov m pl)
      callWith pos f first (backTo pos (starEach (e :: es) X.env)) (backToKw pos (keywordEach [] X.env))) := by rfl) :
    PE X (.Call (.Attribute o m apos) (e :: es) [] pos) (fun σ H Q => tMeth C m sp dvs (E σ) ta t σ H Q) := by
  refine ⟨fun pins s σ H Q I h => ?_⟩
  refine PySem.W.methodCall_KW (pl := pl) (thn (he.run pins s σ H _ I h) fun u s1 ⟨x, H1, I1, rx, a, dx, fs, ex, ea, l, q⟩ => ?_) ht
  subst ex
  obtain rfl : u = Value.ref a := rx
  refine getmeth_ok I1 ea c hm l ?_
  refine PySem.W.callWith_K (first := [.ref a]) (h₀ := X.base) I.ok.mod.kin hm.kp (thn (ha.run pos pins s1 σ H1 _ I1 q) fun us s2 ⟨vs, H2, I2, r, q2⟩ => ⟨I2.kIn, ?_⟩) hst hpl
  exact run_fnSD (us := .ref a :: us) (vs := .ref a :: vs) F hr hb hd (hx σ) I2 (.cons rfl r) q2
theorem pe_methSD0 {pl : Sem Bool} (he : PE X o ta) (c : Cls X.K C) (hm : Meth X.K C m f) (F : FnOk X.prog X.w X.K X.mg X.base CX k f fd ps sp) (hr : Room k X.A) (hb : Binds X.K fd ps ds) (hd : Vals dvs ds) (hx : ∀ σ, PassesAt CX X σ (E σ))
    (ht : eval (.Call (.Attribute o m apos) [] [] pos) X.env = (do
      let ov ← eval o X.env
      standAt apos.atName
      let (f, first) ← holding [ov] (getMethod ov m pl)
      callWith pos f first (backTo pos (starEach [] X.env)) (backToKw pos (keywordEach [] X.env))) := by rfl) :
    PE X (.Call (.Attribute o m apos) [] [] pos) (fun σ H Q => tMeth C m sp dvs (E σ) ta tNil σ H Q) := by
  refine ⟨fun pins s σ H Q I h => ?_⟩
  refine PySem.W.methodCall_KW (pl := pl) (thn (he.run pins s σ H _ I h) fun u s1 ⟨x, H1, I1, rx, a, dx, fs, ex, ea, l, q⟩ => ?_) ht
  subst ex
  obtain rfl : u = Value.ref a := rx
  refine getmeth_ok I1 ea c hm l ?_
  exact PySem.W.callWith_K0 (first := [.ref a]) I1.kIn hm.kp (run_fnSD (us := [.ref a]) (vs := [.ref a]) F hr hb hd (hx σ) I1 (.cons rfl .nil) q)
theorem run_makeSD {pins : List (Addr × Obj)} {σ : L2.St} {H : Hp} {s : Shared} {Q : VK} {us : List Value} {vs : List V} (M : Mk X.K C f) (F : FnOk X.prog X.w X.K X.mg X.base CX k f fd ps sp) (hr : Room (k + 1) X.A) (hb : Binds X.K fd ps ds) (hd : Vals dvs ds)
    (hx : PassesAt CX X σ (E σ)) (I : Inv X pins σ H s) (r : Vals vs us)
    (h : ∀ x dx, H x = none → H dx = none → dx ≠ x → sp (.ref x :: (vs ++ dvs)) (upd (upd H dx (.own x)) x (.ins C dx [])) (fun v H2 => v = .non ∧ Q (.ref x) H2) (E σ)) :
    wpAny (model X.prog X.w) X.A (call (.ref C) us) (EP X pins σ Q) X.xe s := by
  have hq := h (s.heap.objs.size + 1) s.heap.objs.size (I.hok.fresh (Nat.le_succ _)) (I.hok.fresh (Nat.le_refl _)) (Nat.ne_of_lt (Nat.lt_succ_self _))
  have I2 := Inv.made (C := C) I
  have r2 : Vals (V.ref (s.heap.objs.size + 1) :: (vs ++ dvs)) (Value.ref (s.heap.objs.size + 1) :: (us ++ ds)) := .cons rfl (r.append hd)
  have hl : (Value.ref (s.heap.objs.size + 1) :: us ++ ds).length = ps.length := by
    have e := r2.length
    rw [F.len _ _ _ _ hq] at e
    exact e.symm
  refine wpAny_call (make_map (f := f) I.kIn M.makes M.init (beq_iff_eq.mp M.fn) (codeAny_mono (F.run _ X.stack _ _ ⟨Value.ref (s.heap.objs.size + 1) :: us, []⟩ (Value.ref (s.heap.objs.size + 1) :: (us ++ ds)) _ _ (E σ) (hr.make C us [])
    (I2.env0.make C us []) (hb _ (Value.ref (s.heap.objs.size + 1) :: us) I2.kIn hl) r2 hq) fun r s' hq' => ?_))
  cases r with
  | error e => exact hx pins _ _ e s' I2 hq'
  | ok fl =>
    cases fl with
    | ret u =>
      obtain ⟨v, H', I3, rv, ev, q3⟩ := I2.after hq'
      subst ev
      exact ⟨rv, ⟨V.ref (s.heap.objs.size + 1), H', I3, rfl, q3⟩⟩
    | next => exact False.elim hq'
    | brk => exact False.elim hq'
    | cont => exact False.elim hq'
theorem pe_makeSD (M : Mk X.K C f) (F : FnOk X.prog X.w X.K X.mg X.base CX k f fd ps sp) (hr : Room (k + 1) X.A) (hg : Gl X x) (hm : X.mg x = some (.ref C)) (hb : Binds X.K fd ps ds) (hd : Vals dvs ds) (hx : ∀ σ, PassesAt CX X σ (E σ))
    (ha : PA X (e :: es) t) (hdb : (x == ("__debug__" : Str)) = false := by decide) (he : starEach (e :: es) X.env = (false, eval e X.env) :: starEach es X.env := by rfl) (hpl : (backTo pos (starEach es X.env)).any (·.1) = false := by rfl) :
    PE X (.Call (.Name x p) (e :: es) [] pos) (fun σ H Q => tMake C sp dvs (E σ) t σ H Q) := by
  refine ⟨fun pins s σ H Q I h => ?_⟩
  refine wpAny_Call_Name_kw (ld_glob I hg hm ?_ hdb)
  refine PySem.W.callWith_K (h₀ := X.base) I.ok.mod.kin M.kp (thn (ha.run pos pins s σ H _ I h) fun us s1 ⟨vs, H1, I1, r, q⟩ => ⟨I1.kIn, ?_⟩) he hpl
  exact run_makeSD M F hr hb hd (hx σ) I1 r q
theorem pe_makeSD0 (M : Mk X.K C f) (F : FnOk X.prog X.w X.K X.mg X.base CX k f fd ps sp) (hr : Room (k + 1) X.A) (hg : Gl X x) (hm : X.mg x = some (.ref C)) (hb : Binds X.K fd ps ds) (hd : Vals dvs ds) (hx : ∀ σ, PassesAt CX X σ (E σ))
    (hdb : (x == ("__debug__" : Str)) = false := by decide) : PE X (.Call (.Name x p) [] [] pos) (fun σ H Q => tMake C sp dvs (E σ) tNil σ H Q) := by
  refine ⟨fun pins s σ H Q I h => ?_⟩
  refine wpAny_Call_Name_kw (ld_glob I hg hm ?_ hdb)
  exact PySem.W.callWith_K0 I.kIn M.kp (run_makeSD (us := []) M F hr hb hd (hx σ) I .nil h)
end
/-- o.m(..): a method of an instance of c -/
def mMethD (c m : Str) (g : MF) (dp : List PV) (fo : ME PV) (fa : ME (List PV)) : ME PV := fun e h => (fo e h).bind fun v h1 => match v with
  | .r n => match h1[n]? with
    | some (.ins c' fs) => if c' = c ∧ fs.lookup m = none then (fa e h1).bind fun vs h2 => g (v :: (vs ++ dp)) h2 else .bad
    | _ => .bad
  | _ => .bad
def mMakeD (c : Str) (g : MF) (dp : List PV) (fa : ME (List PV)) : ME PV := fun e h => (fa e h).bind fun vs h1 => match g (.r h1.length :: (vs ++ dp)) (h1 ++ [.ins c []]) with
  | .ok (.d .none) h2 => .ok (.r h1.length) h2
  | .ok _ _ => .bad
  | .ex x h2 => .ex x h2
  | .bad => .bad
section
variable {X : Cx} {cs : List Tb} {W : WX} {p pos apos : Pos} {fa : List He.Fa} {fn : List He.DefD}
theorem s_meth_go {c m : Str} {k np n : Nat} {g : MF} {dp : List PV} {fo : ME PV} {fe : ME (List PV)} {dvs : List V} {ta : TA} (hl : ALen fe n) (hn : n + dp.length + 1 = np) (hdr : DRep X.K dp dvs) (hta : ∀ σ H Q, tA X.K cs W fe σ H Q → ta σ H Q) {σ : L2.St} {H : Hp} {Q : VK}
    (t : tE X.K cs W (mMethD c m g dp fo fe) σ H Q) : tMeth (He.ga X.K c) m (spF X.K cs np g) dvs (WE W σ) (tE X.K cs W fo) ta σ H Q := by
  obtain ⟨mm, z, e, h, hs, hh, p⟩ := t
  refine tE_then hs hh p fun v h1 m1 H1 u hs1 hh1 r1 n1 p1 => ?_
  split at p1
  · rename_i a
    cases r1 with
    | r ha =>
      rename_i b
      split at p1
      · rename_i c' fs ex
        split at p1
        · rename_i hc
          obtain ⟨rfl, hf⟩ := hc
          obtain ⟨dx, ws, ea, ek, er⟩ := cellI hh1 ha ex
          refine ⟨b, dx, ws, rfl, ea, (fs_look m ek er).2 hf, hta _ _ _ ⟨m1, z, e, h1, hs1, hh1, ?_⟩⟩
          have pb := p1.bind
          cases q : fe e h1 with
          | ok vs h2 =>
            rw [q] at pb
            have hlen := hl e h1 vs h2 q
            intro m2 H2 n2 hh2 us r2
            refine ⟨?_, m2, z, h2, .r a :: (vs ++ dp), .cons (.r (n2.get ha)) (r2.append (hdr _ _ _)), hh2, pb m2 H2 n2 hh2⟩
            have := (r2.append (hdr m2 z H2)).length
            rw [List.length_append] at this
            simp only [List.length_cons]
            omega
          | ex c h2 => rw [q] at pb; exact pb
          | bad => rw [q] at pb; exact pb
        · exact p1.elim
      · exact p1.elim
  · exact p1.elim
theorem s_ome {pl : Sem Bool} {c m : Str} {k np n : Nat} {g : MF} {dp : List PV} {o a : Expr} {es : List Expr} {fo : ME PV} {fe : ME (List PV)} (F : Fx fa fn X.K X.mg) (i j : Nat) (hi : fa[i]? = some (.cls c)) (hj : fa[j]? = some (.meth c m)) (D : MethOk X.prog X.w X.K X.mg X.base cs k c m np dp g) (tk : Takes X W) (hr : Room k X.A)
    (hl : ALen fe n) (hn : n + dp.length + 1 = np) (ho : SE X cs W o fo) (ha : SA X cs W (a :: es) fe)
    (hst : starEach (a :: es) X.env = (false, eval a X.env) :: starEach es X.env := by rfl) (hpl : (backTo pos (starEach es X.env)).any (·.1) = false := by rfl)
    (ht : eval (.Call (.Attribute o m apos) (a :: es) [] pos) X.env = (do
      let ov ← eval o X.env
      standAt apos.atName
      let (f, first) ← holding [ov] (getMethod ov m pl)
      callWith pos f first (backTo pos (starEach (a :: es) X.env)) (backToKw pos (keywordEach [] X.env))) := by rfl) :
    SE X cs W (.Call (.Attribute o m apos) (a :: es) [] pos) (mMethD c m g dp fo fe) := by
  obtain ⟨fd, ps, ds, dvs, G, e, b, v, r⟩ := D.ex
  exact pe_imp (pe_methSD (E := WE W) ho (He.cls_ok (F.d.fact i hi)) (He.meth_ok (F.d.fact j hj)) G hr b v (fun σ => passAt tk σ) ha hst hpl ht) fun σ H Q => s_meth_go (k := k) hl hn r (fun _ _ _ q => q)
theorem s_ome0 {pl : Sem Bool} {c m : Str} {k np : Nat} {g : MF} {dp : List PV} {o : Expr} {fo : ME PV} (F : Fx fa fn X.K X.mg) (i j : Nat) (hi : fa[i]? = some (.cls c)) (hj : fa[j]? = some (.meth c m)) (D : MethOk X.prog X.w X.K X.mg X.base cs k c m np dp g) (tk : Takes X W) (hr : Room k X.A)
    (hn : dp.length + 1 = np) (ho : SE X cs W o fo)
    (ht : eval (.Call (.Attribute o m apos) [] [] pos) X.env = (do
      let ov ← eval o X.env
      standAt apos.atName
      let (f, first) ← holding [ov] (getMethod ov m pl)
      callWith pos f first (backTo pos (starEach [] X.env)) (backToKw pos (keywordEach [] X.env))) := by rfl) :
    SE X cs W (.Call (.Attribute o m apos) [] [] pos) (mMethD c m g dp fo aNil) := by
  obtain ⟨fd, ps, ds, dvs, G, e, b, v, r⟩ := D.ex
  exact pe_imp (pe_methSD0 (E := WE W) ho (He.cls_ok (F.d.fact i hi)) (He.meth_ok (F.d.fact j hj)) G hr b v (fun σ => passAt tk σ) ht) fun σ H Q => s_meth_go (k := k) al_nil (by omega) r (fun _ _ _ ⟨m, z, e, h, hs, hh, p⟩ => p.here hh [] .nil)
theorem s_make_go {c : Str} {k np n : Nat} {g : MF} {dp : List PV} {fe : ME (List PV)} {dvs : List V} {ta : TA} (hl : ALen fe n) (hn : n + dp.length + 1 = np) (hdr : DRep X.K dp dvs) (hta : ∀ σ H Q, tA X.K cs W fe σ H Q → ta σ H Q) {σ : L2.St} {H : Hp} {Q : VK}
    (t : tE X.K cs W (mMakeD c g dp fe) σ H Q) : tMake (He.ga X.K c) (spF X.K cs np g) dvs (WE W σ) ta σ H Q := by
  obtain ⟨mm, z, e, h, hs, hh, p⟩ := t
  refine hta _ _ _ ⟨mm, z, e, h, hs, hh, ?_⟩
  have pb := p.bind
  cases q : fe e h with
  | ex c h2 => rw [q] at pb; exact pb
  | bad => rw [q] at pb; exact pb
  | ok vs h1 =>
    rw [q] at pb
    have hlen := hl e h vs h1 q
    intro m1 H1 n1 hh1 us r1 x dx hx hdx hne
    have pb1 := pb m1 H1 n1 hh1
    dsimp only at pb1
    have hx2 : upd H1 dx (.own x) x = none := by rw [upd_ne (Ne.symm hne)]; exact hx
    have nA : Nx m1 z H1 m1 (upd H1 dx (.own x)) := Nx.new hdx
    have nB : Nx m1 z (upd H1 dx (.own x)) (m1 ++ [x]) (upd (upd H1 dx (.own x)) x (.ins (He.ga X.K c) dx [])) := Nx.cell hx2
    have nn := nA.trans nB
    have hhB : HRel X.K cs (m1 ++ [x]) z (h1 ++ [.ins c []]) (upd (upd H1 dx (.own x)) x (.ins (He.ga X.K c) dx [])) := (hh1.new hdx).cell hx2 ⟨dx, [], upd_same, rfl, .nil⟩
    have rx : Rep X.K (m1 ++ [x]) z (upd (upd H1 dx (.own x)) x (.ins (He.ga X.K c) dx [])) (.r h1.length) (.ref x) := .r (by rw [hh1.len, List.getElem?_append_right (Nat.le_refl _), Nat.sub_self]; rfl)
    refine ⟨?_, m1 ++ [x], z, h1 ++ [.ins c []], .r h1.length :: (vs ++ dp), .cons rx ((r1.nx nn).append (hdr _ _ _)), hhB, ?_⟩
    · have := (r1.append (hdr m1 z H1)).length
      rw [List.length_append] at this
      simp only [List.length_cons]
      omega
    · cases q2 : g (.r h1.length :: (vs ++ dp)) (h1 ++ [.ins c []]) with
      | bad => rw [q2] at pb1; exact pb1
      | ex y h2 => rw [q2] at pb1; exact fun m2 H2 n2 hh2 => pb1 m2 H2 (nn.trans n2) hh2
      | ok v h2 =>
        rw [q2] at pb1
        intro m2 H2 n2 hh2 u ru
        split at pb1
        · rename_i h2' e2
          injection e2 with e2 e3
          subst e2 e3
          refine ⟨by cases ru with | d hd _ => cases hd; rfl, ?_⟩
          exact pb1 m2 H2 (nn.trans n2) hh2 _ (rx.nx n2)
        · exact pb1.elim
        · rename_i e2; cases e2
        · rename_i e2; cases e2
theorem s_make {c : Str} {k np n : Nat} {g : MF} {dp : List PV} {a : Expr} {es : List Expr} {fe : ME (List PV)} (F : Fx fa fn X.K X.mg) (i j : Nat) (hi : fa[i]? = some (.glo c)) (hj : fa[j]? = some (.mkr c)) (D : MethOk X.prog X.w X.K X.mg X.base cs k c "__init__" np dp g) (tk : Takes X W) (hr : Room (k + 1) X.A) (hg : Gl X c)
    (hl : ALen fe n) (hn : n + dp.length + 1 = np) (ha : SA X cs W (a :: es) fe)
    (hdb : (c == ("__debug__" : Str)) = false := by decide) (he : starEach (a :: es) X.env = (false, eval a X.env) :: starEach es X.env := by rfl) (hpl : (backTo pos (starEach es X.env)).any (·.1) = false := by rfl) :
    SE X cs W (.Call (.Name c p) (a :: es) [] pos) (mMakeD c g dp fe) := by
  obtain ⟨fd, ps, ds, dvs, G, e, b, v, r⟩ := D.ex
  exact pe_imp (pe_makeSD (E := WE W) (He.mkr_ok (F.d.fact j hj)) G hr hg (F.glo i c hi) b v (fun σ => passAt tk σ) ha hdb he hpl) fun σ H Q => s_make_go (k := k) hl hn r (fun _ _ _ q => q)
theorem s_make0 {c : Str} {k np : Nat} {g : MF} {dp : List PV} (F : Fx fa fn X.K X.mg) (i j : Nat) (hi : fa[i]? = some (.glo c)) (hj : fa[j]? = some (.mkr c)) (D : MethOk X.prog X.w X.K X.mg X.base cs k c "__init__" np dp g) (tk : Takes X W) (hr : Room (k + 1) X.A) (hg : Gl X c)
    (hn : dp.length + 1 = np) (hdb : (c == ("__debug__" : Str)) = false := by decide) :
    SE X cs W (.Call (.Name c p) [] [] pos) (mMakeD c g dp aNil) := by
  obtain ⟨fd, ps, ds, dvs, G, e, b, v, r⟩ := D.ex
  exact pe_imp (pe_makeSD0 (E := WE W) (He.mkr_ok (F.d.fact j hj)) G hr hg (F.glo i c hi) b v (fun σ => passAt tk σ) hdb) fun σ H Q => s_make_go (k := k) al_nil (by omega) r (fun _ _ _ ⟨m, z, e, h, hs, hh, p⟩ => p.here hh [] .nil)
end
end Mi

set_option Elab.async false
set_option linter.all false
set_option maxRecDepth 100000
set_option maxHeartbeats 4000000
namespace Mi
open PySem PySem.Spec PyProof.Rows L2
/-! ## what was hidden becomes a cell -/
section
variable {K : PySem.W.Frag} {cs : List Tb} {m z : List Addr} {h : Cells} {H : Hp} {D : Addr} {o : HO} {u : AO}
theorem HRel.hid2 (r : HRel K cs m (D :: z) h H) (h1 : ∀ ps, H D ≠ some (.tbl ps)) (h2 : ∀ c q, H D ≠ some (LamX.CodeO c q)) : HRel K cs m (D :: z) h (upd H D o) where
  len := r.len
  nd := r.nd
  dz := r.dz
  lv := fun a q => by
    by_cases e : a = D
    · rw [e, upd_same]; simp
    · rw [upd_ne e]; exact r.lv a q
  obj := fun n u a h1 h2 => (r.obj n u a h1 h2).vw vw_hid (fun _ _ q => q) (upd_ne (fun e => r.dz a (List.mem_of_getElem? h2) (by simp [e])))
  tb := fun t ht => by
    obtain ⟨ps, e1, e2, e3⟩ := r.tb t ht
    refine ⟨ps, ?_, e2, fun pos cv hp hc => ?_⟩
    · rw [upd_ne (fun (e : t.P = D) => h1 ps (e ▸ e1))]; exact e1
    · obtain ⟨c, q1, q2⟩ := e3 pos cv hp hc
      refine ⟨c, q1, ?_⟩
      rw [upd_ne (fun (e : c = D) => h2 _ _ (e ▸ q2))]; exact q2
  tm := r.tm
theorem vw_adopt : Vw (fz m (D :: z) H) (fz (m ++ [D]) z H) := fun a u q _ => by
  obtain ⟨h1, h2, h3⟩ := fz_some q
  refine fz_of (fun x => ?_) (fun x => h2 (by simp [x])) h3
  rcases List.mem_append.mp x with x | x
  · exact h1 x
  · exact h2 (by rw [List.mem_singleton.mp x]; simp)
theorem get_app {i : Nat} {a : Addr} (q : m[i]? = some a) : (m ++ [D])[i]? = some a := by rw [List.getElem?_append_left (List.getElem?_eq_some_iff.mp q).1]; exact q
theorem HRel.adopt (r : HRel K cs m (D :: z) h H) (hz : D ∉ z) (h1 : ∀ ps, H D ≠ some (.tbl ps)) (ho : ORep K (m ++ [D]) z H D u) : HRel K cs (m ++ [D]) z (h ++ [u]) H where
  len := by simp [r.len]
  nd := List.nodup_append.mpr ⟨r.nd, List.pairwise_singleton _ _, fun a ha b hb e => by
    rw [List.mem_singleton.mp hb] at e
    exact r.dz a ha (by simp [e])⟩
  dz := fun a ha q => by
    rcases List.mem_append.mp ha with x | x
    · exact r.dz a x (by simp [q])
    · rw [List.mem_singleton.mp x] at q; exact hz q
  lv := fun a q => r.lv a (by
    rcases q with q | q
    · rcases List.mem_append.mp q with x | x
      · exact .inl x
      · exact .inr (by rw [List.mem_singleton.mp x]; simp)
    · exact .inr (by simp [q]))
  obj := fun n w a e1 e2 => by
    by_cases hl : n < h.length
    · rw [List.getElem?_append_left hl] at e1
      rw [List.getElem?_append_left (by rw [← r.len]; exact hl)] at e2
      exact (r.obj n w a e1 e2).vw vw_adopt (fun _ _ q => get_app q) rfl
    · have e : n = h.length := by
        have := (List.getElem?_eq_some_iff.mp e1).1
        simp at this
        omega
      subst e
      rw [List.getElem?_append_right (Nat.le_refl _), Nat.sub_self] at e1
      rw [r.len, List.getElem?_append_right (Nat.le_refl _), Nat.sub_self] at e2
      obtain rfl : u = w := by simpa using e1
      obtain rfl : D = a := by simpa using e2
      exact ho
  tb := r.tb
  tm := fun t ht q => by
    rcases List.mem_append.mp q with x | x
    · exact r.tm t ht x
    · obtain ⟨ps, e1, _⟩ := r.tb t ht
      rw [List.mem_singleton.mp x] at e1
      exact h1 ps e1
theorem Nx.adopt {m0 : List Addr} {H0 : Hp} (n : Nx m0 z H0 m H) (hD : H0 D = none) : Nx m0 z H0 (m ++ [D]) H := by
  obtain ⟨l, e, nl⟩ := n.pre
  refine ⟨⟨l ++ [D], by rw [e, List.append_assoc], fun a ha => ?_⟩, n.kp, n.lv⟩
  rcases List.mem_append.mp ha with x | x
  · exact nl a x
  · rw [List.mem_singleton.mp x]; exact hD
theorem rep_lenm (hh : HRel K cs m z h H) : Rep K (m ++ [D]) z H (.r h.length) (.ref D) := .r (by rw [hh.len, List.getElem?_append_right (Nat.le_refl _), Nat.sub_self]; rfl)
end
/-! ## dicts -/
def mDnew : ME PV := fun _ h => .ok (.r h.length) (h ++ [.dk []])
def mPairs : List (ME PV × ME PV) → ME (List (Key × PV))
  | [] => fun _ h => .ok [] h
  | (fk, fv) :: r => fun e h => (fk e h).bind fun k h1 => (fv e h1).bind fun v h2 => match keyOf k with
    | some q => (mPairs r e h2).bind fun ps h3 => .ok ((q, v) :: ps) h3
    | none => .bad
def mDisp (ps : List (ME PV × ME PV)) : ME PV := fun e h => (mPairs ps e h).bind fun kvs h1 => if kvs.length ≤ 15 then .ok (.r h1.length) (h1 ++ [.dk (mergeP [] kvs)]) else .bad
section
variable {X : Cx} {cs : List Tb} {W : WX}
theorem s_dnew {pos : Pos} : SE X cs W (.Dict [] [] pos) mDnew := pe_imp pe_dnewK fun σ H Q ⟨m, z, e, h, hs, hh, p⟩ q hn =>
  p _ _ (Nx.cell hn) (hh.cell (u := .dk []) hn ⟨[], upd_same, rfl, .nil⟩) _ (.r (by rw [hh.len, List.getElem?_append_right (Nat.le_refl _), Nat.sub_self]; rfl))
def trsOf (K : PySem.W.Frag) (cs : List Tb) (W : WX) (ps : List (ME PV × ME PV)) : List (TE × TE) := ps.map fun p => (tE K cs W p.1, tE K cs W p.2)
theorem t_pairs {K : PySem.W.Frag} : ∀ (ps : List (ME PV × ME PV)) {σ : L2.St} {H : Hp} {m z : List Addr} {e : Sl} {h : Cells} {Q : List (V × V) → Hp → Prop}, SRel K m z H e σ → HRel K cs m z h H →
    Po K cs z m H (fun kvs h' m' H' => ∀ ws, KVR K m' z H' kvs ws → Q (ws.map fun kv => (kV kv.1, kv.2)) H') (WxE K W σ) (mPairs ps e h) → tPairs (trsOf K cs W ps) σ H Q
  | [], σ, H, m, z, e, h, Q, hs, hh, p => p.here hh [] .nil
  | (fk, fv) :: r, σ, H, m, z, e, h, Q, hs, hh, p => by
    refine tE_then hs hh p fun k h1 m1 H1 u1 hs1 hh1 r1 n1 p1 => tE_then hs1 hh1 p1 fun v h2 m2 H2 u2 hs2 hh2 r2 n2 p2 => ?_
    cases q : keyOf k with
    | none => rw [q] at p2; exact p2.elim
    | some key =>
      rw [q] at p2
      refine t_pairs r hs2 hh2 (p2.bind.imp (fun kvs h3 m3 H3 n3 hh3 q3 ws kv => ?_) fun _ _ q => q)
      have := q3.here hh3 ((key, u2) :: ws) (.cons (r2.nx n3) kv)
      rw [keyOf_rep r1 q]
      exact this
theorem s_disp {keys : List (Option Expr)} {values : List Expr} {pos : Pos} {ps : List (ME PV × ME PV)} (hp : PPs X pos keys values (trsOf X.K cs W ps)) (hall : keys.all (·.isSome) = true := by rfl) (hl : keys.length = values.length := by rfl) (h0 : keys ≠ [] := by simp) (h15 : keys.length ≤ 15 := by decide) :
    SE X cs W (.Dict keys values pos) (mDisp ps) := pe_imp (pe_disp hp hall hl h0 h15) fun σ H Q ⟨m, z, e, h, hs, hh, p⟩ D hD => by
  have f : FrZ H z (D :: z) := ⟨[D], rfl, fun a ha => by rw [List.mem_singleton.mp ha]; exact hD⟩
  have hs' : SRel X.K m (D :: z) (upd H D (.dK [])) e σ := hs.vw (vw_hide hD) (fun _ _ q => q)
  have hh' := hh.hide (o := .dK []) hD
  refine t_pairs ps hs' hh' ?_
  unfold mDisp at p
  cases q : mPairs ps e h with
  | bad => rw [q] at p; exact p
  | ex c h1 =>
    rw [q] at p
    exact fun m1 H1 n1 hh1 => p m1 H1 ((Nx.new (o := .dK []) hD).trans n1.zz) hh1.show
  | ok kvs h1 =>
    rw [q] at p
    intro m1 H1 n1 hh1 ws kv
    have nn : Nx m z H m1 H1 := (Nx.new (o := .dK []) hD).trans n1.zz
    have hD1 : H1 D = some (.dK []) := n1.kp D _ (fun q => hh'.dz D q (by simp)) upd_same (fun _ h => by cases h)
    dsimp only [Out.bind] at p
    split at p
    · rename_i hz
      refine ⟨hD1, ws, rfl, by rw [← kv.length]; exact hz, ?_⟩
      have hh2 : HRel X.K cs m1 (D :: z) h1 (upd H1 D (.dK (mergeK [] ws))) := hh1.hid2 (fun ps e => by rw [hD1] at e; cases e) (fun c q e => by rw [hD1] at e; exact codeO_dK (Option.some.inj e).symm)
      have hzD : D ∉ z := fun q => hh.lv D (.inr q) hD
      have n2 : Nx m z H m1 (upd H1 D (.dK (mergeK [] ws))) := nn.hid hD
      have kv2 : KVR X.K (m1 ++ [D]) z (upd H1 D (.dK (mergeK [] ws))) (mergeP [] kvs) (mergeK [] ws) := by
        have k1 : KVR X.K m1 (D :: z) H1 (mergeP [] kvs) (mergeK [] ws) := KVR.merge kv .nil
        refine kvr_of k1.keys ?_
        exact Rep.vwAll (vw_adopt (D := D)) (fun _ _ q => get_app q) (Rep.vwAll vw_hid (fun _ _ q => q) k1.vals)
      have hh3 := hh2.adopt (u := .dk (mergeP [] kvs)) hzD (fun ps e => by rw [upd_same] at e; cases e) ⟨_, upd_same, kv2.keys, kv2.vals⟩
      exact p _ _ (n2.adopt hD) hh3 _ (rep_lenm hh2.show)
    · exact p.elim
/-! ### {k: v for ..} -/
def dcL (g : MG) (t : ME Bool) (fk fe : ME PV) (src : Option SR) (all : List PV) (e : Sl) : List PV → Cells → List (Key × PV) → Out PV
  | [], h, acc => if gd src all h then .ok (.r h.length) (h ++ [.dk acc]) else .bad
  | x :: r, h, acc => if gd src all h then (match g x e h with
      | some (e1, h1) => (t e1 h1).calm fun b h2 => if b then ((fk e1 h2).calm fun k h3 => (fe e1 h3).calm fun y h4 => match keyOf k with
          | some q => if acc.length < sizeLine then dcL g t fk fe src all e r h4 (putP acc q y) else .bad
          | none => .bad) else dcL g t fk fe src all e r h2 acc
      | none => .bad) else .bad
def mDc (fi : ME (List PV × Option SR)) (g : MG) (t : ME Bool) (fk fe : ME PV) (vs : List Nat) : ME PV := fun e h => (fi e h).bind fun p h1 => dcL g t fk fe p.2 p.1 (wipeE e vs) p.1 h1 []
theorem tE_dc {K : PySem.W.Frag} {fi : ME (List PV × Option SR)} {g : MG} {t : ME Bool} {fk fe : ME PV} {vs : List Nat} {σ : L2.St} {H : Hp} {Q : VK} (tt : tE K cs W (mDc fi g t fk fe vs) σ H Q) :
    tDc (tI K cs W fi) (tG K cs vs g) (tT K cs W0 t) (tE K cs W0 fk) (tE K cs W0 fe) vs σ H Q := by
  obtain ⟨m, z, e, h, hs, hh, p⟩ := tt
  refine ⟨m, z, e, h, hs, hh, p.bind.imp (fun pp h1 m1 H1 n1 hh1 q J hJ D hD => ?_) fun _ _ q => q⟩
  obtain ⟨xs, src⟩ := pp
  have hs1 := hs.nx n1
  refine ⟨fun i k H' => k = xs.length - i ∧ i ≤ xs.length ∧ ∃ m2 h2 acc ws, HRel K cs m2 (D :: z) h2 H' ∧ H' D = some (.dK ws) ∧ KVR K m2 (D :: z) H' acc ws ∧ Nx m1 z H1 m2 H' ∧
      Po K cs z m1 H1 (RxE K z Q) (WxE K W σ) (dcL g t fk fe src xs (wipeE e vs) (xs.drop i) h2 acc), ⟨xs.length, by omega, Nat.zero_le _, m1, h1, [], [], hh1.hide hD, upd_same, .nil, Nx.new hD, by simpa using q⟩, ?_⟩
  rintro i k H2 ⟨rfl, hle, m2, h2, acc, ws, hh2, hDw, ra, n2, p2⟩
  have fz2 : FrZ H1 z (D :: z) := ⟨[D], rfl, fun a ha => by rw [List.mem_singleton.mp ha]; exact hD⟩
  have hs2 : SRel K m2 (D :: z) H2 (wipeE e vs) (wipe σ vs) := (hs1.wipe vs).vw (n2.vwz fz2) (fun _ _ q => n2.get q)
  have nt : ∀ {ws : List (Key × V)}, NoTb (.dK ws) := fun _ h => by cases h
  by_cases hlt : i < xs.length
  · have ex : xs[i]? = some xs[i] := List.getElem?_eq_getElem hlt
    rw [List.drop_eq_getElem_cons hlt] at p2
    unfold dcL at p2
    split at p2
    · rename_i hgd
      obtain ⟨hJ1, hJ2⟩ := hJ (D :: z) m2 h2 H2 fz2 n2 hh2 hgd
      obtain ⟨go, yl⟩ := hJ1 i _ ex
      refine .inr ⟨go, fun H' => ∃ m3 h3 acc3 ws3, HRel K cs m3 (D :: z) h3 H' ∧ H' D = some (.dK ws3) ∧ KVR K m3 (D :: z) H' acc3 ws3 ∧ Nx m1 z H1 m3 H' ∧
        Po K cs z m1 H1 (RxE K z Q) (WxE K W σ) (dcL g t fk fe src xs (wipeE e vs) (xs.drop (i + 1)) h3 acc3), fun H' w => ⟨xs.length - (i + 1), by omega, rfl, hlt, w⟩, fun u H3 hy => ?_⟩
      obtain ⟨n3, hh3, r3⟩ := yl u H3 hy
      have hDm : ∀ {m' : List Addr} {h' : Cells} {H' : Hp}, HRel K cs m' (D :: z) h' H' → D ∉ m' := fun r q => r.dz D q (by simp)
      refine ⟨m2, D :: z, wipeE e vs, h2, xs[i], hs2.nx n3, hh3, r3, ?_⟩
      cases qg : g xs[i] (wipeE e vs) h2 with
      | none => rw [qg] at p2; exact p2.elim
      | some q' =>
        obtain ⟨e4, h4⟩ := q'
        rw [qg] at p2
        simp only at p2 ⊢
        intro m4 σ4 H4 n4 hh4 hs4 hw
        refine ⟨hw.trans (wipe_wipe σ vs), m4, D :: z, e4, h4, hs4, hh4, ?_⟩
        have n24 := n3.trans n4
        cases qt : t e4 h4 with
        | bad => rw [qt] at p2; exact p2.elim
        | ex c h5 => rw [qt] at p2; exact p2.elim
        | ok b h5 =>
          rw [qt] at p2
          intro m5 H5 n5 hh5
          have n25 := n24.trans n5
          cases b with
          | false =>
            simp only [Out.calm, Bool.false_eq_true, if_false] at p2 ⊢
            exact ⟨m5, h5, acc, ws, hh5, n25.kp D _ (hDm hh2) hDw nt, ra.nx n25, n2.trans n25.zz, p2⟩
          | true =>
            simp only [Out.calm, if_true] at p2 ⊢
            refine ⟨m5, D :: z, e4, h5, hs4.nx n5, hh5, ?_⟩
            cases qk : fk e4 h5 with
            | bad => rw [qk] at p2; exact p2.elim
            | ex c h6 => rw [qk] at p2; exact p2.elim
            | ok kk h6 =>
              rw [qk] at p2
              simp only at p2
              intro m6 H6 n6 hh6 u6 r6
              refine ⟨m6, D :: z, e4, h6, (hs4.nx n5).nx n6, hh6, ?_⟩
              cases qe : fe e4 h6 with
              | bad => rw [qe] at p2; exact p2.elim
              | ex c h7 => rw [qe] at p2; exact p2.elim
              | ok y h7 =>
                rw [qe] at p2
                simp only at p2
                split at p2
                · rename_i key ek
                  split at p2
                  · rename_i hz
                    intro m7 H7 n7 hh7 u7 r7
                    have n27 := (n25.trans n6).trans n7
                    have hD7 : H7 D = some (.dK ws) := n27.kp D _ (hDm hh2) hDw nt
                    rw [ra.length] at hz
                    have k2 := (ra.nx n27).put (k := key) r7
                    refine ⟨ws, key, keyOf_rep r6 ek, hD7, hz, m7, h7, putP acc key y, putK ws key u7, hh7.hid2 (fun ps e => by rw [hD7] at e; cases e) (fun c q e => by rw [hD7] at e; exact codeO_dK (Option.some.inj e).symm), upd_same, kvr_of k2.keys (Rep.vwAll vw_hid (fun _ _ q => q) k2.vals), (n2.trans n27.zz).hid hD, p2⟩
                  · exact p2.elim
                · exact p2.elim
    · exact p2.elim
  · have ei : i = xs.length := by omega
    subst ei
    rw [List.drop_length] at p2
    unfold dcL at p2
    split at p2
    · rename_i hgd
      have hzD : D ∉ z := fun q => hh1.lv D (.inr q) hD
      have hh3 := hh2.adopt (u := .dk acc) hzD (fun ps e => by rw [hDw] at e; cases e) ⟨ws, hDw, ra.keys, Rep.vwAll (vw_adopt (D := D)) (fun _ _ q => get_app q) ra.vals⟩
      exact .inl ⟨(hJ (D :: z) m2 h2 H2 fz2 n2 hh2 hgd).2, p2 _ _ (n2.adopt hD) hh3 _ (rep_lenm hh2.show)⟩
    · exact p2.elim
theorem s_dc {tg kx vx iter : Expr} {ifs : List Expr} {scope : Scope} {own : List (Str × Nat)} {pos : Pos} {fi : ME (List PV × Option SR)} {g : MG} {t : ME Bool} {fk fe : ME PV} (hc : X.calm = true) (hN : X.N.Nodup) (hi : SI X cs W tg iter fi) (ok : BlkOk X.N X.env.scope scope own)
    (hg : ∀ (s : Shared) (H : Hp) (C : Addr) (cl : List (Str × Addr)) (fp : List Addr), SG (X.blk s H scope (compEnvC scope cl C X.env) fp) cs (own.map (·.2)) tg g) (ht : ∀ (s : Shared) (H : Hp) (C : Addr) (cl : List (Str × Addr)) (fp : List Addr), STs (X.blk s H scope (compEnvC scope cl C X.env) fp) cs W0 ifs t)
    (hk : ∀ (s : Shared) (H : Hp) (C : Addr) (cl : List (Str × Addr)) (fp : List Addr), SE (X.blk s H scope (compEnvC scope cl C X.env) fp) cs W0 kx fk)
    (he : ∀ (s : Shared) (H : Hp) (C : Addr) (cl : List (Str × Addr)) (fp : List Addr), SE (X.blk s H scope (compEnvC scope cl C X.env) fp) cs W0 vx fe) (hs : ∀ x, foldedSetIterable iter X.env x = pure x := by intro _; rfl) :
    SE X cs W (.DictComp kx vx [⟨tg, iter, ifs, 0⟩] scope pos) (mDc fi g t fk fe (own.map (·.2))) := pe_imp (pe_dc hc hN hi ok hg ht hk he hs) fun _ _ _ => tE_dc
end
/-! ### d.update(e) -/
def rUpd : V → List V → Hp → VK → Prop := fun x xs H Q => ∃ (a b : Addr) (kvs more : List (Key × V)), x = .ref a ∧ xs = [.ref b] ∧ a ≠ b ∧ H a = some (.dK kvs) ∧ H b = some (.dK more) ∧ kvs.length + more.length ≤ sizeLine ∧ Q .non (upd H a (.dK (mergeK kvs more)))
theorem mt_update {X : Cx} : MtR X "dict.update" rUpd := by
  intro pins s σ H x xs v us Q I rx rxs h
  obtain ⟨a, b, kvs, more, rfl, rfl, hne, ea, eb, hz, q⟩ := h
  obtain rfl : v = Value.ref a := rx
  obtain ⟨u, rfl, ru⟩ := rxs.one
  obtain rfl : u = Value.ref b := ru
  obtain ⟨z1, hd1, vs1, rel1, dd1⟩ := dk_of I.hok ea
  obtain ⟨z2, hd2, vs2, rel2, dd2⟩ := dk_of I.hok eb
  refine call_meetsIn PySem.F.slot_dict_update dd1.typeIs PySem.F.entry_dict_update (PySem.F.args_dict_update_2 _ _) (meets_dict_update (mixKind X.prog X.w) a b hne hd2) ⟨vs1, vs2, dd1, dd2, by rw [← rel1.length, ← rel2.length]; exact hz, fun h' da db sb => ?_⟩
  have hl : (mergeK kvs more).length ≤ sizeLine := by have := length_mergeK more kvs; omega
  exact ⟨.non, _, d_write I (by rw [ea]; exact True.intro) sb (let ⟨o, _, _, e, _⟩ := da; ⟨o, e⟩) (dk_new hl hd1 (KV.merge rel2 rel1) da), rfl, q⟩
def meUpdate (v : PV) (vs : List PV) (h : Cells) : Out PV := match v, vs with
  | .r n, [.r k] => match h[n]?, h[k]? with
    | some (.dk kvs), some (.dk more) => if n ≠ k ∧ kvs.length + more.length ≤ sizeLine then .ok (.d .none) (h.set n (.dk (mergeP kvs more))) else .bad
    | _, _ => .bad
  | _, _ => .bad
def tyD (v : PV) (h : Cells) : Bool := (asDict v h).isSome
theorem ty_dict {K : PySem.W.Frag} {cs : List Tb} : Ty K cs "dict" tyD := by
  intro m z H h v u hh r e
  unfold tyD at e
  cases q : asDict v h with
  | none => rw [q] at e; cases e
  | some kvs =>
    obtain ⟨a, ws, rfl, e1, t1⟩ := asDict_rep hh r q
    exact .inr (.inr (.inl ⟨rfl, .inl ⟨ws, e1⟩⟩))
theorem bm_update {K : PySem.W.Frag} {cs : List Tb} : Bm K cs rUpd meUpdate := by
  intro m z H h v u vs us Q Wx hh r rs p
  unfold meUpdate at p
  split at p
  · rename_i n k
    obtain ⟨w, rfl, r2⟩ := rep1 rs
    split at p
    · rename_i kvs more ex ey
      split at p
      · rename_i hz
        cases r with
        | r hn =>
          rename_i a
          cases r2 with
          | r hk =>
            rename_i b
            obtain ⟨ws, e1, t1⟩ := cellD hh hn ex
            obtain ⟨ws2, e2, t2⟩ := cellD hh hk ey
            refine ⟨a, b, ws, ws2, rfl, rfl, fun q => hz.1 (getElem?_inj_nodup hh.nd hn (q ▸ hk)), e1, e2, by rw [← t1.length, ← t2.length]; exact hz.2, ?_⟩
            exact p m _ (Nx.wr hn) (hh.wrD hn e1 (KVR.merge t2 t1)) _ rN_
      · exact p.elim
    · exact p.elim
  · exact p.elim
/-! ### sorted(a dict of numbers) -/
def keysI : List (Key × PV) → Option (List Int)
  | [] => some []
  | (.inl x, _) :: r => (keysI r).map (x :: ·)
  | _ => none
theorem keysI_eq : ∀ {kvs : List (Key × PV)} {ks : List Int}, keysI kvs = some ks → kvs.map (·.1) = ks.map Sum.inl
  | [], ks, e => by
    obtain rfl := Option.some.inj e
    rfl
  | (.inl x, v) :: r, ks, e => by
    unfold keysI at e
    cases q : keysI r with
    | none => rw [q] at e; cases e
    | some ks' =>
      rw [q] at e
      obtain rfl := Option.some.inj e
      simp [keysI_eq q]
  | (.inr x, v) :: r, ks, e => by unfold keysI at e; cases e
def biSortedDI (vs : List PV) (h : Cells) : Out PV := match vs with
  | [v] => match asDict v h with
    | some kvs => match keysI kvs with
      | some ks => if ks.length < 64 then .ok (.d (.list ((sortI ks).map .int))) h else .bad
      | none => .bad
    | none => .bad
  | _ => .bad
theorem rep_intsN {K : PySem.W.Frag} {cs : List Tb} {m z : List Addr} {h : Cells} {H : Hp} {p : Addr} (hh : HRel K cs m z h H) (hn : H p = none) (ns : List Int) : Rep K m z (upd H p (.lst (ns.map V.int))) (.d (.list (ns.map .int))) (.ref p) := by
  have e : mkL ((ns.map PyData.int).map PV.d) = .d (.list (ns.map .int)) := mkL_map _
  rw [← e]
  exact rep_newL hh (RepAll.of_dp (dd_ints ns) (can_ints ns)) hn
theorem bc_sortedDI {K : PySem.W.Frag} {cs : List Tb} : Bc K cs (fun xs H Q => ∃ (a : Addr) (kvs : List (Key × V)) (ks : List Int), xs = [.ref a] ∧ Rd H a (.dK kvs) ∧ kvs.map (·.1) = ks.map Sum.inl ∧ ks.length < 64 ∧ ∀ (ys : List Int) (p : Addr), ys.Perm ks → ys.Pairwise (· ≤ ·) → H p = none → Q (.ref p) (upd H p (.lst (ys.map V.int)))) biSortedDI := by
  intro m z H h vs us Q Wx hh r p
  unfold biSortedDI at p
  split at p
  · obtain ⟨u, rfl, r1⟩ := rep1 r
    split at p
    · rename_i kvs ex
      split at p
      · rename_i ks ek
        split at p
        · rename_i c
          obtain ⟨a, ws, eu, hl, kv⟩ := asDict_rep hh r1 ex
          subst eu
          refine ⟨a, ws, ks, rfl, .inl hl, by rw [← kv.keys]; exact keysI_eq ek, c, fun ys b hp hs hb => ?_⟩
          have e : ys = sortI ks := sortI_of hp hs
          rw [e]
          exact p.new hh hb _ (rep_intsN hh hb _)
        · exact p.elim
      · exact p.elim
    · exact p.elim
  · exact p.elim
/-! ### xs * k as a cell -/
def opMulC (v w : PV) (h : Cells) : Out PV := match v, w with
  | .d (.list ds), .d (.int k) => if decide (-(2 ^ 63) ≤ k) && decide (k < 2 ^ 63) && decide (ds.length * k.toNat ≤ sizeLine) then .ok (.r h.length) (h ++ [.lst ((List.replicate k.toNat ds).flatten.map .d)]) else .bad
  | _, _ => .bad
theorem rep_flat {K : PySem.W.Frag} {m z : List Addr} {H : Hp} {xs : List PV} {vs : List V} (r : RepAll K m z H xs vs) : ∀ n, RepAll K m z H (List.replicate n xs).flatten (List.replicate n vs).flatten
  | 0 => .nil
  | n + 1 => by rw [List.replicate_succ, List.replicate_succ, List.flatten_cons, List.flatten_cons]; exact r.append (rep_flat r n)
theorem br_mulC {K : PySem.W.Frag} {cs : List Tb} : Br K cs rRep opMulC := by
  intro m z H h v w u1 u2 Q Wx hh r1 r2 p
  unfold opMulC at p
  split at p
  · rename_i ds k
    split at p
    · rename_i hz
      simp only [Bool.and_eq_true, decide_eq_true_eq] at hz
      rw [rep_int r2]
      obtain ⟨a, vs, rfl, e1, t1⟩ := asL_rep hh r1 (xs := ds.map .d) rfl
      have hl : ds.length = vs.length := by have := t1.length; simpa using this
      refine ⟨a, k, vs, rfl, rfl, e1, hz.1.1, hz.1.2, by rw [← hl]; exact hz.2, fun q hn => ?_⟩
      have t2 := rep_flat t1 k.toNat
      have e2 : (List.replicate k.toNat (ds.map PV.d)).flatten = (List.replicate k.toNat ds).flatten.map .d := by rw [List.map_flatten, List.map_replicate]
      rw [e2] at t2
      exact p _ _ (Nx.cell hn) (hh.cell hn ⟨_, upd_same, t2.nx (Nx.cell hn)⟩) _ (rep_len hh)
    · exact p.elim
  · exact p.elim
/-! ### a = b = e -/
def mAsg2 (f : ME PV) (g1 g2 : MG) : MS := fun e h => (f e h).toS fun v h1 => match g1 v e h1 with
  | some (e2, h2) => match g2 v e2 h2 with
    | some (e3, h3) => .nx e3 h3
    | none => .bad
  | none => .bad
section
variable {X : Cx} {cs : List Tb} {W : WX}
theorem s_asg2N {i j : Nat} {x y : Str} {a : Expr} {f : ME PV} {pos p1 p2 : Pos} (hN : X.N.Nodup) (hi : X.N[i]? = some x) (hx : Loc X.env.scope x) (hfx : X.fn x = true ∨ X.env.scope.names.lookup x = some .local) (hj : X.N[j]? = some y) (hy : Loc X.env.scope y) (hfy : X.fn y = true ∨ X.env.scope.names.lookup y = some .local) (ha : SE X cs W a f)
    (h2 : (assignEach [.Name x p1, .Name y p2] X.env).map (·.2) = [assign (.Name x p1) X.env, assign (.Name y p2) X.env] := by rfl) (hw : swappedStores [.Name x p1, .Name y p2] a X.env = pure none := by rfl) :
    SS X cs W (.Assign [.Name x p1, .Name y p2] a pos) (mAsg2 f (gN i) (gN j)) :=
  ps_imp (ps_asg2 ha (pg_name hN hi hx hfx) (pg_name hN hj hy hfy) h2 hw) fun D σ H ⟨m, z, e, h, hs, hh, p⟩ => by
    refine tE_S hs hh p fun v h1 m1 H1 u hs1 hh1 r1 n1 p1 => ?_
    exact p1.nx_ hh1 ((hs1.put i r1).put j r1)
end
end Mi

set_option Elab.async false
set_option linter.all false
set_option maxRecDepth 100000
set_option maxHeartbeats 4000000
namespace Mi
open PySem PySem.Spec PyProof.Rows L2
/-! ## xs.count(x) of data -/
def rCntD (K : PySem.W.Frag) : V → List V → Hp → VK → Prop := fun x xs H Q => ∃ y d ds, xs = [y] ∧ Dp K H x (.list ds) ∧ Dp K H y d ∧ SeqAt.shaped d = true ∧ SeqAt.shaped (.list ds) = true ∧ Q (.int (ds.countP (fun z => PyData.eqv z d) : Nat)) H
theorem mt_countD {X : Cx} (hu : X.A.units + 65 < cLine) : MtR X "list.count" (rCntD X.K) := by
  intro pins s σ H x xs v us Q I rx rxs h
  obtain ⟨y, d, ds, rfl, hx, hy, sd, se, q⟩ := h
  obtain ⟨u, rfl, ru⟩ := rxs.one
  obtain ⟨as, r1⟩ := Dp.reads I d y u hy ru
  obtain ⟨bs, r2⟩ := Dp.reads I (.list ds) x v hx rx
  have c1 := SeqAt.canLay_of_shaped sd
  have c2 : PyData.canLayAll0 ds = true := by have := SeqAt.canLay_of_shaped se; simpa [PyData.canLay0] using this
  cases r2 with
  | list h1 h2 h3 h4 =>
    rename_i a ob vs n _
    obtain ⟨cls, dd, data, sl⟩ := ob
    simp only at h2 h3
    subst h2 h3
    refine call_meets PySem.F.slot_list_count ⟨_, h1, rfl⟩ PySem.F.entry_list_count (PySem.F.args_list_count_2 _ _)
      (SeqAt.list_countAt _ vs n dd sl u (fun y => PyData.eqv (SeqAt.readOf s.heap y) d)) ⟨h1, SeqAt.items_eqAt h4 r1 c2 c1 (room_in_shaped sd hu), ?_⟩
    have e : vs.toList.countP (fun y => PyData.eqv (SeqAt.readOf s.heap y) d) = ds.countP (fun z => PyData.eqv z d) := by
      rw [← SeqAt.readsAll_map ds _ _ c2 h4, List.countP_map]; rfl
    refine ⟨.int (ds.countP (fun z => PyData.eqv z d) : Nat), H, I.tok _, ⟨s.toks, ?_⟩, q⟩
    rw [e]
def meCount (v : PV) (vs : List PV) (h : Cells) : Out PV := match vs with
  | [w] => match asX v h, asX w h with
    | some (.list ds), some d => if SeqAt.shaped d && SeqAt.shaped (.list ds) then .ok (.d (.int (ds.countP (fun z => PyData.eqv z d) : Nat))) h else .bad
    | _, _ => .bad
  | _ => .bad
theorem bm_count {K : PySem.W.Frag} {cs : List Tb} : Bm K cs (rCntD K) meCount := by
  intro m z H h v u vs us Q Wx hh r rs p
  unfold meCount at p
  split at p
  · rename_i w
    obtain ⟨u2, rfl, r2⟩ := rep1 rs
    split at p
    · rename_i ds d ex ey
      split at p
      · rename_i hz
        rw [Bool.and_eq_true] at hz
        exact ⟨u2, d, ds, rfl, (asX_rep hh r ex).1, (asX_rep hh r2 ey).1, hz.1, hz.2, p.here hh _ (rI_ _)⟩
      · exact p.elim
    · exact p.elim
  · exact p.elim
end Mi

set_option Elab.async false
set_option linter.all false
set_option maxRecDepth 100000
set_option maxHeartbeats 4000000
namespace Mi
open PySem PySem.Spec PyProof.Rows L2 GenW
theorem clsF_nil {K : PySem.W.Frag} {f : Str} : ClsF K [] f := fun _ h => by cases h
theorem clsF_cons {fa : List He.Fa} {fn : List He.DefD} {K : PySem.W.Frag} {mg : Str → Option Value} {c f : Str} {cl : List Str} (F : Fx fa fn K mg) (i j : Nat) (hi : fa[i]? = some (.cls c)) (hj : fa[j]? = some (.noat c f)) (h : ClsF K cl f) : ClsF K (c :: cl) f := fun x hx => by
  rcases List.mem_cons.mp hx with e | e
  · subst e
    exact ⟨He.cls_ok (F.d.fact i hi), He.noat_ok (F.d.fact j hj)⟩
  · exact h x e
/-! ## b = [lambdas]; if [1 for f in b if told(f) != 'E'] != [] or more: .. -/
theorem s_badsW {X : Cx} {cs : List Tb} {W : WX} {x a ret b y : Str} {g CS : Addr} {k iy ib : Nat} {catch_ : Str → Bool} {scope : Scope} {p1 p2 p3 p4 p5 p6 p7 p8 p9 p10 py pb pos c1 c2 po : Pos} {j1 j2 : Nat} {ls : List LamD} {es : List Expr} {o1 : Expr} {os : List Expr} {thenb rest : List Stmt} {fg : ME Bool} {ft fr : MS}
    (he : es = ls.map LamD.ex) (hr : Room (k + 2) X.A) (T : Told X.K X.mg x a g CS ret) (hcat : CatchOk X.K CS catch_) (hret : PyData.strOk ret = true) (hls : ∀ l ∈ ls, l.Ok X cs k) (hc : X.calm = true) (hN : X.N.Nodup)
    (ok : BlkOk X.N X.env.scope scope [(y, iy)]) (hib : X.N[ib]? = some b) (hlb : Loc X.env.scope b) (hfb : X.fn b = true ∨ X.env.scope.names.lookup b = some .local) (hbd : (b == ("__debug__" : Str)) = false) (hbc : (b == ("__classdict__" : Str)) = false)
    (hyl : scope.names.lookup y = some .local) (hyd : (y == ("__debug__" : Str)) = false) (hyc : (y == ("__classdict__" : Str)) = false)
    (hgx : ∀ (s : Shared) (H : Hp) (C : Addr) (cl : List (Str × Addr)) (fp : List Addr), Gl (X.blk s H scope (compEnvC scope cl C X.env) fp) x)
    (hm : behindInMarks .NotEq (.Constant (.str ret) j2 c2) = false) (hm2 : behindInMarks .NotEq (.List [] p5) = false) (hlen : ls.length ≤ sizeLine)
    (hG : SW X cs W (.BoolOp .Or (o1 :: os) po) fg) (hT : SB X cs W thenb ft) (hR : SB X cs W rest fr)
    (hs : ∀ x, foldedSetIterable (.Name b pb) X.env x = pure x := by intro _; rfl) (hsw : swapsWith (.List es p8) (some (.Name b p9)) p10.line X.env = pure false := by rfl) :
    SB X cs W (.Assign [.Name b p9] (.List es p8) p10 :: .If (.BoolOp .Or (.Compare (.ListComp (.Constant (.int 1) j1 c1) [⟨.Name y py, .Name b pb, [.Compare (.Call (.Name x p1) [.Name y p2] [] p3) [.NotEq] [.Constant (.str ret) j2 c2] p4], 0⟩] scope pos) [.NotEq] [.List [] p5] p6 :: o1 :: os) po) thenb [] p7 :: rest)
      (mBads ib (ls.map LamD.fb) catch_ ret (mIf fg (mSeq ft fr) fr)) := by
  subst he
  have hvb : Vis X.env.scope b := hlb.elim .inl fun q => .inr (.inl q)
  have h1 := ps_set (pos := p10) (pos' := p9) hN hib hlb (pe_lst (pos := p8) (pa_ex fun z => pa_lams (k := k) (z := z) hls)) hsw hfb
  have h2 := ps_if (a := thenb) (pos := p7) (pw_or (pos := po) (pt_cmpR (pos := p6) (op_neM hr.units) (pe_ex fun z => pe_badC (z := z) (p1 := p1) (p2 := p2) (p3 := p3) (p4 := p4) (py := py) (pb := pb) (pos := pos) (c1 := c1) (j1 := j1) T hr hcat hret hls hc hN ok hib hvb hbd hbc hyl hyd hyc hgx hm hs) (pe_lst (pos := p5) pa_nil) hm2) hG).pt hT pss_nil
  refine pss_imp (pss_cons h1 (pss_cons h2 hR)) fun D σ H ⟨m, z, e, h, hsr, hhr, p⟩ => ?_
  unfold mBads at p
  split at p
  rotate_left
  · exact p.elim
  rename_i hie
  refine ⟨z, m, h, hhr, fun fs H2 hh2 n2 hla => ⟨by rw [List.length_map, ← hla.length]; exact hlen, fun D0 hD0 => ?_⟩⟩
  have hiσ : ib < σ.length := by rw [← hsr.len]; exact hie
  have hs2 := (hsr.nx n2).nx (Nx.new (o := .lst (fs.map V.ref)) hD0)
  refine ⟨z, m, h, e.set ib none, D0, fs, by rw [List.getElem?_set_self hiσ], upd_same, fun q => hh2.lv D0 (.inl q) hD0, hla.nx (Nx.new (z := z) hD0), hs2.forget, hh2.new hD0, ?_⟩
  cases q : runBads catch_ ret (e.set ib none) (ls.map LamD.fb) h with
  | none => rw [q] at p; exact p.elim
  | some h' =>
    rw [q] at p
    intro m' H' D' n' hh' hD' hDm'
    refine ⟨Nat.zero_le _, fun E hE => ?_⟩
    have n3 := n2.trans ((Nx.new (o := .lst (fs.map V.ref)) hD0).trans n')
    have hDE : upd H' E (.lst []) D' = some (.lst []) := upd_of hE hD'
    refine ⟨.list [], .list [], .lst (.inl (.inl hDE)) .nil, .lst (.inl (.inl upd_same)) .nil, by simp [PyData.canLay0, PyData.canLayAll0], by simp [PyData.canLay0, PyData.canLayAll0], by simp [PyData.depth, PyData.depthAll], false, ?_, ?_⟩
    · simp [PyData.eqv, PyData.eqvAll]
    · simp only [Bool.false_eq_true, if_false]
      have hs3 := (hs2.nx (n'.trans (Nx.new (o := .lst []) hE))).forget (i := ib) (v := some (.ref D0))
      refine tT_S hs3 (hh'.new hE) (PoS.step p (n3.trans (Nx.new hE))) fun v h1 m1 H1 hs1 hh1 n1 p1 => ?_
      cases v with
      | false =>
        rw [if_neg (by decide)] at p1 ⊢
        exact ⟨m1, z, _, h1, hs1, hh1, p1⟩
      | true =>
        rw [if_pos rfl] at p1 ⊢
        refine ⟨m1, z, _, h1, hs1, hh1, ?_⟩
        unfold mSeq at p1
        cases q : ft (e.set ib none) h1 with
        | nx e1 h1 =>
          rw [q] at p1
          exact fun m' σ' H' n hh' hs' => ⟨m', z, e1, h1, hs', hh', PoS.step p1 n⟩
        | bk e1 h1 => rw [q] at p1; exact p1
        | ct e1 h1 => rw [q] at p1; exact p1
        | rt e1 h1 => rw [q] at p1; exact p1
        | ex e1 h1 => rw [q] at p1; exact p1
        | bad => rw [q] at p1; exact p1
theorem s_badsFW {X : Cx} {cs : List Tb} {W : WX} {x a ret b y : Str} {g CS : Addr} {k iy ib : Nat} {catch_ : Str → Bool} {scope : Scope} {p1 p2 p3 p4 p5 p6 p7 p8 p9 p10 py pb pos c1 c2 po : Pos} {j1 j2 : Nat} {es : List Expr} {fbs : List (ME PV)} {o1 : Expr} {os : List Expr} {thenb rest : List Stmt} {fg : ME Bool} {ft fr : MS}
    (hx : x = x) (hr : Room (k + 2) X.A) (T : Told X.K X.mg x a g CS ret) (hcat : CatchOk X.K CS catch_) (hret : PyData.strOk ret = true) (hls : AllOk X cs k es fbs) (hc : X.calm = true) (hN : X.N.Nodup)
    (ok : BlkOk X.N X.env.scope scope [(y, iy)]) (hib : X.N[ib]? = some b) (hlb : Loc X.env.scope b) (hfb : X.fn b = true ∨ X.env.scope.names.lookup b = some .local) (hbd : (b == ("__debug__" : Str)) = false) (hbc : (b == ("__classdict__" : Str)) = false)
    (hyl : scope.names.lookup y = some .local) (hyd : (y == ("__debug__" : Str)) = false) (hyc : (y == ("__classdict__" : Str)) = false)
    (hgx : ∀ (s : Shared) (H : Hp) (C : Addr) (cl : List (Str × Addr)) (fp : List Addr), Gl (X.blk s H scope (compEnvC scope cl C X.env) fp) x)
    (hm : behindInMarks .NotEq (.Constant (.str ret) j2 c2) = false) (hm2 : behindInMarks .NotEq (.List [] p5) = false) (hlen : fbs.length ≤ 100)
    (hG : SW X cs W (.BoolOp .Or (o1 :: os) po) fg) (hT : SB X cs W thenb ft) (hR : SB X cs W rest fr)
    (hs : ∀ x, foldedSetIterable (.Name b pb) X.env x = pure x := by intro _; rfl) (hsw : swapsWith (.List es p8) (some (.Name b p9)) p10.line X.env = pure false := by rfl) :
    SB X cs W (.Assign [.Name b p9] (.List es p8) p10 :: .If (.BoolOp .Or (.Compare (.ListComp (.Constant (.int 1) j1 c1) [⟨.Name y py, .Name b pb, [.Compare (.Call (.Name x p1) [.Name y p2] [] p3) [.NotEq] [.Constant (.str ret) j2 c2] p4], 0⟩] scope pos) [.NotEq] [.List [] p5] p6 :: o1 :: os) po) thenb [] p7 :: rest)
      (mBads ib fbs catch_ ret (mIf fg (mSeq ft fr) fr)) := by
  obtain ⟨ls, e1, e2, h⟩ := hls.list
  subst e2
  exact s_badsW e1 hr T hcat hret h hc hN ok hib hlb hfb hbd hbc hyl hyd hyc hgx hm hm2 (by rw [List.length_map] at hlen; exact Nat.le_trans hlen (by decide)) hG hT hR hs hsw
end Mi

set_option Elab.async false
set_option linter.all false
set_option maxRecDepth 100000
set_option maxHeartbeats 1000000
namespace Mi
open PySem PySem.Spec PyProof.Rows L2
/-! ## lemmas for the pure part of any law -/
theorem at_end {hc : Cells} {o : AO} : (hc ++ [o])[hc.length]? = some o := by simp
theorem set_end {hc : Cells} {o u : AO} : (hc ++ [o]).set hc.length u = hc ++ [u] := by simp
theorem smallR_nat (n : Nat) (h : n ≤ 1000000) : smallR (n : Int) = true := by
  unfold smallR
  have a : (-(2 ^ 62) : Int) ≤ n := Int.le_trans (by decide) (Int.natCast_nonneg n)
  have b : (n : Int) < 2 ^ 62 := Int.lt_of_le_of_lt (show (n : Int) ≤ 1000000 by omega) (by decide)
  rw [decide_eq_true a, decide_eq_true b]; rfl
theorem range1_go {g : ME (List PV)} {e : Sl} {h h1 : Cells} (j : Int) (q : g e h = .ok [pI j] h1) : iRange1 g e h = if smallR j then .ok (rngL 0 j.toNat, none) h1 else .bad := by
  unfold iRange1
  rw [q]
  rfl
theorem range1_nat {g : ME (List PV)} {e : Sl} {h h1 : Cells} {n : Nat} (q : g e h = .ok [nI n] h1) (b : n ≤ 1000000) : iRange1 g e h = .ok (rngL 0 n, none) h1 := by
  rw [range1_go _ q, if_pos (smallR_nat n b), Int.toNat_natCast]
theorem tuple_cell {n : Nat} {h : Cells} {ds : List PyData} (q : h[n]? = some (.lst (ds.map .d))) : biTuple [.r n] h = .ok (pT ds) h := by
  simp only [biTuple, asL, q, mkT_map]
theorem mkT_2 (a b : PyData) : mkT [.d a, .d b] = pT [a, b] := rfl
mutual
theorem bd_mono {n m : Nat} (h : n ≤ m) : ∀ x : PV, x.bd n = true → x.bd m = true
  | .d _, _ => by simp [PV.bd]
  | .r k, q => by simp [PV.bd] at q ⊢; omega
  | .ls xs, q => by simp [PV.bd] at q ⊢; exact bds_mono h xs q
  | .tp xs, q => by simp [PV.bd] at q ⊢; exact bds_mono h xs q
  | .cl _, _ => by simp [PV.bd]
  | .sc _, _ => by simp [PV.bd]
theorem bds_mono {n m : Nat} (h : n ≤ m) : ∀ xs : List PV, bds n xs = true → bds m xs = true
  | [], _ => by simp [bds]
  | x :: r, q => by
    simp only [bds, Bool.and_eq_true] at q ⊢
    exact ⟨bd_mono h x q.1, bds_mono h r q.2⟩
end
theorem abd_mono {n m : Nat} (h : n ≤ m) (o : AO) (q : AO.bd n o = true) : AO.bd m o = true := by
  cases o with
  | lst xs => exact bds_mono h _ q
  | dk xs => exact bds_mono h _ q
  | dt xs => exact bds_mono h _ q
  | ins c xs => exact bds_mono h _ q
theorem wfB_snoc {h : Cells} (w : wfB h = true) (ds : List PyData) : wfB (h ++ [.lst (ds.map .d)]) = true := by
  unfold wfB
  rw [List.all_eq_true]
  intro o ho
  rcases List.mem_append.mp ho with q | q
  · exact abd_mono (by simp) o (wfB_all w o q)
  · simp only [List.mem_singleton] at q; subst q; exact bds_map _ ds
theorem app_cell {h : Cells} {xs : List PyData} {y : PyData} (q : xs.length < sizeLine) : meAppend (.r h.length) [.d y] (h ++ [.lst (xs.map .d)]) = .ok pN (h ++ [.lst ((xs ++ [y]).map .d)]) := by
  have e : (h ++ [AO.lst (xs.map .d)])[h.length]? = some (.lst (xs.map .d)) := at_end
  have s : (h ++ [AO.lst (xs.map .d)]).set h.length (.lst (xs.map .d ++ [.d y])) = h ++ [.lst (xs.map .d ++ [.d y])] := set_end
  simp only [meAppend, e, List.length_map, q, if_true, s, List.map_append, List.map_cons, List.map_nil]
theorem tyL_cell {h : Cells} {xs : List PV} : tyL (.r h.length) (h ++ [.lst xs]) = true := by simp [tyL, asL]
theorem range2_go {g : ME (List PV)} {e : Sl} {h h1 : Cells} (i j : Int) (q : g e h = .ok [pI i, pI j] h1) : iRange2 g e h = if smallR i && smallR j then .ok (rngL i (j - i).toNat, none) h1 else .bad := by
  unfold iRange2
  rw [q]
  rfl
theorem range2_nat {g : ME (List PV)} {e : Sl} {h h1 : Cells} {i j : Nat} (q : g e h = .ok [nI i, nI j] h1) (b : i ≤ 1000000) (c : j ≤ 1000000) : iRange2 g e h = .ok (rngL i (j - i), none) h1 := by
  rw [range2_go _ _ q, smallR_nat i b, smallR_nat j c]
  simp only [Bool.and_self, if_true]
  rw [show ((j : Int) - i).toNat = j - i by omega]
theorem eq_strs (k : Bool) (x y : Str) (h : Cells) : opEq k (pS x) (pS y) h = .ok (pB (if k then x == y else !(x == y))) h := by
  rw [Mi.eq_data _ _ _ _ (by simp [PyData.depth])]; simp only [PyData.eqv]
def strD (ts : List Str) : List PyData := ts.map .str
theorem strD_depth : ∀ ts : List Str, PyData.depthAll (strD ts) = 0
  | [] => by simp [strD, PyData.depthAll]
  | t :: r => by
    have := strD_depth r
    simp only [strD, List.map_cons, PyData.depthAll, PyData.depth] at this ⊢
    rw [this]; rfl
theorem all_ex {P : PV → Prop} {γ : Type} {f : γ → PV} {Q : γ → Prop} (k : ∀ v, P v → ∃ i, v = f i ∧ Q i) : ∀ (vs : List PV), (∀ v ∈ vs, P v) → ∃ is : List γ, vs = is.map f ∧ is.length = vs.length ∧ ∀ i ∈ is, Q i
  | [], _ => ⟨[], rfl, rfl, by simp⟩
  | v :: vs, h => by
    obtain ⟨i, rfl, q⟩ := k v (h v (by simp))
    obtain ⟨is, rfl, l, a⟩ := all_ex k vs (fun w hw => h w (by simp [hw]))
    exact ⟨i :: is, rfl, by simp, fun j hj => by rcases List.mem_cons.mp hj with rfl | hj; exact q; exact a j hj⟩
theorem mV_ne {i j : Nat} (q : i ≠ j) (x : Option PV) (e : Sl) (h : Cells) : mV j (e.set i x) h = mV j e h := by unfold mV; rw [List.getElem?_set_ne q]
theorem mV_eq {i : Nat} {e : Sl} (q : i < e.length) (p : PV) (h : Cells) : mV i (e.set i (some p)) h = .ok p h := by unfold mV; rw [List.getElem?_set_self q]
mutual
def nD : PyData → Bool
  | .none => true
  | .bool _ => true
  | .int _ => true
  | .str _ => true
  | .list xs => nDs xs
  | .tuple xs => nDs xs
  | .dict _ => false
def nDs : List PyData → Bool
  | [] => true
  | x :: r => nD x && nDs r
end
mutual
theorem eqv_nD : ∀ d : PyData, nD d = true → PyData.eqv d d = true
  | .none, _ => by simp [PyData.eqv]
  | .bool _, _ => by simp [PyData.eqv]
  | .int _, _ => by simp [PyData.eqv]
  | .str _, _ => by simp [PyData.eqv]
  | .list xs, h => by simp only [PyData.eqv]; exact eqv_nDs xs (by simpa [nD] using h)
  | .tuple xs, h => by simp only [PyData.eqv]; exact eqv_nDs xs (by simpa [nD] using h)
  | .dict _, h => by simp [nD] at h
theorem eqv_nDs : ∀ ds : List PyData, nDs ds = true → PyData.eqvAll ds ds = true
  | [], _ => by simp [PyData.eqvAll]
  | x :: xs, h => by
    simp only [nDs, Bool.and_eq_true] at h
    simp [PyData.eqvAll, eqv_nD x h.1, eqv_nDs xs h.2]
end
theorem nDs_of {ds : List PyData} (h : ∀ d ∈ ds, nD d = true) : nDs ds = true := by
  induction ds with
  | nil => rfl
  | cons x r ih => simp only [nDs, Bool.and_eq_true]; exact ⟨h x (by simp), ih fun d hd => h d (by simp [hd])⟩
theorem nDs_ints (l : List Int) : nDs (pIs l) = true := nDs_of fun d hd => by obtain ⟨i, _, rfl⟩ := List.mem_map.mp hd; rfl
theorem nDs_strD (l : List Str) : nDs (strD l) = true := nDs_of fun d hd => by obtain ⟨i, _, rfl⟩ := List.mem_map.mp hd; rfl
theorem depth_le {ds : List PyData} {n : Nat} (h : ∀ d ∈ ds, d.depth ≤ n) : PyData.depthAll ds ≤ n := by
  induction ds with
  | nil => simp [PyData.depthAll]
  | cons x r ih =>
    have := h x (by simp)
    have := ih fun d hd => h d (by simp [hd])
    simp only [PyData.depthAll]; omega
theorem ck {X Y : ME PV} {e : Sl} {h h1 h2 : Cells} {x : PyData} (qx : X e h = .ok (.d x) h1) (qy : Y e h1 = .ok (.d x) h2) (n : nD x = true) (d : x.depth ≤ 64) : mTb (mBin (opEq false) X Y) e h = .ok false h2 := by
  simp only [mTb_eq, mBin_eq, qx, bind_ok, qy]
  rw [Mi.eq_data _ _ _ _ (by omega), eqv_nD x n]; rfl
theorem or_no {f g : ME Bool} {e : Sl} {h h1 h2 : Cells} (a : f e h = .ok false h1) (b : g e h1 = .ok false h2) : mOr f g e h = .ok false h2 := by
  rw [mOr_eq, a]; exact b
theorem d_ints (l : List Int) : (PyData.tuple (pIs l)).depth ≤ 64 := by simp [PyData.depth, depth_ints]
theorem call1 {g : MF} {f1 : ME PV} {e : Sl} {h h1 : Cells} {v1 : PV} {o : Out PV} (q1 : f1 e h = .ok v1 h1) (q : g [v1] h1 = o) : mCallD g [] (aCons f1 aNil) e h = o := by
  simp only [mCallD_eq, aCons_eq, q1, bind_ok, aNil_eq, List.append_nil, q]
theorem call2 {g : MF} {f1 f2 : ME PV} {e : Sl} {h h1 h2 : Cells} {v1 v2 : PV} {o : Out PV} (q1 : f1 e h = .ok v1 h1) (q2 : f2 e h1 = .ok v2 h2) (q : g [v1, v2] h2 = o) : mCallD g [] (aCons f1 (aCons f2 aNil)) e h = o := by
  simp only [mCallD_eq, aCons_eq, q1, q2, bind_ok, aNil_eq, List.append_nil, q]
theorem call3 {g : MF} {f1 f2 f3 : ME PV} {e : Sl} {h h1 h2 h3 : Cells} {v1 v2 v3 : PV} {o : Out PV} (q1 : f1 e h = .ok v1 h1) (q2 : f2 e h1 = .ok v2 h2) (q3 : f3 e h2 = .ok v3 h3) (q : g [v1, v2, v3] h3 = o) : mCallD g [] (aCons f1 (aCons f2 (aCons f3 aNil))) e h = o := by
  simp only [mCallD_eq, aCons_eq, q1, q2, q3, bind_ok, aNil_eq, List.append_nil, q]
theorem asg_N {f : ME PV} {i : Nat} {e : Sl} {h h1 : Cells} {v : PV} (q : f e h = .ok v h1) : mAsg f (gN i) e h = .nx (e.set i (some v)) h1 := by rw [mAsg_eq, q]; rfl
theorem len1 {f : ME PV} {e : Sl} {h h1 : Cells} {v : PV} {o : Out PV} (q1 : f e h = .ok v h1) (q : biLen [v] h1 = o) : mCall biLen (aCons f aNil) e h = o := by
  simp only [mCall_eq, aCons_eq, q1, bind_ok, aNil_eq, q]
theorem mkL_ints (l : List Int) : mkL (l.map pI) = pL (pIs l) := by rw [← pI_map, mkL_map]
theorem gN_ok {X : MS} {e e' : Sl} {h h' : Cells} (q : X e h = .nx e' h') (R : MS) : mSeq X R e h = R e' h' := seq_nx q
theorem told_ex {f : ME PV} {ct : Str → Bool} {r c : Str} {e : Sl} {h h1 : Cells} (q : f e h = .ex c h1) (k : ct c = true) : mTold f ct r e h = .ok (.d (.str r)) h1 := by unfold mTold; rw [q]; simp only; rw [if_pos k]
theorem told_ok {f : ME PV} {ct : Str → Bool} {r : Str} {e : Sl} {h h1 : Cells} {v : PV} (q : f e h = .ok v h1) : mTold f ct r e h = .ok v h1 := by unfold mTold; rw [q]
theorem addT {X Y : ME PV} {e : Sl} {h h1 h2 : Cells} {a b : List PyData} (qx : X e h = .ok (pT a) h1) (qy : Y e h1 = .ok (pT b) h2) (l : a.length + b.length ≤ 16777216) : mBin opAdd X Y e h = .ok (pT (a ++ b)) h2 := by
  simp only [mBin_eq, qx, bind_ok, qy]; exact add_pT a b h2 l
theorem addL {X Y : ME PV} {e : Sl} {h h1 h2 : Cells} {a b : List PyData} (qx : X e h = .ok (pL a) h1) (qy : Y e h1 = .ok (pL b) h2) (l : a.length + b.length ≤ 16777216) : mBin opAdd X Y e h = .ok (pL (a ++ b)) h2 := by
  simp only [mBin_eq, qx, bind_ok, qy]; exact add_pL a b h2 l
theorem tup1 {X : ME PV} {e : Sl} {h h1 : Cells} {a : PyData} (qx : X e h = .ok (.d a) h1) : mTup (aCons X aNil) e h = .ok (pT [a]) h1 := by
  simp only [mTup_eq, aCons_eq, qx, bind_ok, aNil_eq, List.length_cons, List.length_nil, Nat.zero_add, sz 1 (by omega), if_true]; rfl
theorem tup2 {X Y : ME PV} {e : Sl} {h h1 h2 : Cells} {a b : PyData} (qx : X e h = .ok (.d a) h1) (qy : Y e h1 = .ok (.d b) h2) : mTup (aCons X (aCons Y aNil)) e h = .ok (pT [a, b]) h2 := by
  simp only [mTup_eq, aCons_eq, qx, qy, bind_ok, aNil_eq, List.length_cons, List.length_nil, Nat.zero_add, Nat.reduceAdd, sz 2 (by omega), if_true]; rfl
theorem lst1 {X : ME PV} {e : Sl} {h h1 : Cells} {a : PyData} (qx : X e h = .ok (.d a) h1) : mLst (aCons X aNil) e h = .ok (pL [a]) h1 := by
  simp only [mLst_eq, aCons_eq, qx, bind_ok, aNil_eq, List.length_cons, List.length_nil, Nat.zero_add, sz 1 (by omega), if_true]; rfl
theorem lst2 {X Y : ME PV} {e : Sl} {h h1 h2 : Cells} {a b : PyData} (qx : X e h = .ok (.d a) h1) (qy : Y e h1 = .ok (.d b) h2) : mLst (aCons X (aCons Y aNil)) e h = .ok (pL [a, b]) h2 := by
  simp only [mLst_eq, aCons_eq, qx, qy, bind_ok, aNil_eq, List.length_cons, List.length_nil, Nat.zero_add, Nat.reduceAdd, sz 2 (by omega), if_true]; rfl
theorem bi1 {g : List PV → Cells → Out PV} {f1 : ME PV} {e : Sl} {h h1 : Cells} {v1 : PV} {o : Out PV} (q1 : f1 e h = .ok v1 h1) (q : g [v1] h1 = o) : mCall g (aCons f1 aNil) e h = o := by
  simp only [mCall_eq, aCons_eq, q1, bind_ok, aNil_eq, q]
theorem bin {g : PV → PV → Cells → Out PV} {X Y : ME PV} {e : Sl} {h h1 h2 : Cells} {v w : PV} {o : Out PV} (qx : X e h = .ok v h1) (qy : Y e h1 = .ok w h2) (q : g v w h2 = o) : mBin g X Y e h = o := by
  simp only [mBin_eq, qx, qy, bind_ok, q]
theorem bi2 {g : List PV → Cells → Out PV} {f1 f2 : ME PV} {e : Sl} {h h1 h2 : Cells} {v1 v2 : PV} {o : Out PV} (q1 : f1 e h = .ok v1 h1) (q2 : f2 e h1 = .ok v2 h2) (q : g [v1, v2] h2 = o) : mCall g (aCons f1 (aCons f2 aNil)) e h = o := by
  simp only [mCall_eq, aCons_eq, q1, q2, bind_ok, aNil_eq, q]
def isTrue' : Out PV → Bool
  | .ok (.d (.bool true)) _ => true
  | _ => false
theorem iso_true {g : MF} (e : isTrue' (g [] []) = true) (h : Cells) : iso g [] h = .ok (pB true) h := by
  cases q : g [] [] with
  | bad => rw [q] at e; cases e
  | ex c h1 => rw [q] at e; cases e
  | ok v h1 =>
    rw [q] at e
    have : v = pB true := by
      unfold isTrue' at e
      split at e
      · rename_i h
        cases h; rfl
      · cases e
    subst this
    exact iso_ok rfl q rfl
theorem for_one {fi : ME (List PV × Option SR)} {b : MS} {e e' : Sl} {h h1 h2 : Cells} {x : PV} {j : Nat} (q : fi e h = .ok ([x], none) h1) (k : b (e.set j (some x)) h1 = .nx e' h2) : mFor fi (gN j) b e h = .nx e' h2 := by
  rw [mFor_eq q, forL_cons, gN_eq]
  simp only
  rw [k]
  rfl
end Mi

set_option Elab.async false
set_option linter.all false
set_option maxRecDepth 100000
set_option maxHeartbeats 1000000
namespace Mi
open PySem PySem.Spec PyProof.Rows L2
/-! ## fields, methods, constructors -/
theorem fld_eq {cl : List Str} {f c : Str} {fo : ME PV} {e : Sl} {h h1 : Cells} {s : Nat} {fs : List (Str × PV)} {x : PV} (q : fo e h = .ok (.r s) h1) (g : h1[s]? = some (.ins c fs)) (hc : c ∈ cl) (l : fs.lookup f = some x) : mFld cl f fo e h = .ok x h1 := by
  unfold mFld; rw [q]; simp only [bind_ok, g, if_pos hc, l]
theorem fldSet_eq {cl : List Str} {f c : Str} {s : Nat} {v : PV} {h : Cells} {fs : List (Str × PV)} (g : h[s]? = some (.ins c fs)) (hc : c ∈ cl) (l : fs.length < 1000) : fldSet cl f (.r s) v h = some (h.set s (.ins c (putA f v fs))) := by
  unfold fldSet; simp only [g]; rw [if_pos ⟨hc, l⟩]
theorem asgF {cl : List Str} {f c : Str} {fo fe : ME PV} {e : Sl} {h h1 h2 : Cells} {s : Nat} {fs : List (Str × PV)} {v : PV} (qe : fe e h = .ok v h1) (q : fo e h1 = .ok (.r s) h2) (g : h2[s]? = some (.ins c fs)) (hc : c ∈ cl) (l : fs.length < 1000) :
    mAsg fe (gFld cl f fo) e h = .nx e (h2.set s (.ins c (putA f v fs))) := by
  unfold mAsg; rw [qe]; simp only [toS_ok]; unfold gFld; rw [q]; simp only [fldSet_eq g hc l]
theorem augF {cl : List Str} {f c : Str} {g : PV → PV → Cells → Out PV} {fo fe : ME PV} {e : Sl} {h h1 h2 h3 : Cells} {s : Nat} {fs fs' : List (Str × PV)} {x w y : PV} (q : fo e h = .ok (.r s) h1) (k : h1[s]? = some (.ins c fs)) (hc : c ∈ cl) (l : fs.lookup f = some x)
    (qe : fe e h1 = .ok w h2) (qg : g x w h2 = .ok y h3) (k3 : h3[s]? = some (.ins c fs')) (l3 : fs'.length < 1000) : mFldAug cl f g fo fe e h = .nx e (h3.set s (.ins c (putA f y fs'))) := by
  unfold mFldAug; rw [q]; simp only [toS_ok, k, if_pos hc, l, qe, qg, fldSet_eq k3 (List.mem_singleton.mpr rfl) l3]
theorem meth_go {c m : Str} {g : MF} {fo : ME PV} {fa : ME (List PV)} {e : Sl} {h h1 h2 : Cells} {s : Nat} {fs : List (Str × PV)} {vs : List PV} {o : Out PV} (q : fo e h = .ok (.r s) h1) (k : h1[s]? = some (.ins c fs)) (l : fs.lookup m = none) (qa : fa e h1 = .ok vs h2)
    (r : g (.r s :: vs) h2 = o) : mMethD c m g [] fo fa e h = o := by
  unfold mMethD; rw [q]; simp only [bind_ok, k, l, and_self, if_true, qa, List.append_nil, r]
theorem make_go {c : Str} {g : MF} {fa : ME (List PV)} {e : Sl} {h h1 h2 : Cells} {vs : List PV} (qa : fa e h = .ok vs h1) (r : g (.r h1.length :: vs) (h1 ++ [.ins c []]) = .ok pN h2) : mMakeD c g [] fa e h = .ok (.r h1.length) h2 := by
  unfold mMakeD; rw [qa]; simp only [bind_ok, List.append_nil, r]
theorem make_ex {c x : Str} {g : MF} {fa : ME (List PV)} {e : Sl} {h h1 h2 : Cells} {vs : List PV} (qa : fa e h = .ok vs h1) (r : g (.r h1.length :: vs) (h1 ++ [.ins c []]) = .ex x h2) : mMakeD c g [] fa e h = .ex x h2 := by
  unfold mMakeD; rw [qa]; simp only [bind_ok, List.append_nil, r]
theorem arg1 {f : ME PV} {e : Sl} {h h1 : Cells} {v : PV} (q : f e h = .ok v h1) : aCons f aNil e h = .ok [v] h1 := by rw [aCons_eq, q]; rfl
theorem arg2 {f g : ME PV} {e : Sl} {h h1 h2 : Cells} {v w : PV} (q : f e h = .ok v h1) (r : g e h1 = .ok w h2) : aCons f (aCons g aNil) e h = .ok [v, w] h2 := by rw [aCons_eq, q]; simp only [bind_ok]; rw [arg1 r]; rfl
/-! ## cells that are lists -/
theorem ix_cell {s : Nat} {h : Cells} {xs : List PV} {i : Nat} {x : PV} (g : h[s]? = some (.lst xs)) (k : xs[i]? = some x) : opIx (.r s) (nI i) h = .ok x h := by
  have a : asS (.r s) h = some xs := by simp [asS, asL, g]
  unfold opIx; simp only [a, atI_nat, k]
theorem ixN_nat (n i : Nat) (h : i < n) : ixN n (i : Int) = some i := by
  unfold ixN
  simp [h]
theorem opSet_cell {s : Nat} {h : Cells} {xs : List PV} {i : Nat} {v : PV} (g : h[s]? = some (.lst xs)) (k : i < xs.length) : opSet (.r s) (nI i) v h = some (h.set s (.lst (xs.set i v))) := by
  unfold opSet; simp only [g, ixN_nat _ _ k]
theorem asgIx {fo fi fe : ME PV} {e : Sl} {h h1 h2 h3 : Cells} {s i : Nat} {xs : List PV} {v : PV} (qe : fe e h = .ok v h1) (qo : fo e h1 = .ok (.r s) h2) (qi : fi e h2 = .ok (nI i) h3) (g : h3[s]? = some (.lst xs)) (k : i < xs.length) :
    mAsg fe (gIx fo fi) e h = .nx e (h3.set s (.lst (xs.set i v))) := by
  unfold mAsg; rw [qe]; simp only [toS_ok]; unfold gIx; rw [qo]; simp only [qi, opSet_cell g k]
theorem augS_eq {g : PV → PV → Cells → Out PV} {fo fi fe : ME PV} {e : Sl} {h h1 h2 h3 : Cells} {s i : Nat} {xs : List PV} {x w y : PV} (qo : fo e h = .ok (.r s) h1) (qi : fi e h1 = .ok (nI i) h2) (c : h2[s]? = some (.lst xs)) (k : xs[i]? = some x)
    (qe : fe e h2 = .ok w h3) (qg : g x w h3 = .ok y h3) (c3 : h3[s]? = some (.lst xs)) : mAugS g fo fi fe e h = .nx e (h3.set s (.lst (xs.set i y))) := by
  have a : opGet (.r s) (nI i) h2 = some x := by
    unfold opGet asCellL; simp only [c, atI_nat, k]
  unfold mAugS; rw [qo]; simp only [toS_ok, qi, a, qe, qg, opSet_cell c3 (List.getElem?_eq_some_iff.mp k).1]
/-! ## dicts with one value -/
def addK {γ : Type} [DecidableEq γ] (l : List γ) (x : γ) : List γ := if x ∈ l then l else l ++ [x]
def kvI (v : PV) (l : List Int) : List (Key × PV) := l.map fun k => (.inl k, v)
theorem put_kvI (v : PV) (l : List Int) (x : Int) : putP (kvI v l) (.inl x : Key) v = kvI v (addK l x) := by
  unfold putP addK
  by_cases h : x ∈ l
  · have a : ((kvI v l).any fun kv => decide (kv.1 = (.inl x : Key))) = true := by
      rw [List.any_eq_true]; exact ⟨(.inl x, v), List.mem_map.mpr ⟨x, h, rfl⟩, by simp⟩
    rw [if_pos a, if_pos h]
    conv => rhs; rw [← List.map_id (kvI v l)]
    refine List.map_congr_left fun kv hkv => ?_
    obtain ⟨y, _, rfl⟩ := List.mem_map.mp hkv
    split <;> rfl
  · have a : ¬ ((kvI v l).any fun kv => decide (kv.1 = (.inl x : Key))) = true := by
      intro q
      rw [List.any_eq_true] at q
      obtain ⟨kv, hkv, e⟩ := q
      obtain ⟨y, hy, rfl⟩ := List.mem_map.mp hkv
      simp at e
      exact h (e ▸ hy)
    rw [if_neg a, if_neg h]; simp [kvI]
theorem get_kvI (v : PV) (l : List Int) (x : Int) : (getP (kvI v l) (.inl x : Key)).isSome = decide (x ∈ l) := by
  induction l with
  | nil => rfl
  | cons y l ih =>
    unfold getP kvI at ih ⊢
    rw [List.map_cons, List.find?_cons]
    by_cases q : y = x
    · subst q; simp
    · have : decide ((Sum.inl y : Key) = .inl x) = false := by simpa using q
      simp only [this, ih, List.mem_cons, Ne.symm q, false_or]
theorem merge_kvI (v : PV) : ∀ (more l : List Int), mergeP (kvI v l) (kvI v more) = kvI v (more.foldl addK l)
  | [], _ => rfl
  | x :: r, l => by
    show mergeP (putP (kvI v l) (.inl x) v) (kvI v r) = _
    rw [put_kvI, merge_kvI v r]; rfl
theorem keysI_kvI (v : PV) (l : List Int) : keysI (kvI v l) = some l := by
  induction l with
  | nil => rfl
  | cons k r ih => show keysI ((.inl k, v) :: kvI v r) = _; simp [keysI, ih]
theorem addK_mem {l : List Int} {x y : Int} : y ∈ addK l x ↔ y ∈ l ∨ y = x := by
  unfold addK
  split
  · rename_i h
    exact ⟨.inl, fun q => q.elim id (fun e => e ▸ h)⟩
  · simp
theorem addK_nodup {l : List Int} {x : Int} (n : l.Nodup) : (addK l x).Nodup := by
  unfold addK
  split
  · exact n
  · rename_i h
    rw [List.nodup_append]
    exact ⟨n, by simp, fun a ha b hb e => by simp at hb; subst hb; exact h (e ▸ ha)⟩
theorem fold_mem : ∀ (more l : List Int) (y : Int), y ∈ more.foldl addK l ↔ y ∈ l ∨ y ∈ more
  | [], l, y => by simp
  | x :: r, l, y => by
    rw [List.foldl_cons, fold_mem r, addK_mem, List.mem_cons, or_assoc]
theorem fold_nodup : ∀ (more l : List Int), l.Nodup → (more.foldl addK l).Nodup
  | [], l, n => n
  | x :: r, l, n => fold_nodup r _ (addK_nodup n)
theorem fold_len : ∀ (more l : List Int), (more.foldl addK l).length ≤ l.length + more.length
  | [], l => by simp
  | x :: r, l => by
    have := fold_len r (addK l x)
    have : (addK l x).length ≤ l.length + 1 := by unfold addK; split <;> simp
    simp only [List.foldl_cons, List.length_cons]; omega
theorem sortedDI_eq {n : Nat} {h : Cells} {v : PV} {l : List Int} (g : h[n]? = some (.dk (kvI v l))) (b : l.length < 64) : biSortedDI [.r n] h = .ok (pL (pIs (sortI l))) h := by
  have a : asDict (.r n) h = some (kvI v l) := by simp [asDict, g]
  unfold biSortedDI; simp only [a, keysI_kvI, if_pos b]
theorem pairs_kvI (v : PyData) : ∀ l : List Int, pairsP ((l.map fun k => PyData.tuple [.int k, v]).map .d) = some (kvI (.d v) l)
  | [] => rfl
  | k :: r => by
    have e : pairP (pT [.int k, v]) = some (.inl k, .d v) := rfl
    simp only [List.map_cons, pairsP]
    rw [e, pairs_kvI v r]; rfl
theorem dictP_eq (v : PyData) (l : List Int) (h : Cells) : biDictP [pL (l.map fun k => PyData.tuple [.int k, v])] h = .ok (.r h.length) (h ++ [.dk (kvI (.d v) (l.foldl addK []))]) := by
  unfold biDictP
  simp only [asL_pL, pairs_kvI]
  rw [show ([] : List (Key × PV)) = kvI (.d v) [] from rfl, merge_kvI]
theorem update_eq {n k : Nat} {h : Cells} {v : PV} {l m : List Int} (g : h[n]? = some (.dk (kvI v l))) (g2 : h[k]? = some (.dk (kvI v m))) (ne : n ≠ k) (b : l.length + m.length ≤ 16777216) : meUpdate (.r n) [.r k] h = .ok pN (h.set n (.dk (kvI v (m.foldl addK l)))) := by
  have : (kvI v l).length + (kvI v m).length ≤ sizeLine := by simp only [kvI, List.length_map]; exact b
  unfold meUpdate; simp only [g, g2]; rw [if_pos ⟨ne, this⟩, merge_kvI]
theorem tyD_cell {n : Nat} {h : Cells} {l : List (Key × PV)} (g : h[n]? = some (.dk l)) : tyD (.r n) h = true := by simp [tyD, asDict, g]
theorem in_kvI {n : Nat} {h : Cells} {v : PV} {l : List Int} (k : Bool) (x : Int) (g : h[n]? = some (.dk (kvI v l))) : opIn k (pI x) (.r n) h = .ok (pB (k == decide (x ∈ l))) h := by
  have a : asX (.r n) h = none := by simp [asX, g]
  have b : asDict (.r n) h = some (kvI v l) := by simp [asDict, g]
  unfold opIn; simp only [a, b, keyOf, get_kvI]
theorem ixM_dict {n : Nat} {h : Cells} {l : List (Key × PV)} {w x : PV} {k : Key} (g : h[n]? = some (.dk l)) (q : keyOf w = some k) (r : getP l k = some x) : opIxM (.r n) w h = .ok x h := by
  have b : asDict (.r n) h = some l := by simp [asDict, g]
  unfold opIxM; simp only [b, q, r]
/-- a dict comprehension whose parts change no cell -/
theorem dc_pure {γ : Type} {g : MG} {fk fe : ME PV} {all : List PV} {e : Sl} {h : Cells} (inj : γ → PV) (κ : γ → Key) (φ : γ → PV) : ∀ (xs : List γ) (acc : List (Key × PV)),
    (∀ x ∈ xs, ∃ e1 kk, g (inj x) e h = some (e1, h) ∧ fk e1 h = .ok kk h ∧ keyOf kk = some (κ x) ∧ fe e1 h = .ok (φ x) h) → acc.length + xs.length ≤ sizeLine →
    dcL g mYes fk fe none all e (xs.map inj) h acc = .ok (.r h.length) (h ++ [.dk (xs.foldl (fun a x => putP a (κ x) (φ x)) acc)])
  | [], acc, _, _ => by simp [dcL]
  | x :: r, acc, k, l => by
    obtain ⟨e1, kk, a1, a2, a3, a4⟩ := k x (by simp)
    simp only [List.length_cons] at l
    have hl : (putP acc (κ x) (φ x)).length ≤ acc.length + 1 := by unfold putP; split <;> simp
    have ih := dc_pure (g := g) (fk := fk) (fe := fe) (all := all) (e := e) (h := h) inj κ φ r (putP acc (κ x) (φ x)) (fun y hy => k y (by simp [hy])) (by omega)
    simp only [List.map_cons, List.foldl_cons, dcL, gd_none, if_true, a1, mYes, calm_ok, a2, a4, a3]
    rw [if_pos (by omega), ih]
theorem mDc_eq {fi : ME (List PV × Option SR)} {g : MG} {t : ME Bool} {fk fe : ME PV} {vs : List Nat} {e : Sl} {h h1 : Cells} {xs : List PV} {src : Option SR} (q : fi e h = .ok (xs, src) h1) : mDc fi g t fk fe vs e h = dcL g t fk fe src xs (wipeE e vs) xs h1 [] := by
  unfold mDc; rw [q]; rfl
theorem fold_kvI (v : PV) {γ : Type} (κ : γ → Int) : ∀ (xs : List γ) (l : List Int), xs.foldl (fun a x => putP a (.inl (κ x) : Key) v) (kvI v l) = kvI v ((xs.map κ).foldl addK l)
  | [], _ => rfl
  | x :: r, l => by rw [List.foldl_cons, put_kvI, fold_kvI v κ r, List.map_cons, List.foldl_cons]
end Mi

set_option Elab.async false
set_option linter.all false
set_option maxRecDepth 100000
set_option maxHeartbeats 1000000
namespace Mi
open PySem PySem.Spec PyProof.Rows L2
/-! ## loops by what holds after the things gone through -/
theorem for_pre {γ : Type} {fi : ME (List PV × Option SR)} {g : MG} {b : MS} (inj : γ → PV) (full : List γ) (I : List γ → Sl → Cells → Prop)
    (step : ∀ pre x suf, full = pre ++ x :: suf → ∀ e h, I pre e h → ∃ e1 h1 e2 h2, g (inj x) e h = some (e1, h1) ∧ b e1 h1 = .nx e2 h2 ∧ I (pre ++ [x]) e2 h2)
    {e : Sl} {h h1 : Cells} (q : fi e h = .ok (full.map inj, none) h1) (i : I [] e h1) : ∃ e' h', mFor fi g b e h = .nx e' h' ∧ I full e' h' := by
  rw [mFor_eq q]
  have go : ∀ (suf pre : List γ), full = pre ++ suf → ∀ e h, I pre e h → ∃ e' h', forL g b none (full.map inj) (suf.map inj) e h = .nx e' h' ∧ I full e' h' := by
    intro suf
    induction suf with
    | nil => intro pre hp e h i; rw [List.append_nil] at hp; subst hp; exact ⟨e, h, by simp, i⟩
    | cons x r ih =>
      intro pre hp e h i
      obtain ⟨e1, h1, e2, h2, a, c, d⟩ := step pre x r hp e h i
      obtain ⟨e', h', k1, k2⟩ := ih (pre ++ [x]) (by rw [hp]; simp) e2 h2 d
      exact ⟨e', h', by rw [List.map_cons, forL_cons, a]; simp only [c]; exact k1, k2⟩
  exact go full [] rfl e h1 i
/-! ## fields of instances -/
theorem putA_nil (f : Str) (v : PV) : putA f v [] = [(f, v)] := rfl
/-! ## 0/1 lists -/
theorem rep0 (n : Nat) (h : Cells) (b : n ≤ 1000000) : opMulC (pL [.int 0]) (nI n) h = .ok (.r h.length) (h ++ [.lst ((List.replicate n (0 : Int)).map pI)]) := by
  have e : (List.replicate (n : Int).toNat ([.int 0] : List PyData)).flatten = pIs (List.replicate n 0) := by
    rw [Int.toNat_natCast]
    induction n with
    | zero => rfl
    | succ n ih => rw [List.replicate_succ, List.flatten_cons, ih (by omega), List.replicate_succ]; rfl
  unfold opMulC
  simp only [e]
  rw [if_pos]
  · rw [pI_map]
  · simp only [Bool.and_eq_true, decide_eq_true_eq, List.length_singleton, Int.toNat_natCast, Nat.one_mul]
    exact ⟨⟨by omega, by omega⟩, sz _ (by omega)⟩
end Mi

set_option Elab.async false
set_option linter.all false
set_option maxRecDepth 100000
set_option maxHeartbeats 1000000
namespace Mi
open PySem PySem.Spec PyProof.Rows L2
/-- a comprehension over what must stay as it was, whose parts change no cell -/
theorem lc_pureS {γ : Type} {src : Option SR} {g : MG} {t : ME Bool} {fe : ME PV} {all : List PV} {e : Sl} {h : Cells} (hg : gd src all h = true) (inj : γ → PV) (p : γ → Bool) (φ : γ → PV) : ∀ (xs : List γ) (acc : List PV),
    (∀ x ∈ xs, ∃ e1, g (inj x) e h = some (e1, h) ∧ t e1 h = .ok (p x) h ∧ (p x = true → fe e1 h = .ok (φ x) h)) → acc.length + xs.length ≤ sizeLine →
    lcL g t fe src all e (xs.map inj) h acc = .ok (mkL (acc ++ (xs.filter p).map φ)) h
  | [], acc, _, _ => by simp [lcL, hg]
  | x :: xs, acc, k, l => by
    obtain ⟨e1, k1, k2, k3⟩ := k x (by simp)
    have ih := fun a b => lc_pureS (all := all) hg inj p φ xs a (fun y hy => k y (by simp [hy])) b
    simp only [List.map_cons, lcL, hg, if_true, k1, k2, calm_ok]
    cases q : p x with
    | true =>
      rw [k3 q]
      simp only [List.length_cons] at l
      simp only [if_true, calm_ok]
      rw [if_pos (by omega), ih _ (by simp; omega)]
      simp [q]
    | false =>
      simp only [List.length_cons] at l
      rw [if_neg (by simp), ih _ (by omega)]
      simp [q]
theorem lc_allS {γ : Type} {src : Option SR} {g : MG} {fe : ME PV} {all : List PV} {e : Sl} {h : Cells} (hg : gd src all h = true) (inj : γ → PV) (φ : γ → PV) (xs : List γ) (acc : List PV)
    (k : ∀ x ∈ xs, ∃ e1, g (inj x) e h = some (e1, h) ∧ fe e1 h = .ok (φ x) h) (l : acc.length + xs.length ≤ sizeLine) :
    lcL g mYes fe src all e (xs.map inj) h acc = .ok (mkL (acc ++ xs.map φ)) h := by
  rw [lc_pureS hg inj (fun _ => true) φ xs acc (fun x hx => by obtain ⟨e1, a, b⟩ := k x hx; exact ⟨e1, a, rfl, fun _ => b⟩) l]
  rw [List.filter_eq_self.mpr (fun _ _ => rfl)]
theorem pbeqs_ints : ∀ l : List Int, pbeqs (l.map pI) (l.map pI) = true
  | [] => rfl
  | x :: r => by
    rw [List.map_cons]
    unfold pbeqs
    rw [pbeqs_ints r, Bool.and_true]
    simp [pbeq, dbeq]
theorem isLst_ints {h : Cells} {n : Nat} {l : List Int} (g : h[n]? = some (.lst (l.map pI))) : isLst h n (l.map pI) = true := by
  unfold isLst; rw [g]; exact pbeqs_ints l
theorem trim_keep {f : MF} {pvs : List PV} {h h' : Cells} {v : PV} (e : f pvs h = .ok v h') (c : wfB (h'.take h.length) = false ∨ v.bd h.length = false) : trim f pvs h = .ok v h' := by
  unfold trim; rw [e]
  simp only
  rw [if_neg]
  intro q
  simp only [Bool.and_eq_true] at q
  rcases c with c | c
  · rw [c] at q; exact absurd q.1.2 (by simp)
  · rw [c] at q; exact absurd q.2 (by simp)
theorem wfB_false {h : Cells} {i : Nat} {o : AO} (g : h[i]? = some o) (b : AO.bd h.length o = false) : wfB h = false := by
  cases q : wfB h with
  | false => rfl
  | true =>
    have := wfB_all q o (List.mem_of_getElem? g)
    rw [b] at this; cases this
theorem ix_asL {v : PV} {h : Cells} {xs : List PV} {i : Nat} {x : PV} (g : asL v h = some xs) (k : xs[i]? = some x) : opIx v (nI i) h = .ok x h := by
  have a : asS v h = some xs := by unfold asS; rw [g]
  unfold opIx
  cases v with
  | d y =>
    cases y with
    | str z => simp [asL] at g
    | _ => simp only [a, atI_nat, k]
  | _ => simp only [a, atI_nat, k]
theorem sum_asL {v : PV} {h : Cells} {l : List Int} (g : asL v h = some (l.map pI)) : biSumA [v] h = .ok (pI l.sum) h := by
  unfold biSumA; simp only [g, asInts_pI]
theorem gen_go {γ : Type} {fi : ME (List PV × Option SR)} {g : MG} {fe : ME PV} {own : List Nat} {c : List (PV × Cells) → Cells → Out PV} {e : Sl} {h : Cells} (inj : γ → PV) (φ : γ → PV) (xs : List γ) (q : fi e h = .ok (xs.map inj, none) h)
    (k : ∀ x ∈ xs, ∃ e1, g (inj x) (wipeE e own) h = some (e1, h) ∧ fe e1 h = .ok (φ x) h) : mGen fi g mYes fe own c e h = c (xs.map fun x => (φ x, h)) h := mGen_eq q (gen_pure inj φ xs k)
theorem lc_go {γ : Type} {fi : ME (List PV × Option SR)} {src : Option SR} {g : MG} {t : ME Bool} {fe : ME PV} {vs : List Nat} {e : Sl} {h : Cells} (inj : γ → PV) (p : γ → Bool) (φ : γ → PV) (xs : List γ) (q : fi e h = .ok (xs.map inj, src) h) (hg : gd src (xs.map inj) h = true)
    (k : ∀ x ∈ xs, ∃ e1, g (inj x) (wipeE e vs) h = some (e1, h) ∧ t e1 h = .ok (p x) h ∧ (p x = true → fe e1 h = .ok (φ x) h)) (l : xs.length ≤ 16777216) : mLc fi g t fe vs e h = .ok (mkL ((xs.filter p).map φ)) h := by
  rw [mLc_eq q, lc_pureS hg inj p φ xs [] k (by rw [List.length_nil, Nat.zero_add]; exact l)]; rfl
theorem lc_goA {γ : Type} {fi : ME (List PV × Option SR)} {src : Option SR} {g : MG} {fe : ME PV} {vs : List Nat} {e : Sl} {h : Cells} (inj : γ → PV) (φ : γ → PV) (xs : List γ) (q : fi e h = .ok (xs.map inj, src) h) (hg : gd src (xs.map inj) h = true)
    (k : ∀ x ∈ xs, ∃ e1, g (inj x) (wipeE e vs) h = some (e1, h) ∧ fe e1 h = .ok (φ x) h) (l : xs.length ≤ 16777216) : mLc fi g mYes fe vs e h = .ok (mkL (xs.map φ)) h := by
  rw [mLc_eq q, lc_allS hg inj φ xs [] k (by rw [List.length_nil, Nat.zero_add]; exact l)]; rfl
theorem zipP_ints (l m : List Int) : zipP (l.map pI) (m.map pI) = (l.zip m).map fun p => pT [.int p.1, .int p.2] := by
  unfold zipP
  rw [List.zip_map, List.map_map]
  rfl
end Mi

set_option Elab.async false
set_option linter.all false
set_option maxRecDepth 100000
set_option maxHeartbeats 0
namespace K04
open PySem PySem.Spec PyProof.Rows L2 Mi
def top (i : Nat) : Stmt := PySem.Challenge.pw_storestack_k04_sieves_and_keys.main.body.getD i (.Pass ⟨0, 0, 0, 0⟩)
abbrev s0 : Stmt := top 6
abbrev s1 : Stmt := inClass (top 7) 0
abbrev s2 : Stmt := inClass (top 7) 1
abbrev s3 : Stmt := inClass (top 7) 2
abbrev s4 : Stmt := inClass (top 7) 3
abbrev s5 : Stmt := inClass (top 7) 4
abbrev s6 : Stmt := inClass (top 7) 5
abbrev s7 : Stmt := inClass (top 7) 6
abbrev s8 : Stmt := inClass (top 7) 7
abbrev s9 : Stmt := top 8
abbrev s10 : Stmt := top 9
abbrev s11 : Stmt := top 10
abbrev s12 : Stmt := inClass (top 11) 0
abbrev s13 : Stmt := inClass (top 11) 1
abbrev s14 : Stmt := inClass (top 11) 2
abbrev s15 : Stmt := inClass (top 11) 3
abbrev s16 : Stmt := inClass (top 11) 4
abbrev s17 : Stmt := top 13
abbrev s18 : Stmt := top 14
abbrev s19 : Stmt := top 15
abbrev s20 : Stmt := top 16
abbrev s21 : Stmt := top 17
abbrev s22 : Stmt := top 18
abbrev s23 : Stmt := top 19
abbrev s24 : Stmt := top 20
abbrev s25 : Stmt := top 21
abbrev s26 : Stmt := top 22
abbrev s27 : Stmt := top 23
abbrev s28 : Stmt := top 24
def d0 : He.DefD := ⟨("mixed", none), "mixed", "mixed", defArgs s0, defBody s0, defScope s0, [], []⟩
def d1 : He.DefD := ⟨("Sieve", some "__init__"), "__init__", "Sieve.__init__", defArgs s1, defBody s1, defScope s1, [], []⟩
def d2 : He.DefD := ⟨("Sieve", some "bits_of"), "bits_of", "Sieve.bits_of", defArgs s2, defBody s2, defScope s2, [], []⟩
def d3 : He.DefD := ⟨("Sieve", some "put"), "put", "Sieve.put", defArgs s3, defBody s3, defScope s3, [], []⟩
def d4 : He.DefD := ⟨("Sieve", some "may_have"), "may_have", "Sieve.may_have", defArgs s4, defBody s4, defScope s4, [], []⟩
def d5 : He.DefD := ⟨("Sieve", some "filled"), "filled", "Sieve.filled", defArgs s5, defBody s5, defScope s5, [], []⟩
def d6 : He.DefD := ⟨("Sieve", some "wrong_of"), "wrong_of", "Sieve.wrong_of", defArgs s6, defBody s6, defScope s6, [], []⟩
def d7 : He.DefD := ⟨("Sieve", some "joined_with"), "joined_with", "Sieve.joined_with", defArgs s7, defBody s7, defScope s7, [], []⟩
def d8 : He.DefD := ⟨("Sieve", some "folded"), "folded", "Sieve.folded", defArgs s8, defBody s8, defScope s8, [], []⟩
def d9 : He.DefD := ⟨("best_turns", none), "best_turns", "best_turns", defArgs s9, defBody s9, defScope s9, [], []⟩
def d10 : He.DefD := ⟨("odds", none), "odds", "odds", defArgs s10, defBody s10, defScope s10, [], []⟩
def d11 : He.DefD := ⟨("size_for", none), "size_for", "size_for", defArgs s11, defBody s11, defScope s11, [], []⟩
def d12 : He.DefD := ⟨("Counting", some "__init__"), "__init__", "Counting.__init__", defArgs s12, defBody s12, defScope s12, [], []⟩
def d13 : He.DefD := ⟨("Counting", some "add"), "add", "Counting.add", defArgs s13, defBody s13, defScope s13, [], []⟩
def d14 : He.DefD := ⟨("Counting", some "remove"), "remove", "Counting.remove", defArgs s14, defBody s14, defScope s14, [], []⟩
def d15 : He.DefD := ⟨("Counting", some "may_be_in"), "may_be_in", "Counting.may_be_in", defArgs s15, defBody s15, defScope s15, [], []⟩
def d16 : He.DefD := ⟨("Counting", some "plain"), "plain", "Counting.plain", defArgs s16, defBody s16, defScope s16, [], []⟩
def d17 : He.DefD := ⟨("_law_dice", none), "_law_dice", "_law_dice", defArgs s17, defBody s17, defScope s17, [], []⟩
def d18 : He.DefD := ⟨("_law_roll", none), "_law_roll", "_law_roll", defArgs s18, defBody s18, defScope s18, [], []⟩
def d19 : He.DefD := ⟨("_law_rounds", none), "_law_rounds", "_law_rounds", defArgs s19, defBody s19, defScope s19, [], []⟩
def d20 : He.DefD := ⟨("_law_told", none), "_law_told", "_law_told", defArgs s20, defBody s20, defScope s20, [], []⟩
def d21 : He.DefD := ⟨("_law_mixed", none), "_law_mixed", "_law_mixed", defArgs s21, defBody s21, defScope s21, [], []⟩
def d22 : He.DefD := ⟨("_law_bits", none), "_law_bits", "_law_bits", defArgs s22, defBody s22, defScope s22, [], []⟩
def d23 : He.DefD := ⟨("_law_key", none), "_law_key", "_law_key", defArgs s23, defBody s23, defScope s23, [], []⟩
def d24 : He.DefD := ⟨("_law_power", none), "_law_power", "_law_power", defArgs s24, defBody s24, defScope s24, [], []⟩
def d25 : He.DefD := ⟨("_law_held", none), "_law_held", "_law_held", defArgs s25, defBody s25, defScope s25, [], []⟩
def d26 : He.DefD := ⟨("_law_plain", none), "_law_plain", "_law_plain", defArgs s26, defBody s26, defScope s26, [], []⟩
def d27 : He.DefD := ⟨("_law_sized", none), "_law_sized", "_law_sized", defArgs s27, defBody s27, defScope s27, [], []⟩
def d28 : He.DefD := ⟨("law", none), "law", "law", defArgs s28, defBody s28, defScope s28, [], []⟩
def fn : List He.DefD := [d0, d1, d2, d3, d4, d5, d6, d7, d8, d9, d10, d11, d12, d13, d14, d15, d16, d17, d18, d19, d20, d21, d22, d23, d24, d25, d26, d27, d28]
def fa : List He.Fa := ([.glo "StoreError", .exc "StoreError", .glo "SieveError", .exc "SieveError", .int "MOST_BITS" 4096, .str "SIGNS" "0123456789abcdefghijklmnopqrstuvwxyzABCDEFGHIJKLMNOPQRSTUVWXYZ-_./: ", .glo "mixed", .glo "Sieve", .cls "Sieve", .mkr "Sieve", .meth "Sieve" "bits_of", .meth "Sieve" "put", .meth "Sieve" "may_have", .meth "Sieve" "filled", .meth "Sieve" "wrong_of", .meth "Sieve" "joined_with", .meth "Sieve" "folded", .noat "Sieve" "bits", .noat "Sieve" "put_in", .noat "Sieve" "size", .noat "Sieve" "turns", .glo "best_turns", .glo "odds", .glo "size_for", .glo "Counting"] : List He.Fa) ++ ([.cls "Counting", .mkr "Counting", .meth "Counting" "add", .meth "Counting" "remove", .meth "Counting" "may_be_in", .meth "Counting" "plain", .noat "Counting" "counts", .noat "Counting" "sieve", .glo "_law_dice", .glo "_law_roll", .glo "_law_rounds", .glo "_law_told", .glo "_law_mixed", .glo "_law_bits", .glo "_law_key", .glo "_law_power", .glo "_law_held", .glo "_law_plain", .glo "_law_sized", .glo "law", .free "ValueError", .free "abs", .free "all", .free "dict", .free "enumerate"] : List He.Fa) ++ ([.free "int", .free "len", .free "list", .free "max", .free "min", .free "range", .free "sorted", .free "sum", .free "tuple", .free "zip", .exm "SieveError" "SieveError" true] : List He.Fa)
def tf : List (He.Defn × List (Nat × Nat)) := [(("Sieve", some "may_have"), []), (("Counting", some "may_be_in"), []), (("_law_plain", none), [(163, 0), (164, 0), (165, 0), (166, 0), (167, 0), (168, 0), (169, 0), (170, 0), (171, 0), (172, 0), (173, 0), (174, 0), (175, 0), (176, 0), (177, 0), (178, 0), (179, 0), (180, 0), (181, 0)]), (("law", none), [(241, 115), (243, 130)])]
variable {P : Program} {w : World} {K : PySem.W.Frag} {mg : Str → Option Value} {base : Heap}
def m_mixed : MS :=
  (mSeq (mIf (mTb (mBin oLt (mV 1) (mK (.d (.int 0))))) (mRaise "SieveError") mSkip)
  (mSeq (mAsg (mBin opAdd (mK (.d (.int 7))) (mBin opMul (mK (.d (.int 131))) (mV 1))) (gN 2))
  (mSeq (mFor (iAny (mV 0)) (gN 3) (mAsg (mBin opMod (mBin opAdd (mBin opMul (mV 2) (mK (.d (.int 31)))) (mIfE (mTb (mBin (opIn true) (mV 3) (mK (.d (.str "0123456789abcdefghijklmnopqrstuvwxyzABCDEFGHIJKLMNOPQRSTUVWXYZ-_./: "))))) (mBin opAdd (mMeth tyS meIndexS (mK (.d (.str "0123456789abcdefghijklmnopqrstuvwxyzABCDEFGHIJKLMNOPQRSTUVWXYZ-_./: "))) (aCons (mV 3) aNil)) (mK (.d (.int 1)))) (mK (.d (.int 99))))) (mK (.d (.int 1000003)))) (gN 2)))
  (mRet (mBin opMod (mBin opAdd (mBin opMul (mV 2) (mK (.d (.int 17)))) (mV 1)) (mK (.d (.int 1000003))))))))
theorem B_mixed {k : Nat} (F : Fx fa fn K mg) (G : TabsF K mg base tf) : DefOk P w K mg base (tf.map (tbOf K)) (k + 1) "mixed" 2 [] (runF 4 (m_mixed)) := by
  refine def_mkC (d := d0) (N := ["key", "turn", "found", "sign"]) (ps := ["key", "turn"]) F 0 6 rfl rfl rfl ⟨rfl, rfl, rfl, by decide +kernel, rfl, by decide +kernel, by decide +kernel⟩ (bd_all rfl fun _ _ _ _ _ _ us hl => match us, hl with | [_, _], _ => rfl) fun A outer s H E hr => ?_
  have hu := hr.units
  have hu5 := hr.units5
  have hu1 := hr.units1
  have hN : (["key", "turn", "found", "sign"] : List Str).Nodup := by decide +kernel
  exact (b_cons (s_if (s_tcmp (op_ltU hu) br_ltU (s_var (i := 1) rfl (.inl rfl)) s_int rfl) (b_one (s_raiseF F 2 3 rfl rfl rfl (takes_of rfl rfl rfl rfl) rfl)) b_nil)
    (b_cons (s_set (i := 2) hN rfl (.inl rfl) (.inr rfl) (s_op op_addM br_add s_int (s_op op_mulM br_mul s_int (s_var (i := 1) rfl (.inl rfl)))))
    (b_cons (s_for (vs := [3]) (passes_of rfl) rfl (i_any (s_var (i := 0) rfl (.inl rfl))) (g_name (i := 3) hN rfl (.inl rfl) (.inr rfl) (by decide)) (b_one (s_set (i := 2) hN rfl (.inl rfl) (.inr rfl) (s_op op_mod br_mod (s_op op_addM br_add (s_op op_mulM br_mul (s_var (i := 2) rfl (.inl rfl)) s_int) (s_ifE (s_tcmp (op_inM hu5) br_in (s_var (i := 3) rfl (.inl rfl)) (s_gstr rfl (F.str 5 _ _ rfl) (by decide +kernel)) rfl) (s_op op_addM br_add (s_meth PySem.F.plainAttrs_str PySem.F.slot_str_index PySem.F.type_str_index mt_indexS ty_str bm_indexS (s_gstr rfl (F.str 5 _ _ rfl) (by decide +kernel)) (s_cons (s_var (i := 3) rfl (.inl rfl)) s_nil)) s_int) s_int)) s_int))))
    (b_one (s_ret (s_op op_mod br_mod (s_op op_addM br_add (s_op op_mulM br_mul (s_var (i := 2) rfl (.inl rfl)) s_int) (s_var (i := 1) rfl (.inl rfl))) s_int))))))
def m_Sieve___init__ : MS :=
  (mSeq (mIf (mOr (mNot (mTb (mChain oLe oLe (mK (.d (.int 1))) (mV 1) (mK (.d (.int 4096)))))) (mNot (mTb (mChain oLe oLe (mK (.d (.int 1))) (mV 2) (mK (.d (.int 8))))))) (mRaise "SieveError") mSkip)
  (mSeq (mAsg (mV 1) (gFld ["Sieve"] "size" (mV 0)))
  (mSeq (mAsg (mV 2) (gFld ["Sieve"] "turns" (mV 0)))
  (mSeq (mAsg (mBin opMulC (mLst (aCons (mK (.d (.int 0))) aNil)) (mV 1)) (gFld ["Sieve"] "bits" (mV 0)))
  (mAsg (mK (.d (.int 0))) (gFld ["Sieve"] "put_in" (mV 0)))))))
theorem B_Sieve___init__ {k : Nat} (F : Fx fa fn K mg) (G : TabsF K mg base tf) : MethOk P w K mg base (tf.map (tbOf K)) (k + 1) "Sieve" "__init__" 3 [] (runF 3 (m_Sieve___init__)) := by
  refine meth_mkC (d := d1) (N := ["self", "size", "turns"]) (ps := ["self", "size", "turns"]) F 1 rfl rfl ⟨rfl, rfl, rfl, by decide +kernel, rfl, by decide +kernel, by decide +kernel⟩ (bd_all rfl fun _ _ _ _ _ _ us hl => match us, hl with | [_, _, _], _ => rfl) fun A outer s H E hr => ?_
  have hu := hr.units
  have hu5 := hr.units5
  have hu1 := hr.units1
  have hN : (["self", "size", "turns"] : List Str).Nodup := by decide +kernel
  exact (b_cons (s_if (s_w (w_or (s_not (s_tchain (op_leU hu) (op_leU hu) br_leU br_leU s_int (s_var (i := 1) rfl (.inl rfl)) (s_gint rfl (F.int 4 _ _ rfl)))) (w_or1 (s_not (s_tchain (op_leU hu) (op_leU hu) br_leU br_leU s_int (s_var (i := 2) rfl (.inl rfl)) s_int))))) (b_one (s_raiseF F 2 3 rfl rfl rfl (takes_of rfl rfl rfl rfl) rfl)) b_nil)
    (b_cons (s_asg (vs := []) (s_var (i := 1) rfl (.inl rfl)) (g_fld (W := WB E) (clsF_cons F 8 19 rfl rfl clsF_nil) (s_var (i := 0) rfl (.inl rfl))))
    (b_cons (s_asg (vs := []) (s_var (i := 2) rfl (.inl rfl)) (g_fld (W := WB E) (clsF_cons F 8 20 rfl rfl clsF_nil) (s_var (i := 0) rfl (.inl rfl))))
    (b_cons (s_asg (vs := []) (s_op op_rep br_mulC (s_lst (s_cons s_int s_nil)) (s_var (i := 1) rfl (.inl rfl))) (g_fld (W := WB E) (clsF_cons F 8 17 rfl rfl clsF_nil) (s_var (i := 0) rfl (.inl rfl))))
    (b_one (s_asg (vs := []) s_int (g_fld (W := WB E) (clsF_cons F 8 18 rfl rfl clsF_nil) (s_var (i := 0) rfl (.inl rfl)))))))))
def m_Sieve_bits_of (f_mixed : MF) : MS :=
  (mRet (mCall biTuple (aCons (mCall biSortedDI (aCons (mDc (iRange1 (aCons (mFld ["Sieve"] "turns" (mV 0)) aNil)) (gN 2) mYes (mBin opMod (mCallD f_mixed [] (aCons (mV 1) (aCons (mV 2) aNil))) (mFld ["Sieve"] "size" (mV 0))) (mK (.d (.bool true))) [2]) aNil)) aNil)))
theorem B_Sieve_bits_of {k : Nat} {k_mixed : Nat} (F : Fx fa fn K mg) (G : TabsF K mg base tf) {f_mixed : MF} (D_mixed : DefOk P w K mg base (tf.map (tbOf K)) k_mixed "mixed" 2 [] f_mixed) (l_mixed : k_mixed ≤ k) : MethOk P w K mg base (tf.map (tbOf K)) (k + 1) "Sieve" "bits_of" 2 [] (runF 3 (m_Sieve_bits_of f_mixed)) := by
  refine meth_mkC (d := d2) (N := ["self", "key", "turn"]) (ps := ["self", "key"]) F 2 rfl rfl ⟨rfl, rfl, rfl, by decide +kernel, rfl, by decide +kernel, by decide +kernel⟩ (bd_all rfl fun _ _ _ _ _ _ us hl => match us, hl with | [_, _], _ => rfl) fun A outer s H E hr => ?_
  have hu := hr.units
  have hu5 := hr.units5
  have hu1 := hr.units1
  have hN : (["self", "key", "turn"] : List Str).Nodup := by decide +kernel
  exact (b_one (s_ret (s_callT call_tuple_of bc_tuple rfl (F.free 58 _ rfl) rfl (s_cons (s_callB (call_sortedDI rfl) bc_sortedDI rfl (F.free 56 _ rfl) rfl (s_cons (s_dc (own := [("turn", 2)]) rfl hN (i_range1 rfl (F.free 55 _ rfl) (s_cons (s_fld (clsF_cons F 8 20 rfl rfl clsF_nil) (s_var (i := 0) rfl (.inr (.inl rfl)))) s_nil)) (blkOk_by (by kernel_rfl)) (fun _ _ _ _ _ => (g_name (i := 2) hN rfl (by first | exact .inl rfl | exact .inr rfl) (by first | exact .inr rfl | exact .inl rfl) (by decide))) (fun _ _ _ _ _ => ts_nil) (fun _ _ _ _ _ => (s_op op_mod br_mod (s_fn D_mixed takes0 (hr.mono l_mixed) rfl (al_cons (al_cons al_nil)) rfl (s_cons (s_var (i := 1) rfl (by first | exact .inr (.inr rfl) | exact .inl rfl | exact .inr (.inl rfl))) (s_cons (s_var (i := 2) rfl (by first | exact .inr (.inr rfl) | exact .inl rfl | exact .inr (.inl rfl))) s_nil))) (s_fld (clsF_cons F 8 19 rfl rfl clsF_nil) (s_var (i := 0) rfl (by first | exact .inr (.inr rfl) | exact .inl rfl | exact .inr (.inl rfl)))))) (fun _ _ _ _ _ => s_bl)) s_nil)) s_nil))))
def m_Sieve_put (f_Sieve_bits_of : MF) : MS :=
  (mSeq (mAsg (mK (.d (.int 0))) (gN 2))
  (mSeq (mFor (iAny (mMethD "Sieve" "bits_of" f_Sieve_bits_of [] (mV 0) (aCons (mV 1) aNil))) (gN 3) (mSeq (mAug 2 iadd (mBin opSub (mK (.d (.int 1))) (mBin opIx (mFld ["Sieve"] "bits" (mV 0)) (mV 3))))
  (mAsg (mK (.d (.int 1))) (gIx (mFld ["Sieve"] "bits" (mV 0)) (mV 3)))))
  (mSeq (mFldAug ["Sieve"] "put_in" iadd (mV 0) (mK (.d (.int 1))))
  (mRet (mV 2)))))
theorem B_Sieve_put {k : Nat} {k_Sieve_bits_of : Nat} (F : Fx fa fn K mg) (G : TabsF K mg base tf) {f_Sieve_bits_of : MF} (D_Sieve_bits_of : MethOk P w K mg base (tf.map (tbOf K)) k_Sieve_bits_of "Sieve" "bits_of" 2 [] f_Sieve_bits_of) (l_Sieve_bits_of : k_Sieve_bits_of ≤ k) : MethOk P w K mg base (tf.map (tbOf K)) (k + 1) "Sieve" "put" 2 [] (runF 4 (m_Sieve_put f_Sieve_bits_of)) := by
  refine meth_mkC (d := d3) (N := ["self", "key", "found", "place"]) (ps := ["self", "key"]) F 3 rfl rfl ⟨rfl, rfl, rfl, by decide +kernel, rfl, by decide +kernel, by decide +kernel⟩ (bd_all rfl fun _ _ _ _ _ _ us hl => match us, hl with | [_, _], _ => rfl) fun A outer s H E hr => ?_
  have hu := hr.units
  have hu5 := hr.units5
  have hu1 := hr.units1
  have hN : (["self", "key", "found", "place"] : List Str).Nodup := by decide +kernel
  exact (b_cons (s_set (i := 2) hN rfl (.inl rfl) (.inr rfl) s_int)
    (b_cons (s_for (vs := [3]) (passes_of rfl) rfl (i_any (s_ome F 8 10 rfl rfl D_Sieve_bits_of (takes_of rfl rfl rfl rfl) (hr.mono l_Sieve_bits_of) (al_cons al_nil) rfl (s_var (i := 0) rfl (.inl rfl)) (s_cons (s_var (i := 1) rfl (.inl rfl)) s_nil))) (g_name (i := 3) hN rfl (.inl rfl) (.inr rfl) (by decide)) (b_cons (s_aug (i := 2) hN rfl (.inl rfl) (.inr rfl) (s_op op_sub br_sub s_int (s_ix (s_fld (clsF_cons F 8 17 rfl rfl clsF_nil) (s_var (i := 0) rfl (.inl rfl))) (s_var (i := 3) rfl (.inl rfl)))) iop_addM br_iadd)
    (b_one (s_asg (vs := []) s_int (g_ix (W := WB E) hu1 (s_fld (clsF_cons F 8 17 rfl rfl clsF_nil) (s_var (i := 0) rfl (.inl rfl))) (s_var (i := 3) rfl (.inl rfl)) (by intro _; rfl))))))
    (b_cons (s_fldAug (clsF_cons F 8 18 rfl rfl clsF_nil) (s_var (i := 0) rfl (.inl rfl)) s_int iop_addM br_iadd)
    (b_one (s_ret (s_var (i := 2) rfl (.inl rfl)))))))
def m_Sieve_may_have (f_Sieve_bits_of : MF) : MS :=
  (mRet (mGen (iAny (mMethD "Sieve" "bits_of" f_Sieve_bits_of [] (mV 0) (aCons (mV 1) aNil))) (gN 2) mYes (mBin (opEq true) (mBin opIx (mFld ["Sieve"] "bits" (mV 0)) (mV 2)) (mK (.d (.int 1)))) [2] cAll))
theorem B_Sieve_may_have {k : Nat} {k_Sieve_bits_of : Nat} (F : Fx fa fn K mg) (G : TabsF K mg base tf) {f_Sieve_bits_of : MF} (D_Sieve_bits_of : MethOk P w K mg base (tf.map (tbOf K)) k_Sieve_bits_of "Sieve" "bits_of" 2 [] f_Sieve_bits_of) (l_Sieve_bits_of : k_Sieve_bits_of ≤ k) : MethOk P w K mg base (tf.map (tbOf K)) (k + 1 + 1) "Sieve" "may_have" 2 [] (runF 3 (m_Sieve_may_have f_Sieve_bits_of)) := by
  refine meth_mkC (d := d4) (N := ["self", "key", "place"]) (ps := ["self", "key"]) F 4 rfl rfl ⟨rfl, rfl, rfl, by decide +kernel, rfl, by decide +kernel, by decide +kernel⟩ (bd_all rfl fun _ _ _ _ _ _ us hl => match us, hl with | [_, _], _ => rfl) fun A outer s H E hr => ?_
  have hu := hr.units
  have hu5 := hr.units5
  have hu1 := hr.units1
  have hN : (["self", "key", "place"] : List Str).Nodup := by decide +kernel
  exact (b_one (s_ret (s_genB (own := [("place", 2)]) (all_cons hr) hr hN rfl (F.free 47 _ rfl) rfl (i_any (s_ome F 8 10 rfl rfl D_Sieve_bits_of (takes_of rfl rfl rfl rfl) (hr.mono (Nat.le_add_right_of_le l_Sieve_bits_of)) (al_cons al_nil) rfl (s_var (i := 0) rfl (.inr (.inl rfl))) (s_cons (s_var (i := 1) rfl (.inl rfl)) s_nil))) (blkOk_by (by kernel_rfl)) (by decide +kernel) rfl rfl (code_at G 0 rfl rfl (by decide +kernel)) ⟨(fun _ _ _ _ _ _ A hr => have hu := hr.units; have hu5 := hr.units5; have hu1 := hr.units1; (g_name (i := 2) hN rfl (by first | exact .inl rfl | exact .inr rfl) (by first | exact .inr rfl | exact .inl rfl) (by decide))), (fun _ _ _ _ _ _ A hr => have hu := hr.units; have hu5 := hr.units5; have hu1 := hr.units1; ts_nil), (fun _ _ _ _ _ _ A hr => have hu := hr.units; have hu5 := hr.units5; have hu1 := hr.units1; (s_cmp (op_eqM hu) br_eq (s_ix (s_fld (clsF_cons F 8 17 rfl rfl clsF_nil) (s_var (i := 0) rfl (by first | exact .inr (.inr rfl) | exact .inl rfl | exact .inr (.inl rfl)))) (s_var (i := 2) rfl (by first | exact .inr (.inr rfl) | exact .inl rfl | exact .inr (.inl rfl)))) s_int rfl))⟩)))
def m_Sieve_filled : MS :=
  (mRet (mTup (aCons (mCall biSumA (aCons (mFld ["Sieve"] "bits" (mV 0)) aNil)) (aCons (mFld ["Sieve"] "size" (mV 0)) aNil))))
theorem B_Sieve_filled {k : Nat} (F : Fx fa fn K mg) (G : TabsF K mg base tf) : MethOk P w K mg base (tf.map (tbOf K)) (k + 1) "Sieve" "filled" 1 [] (runF 1 (m_Sieve_filled)) := by
  refine meth_mkC (d := d5) (N := ["self"]) (ps := ["self"]) F 5 rfl rfl ⟨rfl, rfl, rfl, by decide +kernel, rfl, by decide +kernel, by decide +kernel⟩ (bd_all rfl fun _ _ _ _ _ _ us hl => match us, hl with | [_], _ => rfl) fun A outer s H E hr => ?_
  have hu := hr.units
  have hu5 := hr.units5
  have hu1 := hr.units1
  have hN : (["self"] : List Str).Nodup := by decide +kernel
  exact (b_one (s_ret (s_tup (s_cons (s_callB (cr_sumA rfl) bc_sumA rfl (F.free 57 _ rfl) rfl (s_cons (s_fld (clsF_cons F 8 17 rfl rfl clsF_nil) (s_var (i := 0) rfl (.inl rfl))) s_nil)) (s_cons (s_fld (clsF_cons F 8 19 rfl rfl clsF_nil) (s_var (i := 0) rfl (.inl rfl))) s_nil)))))
def m_Sieve_wrong_of (f_Sieve_may_have : MF) : MS :=
  (mRet (mCall biLen (aCons (mLc (iAny (mV 1)) (gN 2) (mTb (mMethD "Sieve" "may_have" f_Sieve_may_have [] (mV 0) (aCons (mV 2) aNil))) (mV 2) [2]) aNil)))
theorem B_Sieve_wrong_of {k : Nat} {k_Sieve_may_have : Nat} (F : Fx fa fn K mg) (G : TabsF K mg base tf) {f_Sieve_may_have : MF} (D_Sieve_may_have : MethOk P w K mg base (tf.map (tbOf K)) k_Sieve_may_have "Sieve" "may_have" 2 [] f_Sieve_may_have) (l_Sieve_may_have : k_Sieve_may_have ≤ k) : MethOk P w K mg base (tf.map (tbOf K)) (k + 1) "Sieve" "wrong_of" 2 [] (runF 3 (m_Sieve_wrong_of f_Sieve_may_have)) := by
  refine meth_mkC (d := d6) (N := ["self", "keys", "key"]) (ps := ["self", "keys"]) F 6 rfl rfl ⟨rfl, rfl, rfl, by decide +kernel, rfl, by decide +kernel, by decide +kernel⟩ (bd_all rfl fun _ _ _ _ _ _ us hl => match us, hl with | [_, _], _ => rfl) fun A outer s H E hr => ?_
  have hu := hr.units
  have hu5 := hr.units5
  have hu1 := hr.units1
  have hN : (["self", "keys", "key"] : List Str).Nodup := by decide +kernel
  exact (b_one (s_ret (s_callB call_lenM bc_len rfl (F.free 51 _ rfl) rfl (s_cons (s_lc (own := [("key", 2)]) rfl hN (i_any (s_var (i := 1) rfl (.inl rfl))) (blkOk_by (by kernel_rfl)) (fun _ _ _ _ _ => (g_name (i := 2) hN rfl (by first | exact .inl rfl | exact .inr rfl) (by first | exact .inr rfl | exact .inl rfl) (by decide))) (fun _ _ _ _ _ => (ts_one (s_val (s_ome F 8 12 rfl rfl D_Sieve_may_have takes0 (hr.mono l_Sieve_may_have) (al_cons al_nil) rfl (s_var (i := 0) rfl (by first | exact .inr (.inr rfl) | exact .inl rfl | exact .inr (.inl rfl))) (s_cons (s_var (i := 2) rfl (by first | exact .inr (.inr rfl) | exact .inl rfl | exact .inr (.inl rfl))) s_nil))))) (fun _ _ _ _ _ => (s_var (i := 2) rfl (by first | exact .inr (.inr rfl) | exact .inl rfl | exact .inr (.inl rfl))))) s_nil))))
def m_Sieve_joined_with (f_Sieve___init__ : MF) : MS :=
  (mSeq (mIf (mTb (mBin (opEq false) (mTup (aCons (mFld ["Sieve"] "size" (mV 0)) (aCons (mFld ["Sieve"] "turns" (mV 0)) aNil))) (mTup (aCons (mFld ["Sieve"] "size" (mV 1)) (aCons (mFld ["Sieve"] "turns" (mV 1)) aNil))))) (mRaise "SieveError") mSkip)
  (mSeq (mAsg (mMakeD "Sieve" f_Sieve___init__ [] (aCons (mFld ["Sieve"] "size" (mV 0)) (aCons (mFld ["Sieve"] "turns" (mV 0)) aNil))) (gN 2))
  (mSeq (mAsg (mLc (iZipM (aCons (mFld ["Sieve"] "bits" (mV 0)) (aCons (mFld ["Sieve"] "bits" (mV 1)) aNil))) (gTp 2 (gsCons (gN 3) (gsCons (gN 4) gsNil))) mYes (mCall biMax2 (aCons (mV 3) (aCons (mV 4) aNil))) [3, 4]) (gFld ["Sieve"] "bits" (mV 2)))
  (mSeq (mAsg (mBin opAdd (mFld ["Sieve"] "put_in" (mV 0)) (mFld ["Sieve"] "put_in" (mV 1))) (gFld ["Sieve"] "put_in" (mV 2)))
  (mRet (mV 2))))))
theorem B_Sieve_joined_with {k : Nat} {k_Sieve___init__ : Nat} (F : Fx fa fn K mg) (G : TabsF K mg base tf) {f_Sieve___init__ : MF} (D_Sieve___init__ : MethOk P w K mg base (tf.map (tbOf K)) k_Sieve___init__ "Sieve" "__init__" 3 [] f_Sieve___init__) (l_Sieve___init__ : k_Sieve___init__ + 1 ≤ k) : MethOk P w K mg base (tf.map (tbOf K)) (k + 1) "Sieve" "joined_with" 2 [] (runF 5 (m_Sieve_joined_with f_Sieve___init__)) := by
  refine meth_mkC (d := d7) (N := ["self", "other", "found", "one", "two"]) (ps := ["self", "other"]) F 7 rfl rfl ⟨rfl, rfl, rfl, by decide +kernel, rfl, by decide +kernel, by decide +kernel⟩ (bd_all rfl fun _ _ _ _ _ _ us hl => match us, hl with | [_, _], _ => rfl) fun A outer s H E hr => ?_
  have hu := hr.units
  have hu5 := hr.units5
  have hu1 := hr.units1
  have hN : (["self", "other", "found", "one", "two"] : List Str).Nodup := by decide +kernel
  exact (b_cons (s_if (s_tcmp (op_neM hu) br_eq (s_tup (s_cons (s_fld (clsF_cons F 8 19 rfl rfl clsF_nil) (s_var (i := 0) rfl (.inl rfl))) (s_cons (s_fld (clsF_cons F 8 20 rfl rfl clsF_nil) (s_var (i := 0) rfl (.inl rfl))) s_nil))) (s_tup (s_cons (s_fld (clsF_cons F 8 19 rfl rfl clsF_nil) (s_var (i := 1) rfl (.inl rfl))) (s_cons (s_fld (clsF_cons F 8 20 rfl rfl clsF_nil) (s_var (i := 1) rfl (.inl rfl))) s_nil))) rfl) (b_one (s_raiseF F 2 3 rfl rfl rfl (takes_of rfl rfl rfl rfl) rfl)) b_nil)
    (b_cons (s_set (i := 2) hN rfl (.inl rfl) (.inr rfl) (s_make F 7 9 rfl rfl D_Sieve___init__ (takes_of rfl rfl rfl rfl) (hr.mono l_Sieve___init__) rfl (al_cons (al_cons al_nil)) rfl (s_cons (s_fld (clsF_cons F 8 19 rfl rfl clsF_nil) (s_var (i := 0) rfl (.inl rfl))) (s_cons (s_fld (clsF_cons F 8 20 rfl rfl clsF_nil) (s_var (i := 0) rfl (.inl rfl))) s_nil))))
    (b_cons (s_asg (vs := []) (s_lc (own := [("one", 3), ("two", 4)]) rfl hN (i_zip rfl (F.free 59 _ rfl) (s_cons (s_fld (clsF_cons F 8 17 rfl rfl clsF_nil) (s_var (i := 0) rfl (.inl rfl))) (s_cons (s_fld (clsF_cons F 8 17 rfl rfl clsF_nil) (s_var (i := 1) rfl (.inl rfl))) s_nil))) (blkOk_by (by kernel_rfl)) (fun _ _ _ _ _ => (g_tup rfl (gs_cons (g_name (i := 3) hN rfl (by first | exact .inl rfl | exact .inr rfl) (by first | exact .inr rfl | exact .inl rfl) (by decide)) (gs_cons (g_name (i := 4) hN rfl (by first | exact .inl rfl | exact .inr rfl) (by first | exact .inr rfl | exact .inl rfl) (by decide)) gs_nil)))) (fun _ _ _ _ _ => ts_nil) (fun _ _ _ _ _ => (s_callB (call_max2 rfl) bc_max2 rfl (F.free 53 _ rfl) rfl (s_cons (s_var (i := 3) rfl (by first | exact .inr (.inr rfl) | exact .inl rfl | exact .inr (.inl rfl))) (s_cons (s_var (i := 4) rfl (by first | exact .inr (.inr rfl) | exact .inl rfl | exact .inr (.inl rfl))) s_nil))))) (g_fld (W := WB E) (clsF_cons F 8 17 rfl rfl clsF_nil) (s_var (i := 2) rfl (.inl rfl))))
    (b_cons (s_asg (vs := []) (s_op op_addM br_add (s_fld (clsF_cons F 8 18 rfl rfl clsF_nil) (s_var (i := 0) rfl (.inl rfl))) (s_fld (clsF_cons F 8 18 rfl rfl clsF_nil) (s_var (i := 1) rfl (.inl rfl)))) (g_fld (W := WB E) (clsF_cons F 8 18 rfl rfl clsF_nil) (s_var (i := 2) rfl (.inl rfl))))
    (b_one (s_ret (s_var (i := 2) rfl (.inl rfl))))))))
def m_Sieve_folded (f_Sieve___init__ : MF) : MS :=
  (mSeq (mIf (mTb (mBin (opEq true) (mBin opMod (mFld ["Sieve"] "size" (mV 0)) (mK (.d (.int 2)))) (mK (.d (.int 1))))) (mRaise "SieveError") mSkip)
  (mSeq (mAsg (mMakeD "Sieve" f_Sieve___init__ [] (aCons (mBin opDiv (mFld ["Sieve"] "size" (mV 0)) (mK (.d (.int 2)))) (aCons (mFld ["Sieve"] "turns" (mV 0)) aNil))) (gN 1))
  (mSeq (mAsg (mLc (iRange1 (aCons (mFld ["Sieve"] "size" (mV 1)) aNil)) (gN 2) mYes (mCall biMax2 (aCons (mBin opIx (mFld ["Sieve"] "bits" (mV 0)) (mV 2)) (aCons (mBin opIx (mFld ["Sieve"] "bits" (mV 0)) (mBin opAdd (mV 2) (mFld ["Sieve"] "size" (mV 1)))) aNil))) [2]) (gFld ["Sieve"] "bits" (mV 1)))
  (mSeq (mAsg (mFld ["Sieve"] "put_in" (mV 0)) (gFld ["Sieve"] "put_in" (mV 1)))
  (mRet (mV 1))))))
theorem B_Sieve_folded {k : Nat} {k_Sieve___init__ : Nat} (F : Fx fa fn K mg) (G : TabsF K mg base tf) {f_Sieve___init__ : MF} (D_Sieve___init__ : MethOk P w K mg base (tf.map (tbOf K)) k_Sieve___init__ "Sieve" "__init__" 3 [] f_Sieve___init__) (l_Sieve___init__ : k_Sieve___init__ + 1 ≤ k) : MethOk P w K mg base (tf.map (tbOf K)) (k + 1) "Sieve" "folded" 1 [] (runF 3 (m_Sieve_folded f_Sieve___init__)) := by
  refine meth_mkC (d := d8) (N := ["self", "found", "place"]) (ps := ["self"]) F 8 rfl rfl ⟨rfl, rfl, rfl, by decide +kernel, rfl, by decide +kernel, by decide +kernel⟩ (bd_all rfl fun _ _ _ _ _ _ us hl => match us, hl with | [_], _ => rfl) fun A outer s H E hr => ?_
  have hu := hr.units
  have hu5 := hr.units5
  have hu1 := hr.units1
  have hN : (["self", "found", "place"] : List Str).Nodup := by decide +kernel
  exact (b_cons (s_if (s_tcmp (op_eqM hu) br_eq (s_op op_mod br_mod (s_fld (clsF_cons F 8 19 rfl rfl clsF_nil) (s_var (i := 0) rfl (.inr (.inl rfl)))) s_int) s_int rfl) (b_one (s_raiseF F 2 3 rfl rfl rfl (takes_of rfl rfl rfl rfl) rfl)) b_nil)
    (b_cons (s_set (i := 1) hN rfl (.inr rfl) (.inl rfl) (s_make F 7 9 rfl rfl D_Sieve___init__ (takes_of rfl rfl rfl rfl) (hr.mono l_Sieve___init__) rfl (al_cons (al_cons al_nil)) rfl (s_cons (s_op op_fdivW br_div (s_fld (clsF_cons F 8 19 rfl rfl clsF_nil) (s_var (i := 0) rfl (.inr (.inl rfl)))) s_int) (s_cons (s_fld (clsF_cons F 8 20 rfl rfl clsF_nil) (s_var (i := 0) rfl (.inr (.inl rfl)))) s_nil))))
    (b_cons (s_asg (vs := []) (s_lc (own := [("place", 2)]) rfl hN (i_range1 rfl (F.free 55 _ rfl) (s_cons (s_fld (clsF_cons F 8 19 rfl rfl clsF_nil) (s_var (i := 1) rfl (.inr (.inl rfl)))) s_nil)) (blkOk_by (by kernel_rfl)) (fun _ _ _ _ _ => (g_name (i := 2) hN rfl (by first | exact .inl rfl | exact .inr rfl) (by first | exact .inr rfl | exact .inl rfl) (by decide))) (fun _ _ _ _ _ => ts_nil) (fun _ _ _ _ _ => (s_callB (call_max2 rfl) bc_max2 rfl (F.free 53 _ rfl) rfl (s_cons (s_ix (s_fld (clsF_cons F 8 17 rfl rfl clsF_nil) (s_var (i := 0) rfl (by first | exact .inr (.inr rfl) | exact .inl rfl | exact .inr (.inl rfl)))) (s_var (i := 2) rfl (by first | exact .inr (.inr rfl) | exact .inl rfl | exact .inr (.inl rfl)))) (s_cons (s_ix (s_fld (clsF_cons F 8 17 rfl rfl clsF_nil) (s_var (i := 0) rfl (by first | exact .inr (.inr rfl) | exact .inl rfl | exact .inr (.inl rfl)))) (s_op op_addM br_add (s_var (i := 2) rfl (by first | exact .inr (.inr rfl) | exact .inl rfl | exact .inr (.inl rfl))) (s_fld (clsF_cons F 8 19 rfl rfl clsF_nil) (s_var (i := 1) rfl (by first | exact .inr (.inr rfl) | exact .inl rfl | exact .inr (.inl rfl)))))) s_nil))))) (g_fld (W := WB E) (clsF_cons F 8 17 rfl rfl clsF_nil) (s_var (i := 1) rfl (.inr (.inl rfl)))))
    (b_cons (s_asg (vs := []) (s_fld (clsF_cons F 8 18 rfl rfl clsF_nil) (s_var (i := 0) rfl (.inr (.inl rfl)))) (g_fld (W := WB E) (clsF_cons F 8 18 rfl rfl clsF_nil) (s_var (i := 1) rfl (.inr (.inl rfl)))))
    (b_one (s_ret (s_var (i := 1) rfl (.inr (.inl rfl)))))))))
def m_best_turns : MS :=
  (mSeq (mIf (mTb (mBin oLt (mCall biMin2 (aCons (mV 0) (aCons (mV 1) aNil))) (mK (.d (.int 1))))) (mRaise "SieveError") mSkip)
  (mRet (mCall biMin2 (aCons (mK (.d (.int 8))) (aCons (mCall biMax2 (aCons (mK (.d (.int 1))) (aCons (mBin opDiv (mBin opAdd (mBin opMul (mK (.d (.int 693))) (mV 0)) (mBin opMul (mK (.d (.int 500))) (mV 1))) (mBin opMul (mK (.d (.int 1000))) (mV 1))) aNil))) aNil)))))
theorem B_best_turns {k : Nat} (F : Fx fa fn K mg) (G : TabsF K mg base tf) : DefOk P w K mg base (tf.map (tbOf K)) (k + 1) "best_turns" 2 [] (runF 2 (m_best_turns)) := by
  refine def_mkC (d := d9) (N := ["size", "keys"]) (ps := ["size", "keys"]) F 9 21 rfl rfl rfl ⟨rfl, rfl, rfl, by decide +kernel, rfl, by decide +kernel, by decide +kernel⟩ (bd_all rfl fun _ _ _ _ _ _ us hl => match us, hl with | [_, _], _ => rfl) fun A outer s H E hr => ?_
  have hu := hr.units
  have hu5 := hr.units5
  have hu1 := hr.units1
  have hN : (["size", "keys"] : List Str).Nodup := by decide +kernel
  exact (b_cons (s_if (s_tcmp (op_ltU hu) br_ltU (s_callB (call_min2 rfl) bc_min2 rfl (F.free 54 _ rfl) rfl (s_cons (s_var (i := 0) rfl (.inl rfl)) (s_cons (s_var (i := 1) rfl (.inl rfl)) s_nil))) s_int rfl) (b_one (s_raiseF F 2 3 rfl rfl rfl (takes_of rfl rfl rfl rfl) rfl)) b_nil)
    (b_one (s_ret (s_callB (call_min2 rfl) bc_min2 rfl (F.free 54 _ rfl) rfl (s_cons s_int (s_cons (s_callB (call_max2 rfl) bc_max2 rfl (F.free 53 _ rfl) rfl (s_cons s_int (s_cons (s_op op_fdivW br_div (s_op op_addM br_add (s_op op_mulM br_mul s_int (s_var (i := 0) rfl (.inl rfl))) (s_op op_mulM br_mul s_int (s_var (i := 1) rfl (.inl rfl)))) (s_op op_mulM br_mul s_int (s_var (i := 1) rfl (.inl rfl)))) s_nil))) s_nil))))))
def m_odds : MS :=
  (mSeq (mAsg (mV 0) (gTp 2 (gsCons (gN 2) (gsCons (gN 3) gsNil))))
  (mSeq (mIf (mOr (mTb (mBin oLt (mV 1) (mK (.d (.int 1))))) (mOr (mNot (mTb (mChain oLe oLe (mK (.d (.int 0))) (mV 2) (mV 3)))) (mTb (mBin oLt (mV 3) (mK (.d (.int 1))))))) (mRaise "SieveError") mSkip)
  (mSeq (mAsg2 (mK (.d (.int 1))) (gN 4) (gN 5))
  (mSeq (mFor (iRange1 (aCons (mV 1) aNil)) (gN 6) (mPar 4 5 (aCons (mBin opMul (mV 4) (mV 2)) (aCons (mBin opMul (mV 5) (mV 3)) aNil))))
  (mRet (mTup (aCons (mV 4) (aCons (mV 5) aNil))))))))
theorem B_odds {k : Nat} (F : Fx fa fn K mg) (G : TabsF K mg base tf) : DefOk P w K mg base (tf.map (tbOf K)) (k + 1) "odds" 2 [] (runF 7 (m_odds)) := by
  refine def_mkC (d := d10) (N := ["filled", "turns", "there", "size", "top", "bottom", "turn"]) (ps := ["filled", "turns"]) F 10 22 rfl rfl rfl ⟨rfl, rfl, rfl, by decide +kernel, rfl, by decide +kernel, by decide +kernel⟩ (bd_all rfl fun _ _ _ _ _ _ us hl => match us, hl with | [_, _], _ => rfl) fun A outer s H E hr => ?_
  have hu := hr.units
  have hu5 := hr.units5
  have hu1 := hr.units1
  have hN : (["filled", "turns", "there", "size", "top", "bottom", "turn"] : List Str).Nodup := by decide +kernel
  exact (b_cons (s_asg (vs := [3, 2]) (s_var (i := 0) rfl (.inl rfl)) (g_tup rfl (gs_cons (g_name (i := 2) hN rfl (.inl rfl) (.inr rfl) (by decide)) (gs_cons (g_name (i := 3) hN rfl (.inl rfl) (.inr rfl) (by decide)) gs_nil))))
    (b_cons (s_if (s_w (w_or (s_tcmp (op_ltU hu) br_ltU (s_var (i := 1) rfl (.inl rfl)) s_int rfl) (w_or (s_not (s_tchain (op_leU hu) (op_leU hu) br_leU br_leU s_int (s_var (i := 2) rfl (.inl rfl)) (s_var (i := 3) rfl (.inl rfl)))) (w_or1 (s_tcmp (op_ltU hu) br_ltU (s_var (i := 3) rfl (.inl rfl)) s_int rfl))))) (b_one (s_raiseF F 2 3 rfl rfl rfl (takes_of rfl rfl rfl rfl) rfl)) b_nil)
    (b_cons (s_asg2N (i := 4) (j := 5) hN rfl (.inl rfl) (.inr rfl) rfl (.inl rfl) (.inr rfl) s_int)
    (b_cons (s_for (vs := [6]) (passes_of rfl) rfl (i_range1 rfl (F.free 55 _ rfl) (s_cons (s_var (i := 1) rfl (.inl rfl)) s_nil)) (g_name (i := 6) hN rfl (.inl rfl) (.inr rfl) (by decide)) (b_one (s_par (i := 4) (j := 5) rfl hN rfl rfl (by decide) rfl rfl (s_cons (s_op op_mulM br_mul (s_var (i := 4) rfl (.inl rfl)) (s_var (i := 2) rfl (.inl rfl))) (s_cons (s_op op_mulM br_mul (s_var (i := 5) rfl (.inl rfl)) (s_var (i := 3) rfl (.inl rfl))) s_nil)) rfl)))
    (b_one (s_ret (s_tup (s_cons (s_var (i := 4) rfl (.inl rfl)) (s_cons (s_var (i := 5) rfl (.inl rfl)) s_nil)))))))))
def m_size_for (f_Sieve___init__ : MF) (f_Sieve_put : MF) (f_Sieve_wrong_of : MF) : MS :=
  (mSeq (mIf (mOr (mTb (mBin (opEq true) (mCall biLen (aCons (mV 0) aNil)) (mK (.d (.int 0))))) (mTb (mBin oLt (mV 1) (mK (.d (.int 0)))))) (mRaise "SieveError") mSkip)
  (mSeq (mAsg (mK (.d (.int 1))) (gN 3))
  (mSeq (mWh (mTb (mBin oLe (mV 3) (mK (.d (.int 4096))))) (mSeq (mAsg (mMakeD "Sieve" f_Sieve___init__ [] (aCons (mV 3) (aCons (mV 2) aNil))) (gN 4))
  (mSeq (mFor (iAny (mV 0)) (gN 5) (mExp (mMethD "Sieve" "put" f_Sieve_put [] (mV 4) (aCons (mV 5) aNil))))
  (mSeq (mIf (mTb (mBin oLe (mBin opMul (mK (.d (.int 1000))) (mMethD "Sieve" "wrong_of" f_Sieve_wrong_of [] (mV 4) (aCons (mLc (iAny (mV 0)) (gN 5) mYes (mBin opAdd (mK (.d (.str "?"))) (mV 5)) [5]) aNil))) (mBin opMul (mV 1) (mCall biLen (aCons (mV 0) aNil))))) (mRet (mV 3)) mSkip)
  (mAug 3 imul (mK (.d (.int 2))))))) FU)
  (mRet (mK (.d .none))))))
theorem B_size_for {k : Nat} {k_Sieve___init__ : Nat} {k_Sieve_put : Nat} {k_Sieve_wrong_of : Nat} (F : Fx fa fn K mg) (G : TabsF K mg base tf) {f_Sieve___init__ : MF} (D_Sieve___init__ : MethOk P w K mg base (tf.map (tbOf K)) k_Sieve___init__ "Sieve" "__init__" 3 [] f_Sieve___init__) (l_Sieve___init__ : k_Sieve___init__ + 1 ≤ k) {f_Sieve_put : MF} (D_Sieve_put : MethOk P w K mg base (tf.map (tbOf K)) k_Sieve_put "Sieve" "put" 2 [] f_Sieve_put) (l_Sieve_put : k_Sieve_put ≤ k) {f_Sieve_wrong_of : MF} (D_Sieve_wrong_of : MethOk P w K mg base (tf.map (tbOf K)) k_Sieve_wrong_of "Sieve" "wrong_of" 2 [] f_Sieve_wrong_of) (l_Sieve_wrong_of : k_Sieve_wrong_of ≤ k) : DefOk P w K mg base (tf.map (tbOf K)) (k + 1) "size_for" 3 [] (runF 6 (m_size_for f_Sieve___init__ f_Sieve_put f_Sieve_wrong_of)) := by
  refine def_mkC (d := d11) (N := ["keys", "most", "turns", "size", "sieve", "key"]) (ps := ["keys", "most", "turns"]) F 11 23 rfl rfl rfl ⟨rfl, rfl, rfl, by decide +kernel, rfl, by decide +kernel, by decide +kernel⟩ (bd_all rfl fun _ _ _ _ _ _ us hl => match us, hl with | [_, _, _], _ => rfl) fun A outer s H E hr => ?_
  have hu := hr.units
  have hu5 := hr.units5
  have hu1 := hr.units1
  have hN : (["keys", "most", "turns", "size", "sieve", "key"] : List Str).Nodup := by decide +kernel
  exact (b_cons (s_if (s_w (w_or (s_tcmp (op_eqM hu) br_eq (s_callB call_lenM bc_len rfl (F.free 51 _ rfl) rfl (s_cons (s_var (i := 0) rfl (.inl rfl)) s_nil)) s_int rfl) (w_or1 (s_tcmp (op_ltU hu) br_ltU (s_var (i := 1) rfl (.inl rfl)) s_int rfl)))) (b_one (s_raiseF F 2 3 rfl rfl rfl (takes_of rfl rfl rfl rfl) rfl)) b_nil)
    (b_cons (s_set (i := 3) hN rfl (.inl rfl) (.inr rfl) s_int)
    (b_cons (s_while (passes_of rfl) (s_tcmp (op_leU hu) br_leU (s_var (i := 3) rfl (.inl rfl)) (s_gint rfl (F.int 4 _ _ rfl)) rfl) (b_cons (s_set (i := 4) hN rfl (.inl rfl) (.inr rfl) (s_make F 7 9 rfl rfl D_Sieve___init__ (takes_of rfl rfl rfl rfl) (hr.mono l_Sieve___init__) rfl (al_cons (al_cons al_nil)) rfl (s_cons (s_var (i := 3) rfl (.inl rfl)) (s_cons (s_var (i := 2) rfl (.inl rfl)) s_nil))))
    (b_cons (s_for (vs := [5]) (passes_of rfl) rfl (i_any (s_var (i := 0) rfl (.inl rfl))) (g_name (i := 5) hN rfl (.inl rfl) (.inr rfl) (by decide)) (b_one (s_exp (s_ome F 8 11 rfl rfl D_Sieve_put (takes_of rfl rfl rfl rfl) (hr.mono l_Sieve_put) (al_cons al_nil) rfl (s_var (i := 4) rfl (.inl rfl)) (s_cons (s_var (i := 5) rfl (.inl rfl)) s_nil)))))
    (b_cons (s_if (s_tcmp (op_leU hu) br_leU (s_op op_mulM br_mul s_int (s_ome F 8 14 rfl rfl D_Sieve_wrong_of (takes_of rfl rfl rfl rfl) (hr.mono l_Sieve_wrong_of) (al_cons al_nil) rfl (s_var (i := 4) rfl (.inl rfl)) (s_cons (s_lc (own := [("key", 5)]) rfl hN (i_any (s_var (i := 0) rfl (.inl rfl))) (blkOk_by (by kernel_rfl)) (fun _ _ _ _ _ => (g_name (i := 5) hN rfl (by first | exact .inl rfl | exact .inr rfl) (by first | exact .inr rfl | exact .inl rfl) (by decide))) (fun _ _ _ _ _ => ts_nil) (fun _ _ _ _ _ => (s_op op_addM br_add (s_str (by decide +kernel)) (s_var (i := 5) rfl (by first | exact .inr (.inr rfl) | exact .inl rfl | exact .inr (.inl rfl)))))) s_nil))) (s_op op_mulM br_mul (s_var (i := 1) rfl (.inl rfl)) (s_callB call_lenM bc_len rfl (F.free 51 _ rfl) rfl (s_cons (s_var (i := 0) rfl (.inl rfl)) s_nil))) rfl) (b_one (s_ret (s_var (i := 3) rfl (.inl rfl)))) b_nil)
    (b_one (s_aug (i := 3) hN rfl (.inl rfl) (.inr rfl) s_int iop_mulM br_imul))))))
    (b_one (s_ret s_non)))))
def m_Counting___init__ (f_Sieve___init__ : MF) : MS :=
  (mSeq (mAsg (mMakeD "Sieve" f_Sieve___init__ [] (aCons (mV 1) (aCons (mV 2) aNil))) (gFld ["Counting"] "sieve" (mV 0)))
  (mAsg (mBin opMulC (mLst (aCons (mK (.d (.int 0))) aNil)) (mV 1)) (gFld ["Counting"] "counts" (mV 0))))
theorem B_Counting___init__ {k : Nat} {k_Sieve___init__ : Nat} (F : Fx fa fn K mg) (G : TabsF K mg base tf) {f_Sieve___init__ : MF} (D_Sieve___init__ : MethOk P w K mg base (tf.map (tbOf K)) k_Sieve___init__ "Sieve" "__init__" 3 [] f_Sieve___init__) (l_Sieve___init__ : k_Sieve___init__ + 1 ≤ k) : MethOk P w K mg base (tf.map (tbOf K)) (k + 1) "Counting" "__init__" 3 [] (runF 3 (m_Counting___init__ f_Sieve___init__)) := by
  refine meth_mkC (d := d12) (N := ["self", "size", "turns"]) (ps := ["self", "size", "turns"]) F 12 rfl rfl ⟨rfl, rfl, rfl, by decide +kernel, rfl, by decide +kernel, by decide +kernel⟩ (bd_all rfl fun _ _ _ _ _ _ us hl => match us, hl with | [_, _, _], _ => rfl) fun A outer s H E hr => ?_
  have hu := hr.units
  have hu5 := hr.units5
  have hu1 := hr.units1
  have hN : (["self", "size", "turns"] : List Str).Nodup := by decide +kernel
  exact (b_cons (s_asg (vs := []) (s_make F 7 9 rfl rfl D_Sieve___init__ (takes_of rfl rfl rfl rfl) (hr.mono l_Sieve___init__) rfl (al_cons (al_cons al_nil)) rfl (s_cons (s_var (i := 1) rfl (.inl rfl)) (s_cons (s_var (i := 2) rfl (.inl rfl)) s_nil))) (g_fld (W := WB E) (clsF_cons F 25 32 rfl rfl clsF_nil) (s_var (i := 0) rfl (.inl rfl))))
    (b_one (s_asg (vs := []) (s_op op_rep br_mulC (s_lst (s_cons s_int s_nil)) (s_var (i := 1) rfl (.inl rfl))) (g_fld (W := WB E) (clsF_cons F 25 31 rfl rfl clsF_nil) (s_var (i := 0) rfl (.inl rfl))))))
def m_Counting_add (f_Sieve_bits_of : MF) : MS :=
  (mFor (iAny (mMethD "Sieve" "bits_of" f_Sieve_bits_of [] (mFld ["Counting"] "sieve" (mV 0)) (aCons (mV 1) aNil))) (gN 2) (mAsg (mCall biMin2 (aCons (mK (.d (.int 15))) (aCons (mBin opAdd (mBin opIx (mFld ["Counting"] "counts" (mV 0)) (mV 2)) (mK (.d (.int 1)))) aNil))) (gIx (mFld ["Counting"] "counts" (mV 0)) (mV 2))))
theorem B_Counting_add {k : Nat} {k_Sieve_bits_of : Nat} (F : Fx fa fn K mg) (G : TabsF K mg base tf) {f_Sieve_bits_of : MF} (D_Sieve_bits_of : MethOk P w K mg base (tf.map (tbOf K)) k_Sieve_bits_of "Sieve" "bits_of" 2 [] f_Sieve_bits_of) (l_Sieve_bits_of : k_Sieve_bits_of ≤ k) : MethOk P w K mg base (tf.map (tbOf K)) (k + 1) "Counting" "add" 2 [] (runF 3 (m_Counting_add f_Sieve_bits_of)) := by
  refine meth_mkC (d := d13) (N := ["self", "key", "place"]) (ps := ["self", "key"]) F 13 rfl rfl ⟨rfl, rfl, rfl, by decide +kernel, rfl, by decide +kernel, by decide +kernel⟩ (bd_all rfl fun _ _ _ _ _ _ us hl => match us, hl with | [_, _], _ => rfl) fun A outer s H E hr => ?_
  have hu := hr.units
  have hu5 := hr.units5
  have hu1 := hr.units1
  have hN : (["self", "key", "place"] : List Str).Nodup := by decide +kernel
  exact (b_one (s_for (vs := [2]) (passes_of rfl) rfl (i_any (s_ome F 8 10 rfl rfl D_Sieve_bits_of (takes_of rfl rfl rfl rfl) (hr.mono l_Sieve_bits_of) (al_cons al_nil) rfl (s_fld (clsF_cons F 25 32 rfl rfl clsF_nil) (s_var (i := 0) rfl (.inl rfl))) (s_cons (s_var (i := 1) rfl (.inl rfl)) s_nil))) (g_name (i := 2) hN rfl (.inl rfl) (.inr rfl) (by decide)) (b_one (s_asg (vs := []) (s_callB (call_min2 rfl) bc_min2 rfl (F.free 54 _ rfl) rfl (s_cons s_int (s_cons (s_op op_addM br_add (s_ix (s_fld (clsF_cons F 25 31 rfl rfl clsF_nil) (s_var (i := 0) rfl (.inl rfl))) (s_var (i := 2) rfl (.inl rfl))) s_int) s_nil))) (g_ix (W := WB E) hu1 (s_fld (clsF_cons F 25 31 rfl rfl clsF_nil) (s_var (i := 0) rfl (.inl rfl))) (s_var (i := 2) rfl (.inl rfl)) (by intro _; rfl))))))
def m_Counting_remove (f_Counting_may_be_in : MF) (f_Sieve_bits_of : MF) : MS :=
  (mSeq (mIf (mNot (mTb (mMethD "Counting" "may_be_in" f_Counting_may_be_in [] (mV 0) (aCons (mV 1) aNil)))) (mRaise "SieveError") mSkip)
  (mFor (iAny (mMethD "Sieve" "bits_of" f_Sieve_bits_of [] (mFld ["Counting"] "sieve" (mV 0)) (aCons (mV 1) aNil))) (gN 2) (mIf (mTb (mBin oLt (mBin opIx (mFld ["Counting"] "counts" (mV 0)) (mV 2)) (mK (.d (.int 15))))) (mAugS opSub (mFld ["Counting"] "counts" (mV 0)) (mV 2) (mK (.d (.int 1)))) mSkip)))
theorem B_Counting_remove {k : Nat} {k_Counting_may_be_in : Nat} {k_Sieve_bits_of : Nat} (F : Fx fa fn K mg) (G : TabsF K mg base tf) {f_Counting_may_be_in : MF} (D_Counting_may_be_in : MethOk P w K mg base (tf.map (tbOf K)) k_Counting_may_be_in "Counting" "may_be_in" 2 [] f_Counting_may_be_in) (l_Counting_may_be_in : k_Counting_may_be_in ≤ k) {f_Sieve_bits_of : MF} (D_Sieve_bits_of : MethOk P w K mg base (tf.map (tbOf K)) k_Sieve_bits_of "Sieve" "bits_of" 2 [] f_Sieve_bits_of) (l_Sieve_bits_of : k_Sieve_bits_of ≤ k) : MethOk P w K mg base (tf.map (tbOf K)) (k + 1) "Counting" "remove" 2 [] (runF 3 (m_Counting_remove f_Counting_may_be_in f_Sieve_bits_of)) := by
  refine meth_mkC (d := d14) (N := ["self", "key", "place"]) (ps := ["self", "key"]) F 14 rfl rfl ⟨rfl, rfl, rfl, by decide +kernel, rfl, by decide +kernel, by decide +kernel⟩ (bd_all rfl fun _ _ _ _ _ _ us hl => match us, hl with | [_, _], _ => rfl) fun A outer s H E hr => ?_
  have hu := hr.units
  have hu5 := hr.units5
  have hu1 := hr.units1
  have hN : (["self", "key", "place"] : List Str).Nodup := by decide +kernel
  exact (b_cons (s_if (s_not (s_val (s_ome F 25 29 rfl rfl D_Counting_may_be_in (takes_of rfl rfl rfl rfl) (hr.mono l_Counting_may_be_in) (al_cons al_nil) rfl (s_var (i := 0) rfl (.inl rfl)) (s_cons (s_var (i := 1) rfl (.inl rfl)) s_nil)))) (b_one (s_raiseF F 2 3 rfl rfl rfl (takes_of rfl rfl rfl rfl) rfl)) b_nil)
    (b_one (s_for (vs := [2]) (passes_of rfl) rfl (i_any (s_ome F 8 10 rfl rfl D_Sieve_bits_of (takes_of rfl rfl rfl rfl) (hr.mono l_Sieve_bits_of) (al_cons al_nil) rfl (s_fld (clsF_cons F 25 32 rfl rfl clsF_nil) (s_var (i := 0) rfl (.inl rfl))) (s_cons (s_var (i := 1) rfl (.inl rfl)) s_nil))) (g_name (i := 2) hN rfl (.inl rfl) (.inr rfl) (by decide)) (b_one (s_if (s_tcmp (op_ltU hu) br_ltU (s_ix (s_fld (clsF_cons F 25 31 rfl rfl clsF_nil) (s_var (i := 0) rfl (.inl rfl))) (s_var (i := 2) rfl (.inl rfl))) s_int rfl) (b_one (s_augS hu1 (s_fld (clsF_cons F 25 31 rfl rfl clsF_nil) (s_var (i := 0) rfl (.inl rfl))) (s_var (i := 2) rfl (.inl rfl)) s_int iop_sub br_sub)) b_nil)))))
def m_Counting_may_be_in (f_Sieve_bits_of : MF) : MS :=
  (mRet (mGen (iAny (mMethD "Sieve" "bits_of" f_Sieve_bits_of [] (mFld ["Counting"] "sieve" (mV 0)) (aCons (mV 1) aNil))) (gN 2) mYes (mBin oGt (mBin opIx (mFld ["Counting"] "counts" (mV 0)) (mV 2)) (mK (.d (.int 0)))) [2] cAll))
theorem B_Counting_may_be_in {k : Nat} {k_Sieve_bits_of : Nat} (F : Fx fa fn K mg) (G : TabsF K mg base tf) {f_Sieve_bits_of : MF} (D_Sieve_bits_of : MethOk P w K mg base (tf.map (tbOf K)) k_Sieve_bits_of "Sieve" "bits_of" 2 [] f_Sieve_bits_of) (l_Sieve_bits_of : k_Sieve_bits_of ≤ k) : MethOk P w K mg base (tf.map (tbOf K)) (k + 1 + 1) "Counting" "may_be_in" 2 [] (runF 3 (m_Counting_may_be_in f_Sieve_bits_of)) := by
  refine meth_mkC (d := d15) (N := ["self", "key", "place"]) (ps := ["self", "key"]) F 15 rfl rfl ⟨rfl, rfl, rfl, by decide +kernel, rfl, by decide +kernel, by decide +kernel⟩ (bd_all rfl fun _ _ _ _ _ _ us hl => match us, hl with | [_, _], _ => rfl) fun A outer s H E hr => ?_
  have hu := hr.units
  have hu5 := hr.units5
  have hu1 := hr.units1
  have hN : (["self", "key", "place"] : List Str).Nodup := by decide +kernel
  exact (b_one (s_ret (s_genB (own := [("place", 2)]) (all_cons hr) hr hN rfl (F.free 47 _ rfl) rfl (i_any (s_ome F 8 10 rfl rfl D_Sieve_bits_of (takes_of rfl rfl rfl rfl) (hr.mono (Nat.le_add_right_of_le l_Sieve_bits_of)) (al_cons al_nil) rfl (s_fld (clsF_cons F 25 32 rfl rfl clsF_nil) (s_var (i := 0) rfl (.inr (.inl rfl)))) (s_cons (s_var (i := 1) rfl (.inl rfl)) s_nil))) (blkOk_by (by kernel_rfl)) (by decide +kernel) rfl rfl (code_at G 1 rfl rfl (by decide +kernel)) ⟨(fun _ _ _ _ _ _ A hr => have hu := hr.units; have hu5 := hr.units5; have hu1 := hr.units1; (g_name (i := 2) hN rfl (by first | exact .inl rfl | exact .inr rfl) (by first | exact .inr rfl | exact .inl rfl) (by decide))), (fun _ _ _ _ _ _ A hr => have hu := hr.units; have hu5 := hr.units5; have hu1 := hr.units1; ts_nil), (fun _ _ _ _ _ _ A hr => have hu := hr.units; have hu5 := hr.units5; have hu1 := hr.units1; (s_cmp (op_gtU hu) br_gtU (s_ix (s_fld (clsF_cons F 25 31 rfl rfl clsF_nil) (s_var (i := 0) rfl (by first | exact .inr (.inr rfl) | exact .inl rfl | exact .inr (.inl rfl)))) (s_var (i := 2) rfl (by first | exact .inr (.inr rfl) | exact .inl rfl | exact .inr (.inl rfl)))) s_int rfl))⟩)))
def m_Counting_plain (f_Sieve___init__ : MF) : MS :=
  (mSeq (mAsg (mMakeD "Sieve" f_Sieve___init__ [] (aCons (mFld ["Sieve"] "size" (mFld ["Counting"] "sieve" (mV 0))) (aCons (mFld ["Sieve"] "turns" (mFld ["Counting"] "sieve" (mV 0))) aNil))) (gN 1))
  (mSeq (mAsg (mLc (iAny (mFld ["Counting"] "counts" (mV 0))) (gN 2) mYes (mIfE (mTb (mBin oGt (mV 2) (mK (.d (.int 0))))) (mK (.d (.int 1))) (mK (.d (.int 0)))) [2]) (gFld ["Sieve"] "bits" (mV 1)))
  (mRet (mV 1))))
theorem B_Counting_plain {k : Nat} {k_Sieve___init__ : Nat} (F : Fx fa fn K mg) (G : TabsF K mg base tf) {f_Sieve___init__ : MF} (D_Sieve___init__ : MethOk P w K mg base (tf.map (tbOf K)) k_Sieve___init__ "Sieve" "__init__" 3 [] f_Sieve___init__) (l_Sieve___init__ : k_Sieve___init__ + 1 ≤ k) : MethOk P w K mg base (tf.map (tbOf K)) (k + 1) "Counting" "plain" 1 [] (runF 3 (m_Counting_plain f_Sieve___init__)) := by
  refine meth_mkC (d := d16) (N := ["self", "found", "one"]) (ps := ["self"]) F 16 rfl rfl ⟨rfl, rfl, rfl, by decide +kernel, rfl, by decide +kernel, by decide +kernel⟩ (bd_all rfl fun _ _ _ _ _ _ us hl => match us, hl with | [_], _ => rfl) fun A outer s H E hr => ?_
  have hu := hr.units
  have hu5 := hr.units5
  have hu1 := hr.units1
  have hN : (["self", "found", "one"] : List Str).Nodup := by decide +kernel
  exact (b_cons (s_set (i := 1) hN rfl (.inl rfl) (.inr rfl) (s_make F 7 9 rfl rfl D_Sieve___init__ (takes_of rfl rfl rfl rfl) (hr.mono l_Sieve___init__) rfl (al_cons (al_cons al_nil)) rfl (s_cons (s_fld (clsF_cons F 8 19 rfl rfl clsF_nil) (s_fld (clsF_cons F 25 32 rfl rfl clsF_nil) (s_var (i := 0) rfl (.inl rfl)))) (s_cons (s_fld (clsF_cons F 8 20 rfl rfl clsF_nil) (s_fld (clsF_cons F 25 32 rfl rfl clsF_nil) (s_var (i := 0) rfl (.inl rfl)))) s_nil))))
    (b_cons (s_asg (vs := []) (s_lc (own := [("one", 2)]) rfl hN (i_any (s_fld (clsF_cons F 25 31 rfl rfl clsF_nil) (s_var (i := 0) rfl (.inl rfl)))) (blkOk_by (by kernel_rfl)) (fun _ _ _ _ _ => (g_name (i := 2) hN rfl (by first | exact .inl rfl | exact .inr rfl) (by first | exact .inr rfl | exact .inl rfl) (by decide))) (fun _ _ _ _ _ => ts_nil) (fun _ _ _ _ _ => (s_ifE (s_tcmp (op_gtU hu) br_gtU (s_var (i := 2) rfl (by first | exact .inr (.inr rfl) | exact .inl rfl | exact .inr (.inl rfl))) s_int rfl) s_int s_int))) (g_fld (W := WB E) (clsF_cons F 8 17 rfl rfl clsF_nil) (s_var (i := 1) rfl (.inl rfl))))
    (b_one (s_ret (s_var (i := 1) rfl (.inl rfl))))))
def m__law_dice : MS :=
  (mSeq (mIf (mTb (mChain oLt oLt (mBin opSub (mK (.d (.int 0))) (mK (.d (.int 10)))) (mV 0) (mK (.d (.int 10))))) (mRet (mCell (aCons (mCall biAbs (aCons (mV 0) aNil)) (aCons (mK (.d (.int 0))) (aCons (mK (.d (.int 2))) aNil))))) mSkip)
  (mRet (mCell (aCons (mV 0) (aCons (mBin opAdd (mK (.d (.int 1))) (mBin opMod (mCall biInt (aCons (mV 0) aNil)) (mK (.d (.int 1009))))) (aCons (mCall biInt (aCons (mBin oGe (mV 0) (mBin opPow (mK (.d (.int 10))) (mK (.d (.int 18))))) aNil)) aNil))))))
theorem B__law_dice {k : Nat} (F : Fx fa fn K mg) (G : TabsF K mg base tf) : DefOk P w K mg base (tf.map (tbOf K)) (k + 1) "_law_dice" 1 [] (runF 1 (m__law_dice)) := by
  refine def_mkC (d := d17) (N := ["cell"]) (ps := ["cell"]) F 17 33 rfl rfl rfl ⟨rfl, rfl, rfl, by decide +kernel, rfl, by decide +kernel, by decide +kernel⟩ (bd_all rfl fun _ _ _ _ _ _ us hl => match us, hl with | [_], _ => rfl) fun A outer s H E hr => ?_
  have hu := hr.units
  have hu5 := hr.units5
  have hu1 := hr.units1
  have hN : (["cell"] : List Str).Nodup := by decide +kernel
  exact (b_cons (s_if (s_tchain (op_ltU hu) (op_ltU hu) br_ltU br_ltU (s_op op_sub br_sub s_int s_int) (s_var (i := 0) rfl (.inl rfl)) s_int) (b_one (s_ret (s_cell (s_cons (s_callB call_abs bc_abs rfl (F.free 46 _ rfl) rfl (s_cons (s_var (i := 0) rfl (.inl rfl)) s_nil)) (s_cons s_int (s_cons s_int s_nil)))))) b_nil)
    (b_one (s_ret (s_cell (s_cons (s_var (i := 0) rfl (.inl rfl)) (s_cons (s_op op_addM br_add s_int (s_op op_mod br_mod (s_callT call_int1 bc_int rfl (F.free 50 _ rfl) rfl (s_cons (s_var (i := 0) rfl (.inl rfl)) s_nil)) s_int)) (s_cons (s_callT call_int1 bc_int rfl (F.free 50 _ rfl) rfl (s_cons (s_cmp (op_geU hu) br_geU (s_var (i := 0) rfl (.inl rfl)) (s_op op_pow br_pow s_int s_int) rfl) s_nil)) s_nil)))))))
def m__law_roll (f__law_roll : MF) : MS :=
  (mSeq (mIf (mOr (mTb (mBin (opEq true) (mBin opIx (mV 0) (mK (.d (.int 2)))) (mK (.d (.int 2))))) (mAnd (mTb (mBin (opEq true) (mBin opIx (mV 0) (mK (.d (.int 2)))) (mK (.d (.int 1))))) (mTb (mBin oGt (mBin opIx (mV 0) (mK (.d (.int 0)))) (mK (.d (.int 0))))))) (mSeq (mAsg (mBin opMod (mCall biInt (aCons (mBin opIx (mV 0) (mK (.d (.int 0)))) aNil)) (mV 1)) (gN 2))
  (mSeq (mAsg (mBin opDiv (mBin opIx (mV 0) (mK (.d (.int 0)))) (mV 1)) (gIx (mV 0) (mK (.d (.int 0)))))
  (mRet (mV 2)))) mSkip)
  (mSeq (mAsg (mK (.d (.int 0))) (gIx (mV 0) (mK (.d (.int 2)))))
  (mSeq (mIf (mTb (mBin oGt (mV 1) (mK (.d (.int 100000000))))) (mRet (mBin opMod (mCall biInt (aCons (mBin opAdd (mBin opMul (mCallD f__law_roll [] (aCons (mV 0) (aCons (mBin opAdd (mBin opDiv (mV 1) (mK (.d (.int 100000000)))) (mK (.d (.int 1)))) aNil))) (mK (.d (.int 100000000)))) (mCallD f__law_roll [] (aCons (mV 0) (aCons (mK (.d (.int 100000000))) aNil)))) aNil)) (mV 1))) mSkip)
  (mSeq (mAsg (mBin opMod (mCall biInt (aCons (mBin opAdd (mBin opAdd (mBin opMul (mBin opIx (mV 0) (mK (.d (.int 0)))) (mK (.d (.int 48271)))) (mBin opMul (mBin opIx (mV 0) (mK (.d (.int 1)))) (mK (.d (.int 69621))))) (mK (.d (.int 11)))) aNil)) (mK (.d (.int 2147483647)))) (gIx (mV 0) (mK (.d (.int 0)))))
  (mSeq (mAsg (mBin opAdd (mBin opIx (mV 0) (mK (.d (.int 1)))) (mK (.d (.int 1)))) (gIx (mV 0) (mK (.d (.int 1)))))
  (mRet (mBin opMod (mCall biInt (aCons (mBin opDiv (mBin opIx (mV 0) (mK (.d (.int 0)))) (mK (.d (.int 7)))) aNil)) (mV 1))))))))
theorem B__law_roll {k : Nat} {k__law_roll : Nat} (F : Fx fa fn K mg) (G : TabsF K mg base tf) {f__law_roll : MF} (D__law_roll : DefOk P w K mg base (tf.map (tbOf K)) k__law_roll "_law_roll" 2 [] f__law_roll) (l__law_roll : k__law_roll ≤ k) : DefOk P w K mg base (tf.map (tbOf K)) (k + 1) "_law_roll" 2 [] (runF 3 (m__law_roll f__law_roll)) := by
  refine def_mkC (d := d18) (N := ["dice", "many", "found"]) (ps := ["dice", "many"]) F 18 34 rfl rfl rfl ⟨rfl, rfl, rfl, by decide +kernel, rfl, by decide +kernel, by decide +kernel⟩ (bd_all rfl fun _ _ _ _ _ _ us hl => match us, hl with | [_, _], _ => rfl) fun A outer s H E hr => ?_
  have hu := hr.units
  have hu5 := hr.units5
  have hu1 := hr.units1
  have hN : (["dice", "many", "found"] : List Str).Nodup := by decide +kernel
  exact (b_cons (s_if (s_w (w_or (s_tcmp (op_eqM hu) br_eq (s_ix (s_var (i := 0) rfl (.inl rfl)) s_int) s_int rfl) (w_or1 (s_w (w_and (s_tcmp (op_eqM hu) br_eq (s_ix (s_var (i := 0) rfl (.inl rfl)) s_int) s_int rfl) (w_and1 (s_tcmp (op_gtU hu) br_gtU (s_ix (s_var (i := 0) rfl (.inl rfl)) s_int) s_int rfl))))))) (b_cons (s_set (i := 2) hN rfl (.inl rfl) (.inr rfl) (s_op op_mod br_mod (s_callT call_int1 bc_int rfl (F.free 50 _ rfl) rfl (s_cons (s_ix (s_var (i := 0) rfl (.inl rfl)) s_int) s_nil)) (s_var (i := 1) rfl (.inl rfl))))
    (b_cons (s_asg (vs := []) (s_op op_fdivW br_div (s_ix (s_var (i := 0) rfl (.inl rfl)) s_int) (s_var (i := 1) rfl (.inl rfl))) (g_ix (W := WB E) hu1 (s_var (i := 0) rfl (.inl rfl)) s_int (by intro _; rfl)))
    (b_one (s_ret (s_var (i := 2) rfl (.inl rfl)))))) b_nil)
    (b_cons (s_asg (vs := []) s_int (g_ix (W := WB E) hu1 (s_var (i := 0) rfl (.inl rfl)) s_int (by intro _; rfl)))
    (b_cons (s_if (s_tcmp (op_gtU hu) br_gtU (s_var (i := 1) rfl (.inl rfl)) s_int rfl) (b_one (s_ret (s_op op_mod br_mod (s_callT call_int1 bc_int rfl (F.free 50 _ rfl) rfl (s_cons (s_op op_addM br_add (s_op op_mulM br_mul (s_fn D__law_roll (takes_of rfl rfl rfl rfl) (hr.mono l__law_roll) rfl (al_cons (al_cons al_nil)) rfl (s_cons (s_var (i := 0) rfl (.inl rfl)) (s_cons (s_op op_addM br_add (s_op op_fdivW br_div (s_var (i := 1) rfl (.inl rfl)) s_int) s_int) s_nil))) s_int) (s_fn D__law_roll (takes_of rfl rfl rfl rfl) (hr.mono l__law_roll) rfl (al_cons (al_cons al_nil)) rfl (s_cons (s_var (i := 0) rfl (.inl rfl)) (s_cons s_int s_nil)))) s_nil)) (s_var (i := 1) rfl (.inl rfl))))) b_nil)
    (b_cons (s_asg (vs := []) (s_op op_mod br_mod (s_callT call_int1 bc_int rfl (F.free 50 _ rfl) rfl (s_cons (s_op op_addM br_add (s_op op_addM br_add (s_op op_mulM br_mul (s_ix (s_var (i := 0) rfl (.inl rfl)) s_int) s_int) (s_op op_mulM br_mul (s_ix (s_var (i := 0) rfl (.inl rfl)) s_int) s_int)) s_int) s_nil)) s_int) (g_ix (W := WB E) hu1 (s_var (i := 0) rfl (.inl rfl)) s_int (by intro _; rfl)))
    (b_cons (s_asg (vs := []) (s_op op_addM br_add (s_ix (s_var (i := 0) rfl (.inl rfl)) s_int) s_int) (g_ix (W := WB E) hu1 (s_var (i := 0) rfl (.inl rfl)) s_int (by intro _; rfl)))
    (b_one (s_ret (s_op op_mod br_mod (s_callT call_int1 bc_int rfl (F.free 50 _ rfl) rfl (s_cons (s_op op_fdivW br_div (s_ix (s_var (i := 0) rfl (.inl rfl)) s_int) s_int) s_nil)) (s_var (i := 1) rfl (.inl rfl))))))))))
def m__law_rounds (f__law_dice : MF) : MS :=
  (mSeq (mAsg (mSl (mV 0) oNo (oSo (mV 1))) (gN 2))
  (mSeq (mIf (mTb (mBin (opEq true) (mV 2) (mLst aNil))) (mAsg (mLst (aCons (mK (.d (.int 0))) aNil)) (gN 2)) mSkip)
  (mRet (mLc (iAny (mV 2)) (gN 3) mYes (mCallD f__law_dice [] (aCons (mV 3) aNil)) [3]))))
theorem B__law_rounds {k : Nat} {k__law_dice : Nat} (F : Fx fa fn K mg) (G : TabsF K mg base tf) {f__law_dice : MF} (D__law_dice : DefOk P w K mg base (tf.map (tbOf K)) k__law_dice "_law_dice" 1 [] f__law_dice) (l__law_dice : k__law_dice ≤ k) : DefOk P w K mg base (tf.map (tbOf K)) (k + 1) "_law_rounds" 2 [] (runF 4 (m__law_rounds f__law_dice)) := by
  refine def_mkC (d := d19) (N := ["script", "most", "cells", "cell"]) (ps := ["script", "most"]) F 19 35 rfl rfl rfl ⟨rfl, rfl, rfl, by decide +kernel, rfl, by decide +kernel, by decide +kernel⟩ (bd_all rfl fun _ _ _ _ _ _ us hl => match us, hl with | [_, _], _ => rfl) fun A outer s H E hr => ?_
  have hu := hr.units
  have hu5 := hr.units5
  have hu1 := hr.units1
  have hN : (["script", "most", "cells", "cell"] : List Str).Nodup := by decide +kernel
  exact (b_cons (s_set (i := 2) hN rfl (.inl rfl) (.inr rfl) (s_sl (s_var (i := 0) rfl (.inl rfl)) s_no (s_so (s_var (i := 1) rfl (.inl rfl)))))
    (b_cons (s_if (s_tcmp (op_eqM hu) br_eq (s_var (i := 2) rfl (.inl rfl)) (s_lst s_nil) rfl) (b_one (s_set (i := 2) hN rfl (.inl rfl) (.inr rfl) (s_lst (s_cons s_int s_nil)))) b_nil)
    (b_one (s_ret (s_lc (own := [("cell", 3)]) rfl hN (i_any (s_var (i := 2) rfl (.inl rfl))) (blkOk_by (by kernel_rfl)) (fun _ _ _ _ _ => (g_name (i := 3) hN rfl (by first | exact .inl rfl | exact .inr rfl) (by first | exact .inr rfl | exact .inl rfl) (by decide))) (fun _ _ _ _ _ => ts_nil) (fun _ _ _ _ _ => (s_fn D__law_dice takes0 (hr.mono l__law_dice) rfl (al_cons al_nil) rfl (s_cons (s_var (i := 3) rfl (by first | exact .inr (.inr rfl) | exact .inl rfl | exact .inr (.inl rfl))) s_nil))))))))
def m__law_mixed : MS :=
  (mSeq (mAsg (mBin opAdd (mK (.d (.int 7))) (mBin opMul (mK (.d (.int 131))) (mV 1))) (gN 2))
  (mSeq (mFor (iAny (mV 0)) (gN 3) (mSeq (mAsg (mLc (iEnumT (aCons (mK (.d (.str "0123456789abcdefghijklmnopqrstuvwxyzABCDEFGHIJKLMNOPQRSTUVWXYZ-_./: "))) aNil)) (gTp 2 (gsCons (gN 6) (gsCons (gN 7) gsNil))) (mTb (mBin (opEq true) (mV 7) (mV 3))) (mV 6) [6, 7]) (gN 4))
  (mSeq (mAsg (mBin opAdd (mBin opMul (mK (.d (.int 31))) (mV 2)) (mIfE (mTb (mBin (opEq false) (mV 4) (mLst aNil))) (mBin opAdd (mBin opIx (mV 4) (mK (.d (.int 0)))) (mK (.d (.int 1)))) (mK (.d (.int 99))))) (gN 2))
  (mAsg (mBin opSub (mV 2) (mBin opMul (mBin opDiv (mV 2) (mK (.d (.int 1000003)))) (mK (.d (.int 1000003))))) (gN 2)))))
  (mSeq (mAsg (mBin opAdd (mBin opMul (mK (.d (.int 17))) (mV 2)) (mV 1)) (gN 5))
  (mRet (mBin opSub (mV 5) (mBin opMul (mBin opDiv (mV 5) (mK (.d (.int 1000003)))) (mK (.d (.int 1000003)))))))))
theorem B__law_mixed {k : Nat} (F : Fx fa fn K mg) (G : TabsF K mg base tf) : DefOk P w K mg base (tf.map (tbOf K)) (k + 1) "_law_mixed" 2 [] (runF 8 (m__law_mixed)) := by
  refine def_mkC (d := d21) (N := ["key", "turn", "found", "sign", "places", "whole", "k", "one"]) (ps := ["key", "turn"]) F 21 37 rfl rfl rfl ⟨rfl, rfl, rfl, by decide +kernel, rfl, by decide +kernel, by decide +kernel⟩ (bd_all rfl fun _ _ _ _ _ _ us hl => match us, hl with | [_, _], _ => rfl) fun A outer s H E hr => ?_
  have hu := hr.units
  have hu5 := hr.units5
  have hu1 := hr.units1
  have hN : (["key", "turn", "found", "sign", "places", "whole", "k", "one"] : List Str).Nodup := by decide +kernel
  exact (b_cons (s_set (i := 2) hN rfl (.inl rfl) (.inr rfl) (s_op op_addM br_add s_int (s_op op_mulM br_mul s_int (s_var (i := 1) rfl (.inl rfl)))))
    (b_cons (s_for (vs := [3]) (passes_of rfl) rfl (i_any (s_var (i := 0) rfl (.inl rfl))) (g_name (i := 3) hN rfl (.inr rfl) (.inl rfl) (by decide)) (b_cons (s_setLc (i := 4) (own := [("k", 6), ("one", 7)]) rfl hN rfl rfl rfl (i_enumT rfl (F.free 49 _ rfl) (s_cons (s_gstr rfl (F.str 5 _ _ rfl) (by decide +kernel)) s_nil)) (blkOk_by (by kernel_rfl)) (fun _ _ _ _ _ => (g_tup rfl (gs_cons (g_name (i := 6) hN rfl (by first | exact .inl rfl | exact .inr rfl) (by first | exact .inr rfl | exact .inl rfl) (by decide)) (gs_cons (g_name (i := 7) hN rfl (by first | exact .inl rfl | exact .inr rfl) (by first | exact .inr rfl | exact .inl rfl) (by decide)) gs_nil)))) (fun _ _ _ _ _ => (ts_one (s_tcmp (op_eqM hu) br_eq (s_var (i := 7) rfl (by first | exact .inr (.inr rfl) | exact .inl rfl | exact .inr (.inl rfl))) (s_var (i := 3) rfl (by first | exact .inr (.inr rfl) | exact .inl rfl | exact .inr (.inl rfl))) rfl))) (fun _ _ _ _ _ => (s_var (i := 6) rfl (by first | exact .inr (.inr rfl) | exact .inl rfl | exact .inr (.inl rfl)))))
    (b_cons (s_set (i := 2) hN rfl (.inl rfl) (.inr rfl) (s_op op_addM br_add (s_op op_mulM br_mul s_int (s_var (i := 2) rfl (.inl rfl))) (s_ifE (s_tcmp (op_neM hu) br_eq (s_var (i := 4) rfl (.inl rfl)) (s_lst s_nil) rfl) (s_op op_addM br_add (s_ix (s_var (i := 4) rfl (.inl rfl)) s_int) s_int) s_int)))
    (b_one (s_set (i := 2) hN rfl (.inl rfl) (.inr rfl) (s_op op_sub br_sub (s_var (i := 2) rfl (.inl rfl)) (s_op op_mulM br_mul (s_op op_fdivW br_div (s_var (i := 2) rfl (.inl rfl)) s_int) s_int)))))))
    (b_cons (s_set (i := 5) hN rfl (.inl rfl) (.inr rfl) (s_op op_addM br_add (s_op op_mulM br_mul s_int (s_var (i := 2) rfl (.inl rfl))) (s_var (i := 1) rfl (.inl rfl))))
    (b_one (s_ret (s_op op_sub br_sub (s_var (i := 5) rfl (.inl rfl)) (s_op op_mulM br_mul (s_op op_fdivW br_div (s_var (i := 5) rfl (.inl rfl)) s_int) s_int)))))))
def m__law_bits (f__law_mixed : MF) : MS :=
  (mRet (mCall biSortedDI (aCons (mCall biDictP (aCons (mLc (iRange1 (aCons (mBin opIxM (mV 0) (mK (.d (.str "turns")))) aNil)) (gN 2) mYes (mTup (aCons (mBin opMod (mCallD f__law_mixed [] (aCons (mV 1) (aCons (mV 2) aNil))) (mBin opIxM (mV 0) (mK (.d (.str "size"))))) (aCons (mK (.d (.int 1))) aNil))) [2]) aNil)) aNil)))
theorem B__law_bits {k : Nat} {k__law_mixed : Nat} (F : Fx fa fn K mg) (G : TabsF K mg base tf) {f__law_mixed : MF} (D__law_mixed : DefOk P w K mg base (tf.map (tbOf K)) k__law_mixed "_law_mixed" 2 [] f__law_mixed) (l__law_mixed : k__law_mixed ≤ k) : DefOk P w K mg base (tf.map (tbOf K)) (k + 1) "_law_bits" 2 [] (runF 3 (m__law_bits f__law_mixed)) := by
  refine def_mkC (d := d22) (N := ["own", "key", "turn"]) (ps := ["own", "key"]) F 22 38 rfl rfl rfl ⟨rfl, rfl, rfl, by decide +kernel, rfl, by decide +kernel, by decide +kernel⟩ (bd_all rfl fun _ _ _ _ _ _ us hl => match us, hl with | [_, _], _ => rfl) fun A outer s H E hr => ?_
  have hu := hr.units
  have hu5 := hr.units5
  have hu1 := hr.units1
  have hN : (["own", "key", "turn"] : List Str).Nodup := by decide +kernel
  exact (b_one (s_ret (s_callB (call_sortedDI rfl) bc_sortedDI rfl (F.free 56 _ rfl) rfl (s_cons (s_callT (call_dictP rfl) bc_dictP rfl (F.free 48 _ rfl) rfl (s_cons (s_lc (own := [("turn", 2)]) rfl hN (i_range1 rfl (F.free 55 _ rfl) (s_cons (s_ixM hu1 (s_var (i := 0) rfl (.inr (.inl rfl))) (s_str (by decide +kernel))) s_nil)) (blkOk_by (by kernel_rfl)) (fun _ _ _ _ _ => (g_name (i := 2) hN rfl (by first | exact .inl rfl | exact .inr rfl) (by first | exact .inr rfl | exact .inl rfl) (by decide))) (fun _ _ _ _ _ => ts_nil) (fun _ _ _ _ _ => (s_tup (s_cons (s_op op_mod br_mod (s_fn D__law_mixed takes0 (hr.mono l__law_mixed) rfl (al_cons (al_cons al_nil)) rfl (s_cons (s_var (i := 1) rfl (by first | exact .inr (.inr rfl) | exact .inl rfl | exact .inr (.inl rfl))) (s_cons (s_var (i := 2) rfl (by first | exact .inr (.inr rfl) | exact .inl rfl | exact .inr (.inl rfl))) s_nil))) (s_ixM hu1 (s_var (i := 0) rfl (by first | exact .inr (.inr rfl) | exact .inl rfl | exact .inr (.inl rfl))) (s_str (by decide +kernel)))) (s_cons s_int s_nil))))) s_nil)) s_nil))))
def m__law_key (f__law_roll : MF) : MS :=
  (mRet (mMeth tyS meJoin (mK (.d (.str ""))) (aCons (mLc (iRange1 (aCons (mCallD f__law_roll [] (aCons (mV 0) (aCons (mK (.d (.int 5))) aNil))) aNil)) (gN 1) mYes (mBin opIx (mK (.d (.str "abcxyz09-!"))) (mCallD f__law_roll [] (aCons (mV 0) (aCons (mK (.d (.int 10))) aNil)))) [1]) aNil)))
theorem B__law_key {k : Nat} {k__law_roll : Nat} (F : Fx fa fn K mg) (G : TabsF K mg base tf) {f__law_roll : MF} (D__law_roll : DefOk P w K mg base (tf.map (tbOf K)) k__law_roll "_law_roll" 2 [] f__law_roll) (l__law_roll : k__law_roll ≤ k) : DefOk P w K mg base (tf.map (tbOf K)) (k + 1) "_law_key" 1 [] (runF 2 (m__law_key f__law_roll)) := by
  refine def_mkC (d := d23) (N := ["dice", "k"]) (ps := ["dice"]) F 23 39 rfl rfl rfl ⟨rfl, rfl, rfl, by decide +kernel, rfl, by decide +kernel, by decide +kernel⟩ (bd_all rfl fun _ _ _ _ _ _ us hl => match us, hl with | [_], _ => rfl) fun A outer s H E hr => ?_
  have hu := hr.units
  have hu5 := hr.units5
  have hu1 := hr.units1
  have hN : (["dice", "k"] : List Str).Nodup := by decide +kernel
  exact (b_one (s_ret (s_meth PySem.F.plainAttrs_str PySem.F.slot_str_join PySem.F.type_str_join mt_joinM ty_str bm_join (s_str (by decide +kernel)) (s_cons (s_lc (own := [("k", 1)]) rfl hN (i_range1 rfl (F.free 55 _ rfl) (s_cons (s_fn D__law_roll (takes_of rfl rfl rfl rfl) (hr.mono l__law_roll) rfl (al_cons (al_cons al_nil)) rfl (s_cons (s_var (i := 0) rfl (.inr (.inl rfl))) (s_cons s_int s_nil))) s_nil)) (blkOk_by (by kernel_rfl)) (fun _ _ _ _ _ => (g_name (i := 1) hN rfl (by first | exact .inl rfl | exact .inr rfl) (by first | exact .inr rfl | exact .inl rfl) (by decide))) (fun _ _ _ _ _ => ts_nil) (fun _ _ _ _ _ => (s_ix (s_str (by decide +kernel)) (s_fn D__law_roll takes0 (hr.mono l__law_roll) rfl (al_cons (al_cons al_nil)) rfl (s_cons (s_var (i := 0) rfl (by first | exact .inr (.inr rfl) | exact .inl rfl | exact .inr (.inl rfl))) (s_cons s_int s_nil)))))) s_nil))))
def m__law_power : MS :=
  (mSeq (mAsg (mK (.d (.int 1))) (gN 2))
  (mSeq (mFor (iRange1 (aCons (mV 1) aNil)) (gN 3) (mAsg (mBin opMul (mV 2) (mV 0)) (gN 2)))
  (mRet (mV 2))))
theorem B__law_power {k : Nat} (F : Fx fa fn K mg) (G : TabsF K mg base tf) : DefOk P w K mg base (tf.map (tbOf K)) (k + 1) "_law_power" 2 [] (runF 4 (m__law_power)) := by
  refine def_mkC (d := d24) (N := ["number", "times", "found", "turn"]) (ps := ["number", "times"]) F 24 40 rfl rfl rfl ⟨rfl, rfl, rfl, by decide +kernel, rfl, by decide +kernel, by decide +kernel⟩ (bd_all rfl fun _ _ _ _ _ _ us hl => match us, hl with | [_, _], _ => rfl) fun A outer s H E hr => ?_
  have hu := hr.units
  have hu5 := hr.units5
  have hu1 := hr.units1
  have hN : (["number", "times", "found", "turn"] : List Str).Nodup := by decide +kernel
  exact (b_cons (s_set (i := 2) hN rfl (.inl rfl) (.inr rfl) s_int)
    (b_cons (s_for (vs := [3]) (passes_of rfl) rfl (i_range1 rfl (F.free 55 _ rfl) (s_cons (s_var (i := 1) rfl (.inl rfl)) s_nil)) (g_name (i := 3) hN rfl (.inl rfl) (.inr rfl) (by decide)) (b_one (s_set (i := 2) hN rfl (.inl rfl) (.inr rfl) (s_op op_mulM br_mul (s_var (i := 2) rfl (.inl rfl)) (s_var (i := 0) rfl (.inl rfl))))))
    (b_one (s_ret (s_var (i := 2) rfl (.inl rfl))))))
def m__law_held (f__law_bits : MF) : MS :=
  (mSeq (mAsg mDnew (gN 2))
  (mSeq (mFor (iAny (mV 1)) (gN 3) (mExp (mMeth tyD meUpdate (mV 2) (aCons (mCall biDictP (aCons (mLc (iAny (mCallD f__law_bits [] (aCons (mV 0) (aCons (mV 3) aNil)))) (gN 4) mYes (mTup (aCons (mV 4) (aCons (mK (.d (.int 1))) aNil))) [4]) aNil)) aNil))))
  (mRet (mV 2))))
theorem B__law_held {k : Nat} {k__law_bits : Nat} (F : Fx fa fn K mg) (G : TabsF K mg base tf) {f__law_bits : MF} (D__law_bits : DefOk P w K mg base (tf.map (tbOf K)) k__law_bits "_law_bits" 2 [] f__law_bits) (l__law_bits : k__law_bits ≤ k) : DefOk P w K mg base (tf.map (tbOf K)) (k + 1) "_law_held" 2 [] (runF 5 (m__law_held f__law_bits)) := by
  refine def_mkC (d := d25) (N := ["trial", "wanted", "found", "key", "place"]) (ps := ["trial", "wanted"]) F 25 41 rfl rfl rfl ⟨rfl, rfl, rfl, by decide +kernel, rfl, by decide +kernel, by decide +kernel⟩ (bd_all rfl fun _ _ _ _ _ _ us hl => match us, hl with | [_, _], _ => rfl) fun A outer s H E hr => ?_
  have hu := hr.units
  have hu5 := hr.units5
  have hu1 := hr.units1
  have hN : (["trial", "wanted", "found", "key", "place"] : List Str).Nodup := by decide +kernel
  exact (b_cons (s_set (i := 2) hN rfl (.inl rfl) (.inr rfl) s_dnew)
    (b_cons (s_for (vs := [3]) (passes_of rfl) rfl (i_any (s_var (i := 1) rfl (.inl rfl))) (g_name (i := 3) hN rfl (.inl rfl) (.inr rfl) (by decide)) (b_one (s_exp (s_meth PySem.F.plainAttrs_dict PySem.F.slot_dict_update PySem.F.type_dict_update mt_update ty_dict bm_update (s_var (i := 2) rfl (.inl rfl)) (s_cons (s_callT (call_dictP rfl) bc_dictP rfl (F.free 48 _ rfl) rfl (s_cons (s_lc (own := [("place", 4)]) rfl hN (i_any (s_fn D__law_bits (takes_of rfl rfl rfl rfl) (hr.mono l__law_bits) rfl (al_cons (al_cons al_nil)) rfl (s_cons (s_var (i := 0) rfl (.inl rfl)) (s_cons (s_var (i := 3) rfl (.inl rfl)) s_nil)))) (blkOk_by (by kernel_rfl)) (fun _ _ _ _ _ => (g_name (i := 4) hN rfl (by first | exact .inl rfl | exact .inr rfl) (by first | exact .inr rfl | exact .inl rfl) (by decide))) (fun _ _ _ _ _ => ts_nil) (fun _ _ _ _ _ => (s_tup (s_cons (s_var (i := 4) rfl (by first | exact .inr (.inr rfl) | exact .inl rfl | exact .inr (.inl rfl))) (s_cons s_int s_nil))))) s_nil)) s_nil)))))
    (b_one (s_ret (s_var (i := 2) rfl (.inl rfl))))))
def m__law_plain (f_Sieve___init__ : MF) (f_mixed : MF) (f_Sieve_joined_with : MF) (f_Sieve_folded : MF) (f_best_turns : MF) (f_odds : MF) (f_size_for : MF) (f_Counting___init__ : MF) (f_Counting_remove : MF) (f_Counting_may_be_in : MF) (f_Counting_plain : MF) (f_Sieve_filled : MF) (f_Sieve_may_have : MF) (f_Sieve_wrong_of : MF) (f_Sieve_put : MF) (f_Counting_add : MF) : MS :=
  (mSeq (mAsg (mTup (aCons (mMakeD "Sieve" f_Sieve___init__ [] (aCons (mK (.d (.int 64))) (aCons (mK (.d (.int 3))) aNil))) (aCons (mMakeD "Counting" f_Counting___init__ [] (aCons (mK (.d (.int 32))) (aCons (mK (.d (.int 2))) aNil))) aNil))) (gTp 2 (gsCons (gN 3) (gsCons (gN 2) gsNil))))
  (mSeq (mFor (iAny (mLst (aCons (mK (.d (.str "a"))) (aCons (mK (.d (.str "b"))) aNil)))) (gN 0) (mExp (mMethD "Counting" "add" f_Counting_add [] (mV 2) (aCons (mV 0) aNil))))
  (mSeq (mExp (mMethD "Counting" "remove" f_Counting_remove [] (mV 2) (aCons (mK (.d (.str "a"))) aNil)))
  (mBads 1 [(mMakeD "Sieve" f_Sieve___init__ [] (aCons (mK (.d (.int 0))) (aCons (mK (.d (.int 1))) aNil))),
    (mMakeD "Sieve" f_Sieve___init__ [] (aCons (mK (.d (.int 4097))) (aCons (mK (.d (.int 1))) aNil))),
    (mMakeD "Sieve" f_Sieve___init__ [] (aCons (mK (.d (.int 1))) (aCons (mK (.d (.int 0))) aNil))),
    (mMakeD "Sieve" f_Sieve___init__ [] (aCons (mK (.d (.int 1))) (aCons (mK (.d (.int 9))) aNil))),
    (mCallD f_mixed [] (aCons (mK (.d (.str "a"))) (aCons (mNeg (mK (.d (.int 1)))) aNil))),
    (mMethD "Sieve" "joined_with" f_Sieve_joined_with [] (mV 3) (aCons (mMakeD "Sieve" f_Sieve___init__ [] (aCons (mK (.d (.int 32))) (aCons (mK (.d (.int 3))) aNil))) aNil)),
    (mMethD "Sieve" "joined_with" f_Sieve_joined_with [] (mV 3) (aCons (mMakeD "Sieve" f_Sieve___init__ [] (aCons (mK (.d (.int 64))) (aCons (mK (.d (.int 2))) aNil))) aNil)),
    (mMethD "Sieve" "folded" f_Sieve_folded [] (mMakeD "Sieve" f_Sieve___init__ [] (aCons (mK (.d (.int 3))) (aCons (mK (.d (.int 1))) aNil))) aNil),
    (mCallD f_best_turns [] (aCons (mK (.d (.int 0))) (aCons (mK (.d (.int 1))) aNil))),
    (mCallD f_best_turns [] (aCons (mK (.d (.int 1))) (aCons (mK (.d (.int 0))) aNil))),
    (mCallD f_odds [] (aCons (mTup (aCons (mK (.d (.int 1))) (aCons (mK (.d (.int 2))) aNil))) (aCons (mK (.d (.int 0))) aNil))),
    (mCallD f_odds [] (aCons (mTup (aCons (mK (.d (.int 3))) (aCons (mK (.d (.int 2))) aNil))) (aCons (mK (.d (.int 1))) aNil))),
    (mCallD f_odds [] (aCons (mTup (aCons (mK (.d (.int 0))) (aCons (mK (.d (.int 0))) aNil))) (aCons (mK (.d (.int 1))) aNil))),
    (mCallD f_odds [] (aCons (mTup (aCons (mNeg (mK (.d (.int 1)))) (aCons (mK (.d (.int 2))) aNil))) (aCons (mK (.d (.int 1))) aNil))),
    (mCallD f_size_for [] (aCons (mTup aNil) (aCons (mK (.d (.int 1))) (aCons (mK (.d (.int 1))) aNil)))),
    (mCallD f_size_for [] (aCons (mTup (aCons (mK (.d (.str "a"))) aNil)) (aCons (mNeg (mK (.d (.int 1)))) (aCons (mK (.d (.int 1))) aNil)))),
    (mCallD f_size_for [] (aCons (mTup (aCons (mK (.d (.str "a"))) aNil)) (aCons (mK (.d (.int 1))) (aCons (mK (.d (.int 9))) aNil)))),
    (mMakeD "Counting" f_Counting___init__ [] (aCons (mK (.d (.int 0))) (aCons (mK (.d (.int 1))) aNil))),
    (mMethD "Counting" "remove" f_Counting_remove [] (mV 2) (aCons (mK (.d (.str "a"))) aNil))] (inS ["SieveError"]) "SieveError"
  (mIf (mOr (mTb (mBin (opEq false) (mK (.d (.int 4096))) (mK (.d (.int 4096))))) (mOr (mTb (mBin (opEq false) (mCall biLen (aCons (mK (.d (.str "0123456789abcdefghijklmnopqrstuvwxyzABCDEFGHIJKLMNOPQRSTUVWXYZ-_./: "))) aNil)) (mK (.d (.int 68))))) (mOr (mTb (mBin (opEq false) (mMethD "Sieve" "put" f_Sieve_put [] (mV 3) (aCons (mK (.d (.str "cat"))) aNil)) (mK (.d (.int 3))))) (mOr (mNot (mTb (mMethD "Sieve" "may_have" f_Sieve_may_have [] (mV 3) (aCons (mK (.d (.str "cat"))) aNil)))) (mOr (mTb (mMethD "Sieve" "may_have" f_Sieve_may_have [] (mV 3) (aCons (mK (.d (.str "dog"))) aNil))) (mTb (mBin (opEq false) (mMethD "Sieve" "filled" f_Sieve_filled [] (mV 3) aNil) (mTup (aCons (mK (.d (.int 3))) (aCons (mK (.d (.int 64))) aNil)))))))))) (mSeq (mRet (mK (.d (.bool false)))) (mRet (mAndV (mBin (opEq true) (mCallD f_best_turns [] (aCons (mK (.d (.int 640))) (aCons (mK (.d (.int 64))) aNil))) (mK (.d (.int 7)))) (mAndV (mBin (opEq true) (mCallD f_odds [] (aCons (mTup (aCons (mK (.d (.int 9))) (aCons (mK (.d (.int 64))) aNil))) (aCons (mK (.d (.int 3))) aNil))) (mTup (aCons (mK (.d (.int 729))) (aCons (mK (.d (.int 262144))) aNil)))) (mAndV (mBin (opEq true) (mCallD f_size_for [] (aCons (mTup (aCons (mK (.d (.str "a"))) (aCons (mK (.d (.str "b"))) (aCons (mK (.d (.str "c"))) aNil)))) (aCons (mK (.d (.int 0))) (aCons (mK (.d (.int 3))) aNil)))) (mK (.d (.int 16)))) (mAndV (mMethD "Counting" "may_be_in" f_Counting_may_be_in [] (mV 2) (aCons (mK (.d (.str "b"))) aNil)) (mAndV (mNotV (mMethD "Counting" "may_be_in" f_Counting_may_be_in [] (mV 2) (aCons (mK (.d (.str "a"))) aNil))) (mAndV (mBin (opEq true) (mMethD "Sieve" "filled" f_Sieve_filled [] (mMethD "Counting" "plain" f_Counting_plain [] (mV 2) aNil) aNil) (mTup (aCons (mK (.d (.int 2))) (aCons (mK (.d (.int 32))) aNil)))) (mAndV (mBin (opEq true) (mCallD f_size_for [] (aCons (mTup (aCons (mK (.d (.str "a"))) aNil)) (aCons (mK (.d (.int 1000))) (aCons (mK (.d (.int 1))) aNil)))) (mK (.d (.int 1)))) (mAndV (mMethD "Sieve" "may_have" f_Sieve_may_have [] (mMethD "Sieve" "folded" f_Sieve_folded [] (mV 3) aNil) (aCons (mK (.d (.str "cat"))) aNil)) (mBin (opEq true) (mMethD "Sieve" "wrong_of" f_Sieve_wrong_of [] (mMakeD "Sieve" f_Sieve___init__ [] (aCons (mK (.d (.int 5))) (aCons (mK (.d (.int 1))) aNil))) (aCons (mTup (aCons (mK (.d (.str "a"))) aNil)) aNil)) (mK (.d (.int 0)))))))))))))) (mRet (mAndV (mBin (opEq true) (mCallD f_best_turns [] (aCons (mK (.d (.int 640))) (aCons (mK (.d (.int 64))) aNil))) (mK (.d (.int 7)))) (mAndV (mBin (opEq true) (mCallD f_odds [] (aCons (mTup (aCons (mK (.d (.int 9))) (aCons (mK (.d (.int 64))) aNil))) (aCons (mK (.d (.int 3))) aNil))) (mTup (aCons (mK (.d (.int 729))) (aCons (mK (.d (.int 262144))) aNil)))) (mAndV (mBin (opEq true) (mCallD f_size_for [] (aCons (mTup (aCons (mK (.d (.str "a"))) (aCons (mK (.d (.str "b"))) (aCons (mK (.d (.str "c"))) aNil)))) (aCons (mK (.d (.int 0))) (aCons (mK (.d (.int 3))) aNil)))) (mK (.d (.int 16)))) (mAndV (mMethD "Counting" "may_be_in" f_Counting_may_be_in [] (mV 2) (aCons (mK (.d (.str "b"))) aNil)) (mAndV (mNotV (mMethD "Counting" "may_be_in" f_Counting_may_be_in [] (mV 2) (aCons (mK (.d (.str "a"))) aNil))) (mAndV (mBin (opEq true) (mMethD "Sieve" "filled" f_Sieve_filled [] (mMethD "Counting" "plain" f_Counting_plain [] (mV 2) aNil) aNil) (mTup (aCons (mK (.d (.int 2))) (aCons (mK (.d (.int 32))) aNil)))) (mAndV (mBin (opEq true) (mCallD f_size_for [] (aCons (mTup (aCons (mK (.d (.str "a"))) aNil)) (aCons (mK (.d (.int 1000))) (aCons (mK (.d (.int 1))) aNil)))) (mK (.d (.int 1)))) (mAndV (mMethD "Sieve" "may_have" f_Sieve_may_have [] (mMethD "Sieve" "folded" f_Sieve_folded [] (mV 3) aNil) (aCons (mK (.d (.str "cat"))) aNil)) (mBin (opEq true) (mMethD "Sieve" "wrong_of" f_Sieve_wrong_of [] (mMakeD "Sieve" f_Sieve___init__ [] (aCons (mK (.d (.int 5))) (aCons (mK (.d (.int 1))) aNil))) (aCons (mTup (aCons (mK (.d (.str "a"))) aNil)) aNil)) (mK (.d (.int 0))))))))))))))))))
theorem B__law_plain {k : Nat} {k_Sieve___init__ : Nat} {k_mixed : Nat} {k_Sieve_joined_with : Nat} {k_Sieve_folded : Nat} {k_best_turns : Nat} {k_odds : Nat} {k_size_for : Nat} {k_Counting___init__ : Nat} {k_Counting_remove : Nat} {k_Counting_may_be_in : Nat} {k_Counting_plain : Nat} {k_Sieve_filled : Nat} {k_Sieve_may_have : Nat} {k_Sieve_wrong_of : Nat} {k_Sieve_put : Nat} {k_Counting_add : Nat} (F : Fx fa fn K mg) (G : TabsF K mg base tf) {f_Sieve___init__ : MF} (D_Sieve___init__ : MethOk P w K mg base (tf.map (tbOf K)) k_Sieve___init__ "Sieve" "__init__" 3 [] f_Sieve___init__) (l_Sieve___init__ : k_Sieve___init__ + 1 ≤ k) {f_mixed : MF} (D_mixed : DefOk P w K mg base (tf.map (tbOf K)) k_mixed "mixed" 2 [] f_mixed) (l_mixed : k_mixed ≤ k) {f_Sieve_joined_with : MF} (D_Sieve_joined_with : MethOk P w K mg base (tf.map (tbOf K)) k_Sieve_joined_with "Sieve" "joined_with" 2 [] f_Sieve_joined_with) (l_Sieve_joined_with : k_Sieve_joined_with ≤ k) {f_Sieve_folded : MF} (D_Sieve_folded : MethOk P w K mg base (tf.map (tbOf K)) k_Sieve_folded "Sieve" "folded" 1 [] f_Sieve_folded) (l_Sieve_folded : k_Sieve_folded ≤ k) {f_best_turns : MF} (D_best_turns : DefOk P w K mg base (tf.map (tbOf K)) k_best_turns "best_turns" 2 [] f_best_turns) (l_best_turns : k_best_turns ≤ k) {f_odds : MF} (D_odds : DefOk P w K mg base (tf.map (tbOf K)) k_odds "odds" 2 [] f_odds) (l_odds : k_odds ≤ k) {f_size_for : MF} (D_size_for : DefOk P w K mg base (tf.map (tbOf K)) k_size_for "size_for" 3 [] f_size_for) (l_size_for : k_size_for ≤ k) {f_Counting___init__ : MF} (D_Counting___init__ : MethOk P w K mg base (tf.map (tbOf K)) k_Counting___init__ "Counting" "__init__" 3 [] f_Counting___init__) (l_Counting___init__ : k_Counting___init__ + 1 ≤ k) {f_Counting_remove : MF} (D_Counting_remove : MethOk P w K mg base (tf.map (tbOf K)) k_Counting_remove "Counting" "remove" 2 [] f_Counting_remove) (l_Counting_remove : k_Counting_remove ≤ k) {f_Counting_may_be_in : MF} (D_Counting_may_be_in : MethOk P w K mg base (tf.map (tbOf K)) k_Counting_may_be_in "Counting" "may_be_in" 2 [] f_Counting_may_be_in) (l_Counting_may_be_in : k_Counting_may_be_in ≤ k) {f_Counting_plain : MF} (D_Counting_plain : MethOk P w K mg base (tf.map (tbOf K)) k_Counting_plain "Counting" "plain" 1 [] f_Counting_plain) (l_Counting_plain : k_Counting_plain ≤ k) {f_Sieve_filled : MF} (D_Sieve_filled : MethOk P w K mg base (tf.map (tbOf K)) k_Sieve_filled "Sieve" "filled" 1 [] f_Sieve_filled) (l_Sieve_filled : k_Sieve_filled ≤ k) {f_Sieve_may_have : MF} (D_Sieve_may_have : MethOk P w K mg base (tf.map (tbOf K)) k_Sieve_may_have "Sieve" "may_have" 2 [] f_Sieve_may_have) (l_Sieve_may_have : k_Sieve_may_have ≤ k) {f_Sieve_wrong_of : MF} (D_Sieve_wrong_of : MethOk P w K mg base (tf.map (tbOf K)) k_Sieve_wrong_of "Sieve" "wrong_of" 2 [] f_Sieve_wrong_of) (l_Sieve_wrong_of : k_Sieve_wrong_of ≤ k) {f_Sieve_put : MF} (D_Sieve_put : MethOk P w K mg base (tf.map (tbOf K)) k_Sieve_put "Sieve" "put" 2 [] f_Sieve_put) (l_Sieve_put : k_Sieve_put ≤ k) {f_Counting_add : MF} (D_Counting_add : MethOk P w K mg base (tf.map (tbOf K)) k_Counting_add "Counting" "add" 2 [] f_Counting_add) (l_Counting_add : k_Counting_add ≤ k) (T__law_told : Told K mg "_law_told" "what" (He.ga K "_law_told") (He.ga K "SieveError") "SieveError") : DefOk P w K mg base (tf.map (tbOf K)) (k + 2 + 1) "_law_plain" 0 [] (runF 5 (m__law_plain f_Sieve___init__ f_mixed f_Sieve_joined_with f_Sieve_folded f_best_turns f_odds f_size_for f_Counting___init__ f_Counting_remove f_Counting_may_be_in f_Counting_plain f_Sieve_filled f_Sieve_may_have f_Sieve_wrong_of f_Sieve_put f_Counting_add)) := by
  refine def_mkC (d := d26) (N := ["key", "bad", "counting", "sieve", "f"]) (ps := []) F 26 42 rfl rfl rfl ⟨rfl, rfl, rfl, by decide +kernel, rfl, by decide +kernel, by decide +kernel⟩ (bd_all rfl fun _ _ _ _ _ _ us hl => match us, hl with | [], _ => rfl) fun A outer s H E hr => ?_
  have hu := hr.units
  have hu5 := hr.units5
  have hu1 := hr.units1
  have hN : (["key", "bad", "counting", "sieve", "f"] : List Str).Nodup := by decide +kernel
  exact (b_cons (s_asg (vs := [2, 3]) (s_tup (s_cons (s_make F 7 9 rfl rfl D_Sieve___init__ (takes_of rfl rfl rfl rfl) (hr.mono (Nat.le_add_right_of_le l_Sieve___init__)) rfl (al_cons (al_cons al_nil)) rfl (s_cons s_int (s_cons s_int s_nil))) (s_cons (s_make F 24 26 rfl rfl D_Counting___init__ (takes_of rfl rfl rfl rfl) (hr.mono (Nat.le_add_right_of_le l_Counting___init__)) rfl (al_cons (al_cons al_nil)) rfl (s_cons s_int (s_cons s_int s_nil))) s_nil))) (g_tup rfl (gs_cons (g_name (i := 3) hN rfl (.inr rfl) (.inl rfl) (by decide)) (gs_cons (g_name (i := 2) hN rfl (.inr rfl) (.inl rfl) (by decide)) gs_nil))))
    (b_cons (s_for (vs := [0]) (passes_of rfl) rfl (i_any (s_lst (s_cons (s_str (by decide +kernel)) (s_cons (s_str (by decide +kernel)) s_nil)))) (g_name (i := 0) hN rfl (.inl rfl) (.inr rfl) (by decide)) (b_one (s_exp (s_ome F 25 27 rfl rfl D_Counting_add (takes_of rfl rfl rfl rfl) (hr.mono (Nat.le_add_right_of_le l_Counting_add)) (al_cons al_nil) rfl (s_var (i := 2) rfl (.inr (.inl rfl))) (s_cons (s_var (i := 0) rfl (.inl rfl)) s_nil)))))
    (b_cons (s_exp (s_ome F 25 28 rfl rfl D_Counting_remove (takes_of rfl rfl rfl rfl) (hr.mono (Nat.le_add_right_of_le l_Counting_remove)) (al_cons al_nil) rfl (s_var (i := 2) rfl (.inr (.inl rfl))) (s_cons (s_str (by decide +kernel)) s_nil)))
    (s_badsFW (iy := 4) (ib := 1) (k := k) rfl hr T__law_told (catch_of F (l := ["SieveError"]) (by intro c hc; simp only [List.mem_cons, List.not_mem_nil, or_false] at hc; rcases hc with hc <;> subst hc <;> first | exact ⟨60, rfl⟩)) (by decide +kernel) (by exact (.cons (lam_at G 2 rfl rfl rfl rfl) (LamX.lamS_by (by kernel_rfl)) rfl (fun _ _ _ _ _ => rfl) (by intro A outer s H E f c' L hr; have hu := hr.units; have hu5 := hr.units5; have hu1 := hr.units1; exact (s_make F 7 9 rfl rfl D_Sieve___init__ (takes_of rfl rfl rfl rfl) (roomE (hr.mono l_Sieve___init__)) rfl (al_cons (al_cons al_nil)) rfl (s_cons s_int (s_cons s_int s_nil))))
    (.cons (lam_at G 2 rfl rfl rfl rfl) (LamX.lamS_by (by kernel_rfl)) rfl (fun _ _ _ _ _ => rfl) (by intro A outer s H E f c' L hr; have hu := hr.units; have hu5 := hr.units5; have hu1 := hr.units1; exact (s_make F 7 9 rfl rfl D_Sieve___init__ (takes_of rfl rfl rfl rfl) (roomE (hr.mono l_Sieve___init__)) rfl (al_cons (al_cons al_nil)) rfl (s_cons s_int (s_cons s_int s_nil))))
    (.cons (lam_at G 2 rfl rfl rfl rfl) (LamX.lamS_by (by kernel_rfl)) rfl (fun _ _ _ _ _ => rfl) (by intro A outer s H E f c' L hr; have hu := hr.units; have hu5 := hr.units5; have hu1 := hr.units1; exact (s_make F 7 9 rfl rfl D_Sieve___init__ (takes_of rfl rfl rfl rfl) (roomE (hr.mono l_Sieve___init__)) rfl (al_cons (al_cons al_nil)) rfl (s_cons s_int (s_cons s_int s_nil))))
    (.cons (lam_at G 2 rfl rfl rfl rfl) (LamX.lamS_by (by kernel_rfl)) rfl (fun _ _ _ _ _ => rfl) (by intro A outer s H E f c' L hr; have hu := hr.units; have hu5 := hr.units5; have hu1 := hr.units1; exact (s_make F 7 9 rfl rfl D_Sieve___init__ (takes_of rfl rfl rfl rfl) (roomE (hr.mono l_Sieve___init__)) rfl (al_cons (al_cons al_nil)) rfl (s_cons s_int (s_cons s_int s_nil))))
    (.cons (lam_at G 2 rfl rfl rfl rfl) (LamX.lamS_by (by kernel_rfl)) rfl (fun _ _ _ _ _ => rfl) (by intro A outer s H E f c' L hr; have hu := hr.units; have hu5 := hr.units5; have hu1 := hr.units1; exact (s_fn D_mixed (takes_of rfl rfl rfl rfl) (roomE (hr.mono l_mixed)) rfl (al_cons (al_cons al_nil)) rfl (s_cons (s_str (by decide +kernel)) (s_cons (s_neg s_int) s_nil))))
    (.cons (lam_at G 2 rfl rfl rfl rfl) (LamX.lamS_by (by kernel_rfl)) rfl (fun _ _ _ _ _ => rfl) (by intro A outer s H E f c' L hr; have hu := hr.units; have hu5 := hr.units5; have hu1 := hr.units1; exact (s_ome F 8 15 rfl rfl D_Sieve_joined_with (takes_of rfl rfl rfl rfl) (roomE (hr.mono l_Sieve_joined_with)) (al_cons al_nil) rfl (s_var (i := 3) rfl (by first | exact .inr (.inr rfl) | exact .inl rfl | exact .inr (.inl rfl))) (s_cons (s_make F 7 9 rfl rfl D_Sieve___init__ (takes_of rfl rfl rfl rfl) (roomE (hr.mono l_Sieve___init__)) rfl (al_cons (al_cons al_nil)) rfl (s_cons s_int (s_cons s_int s_nil))) s_nil)))
    (.cons (lam_at G 2 rfl rfl rfl rfl) (LamX.lamS_by (by kernel_rfl)) rfl (fun _ _ _ _ _ => rfl) (by intro A outer s H E f c' L hr; have hu := hr.units; have hu5 := hr.units5; have hu1 := hr.units1; exact (s_ome F 8 15 rfl rfl D_Sieve_joined_with (takes_of rfl rfl rfl rfl) (roomE (hr.mono l_Sieve_joined_with)) (al_cons al_nil) rfl (s_var (i := 3) rfl (by first | exact .inr (.inr rfl) | exact .inl rfl | exact .inr (.inl rfl))) (s_cons (s_make F 7 9 rfl rfl D_Sieve___init__ (takes_of rfl rfl rfl rfl) (roomE (hr.mono l_Sieve___init__)) rfl (al_cons (al_cons al_nil)) rfl (s_cons s_int (s_cons s_int s_nil))) s_nil)))
    (.cons (lam_at G 2 rfl rfl rfl rfl) (LamX.lamS_by (by kernel_rfl)) rfl (fun _ _ _ _ _ => rfl) (by intro A outer s H E f c' L hr; have hu := hr.units; have hu5 := hr.units5; have hu1 := hr.units1; exact (s_ome0 F 8 16 rfl rfl D_Sieve_folded (takes_of rfl rfl rfl rfl) (roomE (hr.mono l_Sieve_folded)) rfl (s_make F 7 9 rfl rfl D_Sieve___init__ (takes_of rfl rfl rfl rfl) (roomE (hr.mono l_Sieve___init__)) rfl (al_cons (al_cons al_nil)) rfl (s_cons s_int (s_cons s_int s_nil)))))
    (.cons (lam_at G 2 rfl rfl rfl rfl) (LamX.lamS_by (by kernel_rfl)) rfl (fun _ _ _ _ _ => rfl) (by intro A outer s H E f c' L hr; have hu := hr.units; have hu5 := hr.units5; have hu1 := hr.units1; exact (s_fn D_best_turns (takes_of rfl rfl rfl rfl) (roomE (hr.mono l_best_turns)) rfl (al_cons (al_cons al_nil)) rfl (s_cons s_int (s_cons s_int s_nil))))
    (.cons (lam_at G 2 rfl rfl rfl rfl) (LamX.lamS_by (by kernel_rfl)) rfl (fun _ _ _ _ _ => rfl) (by intro A outer s H E f c' L hr; have hu := hr.units; have hu5 := hr.units5; have hu1 := hr.units1; exact (s_fn D_best_turns (takes_of rfl rfl rfl rfl) (roomE (hr.mono l_best_turns)) rfl (al_cons (al_cons al_nil)) rfl (s_cons s_int (s_cons s_int s_nil))))
    (.cons (lam_at G 2 rfl rfl rfl rfl) (LamX.lamS_by (by kernel_rfl)) rfl (fun _ _ _ _ _ => rfl) (by intro A outer s H E f c' L hr; have hu := hr.units; have hu5 := hr.units5; have hu1 := hr.units1; exact (s_fn D_odds (takes_of rfl rfl rfl rfl) (roomE (hr.mono l_odds)) rfl (al_cons (al_cons al_nil)) rfl (s_cons (s_tup (s_cons s_int (s_cons s_int s_nil))) (s_cons s_int s_nil))))
    (.cons (lam_at G 2 rfl rfl rfl rfl) (LamX.lamS_by (by kernel_rfl)) rfl (fun _ _ _ _ _ => rfl) (by intro A outer s H E f c' L hr; have hu := hr.units; have hu5 := hr.units5; have hu1 := hr.units1; exact (s_fn D_odds (takes_of rfl rfl rfl rfl) (roomE (hr.mono l_odds)) rfl (al_cons (al_cons al_nil)) rfl (s_cons (s_tup (s_cons s_int (s_cons s_int s_nil))) (s_cons s_int s_nil))))
    (.cons (lam_at G 2 rfl rfl rfl rfl) (LamX.lamS_by (by kernel_rfl)) rfl (fun _ _ _ _ _ => rfl) (by intro A outer s H E f c' L hr; have hu := hr.units; have hu5 := hr.units5; have hu1 := hr.units1; exact (s_fn D_odds (takes_of rfl rfl rfl rfl) (roomE (hr.mono l_odds)) rfl (al_cons (al_cons al_nil)) rfl (s_cons (s_tup (s_cons s_int (s_cons s_int s_nil))) (s_cons s_int s_nil))))
    (.cons (lam_at G 2 rfl rfl rfl rfl) (LamX.lamS_by (by kernel_rfl)) rfl (fun _ _ _ _ _ => rfl) (by intro A outer s H E f c' L hr; have hu := hr.units; have hu5 := hr.units5; have hu1 := hr.units1; exact (s_fn D_odds (takes_of rfl rfl rfl rfl) (roomE (hr.mono l_odds)) rfl (al_cons (al_cons al_nil)) rfl (s_cons (s_tup (s_cons (s_neg s_int) (s_cons s_int s_nil))) (s_cons s_int s_nil))))
    (.cons (lam_at G 2 rfl rfl rfl rfl) (LamX.lamS_by (by kernel_rfl)) rfl (fun _ _ _ _ _ => rfl) (by intro A outer s H E f c' L hr; have hu := hr.units; have hu5 := hr.units5; have hu1 := hr.units1; exact (s_fn D_size_for (takes_of rfl rfl rfl rfl) (roomE (hr.mono l_size_for)) rfl (al_cons (al_cons (al_cons al_nil))) rfl (s_cons (s_tup s_nil) (s_cons s_int (s_cons s_int s_nil)))))
    (.cons (lam_at G 2 rfl rfl rfl rfl) (LamX.lamS_by (by kernel_rfl)) rfl (fun _ _ _ _ _ => rfl) (by intro A outer s H E f c' L hr; have hu := hr.units; have hu5 := hr.units5; have hu1 := hr.units1; exact (s_fn D_size_for (takes_of rfl rfl rfl rfl) (roomE (hr.mono l_size_for)) rfl (al_cons (al_cons (al_cons al_nil))) rfl (s_cons (s_tup (s_cons (s_str (by decide +kernel)) s_nil)) (s_cons (s_neg s_int) (s_cons s_int s_nil)))))
    (.cons (lam_at G 2 rfl rfl rfl rfl) (LamX.lamS_by (by kernel_rfl)) rfl (fun _ _ _ _ _ => rfl) (by intro A outer s H E f c' L hr; have hu := hr.units; have hu5 := hr.units5; have hu1 := hr.units1; exact (s_fn D_size_for (takes_of rfl rfl rfl rfl) (roomE (hr.mono l_size_for)) rfl (al_cons (al_cons (al_cons al_nil))) rfl (s_cons (s_tup (s_cons (s_str (by decide +kernel)) s_nil)) (s_cons s_int (s_cons s_int s_nil)))))
    (.cons (lam_at G 2 rfl rfl rfl rfl) (LamX.lamS_by (by kernel_rfl)) rfl (fun _ _ _ _ _ => rfl) (by intro A outer s H E f c' L hr; have hu := hr.units; have hu5 := hr.units5; have hu1 := hr.units1; exact (s_make F 24 26 rfl rfl D_Counting___init__ (takes_of rfl rfl rfl rfl) (roomE (hr.mono l_Counting___init__)) rfl (al_cons (al_cons al_nil)) rfl (s_cons s_int (s_cons s_int s_nil))))
    (.cons (lam_at G 2 rfl rfl rfl rfl) (LamX.lamS_by (by kernel_rfl)) rfl (fun _ _ _ _ _ => rfl) (by intro A outer s H E f c' L hr; have hu := hr.units; have hu5 := hr.units5; have hu1 := hr.units1; exact (s_ome F 25 28 rfl rfl D_Counting_remove (takes_of rfl rfl rfl rfl) (roomE (hr.mono l_Counting_remove)) (al_cons al_nil) rfl (s_var (i := 2) rfl (by first | exact .inr (.inr rfl) | exact .inl rfl | exact .inr (.inl rfl))) (s_cons (s_str (by decide +kernel)) s_nil)))
    .nil)))))))))))))))))))) rfl hN (blkOk_by (by kernel_rfl)) rfl (.inl rfl) (.inr rfl) rfl rfl rfl rfl rfl (fun _ _ _ _ _ => rfl) rfl rfl (by simp) (w_or (s_tcmp (op_neM hu) br_eq (s_gint rfl (F.int 4 _ _ rfl)) s_int rfl) (w_or (s_tcmp (op_neM hu) br_eq (s_callB call_lenM bc_len rfl (F.free 51 _ rfl) rfl (s_cons (s_gstr rfl (F.str 5 _ _ rfl) (by decide +kernel)) s_nil)) s_int rfl) (w_or (s_tcmp (op_neM hu) br_eq (s_ome F 8 11 rfl rfl D_Sieve_put (takes_of rfl rfl rfl rfl) (hr.mono (Nat.le_add_right_of_le l_Sieve_put)) (al_cons al_nil) rfl (s_var (i := 3) rfl (.inr (.inl rfl))) (s_cons (s_str (by decide +kernel)) s_nil)) s_int rfl) (w_or (s_not (s_val (s_ome F 8 12 rfl rfl D_Sieve_may_have (takes_of rfl rfl rfl rfl) (hr.mono (Nat.le_add_right_of_le l_Sieve_may_have)) (al_cons al_nil) rfl (s_var (i := 3) rfl (.inr (.inl rfl))) (s_cons (s_str (by decide +kernel)) s_nil)))) (w_or (s_val (s_ome F 8 12 rfl rfl D_Sieve_may_have (takes_of rfl rfl rfl rfl) (hr.mono (Nat.le_add_right_of_le l_Sieve_may_have)) (al_cons al_nil) rfl (s_var (i := 3) rfl (.inr (.inl rfl))) (s_cons (s_str (by decide +kernel)) s_nil))) (w_or1 (s_tcmp (op_neM hu) br_eq (s_ome0 F 8 13 rfl rfl D_Sieve_filled (takes_of rfl rfl rfl rfl) (hr.mono (Nat.le_add_right_of_le l_Sieve_filled)) rfl (s_var (i := 3) rfl (.inr (.inl rfl)))) (s_tup (s_cons s_int (s_cons s_int s_nil))) rfl))))))) (b_one (s_ret s_bl)) (b_one (s_ret (s_andV (s_cmp (op_eqM hu) br_eq (s_fn D_best_turns (takes_of rfl rfl rfl rfl) (hr.mono (Nat.le_add_right_of_le l_best_turns)) rfl (al_cons (al_cons al_nil)) rfl (s_cons s_int (s_cons s_int s_nil))) s_int rfl) (s_andV (s_cmp (op_eqM hu) br_eq (s_fn D_odds (takes_of rfl rfl rfl rfl) (hr.mono (Nat.le_add_right_of_le l_odds)) rfl (al_cons (al_cons al_nil)) rfl (s_cons (s_tup (s_cons s_int (s_cons s_int s_nil))) (s_cons s_int s_nil))) (s_tup (s_cons s_int (s_cons s_int s_nil))) rfl) (s_andV (s_cmp (op_eqM hu) br_eq (s_fn D_size_for (takes_of rfl rfl rfl rfl) (hr.mono (Nat.le_add_right_of_le l_size_for)) rfl (al_cons (al_cons (al_cons al_nil))) rfl (s_cons (s_tup (s_cons (s_str (by decide +kernel)) (s_cons (s_str (by decide +kernel)) (s_cons (s_str (by decide +kernel)) s_nil)))) (s_cons s_int (s_cons s_int s_nil)))) s_int rfl) (s_andV (s_ome F 25 29 rfl rfl D_Counting_may_be_in (takes_of rfl rfl rfl rfl) (hr.mono (Nat.le_add_right_of_le l_Counting_may_be_in)) (al_cons al_nil) rfl (s_var (i := 2) rfl (.inr (.inl rfl))) (s_cons (s_str (by decide +kernel)) s_nil)) (s_andV (s_notV (s_ome F 25 29 rfl rfl D_Counting_may_be_in (takes_of rfl rfl rfl rfl) (hr.mono (Nat.le_add_right_of_le l_Counting_may_be_in)) (al_cons al_nil) rfl (s_var (i := 2) rfl (.inr (.inl rfl))) (s_cons (s_str (by decide +kernel)) s_nil))) (s_andV (s_cmp (op_eqM hu) br_eq (s_ome0 F 8 13 rfl rfl D_Sieve_filled (takes_of rfl rfl rfl rfl) (hr.mono (Nat.le_add_right_of_le l_Sieve_filled)) rfl (s_ome0 F 25 30 rfl rfl D_Counting_plain (takes_of rfl rfl rfl rfl) (hr.mono (Nat.le_add_right_of_le l_Counting_plain)) rfl (s_var (i := 2) rfl (.inr (.inl rfl))))) (s_tup (s_cons s_int (s_cons s_int s_nil))) rfl) (s_andV (s_cmp (op_eqM hu) br_eq (s_fn D_size_for (takes_of rfl rfl rfl rfl) (hr.mono (Nat.le_add_right_of_le l_size_for)) rfl (al_cons (al_cons (al_cons al_nil))) rfl (s_cons (s_tup (s_cons (s_str (by decide +kernel)) s_nil)) (s_cons s_int (s_cons s_int s_nil)))) s_int rfl) (s_andV (s_ome F 8 12 rfl rfl D_Sieve_may_have (takes_of rfl rfl rfl rfl) (hr.mono (Nat.le_add_right_of_le l_Sieve_may_have)) (al_cons al_nil) rfl (s_ome0 F 8 16 rfl rfl D_Sieve_folded (takes_of rfl rfl rfl rfl) (hr.mono (Nat.le_add_right_of_le l_Sieve_folded)) rfl (s_var (i := 3) rfl (.inr (.inl rfl)))) (s_cons (s_str (by decide +kernel)) s_nil)) (s_one (s_cmp (op_eqM hu) br_eq (s_ome F 8 14 rfl rfl D_Sieve_wrong_of (takes_of rfl rfl rfl rfl) (hr.mono (Nat.le_add_right_of_le l_Sieve_wrong_of)) (al_cons al_nil) rfl (s_make F 7 9 rfl rfl D_Sieve___init__ (takes_of rfl rfl rfl rfl) (hr.mono (Nat.le_add_right_of_le l_Sieve___init__)) rfl (al_cons (al_cons al_nil)) rfl (s_cons s_int (s_cons s_int s_nil))) (s_cons (s_tup (s_cons (s_str (by decide +kernel)) s_nil)) s_nil)) s_int rfl))))))))))))))))
def m__law_sized (f__law_roll : MF) (f__law_key : MF) (f__law_held : MF) (f__law_bits : MF) (f_size_for : MF) : MS :=
  (mSeq (mPar 2 3 (aCons (mLc (iRange1 (aCons (mBin opAdd (mK (.d (.int 1))) (mCallD f__law_roll [] (aCons (mV 0) (aCons (mK (.d (.int 4))) aNil)))) aNil)) (gN 10) mYes (mCallD f__law_key [] (aCons (mV 0) aNil)) [10]) (aCons (mCallD f__law_roll [] (aCons (mV 0) (aCons (mK (.d (.int 600))) aNil))) aNil)))
  (mSeq (mAsg (mLst aNil) (gN 4))
  (mSeq (mFor (iRange1 (aCons (mK (.d (.int 8))) aNil)) (gN 5) (mSeq (mAsg (mDisp [((mK (.d (.str "size"))), (mBin opIx (mLst (aCons (mK (.d (.int 1))) (aCons (mK (.d (.int 2))) (aCons (mK (.d (.int 4))) (aCons (mK (.d (.int 8))) (aCons (mK (.d (.int 16))) (aCons (mK (.d (.int 32))) (aCons (mK (.d (.int 64))) (aCons (mK (.d (.int 128))) aNil))))))))) (mV 5))), ((mK (.d (.str "turns"))), (mV 1))]) (gN 6))
  (mSeq (mAsg (mCallD f__law_held [] (aCons (mV 6) (aCons (mV 2) aNil))) (gN 7))
  (mSeq (mAsg (mCall biLen (aCons (mLc (iAny (mV 2)) (gN 11) (mTb (mBin (opEq true) (mLc (iAny (mCallD f__law_bits [] (aCons (mV 6) (aCons (mBin opAdd (mK (.d (.str "?"))) (mV 11)) aNil)))) (gN 12) (mTb (mBin (opIn false) (mV 12) (mV 7))) (mV 12) [12]) (mLst aNil))) (mV 11) [11]) aNil)) (gN 8))
  (mAsg (mBin opAdd (mV 4) (mBin opMul (mLst (aCons (mBin opIxM (mV 6) (mK (.d (.str "size")))) aNil)) (mCall biInt (aCons (mBin oLe (mBin opMul (mK (.d (.int 1000))) (mV 8)) (mBin opMul (mV 3) (mCall biLen (aCons (mV 2) aNil)))) aNil)))) (gN 4))))))
  (mSeq (mAsg (mCallD f_size_for [] (aCons (mV 2) (aCons (mV 3) (aCons (mV 1) aNil)))) (gN 9))
  (mSeq (mIf (mOr (mAnd (mTb (mBin (opEq false) (mV 4) (mLst aNil))) (mTb (mBin (opEq false) (mV 9) (mBin opIx (mV 4) (mK (.d (.int 0))))))) (mAnd (mTb (mBin (opEq true) (mV 4) (mLst aNil))) (mAnd (mTb (mBin (opIsN false) (mV 9) (mK (.d .none)))) (mTb (mBin oLe (mV 9) (mK (.d (.int 128)))))))) (mRet (mK (.d (.bool false)))) mSkip)
  (mRet (mK (.d (.bool true)))))))))
theorem B__law_sized {k : Nat} {k__law_roll : Nat} {k__law_key : Nat} {k__law_held : Nat} {k__law_bits : Nat} {k_size_for : Nat} (F : Fx fa fn K mg) (G : TabsF K mg base tf) {f__law_roll : MF} (D__law_roll : DefOk P w K mg base (tf.map (tbOf K)) k__law_roll "_law_roll" 2 [] f__law_roll) (l__law_roll : k__law_roll ≤ k) {f__law_key : MF} (D__law_key : DefOk P w K mg base (tf.map (tbOf K)) k__law_key "_law_key" 1 [] f__law_key) (l__law_key : k__law_key ≤ k) {f__law_held : MF} (D__law_held : DefOk P w K mg base (tf.map (tbOf K)) k__law_held "_law_held" 2 [] f__law_held) (l__law_held : k__law_held ≤ k) {f__law_bits : MF} (D__law_bits : DefOk P w K mg base (tf.map (tbOf K)) k__law_bits "_law_bits" 2 [] f__law_bits) (l__law_bits : k__law_bits ≤ k) {f_size_for : MF} (D_size_for : DefOk P w K mg base (tf.map (tbOf K)) k_size_for "size_for" 3 [] f_size_for) (l_size_for : k_size_for ≤ k) : DefOk P w K mg base (tf.map (tbOf K)) (k + 1) "_law_sized" 2 [] (runF 13 (m__law_sized f__law_roll f__law_key f__law_held f__law_bits f_size_for)) := by
  refine def_mkC (d := d27) (N := ["dice", "turns", "wanted", "most", "sizes", "power", "trial", "held", "wrong", "told", "k", "key", "place"]) (ps := ["dice", "turns"]) F 27 43 rfl rfl rfl ⟨rfl, rfl, rfl, by decide +kernel, rfl, by decide +kernel, by decide +kernel⟩ (bd_all rfl fun _ _ _ _ _ _ us hl => match us, hl with | [_, _], _ => rfl) fun A outer s H E hr => ?_
  have hu := hr.units
  have hu5 := hr.units5
  have hu1 := hr.units1
  have hN : (["dice", "turns", "wanted", "most", "sizes", "power", "trial", "held", "wrong", "told", "k", "key", "place"] : List Str).Nodup := by decide +kernel
  exact (b_cons (s_par (i := 2) (j := 3) rfl hN rfl rfl (by decide) rfl rfl (s_cons (s_lc (own := [("k", 10)]) rfl hN (i_range1 rfl (F.free 55 _ rfl) (s_cons (s_op op_addM br_add s_int (s_fn D__law_roll (takes_of rfl rfl rfl rfl) (hr.mono l__law_roll) rfl (al_cons (al_cons al_nil)) rfl (s_cons (s_var (i := 0) rfl (.inr (.inl rfl))) (s_cons s_int s_nil)))) s_nil)) (blkOk_by (by kernel_rfl)) (fun _ _ _ _ _ => (g_name (i := 10) hN rfl (by first | exact .inl rfl | exact .inr rfl) (by first | exact .inr rfl | exact .inl rfl) (by decide))) (fun _ _ _ _ _ => ts_nil) (fun _ _ _ _ _ => (s_fn D__law_key takes0 (hr.mono l__law_key) rfl (al_cons al_nil) rfl (s_cons (s_var (i := 0) rfl (by first | exact .inr (.inr rfl) | exact .inl rfl | exact .inr (.inl rfl))) s_nil)))) (s_cons (s_fn D__law_roll (takes_of rfl rfl rfl rfl) (hr.mono l__law_roll) rfl (al_cons (al_cons al_nil)) rfl (s_cons (s_var (i := 0) rfl (.inr (.inl rfl))) (s_cons s_int s_nil))) s_nil)) rfl)
    (b_cons (s_set (i := 4) hN rfl (.inl rfl) (.inr rfl) (s_lst s_nil))
    (b_cons (s_for (vs := [5]) (passes_of rfl) rfl (i_range1 rfl (F.free 55 _ rfl) (s_cons s_int s_nil)) (g_name (i := 5) hN rfl (.inl rfl) (.inr rfl) (by decide)) (b_cons (s_set (i := 6) hN rfl (.inr rfl) (.inl rfl) (s_disp (pps_cons (s_str (by decide +kernel)) (s_ix (s_lst (s_cons s_int (s_cons s_int (s_cons s_int (s_cons s_int (s_cons s_int (s_cons s_int (s_cons s_int (s_cons s_int s_nil))))))))) (s_var (i := 5) rfl (.inl rfl))) (pps_cons (s_str (by decide +kernel)) (s_var (i := 1) rfl (.inl rfl)) pps_nil))))
    (b_cons (s_set (i := 7) hN rfl (.inr rfl) (.inl rfl) (s_fn D__law_held (takes_of rfl rfl rfl rfl) (hr.mono l__law_held) rfl (al_cons (al_cons al_nil)) rfl (s_cons (s_var (i := 6) rfl (.inr (.inl rfl))) (s_cons (s_var (i := 2) rfl (.inl rfl)) s_nil))))
    (b_cons (s_set (i := 8) hN rfl (.inl rfl) (.inr rfl) (s_callB call_lenM bc_len rfl (F.free 51 _ rfl) rfl (s_cons (s_lc (own := [("key", 11)]) rfl hN (i_any (s_var (i := 2) rfl (.inl rfl))) (blkOk_by (by kernel_rfl)) (fun _ _ _ _ _ => (g_name (i := 11) hN rfl (by first | exact .inl rfl | exact .inr rfl) (by first | exact .inr rfl | exact .inl rfl) (by decide))) (fun _ _ _ _ _ => (ts_one (s_tcmp (op_eqM hu) br_eq (s_lc (own := [("place", 12)]) rfl hN (i_any (s_fn D__law_bits takes0 (hr.mono l__law_bits) rfl (al_cons (al_cons al_nil)) rfl (s_cons (s_var (i := 6) rfl (by first | exact .inr (.inr rfl) | exact .inl rfl | exact .inr (.inl rfl))) (s_cons (s_op op_addM br_add (s_str (by decide +kernel)) (s_var (i := 11) rfl (by first | exact .inr (.inr rfl) | exact .inl rfl | exact .inr (.inl rfl)))) s_nil)))) (blkOk_by (by kernel_rfl)) (fun _ _ _ _ _ => (g_name (i := 12) hN rfl (by first | exact .inl rfl | exact .inr rfl) (by first | exact .inr rfl | exact .inl rfl) (by decide))) (fun _ _ _ _ _ => (ts_one (s_tcmp (op_notInM hu5) br_in (s_var (i := 12) rfl (by first | exact .inr (.inr rfl) | exact .inl rfl | exact .inr (.inl rfl))) (s_var (i := 7) rfl (by first | exact .inr (.inr rfl) | exact .inl rfl | exact .inr (.inl rfl))) rfl))) (fun _ _ _ _ _ => (s_var (i := 12) rfl (by first | exact .inr (.inr rfl) | exact .inl rfl | exact .inr (.inl rfl))))) (s_lst s_nil) rfl))) (fun _ _ _ _ _ => (s_var (i := 11) rfl (by first | exact .inr (.inr rfl) | exact .inl rfl | exact .inr (.inl rfl))))) s_nil)))
    (b_one (s_set (i := 4) hN rfl (.inl rfl) (.inr rfl) (s_op op_addM br_add (s_var (i := 4) rfl (.inl rfl)) (s_op op_mulM br_mul (s_lst (s_cons (s_ixM hu1 (s_var (i := 6) rfl (.inr (.inl rfl))) (s_str (by decide +kernel))) s_nil)) (s_callT call_int1 bc_int rfl (F.free 50 _ rfl) rfl (s_cons (s_cmp (op_leU hu) br_leU (s_op op_mulM br_mul s_int (s_var (i := 8) rfl (.inl rfl))) (s_op op_mulM br_mul (s_var (i := 3) rfl (.inl rfl)) (s_callB call_lenM bc_len rfl (F.free 51 _ rfl) rfl (s_cons (s_var (i := 2) rfl (.inl rfl)) s_nil))) rfl) s_nil))))))))))
    (b_cons (s_set (i := 9) hN rfl (.inl rfl) (.inr rfl) (s_fn D_size_for (takes_of rfl rfl rfl rfl) (hr.mono l_size_for) rfl (al_cons (al_cons (al_cons al_nil))) rfl (s_cons (s_var (i := 2) rfl (.inl rfl)) (s_cons (s_var (i := 3) rfl (.inl rfl)) (s_cons (s_var (i := 1) rfl (.inl rfl)) s_nil)))))
    (b_cons (s_if (s_w (w_or (s_w (w_and (s_tcmp (op_neM hu) br_eq (s_var (i := 4) rfl (.inl rfl)) (s_lst s_nil) rfl) (w_and1 (s_tcmp (op_neM hu) br_eq (s_var (i := 9) rfl (.inl rfl)) (s_ix (s_var (i := 4) rfl (.inl rfl)) s_int) rfl)))) (w_or1 (s_w (w_and (s_tcmp (op_eqM hu) br_eq (s_var (i := 4) rfl (.inl rfl)) (s_lst s_nil) rfl) (w_and (s_tcmp op_notN br_notN (s_var (i := 9) rfl (.inl rfl)) s_non rfl) (w_and1 (s_tcmp (op_leU hu) br_leU (s_var (i := 9) rfl (.inl rfl)) s_int rfl)))))))) (b_one (s_ret s_bl)) b_nil)
    (b_one (s_ret s_bl)))))))
def m_law (f__law_rounds : MF) (f__law_roll : MF) (f_Sieve___init__ : MF) (f__law_key : MF) (f__law_bits : MF) (f_Sieve_put : MF) (f_Sieve_bits_of : MF) (f_Sieve_filled : MF) (f_Sieve_may_have : MF) (f_Sieve_wrong_of : MF) (f_Sieve_joined_with : MF) (f_Sieve_folded : MF) (f_odds : MF) (f__law_power : MF) (f_best_turns : MF) (f_Counting___init__ : MF) (f_Counting_may_be_in : MF) (f_Counting_add : MF) (f_Counting_remove : MF) (f_Counting_plain : MF) (f__law_sized : MF) (f__law_plain : MF) : MS :=
  (mSeq (mFor (iAny (mCallD f__law_rounds [] (aCons (mV 0) (aCons (mK (.d (.int 1))) aNil)))) (gN 1) (mSeq (mAsg (mTup (aCons (mBin opAdd (mK (.d (.int 1))) (mCallD f__law_roll [] (aCons (mV 1) (aCons (mBin opIx (mLst (aCons (mK (.d (.int 6))) (aCons (mK (.d (.int 120))) aNil))) (mCallD f__law_roll [] (aCons (mV 1) (aCons (mK (.d (.int 2))) aNil)))) aNil)))) (aCons (mBin opAdd (mK (.d (.int 1))) (mCallD f__law_roll [] (aCons (mV 1) (aCons (mK (.d (.int 8))) aNil)))) aNil))) (gTp 2 (gsCons (gN 2) (gsCons (gN 3) gsNil))))
  (mSeq (mAsg (mTup (aCons (mMakeD "Sieve" f_Sieve___init__ [] (aCons (mV 2) (aCons (mV 3) aNil))) (aCons (mMakeD "Sieve" f_Sieve___init__ [] (aCons (mV 2) (aCons (mV 3) aNil))) (aCons (mDisp [((mK (.d (.str "size"))), (mV 2)), ((mK (.d (.str "turns"))), (mV 3))]) aNil)))) (gTp 3 (gsCons (gN 4) (gsCons (gN 5) (gsCons (gN 6) gsNil)))))
  (mSeq (mAsg (mTup (aCons mDnew (aCons mDnew (aCons (mLc (iRange1 (aCons (mCallD f__law_roll [] (aCons (mV 1) (aCons (mK (.d (.int 9))) aNil))) aNil)) (gN 26) mYes (mCallD f__law_key [] (aCons (mV 1) aNil)) [26]) aNil)))) (gTp 3 (gsCons (gN 7) (gsCons (gN 8) (gsCons (gN 9) gsNil)))))
  (mSeq (mFor (iAny (mV 9)) (gN 11) (mSeq (mAsg (mCallD f__law_bits [] (aCons (mV 6) (aCons (mV 11) aNil))) (gN 10))
  (mSeq (mIf (mTb (mBin (opEq false) (mMethD "Sieve" "put" f_Sieve_put [] (mV 4) (aCons (mV 11) aNil)) (mCall biLen (aCons (mLc (iAny (mV 10)) (gN 27) (mTb (mBin (opIn false) (mV 27) (mV 7))) (mV 27) [27]) aNil)))) (mRet (mK (.d (.bool false)))) mSkip)
  (mSeq (mIf (mTb (mBin (opEq false) (mCall biList (aCons (mMethD "Sieve" "bits_of" f_Sieve_bits_of [] (mV 4) (aCons (mV 11) aNil)) aNil)) (mV 10))) (mRet (mK (.d (.bool false)))) mSkip)
  (mExp (mMeth tyD meUpdate (mV 7) (aCons (mCall biDictP (aCons (mLc (iAny (mV 10)) (gN 27) mYes (mTup (aCons (mV 27) (aCons (mK (.d (.int 1))) aNil))) [27]) aNil)) aNil)))))))
  (mSeq (mIf (mOr (mTb (mBin (opEq false) (mFld ["Sieve"] "bits" (mV 4)) (mLc (iRange1 (aCons (mV 2) aNil)) (gN 27) mYes (mCall biInt (aCons (mBin (opIn true) (mV 27) (mV 7)) aNil)) [27]))) (mOr (mTb (mBin (opEq false) (mFld ["Sieve"] "put_in" (mV 4)) (mCall biLen (aCons (mV 9) aNil)))) (mOr (mTb (mBin (opEq false) (mMethD "Sieve" "filled" f_Sieve_filled [] (mV 4) aNil) (mTup (aCons (mCall biLen (aCons (mV 7) aNil)) (aCons (mV 2) aNil))))) (mTb (mBin (opEq false) (mLc (iAny (mV 9)) (gN 11) (mNot (mTb (mMethD "Sieve" "may_have" f_Sieve_may_have [] (mV 4) (aCons (mV 11) aNil)))) (mV 11) [11]) (mLst aNil)))))) (mRet (mK (.d (.bool false)))) mSkip)
  (mSeq (mAsg (mLc (iRange1 (aCons (mK (.d (.int 6))) aNil)) (gN 26) mYes (mCallD f__law_key [] (aCons (mV 1) aNil)) [26]) (gN 12))
  (mSeq (mAsg (mLc (iAny (mV 12)) (gN 11) mYes (mBin (opEq true) (mLc (iAny (mCallD f__law_bits [] (aCons (mV 6) (aCons (mV 11) aNil)))) (gN 27) (mTb (mBin (opIn false) (mV 27) (mV 7))) (mV 27) [27]) (mLst aNil)) [11]) (gN 13))
  (mSeq (mIf (mOr (mTb (mBin (opEq false) (mLc (iAny (mV 12)) (gN 11) mYes (mMethD "Sieve" "may_have" f_Sieve_may_have [] (mV 4) (aCons (mV 11) aNil)) [11]) (mV 13))) (mTb (mBin (opEq false) (mMethD "Sieve" "wrong_of" f_Sieve_wrong_of [] (mV 4) (aCons (mV 12) aNil)) (mMeth tyL meCount (mV 13) (aCons (mK (.d (.bool true))) aNil))))) (mRet (mK (.d (.bool false)))) mSkip)
  (mSeq (mFor (iAny (mSl (mV 12) oNo (oSo (mK (.d (.int 3)))))) (gN 11) (mSeq (mExp (mMethD "Sieve" "put" f_Sieve_put [] (mV 5) (aCons (mV 11) aNil)))
  (mExp (mMeth tyD meUpdate (mV 8) (aCons (mCall biDictP (aCons (mLc (iAny (mCallD f__law_bits [] (aCons (mV 6) (aCons (mV 11) aNil)))) (gN 27) mYes (mTup (aCons (mV 27) (aCons (mK (.d (.int 1))) aNil))) [27]) aNil)) aNil)))))
  (mSeq (mAsg (mMethD "Sieve" "joined_with" f_Sieve_joined_with [] (mV 4) (aCons (mV 5) aNil)) (gN 14))
  (mSeq (mIf (mTb (mBin (opEq false) (mFld ["Sieve"] "bits" (mV 14)) (mLc (iRange1 (aCons (mV 2) aNil)) (gN 27) mYes (mCall biInt (aCons (mOrV (mBin (opIn true) (mV 27) (mV 7)) (mBin (opIn true) (mV 27) (mV 8))) aNil)) [27]))) (mRet (mK (.d (.bool false)))) mSkip)
  (mSeq (mIf (mOr (mTb (mBin (opEq false) (mFld ["Sieve"] "put_in" (mV 14)) (mBin opAdd (mCall biLen (aCons (mV 9) aNil)) (mK (.d (.int 3)))))) (mTb (mBin (opEq false) (mFld ["Sieve"] "bits" (mV 4)) (mLc (iRange1 (aCons (mV 2) aNil)) (gN 27) mYes (mCall biInt (aCons (mBin (opIn true) (mV 27) (mV 7)) aNil)) [27])))) (mRet (mK (.d (.bool false)))) mSkip)
  (mSeq (mIf (mTb (mBin (opEq true) (mBin opMul (mBin opDiv (mV 2) (mK (.d (.int 2)))) (mK (.d (.int 2)))) (mV 2))) (mSeq (mAsg (mMethD "Sieve" "folded" f_Sieve_folded [] (mV 4) aNil) (gN 15))
  (mIf (mOr (mTb (mBin (opEq false) (mFld ["Sieve"] "size" (mV 15)) (mBin opDiv (mV 2) (mK (.d (.int 2)))))) (mOr (mTb (mBin (opEq false) (mFld ["Sieve"] "bits" (mV 15)) (mLc (iRange1 (aCons (mBin opDiv (mV 2) (mK (.d (.int 2)))) aNil)) (gN 27) mYes (mCall biInt (aCons (mOrV (mBin (opIn true) (mV 27) (mV 7)) (mBin (opIn true) (mBin opAdd (mV 27) (mBin opDiv (mV 2) (mK (.d (.int 2))))) (mV 7))) aNil)) [27]))) (mOr (mTb (mBin (opEq false) (mFld ["Sieve"] "put_in" (mV 15)) (mCall biLen (aCons (mV 9) aNil)))) (mTb (mBin (opEq false) (mLc (iAny (mV 9)) (gN 11) (mNot (mTb (mMethD "Sieve" "may_have" f_Sieve_may_have [] (mV 15) (aCons (mV 11) aNil)))) (mV 11) [11]) (mLst aNil)))))) (mRet (mK (.d (.bool false)))) mSkip)) mSkip)
  (mSeq (mAsg (mCallD f_odds [] (aCons (mMethD "Sieve" "filled" f_Sieve_filled [] (mV 4) aNil) (aCons (mV 3) aNil))) (gTp 2 (gsCons (gN 16) (gsCons (gN 17) gsNil))))
  (mSeq (mIf (mTb (mBin (opEq false) (mTup (aCons (mV 16) (aCons (mV 17) aNil))) (mTup (aCons (mCallD f__law_power [] (aCons (mCall biLen (aCons (mV 7) aNil)) (aCons (mV 3) aNil))) (aCons (mCallD f__law_power [] (aCons (mV 2) (aCons (mV 3) aNil))) aNil))))) (mRet (mK (.d (.bool false)))) mSkip)
  (mSeq (mPar 18 19 (aCons (mBin opAdd (mK (.d (.int 1))) (mCallD f__law_roll [] (aCons (mV 1) (aCons (mK (.d (.int 2000))) aNil)))) (aCons (mBin opAdd (mK (.d (.int 1))) (mCallD f__law_roll [] (aCons (mV 1) (aCons (mK (.d (.int 200))) aNil)))) aNil)))
  (mSeq (mIf (mTb (mBin (opEq false) (mCallD f_best_turns [] (aCons (mV 18) (aCons (mV 19) aNil))) (mCall biMin2 (aCons (mK (.d (.int 8))) (aCons (mCall biMax2 (aCons (mK (.d (.int 1))) (aCons (mBin opDiv (mBin opAdd (mBin opMul (mBin opMul (mK (.d (.int 2))) (mK (.d (.int 693)))) (mV 18)) (mBin opMul (mK (.d (.int 1000))) (mV 19))) (mBin opMul (mK (.d (.int 2000))) (mV 19))) aNil))) aNil))))) (mRet (mK (.d (.bool false)))) mSkip)
  (mSeq (mAsg (mTup (aCons (mMakeD "Counting" f_Counting___init__ [] (aCons (mV 2) (aCons (mV 3) aNil))) (aCons (mBin opMul (mLst (aCons (mK (.d (.int 0))) aNil)) (mV 2)) aNil))) (gTp 2 (gsCons (gN 25) (gsCons (gN 20) gsNil))))
  (mSeq (mFor (iRange1 (aCons (mCallD f__law_roll [] (aCons (mV 1) (aCons (mK (.d (.int 30))) aNil))) aNil)) (gN 21) (mSeq (mAsg (mBin opIx (mBin opAdd (mV 9) (mV 12)) (mCallD f__law_roll [] (aCons (mV 1) (aCons (mCall biLen (aCons (mBin opAdd (mV 9) (mV 12)) aNil)) aNil)))) (gN 11))
  (mSeq (mAsg (mCallD f__law_bits [] (aCons (mV 6) (aCons (mV 11) aNil))) (gN 10))
  (mSeq (mAsg (mBin (opEq true) (mLc (iAny (mV 10)) (gN 27) (mTb (mBin (opEq true) (mBin opIx (mV 20) (mV 27)) (mK (.d (.int 0))))) (mV 27) [27]) (mLst aNil)) (gN 22))
  (mSeq (mIf (mTb (mBin (opEq false) (mMethD "Counting" "may_be_in" f_Counting_may_be_in [] (mV 25) (aCons (mV 11) aNil)) (mV 22))) (mRet (mK (.d (.bool false)))) mSkip)
  (mSeq (mIf (mTb (mBin oGt (mCallD f__law_roll [] (aCons (mV 1) (aCons (mK (.d (.int 3))) aNil))) (mK (.d (.int 0))))) (mAsg (mTup (aCons (mLc (iEnumL (aCons (mV 20) aNil)) (gTp 2 (gsCons (gN 26) (gsCons (gN 28) gsNil))) mYes (mCall biMin2 (aCons (mK (.d (.int 15))) (aCons (mBin opAdd (mV 28) (mCall biInt (aCons (mBin (opIn true) (mV 26) (mV 10)) aNil))) aNil))) [26, 28]) (aCons (mTold (mMethD "Counting" "add" f_Counting_add [] (mV 25) (aCons (mV 11) aNil)) (inS ["SieveError"]) "SieveError") (aCons (mK (.d (.bool true))) aNil)))) (gTp 3 (gsCons (gN 20) (gsCons (gN 23) (gsCons (gN 24) gsNil))))) (mAsg (mTup (aCons (mLc (iEnumL (aCons (mV 20) aNil)) (gTp 2 (gsCons (gN 26) (gsCons (gN 28) gsNil))) mYes (mBin opSub (mV 28) (mCall biInt (aCons (mAndV (mV 22) (mAndV (mBin (opIn true) (mV 26) (mV 10)) (mBin oLt (mV 28) (mK (.d (.int 15)))))) aNil))) [26, 28]) (aCons (mTold (mMethD "Counting" "remove" f_Counting_remove [] (mV 25) (aCons (mV 11) aNil)) (inS ["SieveError"]) "SieveError") (aCons (mV 22) aNil)))) (gTp 3 (gsCons (gN 20) (gsCons (gN 23) (gsCons (gN 24) gsNil))))))
  (mIf (mOr (mTb (mBin (opEq false) (mBin (opEq false) (mV 23) (mK (.d (.str "SieveError")))) (mV 24))) (mTb (mBin (opEq false) (mFld ["Counting"] "counts" (mV 25)) (mV 20)))) (mRet (mK (.d (.bool false)))) mSkip)))))))
  (mSeq (mIf (mTb (mBin (opEq false) (mFld ["Sieve"] "bits" (mMethD "Counting" "plain" f_Counting_plain [] (mV 25) aNil)) (mLc (iAny (mV 20)) (gN 28) mYes (mCall biInt (aCons (mBin oGt (mV 28) (mK (.d (.int 0)))) aNil)) [28]))) (mRet (mK (.d (.bool false)))) mSkip)
  (mIf (mNot (mTb (mCallD f__law_sized [] (aCons (mV 1) (aCons (mV 3) aNil))))) (mRet (mK (.d (.bool false)))) mSkip))))))))))))))))))))))
  (mRet (mCall0 f__law_plain [])))
theorem B_law {k : Nat} {k__law_rounds : Nat} {k__law_roll : Nat} {k_Sieve___init__ : Nat} {k__law_key : Nat} {k__law_bits : Nat} {k_Sieve_put : Nat} {k_Sieve_bits_of : Nat} {k_Sieve_filled : Nat} {k_Sieve_may_have : Nat} {k_Sieve_wrong_of : Nat} {k_Sieve_joined_with : Nat} {k_Sieve_folded : Nat} {k_odds : Nat} {k__law_power : Nat} {k_best_turns : Nat} {k_Counting___init__ : Nat} {k_Counting_may_be_in : Nat} {k_Counting_add : Nat} {k_Counting_remove : Nat} {k_Counting_plain : Nat} {k__law_sized : Nat} {k__law_plain : Nat} (F : Fx fa fn K mg) (G : TabsF K mg base tf) {f__law_rounds : MF} (D__law_rounds : DefOk P w K mg base (tf.map (tbOf K)) k__law_rounds "_law_rounds" 2 [] f__law_rounds) (l__law_rounds : k__law_rounds ≤ k) {f__law_roll : MF} (D__law_roll : DefOk P w K mg base (tf.map (tbOf K)) k__law_roll "_law_roll" 2 [] f__law_roll) (l__law_roll : k__law_roll ≤ k) {f_Sieve___init__ : MF} (D_Sieve___init__ : MethOk P w K mg base (tf.map (tbOf K)) k_Sieve___init__ "Sieve" "__init__" 3 [] f_Sieve___init__) (l_Sieve___init__ : k_Sieve___init__ + 1 ≤ k) {f__law_key : MF} (D__law_key : DefOk P w K mg base (tf.map (tbOf K)) k__law_key "_law_key" 1 [] f__law_key) (l__law_key : k__law_key ≤ k) {f__law_bits : MF} (D__law_bits : DefOk P w K mg base (tf.map (tbOf K)) k__law_bits "_law_bits" 2 [] f__law_bits) (l__law_bits : k__law_bits ≤ k) {f_Sieve_put : MF} (D_Sieve_put : MethOk P w K mg base (tf.map (tbOf K)) k_Sieve_put "Sieve" "put" 2 [] f_Sieve_put) (l_Sieve_put : k_Sieve_put ≤ k) {f_Sieve_bits_of : MF} (D_Sieve_bits_of : MethOk P w K mg base (tf.map (tbOf K)) k_Sieve_bits_of "Sieve" "bits_of" 2 [] f_Sieve_bits_of) (l_Sieve_bits_of : k_Sieve_bits_of ≤ k) {f_Sieve_filled : MF} (D_Sieve_filled : MethOk P w K mg base (tf.map (tbOf K)) k_Sieve_filled "Sieve" "filled" 1 [] f_Sieve_filled) (l_Sieve_filled : k_Sieve_filled ≤ k) {f_Sieve_may_have : MF} (D_Sieve_may_have : MethOk P w K mg base (tf.map (tbOf K)) k_Sieve_may_have "Sieve" "may_have" 2 [] f_Sieve_may_have) (l_Sieve_may_have : k_Sieve_may_have ≤ k) {f_Sieve_wrong_of : MF} (D_Sieve_wrong_of : MethOk P w K mg base (tf.map (tbOf K)) k_Sieve_wrong_of "Sieve" "wrong_of" 2 [] f_Sieve_wrong_of) (l_Sieve_wrong_of : k_Sieve_wrong_of ≤ k) {f_Sieve_joined_with : MF} (D_Sieve_joined_with : MethOk P w K mg base (tf.map (tbOf K)) k_Sieve_joined_with "Sieve" "joined_with" 2 [] f_Sieve_joined_with) (l_Sieve_joined_with : k_Sieve_joined_with ≤ k) {f_Sieve_folded : MF} (D_Sieve_folded : MethOk P w K mg base (tf.map (tbOf K)) k_Sieve_folded "Sieve" "folded" 1 [] f_Sieve_folded) (l_Sieve_folded : k_Sieve_folded ≤ k) {f_odds : MF} (D_odds : DefOk P w K mg base (tf.map (tbOf K)) k_odds "odds" 2 [] f_odds) (l_odds : k_odds ≤ k) {f__law_power : MF} (D__law_power : DefOk P w K mg base (tf.map (tbOf K)) k__law_power "_law_power" 2 [] f__law_power) (l__law_power : k__law_power ≤ k) {f_best_turns : MF} (D_best_turns : DefOk P w K mg base (tf.map (tbOf K)) k_best_turns "best_turns" 2 [] f_best_turns) (l_best_turns : k_best_turns ≤ k) {f_Counting___init__ : MF} (D_Counting___init__ : MethOk P w K mg base (tf.map (tbOf K)) k_Counting___init__ "Counting" "__init__" 3 [] f_Counting___init__) (l_Counting___init__ : k_Counting___init__ + 1 ≤ k) {f_Counting_may_be_in : MF} (D_Counting_may_be_in : MethOk P w K mg base (tf.map (tbOf K)) k_Counting_may_be_in "Counting" "may_be_in" 2 [] f_Counting_may_be_in) (l_Counting_may_be_in : k_Counting_may_be_in ≤ k) {f_Counting_add : MF} (D_Counting_add : MethOk P w K mg base (tf.map (tbOf K)) k_Counting_add "Counting" "add" 2 [] f_Counting_add) (l_Counting_add : k_Counting_add ≤ k) {f_Counting_remove : MF} (D_Counting_remove : MethOk P w K mg base (tf.map (tbOf K)) k_Counting_remove "Counting" "remove" 2 [] f_Counting_remove) (l_Counting_remove : k_Counting_remove ≤ k) {f_Counting_plain : MF} (D_Counting_plain : MethOk P w K mg base (tf.map (tbOf K)) k_Counting_plain "Counting" "plain" 1 [] f_Counting_plain) (l_Counting_plain : k_Counting_plain ≤ k) {f__law_sized : MF} (D__law_sized : DefOk P w K mg base (tf.map (tbOf K)) k__law_sized "_law_sized" 2 [] f__law_sized) (l__law_sized : k__law_sized ≤ k) {f__law_plain : MF} (D__law_plain : DefOk P w K mg base (tf.map (tbOf K)) k__law_plain "_law_plain" 0 [] f__law_plain) (l__law_plain : k__law_plain ≤ k) (T__law_told : Told K mg "_law_told" "what" (He.ga K "_law_told") (He.ga K "SieveError") "SieveError") {fd : FuncData} (FD : FunD K d28.name d28.qual d28.params d28.body d28.scope (d28.dvs K) (d28.kws K) (He.ga K "law") fd) : FnOk P w K mg base (L2.CX P w) (k + 2 + 1) (He.ga K "law") fd ["script"] (spF K (tf.map (tbOf K)) 1 (runF 29 (m_law f__law_rounds f__law_roll f_Sieve___init__ f__law_key f__law_bits f_Sieve_put f_Sieve_bits_of f_Sieve_filled f_Sieve_may_have f_Sieve_wrong_of f_Sieve_joined_with f_Sieve_folded f_odds f__law_power f_best_turns f_Counting___init__ f_Counting_may_be_in f_Counting_add f_Counting_remove f_Counting_plain f__law_sized f__law_plain))) := by
  refine fn_mkC (N := ["script", "dice", "size", "turns", "sieve", "other", "own", "there", "more", "keys", "bits", "key", "others", "flags", "both", "half", "top", "bottom", "wide", "few", "counts", "step", "had", "told", "good", "counting", "k", "place", "many"]) FD ⟨rfl, rfl, rfl, by decide +kernel, rfl, by decide +kernel, by decide +kernel⟩ (p := ("law", none)) rfl fun A outer s H E hr => ?_
  have hu := hr.units
  have hu5 := hr.units5
  have hu1 := hr.units1
  have hN : (["script", "dice", "size", "turns", "sieve", "other", "own", "there", "more", "keys", "bits", "key", "others", "flags", "both", "half", "top", "bottom", "wide", "few", "counts", "step", "had", "told", "good", "counting", "k", "place", "many"] : List Str).Nodup := by decide +kernel
  exact (b_cons (s_for (vs := [1]) (passes_of rfl) rfl (i_any (s_fn D__law_rounds (takes_of rfl rfl rfl rfl) (hr.mono (Nat.le_add_right_of_le l__law_rounds)) rfl (al_cons (al_cons al_nil)) rfl (s_cons (s_var (i := 0) rfl (.inl rfl)) (s_cons s_int s_nil)))) (g_name (i := 1) hN rfl (.inr rfl) (.inl rfl) (by decide)) (b_cons (s_asg (vs := [3, 2]) (s_tup (s_cons (s_op op_addM br_add s_int (s_fn D__law_roll (takes_of rfl rfl rfl rfl) (hr.mono (Nat.le_add_right_of_le l__law_roll)) rfl (al_cons (al_cons al_nil)) rfl (s_cons (s_var (i := 1) rfl (.inr (.inl rfl))) (s_cons (s_ix (s_lst (s_cons s_int (s_cons s_int s_nil))) (s_fn D__law_roll (takes_of rfl rfl rfl rfl) (hr.mono (Nat.le_add_right_of_le l__law_roll)) rfl (al_cons (al_cons al_nil)) rfl (s_cons (s_var (i := 1) rfl (.inr (.inl rfl))) (s_cons s_int s_nil)))) s_nil)))) (s_cons (s_op op_addM br_add s_int (s_fn D__law_roll (takes_of rfl rfl rfl rfl) (hr.mono (Nat.le_add_right_of_le l__law_roll)) rfl (al_cons (al_cons al_nil)) rfl (s_cons (s_var (i := 1) rfl (.inr (.inl rfl))) (s_cons s_int s_nil)))) s_nil))) (g_tup rfl (gs_cons (g_name (i := 2) hN rfl (.inr rfl) (.inl rfl) (by decide)) (gs_cons (g_name (i := 3) hN rfl (.inl rfl) (.inr rfl) (by decide)) gs_nil))))
    (b_cons (s_asg (vs := [6, 5, 4]) (s_tup (s_cons (s_make F 7 9 rfl rfl D_Sieve___init__ (takes_of rfl rfl rfl rfl) (hr.mono (Nat.le_add_right_of_le l_Sieve___init__)) rfl (al_cons (al_cons al_nil)) rfl (s_cons (s_var (i := 2) rfl (.inr (.inl rfl))) (s_cons (s_var (i := 3) rfl (.inl rfl)) s_nil))) (s_cons (s_make F 7 9 rfl rfl D_Sieve___init__ (takes_of rfl rfl rfl rfl) (hr.mono (Nat.le_add_right_of_le l_Sieve___init__)) rfl (al_cons (al_cons al_nil)) rfl (s_cons (s_var (i := 2) rfl (.inr (.inl rfl))) (s_cons (s_var (i := 3) rfl (.inl rfl)) s_nil))) (s_cons (s_disp (pps_cons (s_str (by decide +kernel)) (s_var (i := 2) rfl (.inr (.inl rfl))) (pps_cons (s_str (by decide +kernel)) (s_var (i := 3) rfl (.inl rfl)) pps_nil))) s_nil)))) (g_tup rfl (gs_cons (g_name (i := 4) hN rfl (.inr rfl) (.inl rfl) (by decide)) (gs_cons (g_name (i := 5) hN rfl (.inl rfl) (.inr rfl) (by decide)) (gs_cons (g_name (i := 6) hN rfl (.inr rfl) (.inl rfl) (by decide)) gs_nil)))))
    (b_cons (s_asg (vs := [9, 8, 7]) (s_tup (s_cons s_dnew (s_cons s_dnew (s_cons (s_lc (own := [("k", 26)]) rfl hN (i_range1 rfl (F.free 55 _ rfl) (s_cons (s_fn D__law_roll (takes_of rfl rfl rfl rfl) (hr.mono (Nat.le_add_right_of_le l__law_roll)) rfl (al_cons (al_cons al_nil)) rfl (s_cons (s_var (i := 1) rfl (.inr (.inl rfl))) (s_cons s_int s_nil))) s_nil)) (blkOk_by (by kernel_rfl)) (fun _ _ _ _ _ => (g_name (i := 26) hN rfl (by first | exact .inl rfl | exact .inr rfl) (by first | exact .inr rfl | exact .inl rfl) (by decide))) (fun _ _ _ _ _ => ts_nil) (fun _ _ _ _ _ => (s_fn D__law_key takes0 (hr.mono (Nat.le_add_right_of_le l__law_key)) rfl (al_cons al_nil) rfl (s_cons (s_var (i := 1) rfl (by first | exact .inr (.inr rfl) | exact .inl rfl | exact .inr (.inl rfl))) s_nil)))) s_nil)))) (g_tup rfl (gs_cons (g_name (i := 7) hN rfl (.inr rfl) (.inl rfl) (by decide)) (gs_cons (g_name (i := 8) hN rfl (.inr rfl) (.inl rfl) (by decide)) (gs_cons (g_name (i := 9) hN rfl (.inl rfl) (.inr rfl) (by decide)) gs_nil)))))
    (b_cons (s_for (vs := [11]) (passes_of rfl) rfl (i_any (s_var (i := 9) rfl (.inl rfl))) (g_name (i := 11) hN rfl (.inr rfl) (.inl rfl) (by decide)) (b_cons (s_set (i := 10) hN rfl (.inr rfl) (.inl rfl) (s_fn D__law_bits (takes_of rfl rfl rfl rfl) (hr.mono (Nat.le_add_right_of_le l__law_bits)) rfl (al_cons (al_cons al_nil)) rfl (s_cons (s_var (i := 6) rfl (.inr (.inl rfl))) (s_cons (s_var (i := 11) rfl (.inr (.inl rfl))) s_nil))))
    (b_cons (s_if (s_tcmp (op_neM hu) br_eq (s_ome F 8 11 rfl rfl D_Sieve_put (takes_of rfl rfl rfl rfl) (hr.mono (Nat.le_add_right_of_le l_Sieve_put)) (al_cons al_nil) rfl (s_var (i := 4) rfl (.inr (.inl rfl))) (s_cons (s_var (i := 11) rfl (.inr (.inl rfl))) s_nil)) (s_callB call_lenM bc_len rfl (F.free 51 _ rfl) rfl (s_cons (s_lc (own := [("place", 27)]) rfl hN (i_any (s_var (i := 10) rfl (.inr (.inl rfl)))) (blkOk_by (by kernel_rfl)) (fun _ _ _ _ _ => (g_name (i := 27) hN rfl (by first | exact .inl rfl | exact .inr rfl) (by first | exact .inr rfl | exact .inl rfl) (by decide))) (fun _ _ _ _ _ => (ts_one (s_tcmp (op_notInM hu5) br_in (s_var (i := 27) rfl (by first | exact .inr (.inr rfl) | exact .inl rfl | exact .inr (.inl rfl))) (s_var (i := 7) rfl (by first | exact .inr (.inr rfl) | exact .inl rfl | exact .inr (.inl rfl))) rfl))) (fun _ _ _ _ _ => (s_var (i := 27) rfl (by first | exact .inr (.inr rfl) | exact .inl rfl | exact .inr (.inl rfl))))) s_nil)) rfl) (b_one (s_ret s_bl)) b_nil)
    (b_cons (s_if (s_tcmp (op_neM hu) br_eq (s_callT call_list_of bc_list rfl (F.free 52 _ rfl) rfl (s_cons (s_ome F 8 10 rfl rfl D_Sieve_bits_of (takes_of rfl rfl rfl rfl) (hr.mono (Nat.le_add_right_of_le l_Sieve_bits_of)) (al_cons al_nil) rfl (s_var (i := 4) rfl (.inr (.inl rfl))) (s_cons (s_var (i := 11) rfl (.inr (.inl rfl))) s_nil)) s_nil)) (s_var (i := 10) rfl (.inr (.inl rfl))) rfl) (b_one (s_ret s_bl)) b_nil)
    (b_one (s_exp (s_meth PySem.F.plainAttrs_dict PySem.F.slot_dict_update PySem.F.type_dict_update mt_update ty_dict bm_update (s_var (i := 7) rfl (.inr (.inl rfl))) (s_cons (s_callT (call_dictP rfl) bc_dictP rfl (F.free 48 _ rfl) rfl (s_cons (s_lc (own := [("place", 27)]) rfl hN (i_any (s_var (i := 10) rfl (.inr (.inl rfl)))) (blkOk_by (by kernel_rfl)) (fun _ _ _ _ _ => (g_name (i := 27) hN rfl (by first | exact .inl rfl | exact .inr rfl) (by first | exact .inr rfl | exact .inl rfl) (by decide))) (fun _ _ _ _ _ => ts_nil) (fun _ _ _ _ _ => (s_tup (s_cons (s_var (i := 27) rfl (by first | exact .inr (.inr rfl) | exact .inl rfl | exact .inr (.inl rfl))) (s_cons s_int s_nil))))) s_nil)) s_nil))))))))
    (b_cons (s_if (s_w (w_or (s_tcmp (op_neM hu) br_eq (s_fld (clsF_cons F 8 17 rfl rfl clsF_nil) (s_var (i := 4) rfl (.inr (.inl rfl)))) (s_lc (own := [("place", 27)]) rfl hN (i_range1 rfl (F.free 55 _ rfl) (s_cons (s_var (i := 2) rfl (.inr (.inl rfl))) s_nil)) (blkOk_by (by kernel_rfl)) (fun _ _ _ _ _ => (g_name (i := 27) hN rfl (by first | exact .inl rfl | exact .inr rfl) (by first | exact .inr rfl | exact .inl rfl) (by decide))) (fun _ _ _ _ _ => ts_nil) (fun _ _ _ _ _ => (s_callT call_int1 bc_int rfl (F.free 50 _ rfl) rfl (s_cons (s_cmp (op_inM hu5) br_in (s_var (i := 27) rfl (by first | exact .inr (.inr rfl) | exact .inl rfl | exact .inr (.inl rfl))) (s_var (i := 7) rfl (by first | exact .inr (.inr rfl) | exact .inl rfl | exact .inr (.inl rfl))) rfl) s_nil)))) rfl) (w_or (s_tcmp (op_neM hu) br_eq (s_fld (clsF_cons F 8 18 rfl rfl clsF_nil) (s_var (i := 4) rfl (.inr (.inl rfl)))) (s_callB call_lenM bc_len rfl (F.free 51 _ rfl) rfl (s_cons (s_var (i := 9) rfl (.inl rfl)) s_nil)) rfl) (w_or (s_tcmp (op_neM hu) br_eq (s_ome0 F 8 13 rfl rfl D_Sieve_filled (takes_of rfl rfl rfl rfl) (hr.mono (Nat.le_add_right_of_le l_Sieve_filled)) rfl (s_var (i := 4) rfl (.inr (.inl rfl)))) (s_tup (s_cons (s_callB call_lenM bc_len rfl (F.free 51 _ rfl) rfl (s_cons (s_var (i := 7) rfl (.inr (.inl rfl))) s_nil)) (s_cons (s_var (i := 2) rfl (.inr (.inl rfl))) s_nil))) rfl) (w_or1 (s_tcmp (op_neM hu) br_eq (s_lc (own := [("key", 11)]) rfl hN (i_any (s_var (i := 9) rfl (.inl rfl))) (blkOk_by (by kernel_rfl)) (fun _ _ _ _ _ => (g_name (i := 11) hN rfl (by first | exact .inl rfl | exact .inr rfl) (by first | exact .inr rfl | exact .inl rfl) (by decide))) (fun _ _ _ _ _ => (ts_one (s_not (s_val (s_ome F 8 12 rfl rfl D_Sieve_may_have takes0 (hr.mono (Nat.le_add_right_of_le l_Sieve_may_have)) (al_cons al_nil) rfl (s_var (i := 4) rfl (by first | exact .inr (.inr rfl) | exact .inl rfl | exact .inr (.inl rfl))) (s_cons (s_var (i := 11) rfl (by first | exact .inr (.inr rfl) | exact .inl rfl | exact .inr (.inl rfl))) s_nil)))))) (fun _ _ _ _ _ => (s_var (i := 11) rfl (by first | exact .inr (.inr rfl) | exact .inl rfl | exact .inr (.inl rfl))))) (s_lst s_nil) rfl)))))) (b_one (s_ret s_bl)) b_nil)
    (b_cons (s_setLc (i := 12) (own := [("k", 26)]) rfl hN rfl rfl rfl (i_range1 rfl (F.free 55 _ rfl) (s_cons s_int s_nil)) (blkOk_by (by kernel_rfl)) (fun _ _ _ _ _ => (g_name (i := 26) hN rfl (by first | exact .inl rfl | exact .inr rfl) (by first | exact .inr rfl | exact .inl rfl) (by decide))) (fun _ _ _ _ _ => ts_nil) (fun _ _ _ _ _ => (s_fn D__law_key takes0 (hr.mono (Nat.le_add_right_of_le l__law_key)) rfl (al_cons al_nil) rfl (s_cons (s_var (i := 1) rfl (by first | exact .inr (.inr rfl) | exact .inl rfl | exact .inr (.inl rfl))) s_nil))))
    (b_cons (s_setLc (i := 13) (own := [("key", 11)]) rfl hN rfl rfl rfl (i_any (s_var (i := 12) rfl (.inl rfl))) (blkOk_by (by kernel_rfl)) (fun _ _ _ _ _ => (g_name (i := 11) hN rfl (by first | exact .inl rfl | exact .inr rfl) (by first | exact .inr rfl | exact .inl rfl) (by decide))) (fun _ _ _ _ _ => ts_nil) (fun _ _ _ _ _ => (s_cmp (op_eqM hu) br_eq (s_lc (own := [("place", 27)]) rfl hN (i_any (s_fn D__law_bits takes0 (hr.mono (Nat.le_add_right_of_le l__law_bits)) rfl (al_cons (al_cons al_nil)) rfl (s_cons (s_var (i := 6) rfl (by first | exact .inr (.inr rfl) | exact .inl rfl | exact .inr (.inl rfl))) (s_cons (s_var (i := 11) rfl (by first | exact .inr (.inr rfl) | exact .inl rfl | exact .inr (.inl rfl))) s_nil)))) (blkOk_by (by kernel_rfl)) (fun _ _ _ _ _ => (g_name (i := 27) hN rfl (by first | exact .inl rfl | exact .inr rfl) (by first | exact .inr rfl | exact .inl rfl) (by decide))) (fun _ _ _ _ _ => (ts_one (s_tcmp (op_notInM hu5) br_in (s_var (i := 27) rfl (by first | exact .inr (.inr rfl) | exact .inl rfl | exact .inr (.inl rfl))) (s_var (i := 7) rfl (by first | exact .inr (.inr rfl) | exact .inl rfl | exact .inr (.inl rfl))) rfl))) (fun _ _ _ _ _ => (s_var (i := 27) rfl (by first | exact .inr (.inr rfl) | exact .inl rfl | exact .inr (.inl rfl))))) (s_lst s_nil) rfl)))
    (b_cons (s_if (s_w (w_or (s_tcmp (op_neM hu) br_eq (s_lc (own := [("key", 11)]) rfl hN (i_any (s_var (i := 12) rfl (.inl rfl))) (blkOk_by (by kernel_rfl)) (fun _ _ _ _ _ => (g_name (i := 11) hN rfl (by first | exact .inl rfl | exact .inr rfl) (by first | exact .inr rfl | exact .inl rfl) (by decide))) (fun _ _ _ _ _ => ts_nil) (fun _ _ _ _ _ => (s_ome F 8 12 rfl rfl D_Sieve_may_have takes0 (hr.mono (Nat.le_add_right_of_le l_Sieve_may_have)) (al_cons al_nil) rfl (s_var (i := 4) rfl (by first | exact .inr (.inr rfl) | exact .inl rfl | exact .inr (.inl rfl))) (s_cons (s_var (i := 11) rfl (by first | exact .inr (.inr rfl) | exact .inl rfl | exact .inr (.inl rfl))) s_nil)))) (s_var (i := 13) rfl (.inl rfl)) rfl) (w_or1 (s_tcmp (op_neM hu) br_eq (s_ome F 8 14 rfl rfl D_Sieve_wrong_of (takes_of rfl rfl rfl rfl) (hr.mono (Nat.le_add_right_of_le l_Sieve_wrong_of)) (al_cons al_nil) rfl (s_var (i := 4) rfl (.inr (.inl rfl))) (s_cons (s_var (i := 12) rfl (.inl rfl)) s_nil)) (s_meth PySem.F.plainAttrs_list PySem.F.slot_list_count PySem.F.type_list_count (mt_countD hu5) ty_list bm_count (s_var (i := 13) rfl (.inl rfl)) (s_cons s_bl s_nil)) rfl)))) (b_one (s_ret s_bl)) b_nil)
    (b_cons (s_for (vs := [11]) (passes_of rfl) rfl (i_any (s_sl (s_var (i := 12) rfl (.inl rfl)) s_no (s_so s_int))) (g_name (i := 11) hN rfl (.inr rfl) (.inl rfl) (by decide)) (b_cons (s_exp (s_ome F 8 11 rfl rfl D_Sieve_put (takes_of rfl rfl rfl rfl) (hr.mono (Nat.le_add_right_of_le l_Sieve_put)) (al_cons al_nil) rfl (s_var (i := 5) rfl (.inl rfl)) (s_cons (s_var (i := 11) rfl (.inr (.inl rfl))) s_nil)))
    (b_one (s_exp (s_meth PySem.F.plainAttrs_dict PySem.F.slot_dict_update PySem.F.type_dict_update mt_update ty_dict bm_update (s_var (i := 8) rfl (.inr (.inl rfl))) (s_cons (s_callT (call_dictP rfl) bc_dictP rfl (F.free 48 _ rfl) rfl (s_cons (s_lc (own := [("place", 27)]) rfl hN (i_any (s_fn D__law_bits (takes_of rfl rfl rfl rfl) (hr.mono (Nat.le_add_right_of_le l__law_bits)) rfl (al_cons (al_cons al_nil)) rfl (s_cons (s_var (i := 6) rfl (.inr (.inl rfl))) (s_cons (s_var (i := 11) rfl (.inr (.inl rfl))) s_nil)))) (blkOk_by (by kernel_rfl)) (fun _ _ _ _ _ => (g_name (i := 27) hN rfl (by first | exact .inl rfl | exact .inr rfl) (by first | exact .inr rfl | exact .inl rfl) (by decide))) (fun _ _ _ _ _ => ts_nil) (fun _ _ _ _ _ => (s_tup (s_cons (s_var (i := 27) rfl (by first | exact .inr (.inr rfl) | exact .inl rfl | exact .inr (.inl rfl))) (s_cons s_int s_nil))))) s_nil)) s_nil))))))
    (b_cons (s_set (i := 14) hN rfl (.inl rfl) (.inr rfl) (s_ome F 8 15 rfl rfl D_Sieve_joined_with (takes_of rfl rfl rfl rfl) (hr.mono (Nat.le_add_right_of_le l_Sieve_joined_with)) (al_cons al_nil) rfl (s_var (i := 4) rfl (.inr (.inl rfl))) (s_cons (s_var (i := 5) rfl (.inl rfl)) s_nil)))
    (b_cons (s_if (s_tcmp (op_neM hu) br_eq (s_fld (clsF_cons F 8 17 rfl rfl clsF_nil) (s_var (i := 14) rfl (.inl rfl))) (s_lc (own := [("place", 27)]) rfl hN (i_range1 rfl (F.free 55 _ rfl) (s_cons (s_var (i := 2) rfl (.inr (.inl rfl))) s_nil)) (blkOk_by (by kernel_rfl)) (fun _ _ _ _ _ => (g_name (i := 27) hN rfl (by first | exact .inl rfl | exact .inr rfl) (by first | exact .inr rfl | exact .inl rfl) (by decide))) (fun _ _ _ _ _ => ts_nil) (fun _ _ _ _ _ => (s_callT call_int1 bc_int rfl (F.free 50 _ rfl) rfl (s_cons (s_orV (s_cmp (op_inM hu5) br_in (s_var (i := 27) rfl (by first | exact .inr (.inr rfl) | exact .inl rfl | exact .inr (.inl rfl))) (s_var (i := 7) rfl (by first | exact .inr (.inr rfl) | exact .inl rfl | exact .inr (.inl rfl))) rfl) (s_one (s_cmp (op_inM hu5) br_in (s_var (i := 27) rfl (by first | exact .inr (.inr rfl) | exact .inl rfl | exact .inr (.inl rfl))) (s_var (i := 8) rfl (by first | exact .inr (.inr rfl) | exact .inl rfl | exact .inr (.inl rfl))) rfl))) s_nil)))) rfl) (b_one (s_ret s_bl)) b_nil)
    (b_cons (s_if (s_w (w_or (s_tcmp (op_neM hu) br_eq (s_fld (clsF_cons F 8 18 rfl rfl clsF_nil) (s_var (i := 14) rfl (.inl rfl))) (s_op op_addM br_add (s_callB call_lenM bc_len rfl (F.free 51 _ rfl) rfl (s_cons (s_var (i := 9) rfl (.inl rfl)) s_nil)) s_int) rfl) (w_or1 (s_tcmp (op_neM hu) br_eq (s_fld (clsF_cons F 8 17 rfl rfl clsF_nil) (s_var (i := 4) rfl (.inr (.inl rfl)))) (s_lc (own := [("place", 27)]) rfl hN (i_range1 rfl (F.free 55 _ rfl) (s_cons (s_var (i := 2) rfl (.inr (.inl rfl))) s_nil)) (blkOk_by (by kernel_rfl)) (fun _ _ _ _ _ => (g_name (i := 27) hN rfl (by first | exact .inl rfl | exact .inr rfl) (by first | exact .inr rfl | exact .inl rfl) (by decide))) (fun _ _ _ _ _ => ts_nil) (fun _ _ _ _ _ => (s_callT call_int1 bc_int rfl (F.free 50 _ rfl) rfl (s_cons (s_cmp (op_inM hu5) br_in (s_var (i := 27) rfl (by first | exact .inr (.inr rfl) | exact .inl rfl | exact .inr (.inl rfl))) (s_var (i := 7) rfl (by first | exact .inr (.inr rfl) | exact .inl rfl | exact .inr (.inl rfl))) rfl) s_nil)))) rfl)))) (b_one (s_ret s_bl)) b_nil)
    (b_cons (s_if (s_tcmp (op_eqM hu) br_eq (s_op op_mulM br_mul (s_op op_fdivW br_div (s_var (i := 2) rfl (.inr (.inl rfl))) s_int) s_int) (s_var (i := 2) rfl (.inr (.inl rfl))) rfl) (b_cons (s_set (i := 15) hN rfl (.inr rfl) (.inl rfl) (s_ome0 F 8 16 rfl rfl D_Sieve_folded (takes_of rfl rfl rfl rfl) (hr.mono (Nat.le_add_right_of_le l_Sieve_folded)) rfl (s_var (i := 4) rfl (.inr (.inl rfl)))))
    (b_one (s_if (s_w (w_or (s_tcmp (op_neM hu) br_eq (s_fld (clsF_cons F 8 19 rfl rfl clsF_nil) (s_var (i := 15) rfl (.inr (.inl rfl)))) (s_op op_fdivW br_div (s_var (i := 2) rfl (.inr (.inl rfl))) s_int) rfl) (w_or (s_tcmp (op_neM hu) br_eq (s_fld (clsF_cons F 8 17 rfl rfl clsF_nil) (s_var (i := 15) rfl (.inr (.inl rfl)))) (s_lc (own := [("place", 27)]) rfl hN (i_range1 rfl (F.free 55 _ rfl) (s_cons (s_op op_fdivW br_div (s_var (i := 2) rfl (.inr (.inl rfl))) s_int) s_nil)) (blkOk_by (by kernel_rfl)) (fun _ _ _ _ _ => (g_name (i := 27) hN rfl (by first | exact .inl rfl | exact .inr rfl) (by first | exact .inr rfl | exact .inl rfl) (by decide))) (fun _ _ _ _ _ => ts_nil) (fun _ _ _ _ _ => (s_callT call_int1 bc_int rfl (F.free 50 _ rfl) rfl (s_cons (s_orV (s_cmp (op_inM hu5) br_in (s_var (i := 27) rfl (by first | exact .inr (.inr rfl) | exact .inl rfl | exact .inr (.inl rfl))) (s_var (i := 7) rfl (by first | exact .inr (.inr rfl) | exact .inl rfl | exact .inr (.inl rfl))) rfl) (s_one (s_cmp (op_inM hu5) br_in (s_op op_addM br_add (s_var (i := 27) rfl (by first | exact .inr (.inr rfl) | exact .inl rfl | exact .inr (.inl rfl))) (s_op op_fdivW br_div (s_var (i := 2) rfl (by first | exact .inr (.inr rfl) | exact .inl rfl | exact .inr (.inl rfl))) s_int)) (s_var (i := 7) rfl (by first | exact .inr (.inr rfl) | exact .inl rfl | exact .inr (.inl rfl))) rfl))) s_nil)))) rfl) (w_or (s_tcmp (op_neM hu) br_eq (s_fld (clsF_cons F 8 18 rfl rfl clsF_nil) (s_var (i := 15) rfl (.inr (.inl rfl)))) (s_callB call_lenM bc_len rfl (F.free 51 _ rfl) rfl (s_cons (s_var (i := 9) rfl (.inl rfl)) s_nil)) rfl) (w_or1 (s_tcmp (op_neM hu) br_eq (s_lc (own := [("key", 11)]) rfl hN (i_any (s_var (i := 9) rfl (.inl rfl))) (blkOk_by (by kernel_rfl)) (fun _ _ _ _ _ => (g_name (i := 11) hN rfl (by first | exact .inl rfl | exact .inr rfl) (by first | exact .inr rfl | exact .inl rfl) (by decide))) (fun _ _ _ _ _ => (ts_one (s_not (s_val (s_ome F 8 12 rfl rfl D_Sieve_may_have takes0 (hr.mono (Nat.le_add_right_of_le l_Sieve_may_have)) (al_cons al_nil) rfl (s_var (i := 15) rfl (by first | exact .inr (.inr rfl) | exact .inl rfl | exact .inr (.inl rfl))) (s_cons (s_var (i := 11) rfl (by first | exact .inr (.inr rfl) | exact .inl rfl | exact .inr (.inl rfl))) s_nil)))))) (fun _ _ _ _ _ => (s_var (i := 11) rfl (by first | exact .inr (.inr rfl) | exact .inl rfl | exact .inr (.inl rfl))))) (s_lst s_nil) rfl)))))) (b_one (s_ret s_bl)) b_nil))) b_nil)
    (b_cons (s_asg (vs := [17, 16]) (s_fn D_odds (takes_of rfl rfl rfl rfl) (hr.mono (Nat.le_add_right_of_le l_odds)) rfl (al_cons (al_cons al_nil)) rfl (s_cons (s_ome0 F 8 13 rfl rfl D_Sieve_filled (takes_of rfl rfl rfl rfl) (hr.mono (Nat.le_add_right_of_le l_Sieve_filled)) rfl (s_var (i := 4) rfl (.inr (.inl rfl)))) (s_cons (s_var (i := 3) rfl (.inl rfl)) s_nil))) (g_tup rfl (gs_cons (g_name (i := 16) hN rfl (.inl rfl) (.inr rfl) (by decide)) (gs_cons (g_name (i := 17) hN rfl (.inl rfl) (.inr rfl) (by decide)) gs_nil))))
    (b_cons (s_if (s_tcmp (op_neM hu) br_eq (s_tup (s_cons (s_var (i := 16) rfl (.inl rfl)) (s_cons (s_var (i := 17) rfl (.inl rfl)) s_nil))) (s_tup (s_cons (s_fn D__law_power (takes_of rfl rfl rfl rfl) (hr.mono (Nat.le_add_right_of_le l__law_power)) rfl (al_cons (al_cons al_nil)) rfl (s_cons (s_callB call_lenM bc_len rfl (F.free 51 _ rfl) rfl (s_cons (s_var (i := 7) rfl (.inr (.inl rfl))) s_nil)) (s_cons (s_var (i := 3) rfl (.inl rfl)) s_nil))) (s_cons (s_fn D__law_power (takes_of rfl rfl rfl rfl) (hr.mono (Nat.le_add_right_of_le l__law_power)) rfl (al_cons (al_cons al_nil)) rfl (s_cons (s_var (i := 2) rfl (.inr (.inl rfl))) (s_cons (s_var (i := 3) rfl (.inl rfl)) s_nil))) s_nil))) rfl) (b_one (s_ret s_bl)) b_nil)
    (b_cons (s_par (i := 18) (j := 19) rfl hN rfl rfl (by decide) rfl rfl (s_cons (s_op op_addM br_add s_int (s_fn D__law_roll (takes_of rfl rfl rfl rfl) (hr.mono (Nat.le_add_right_of_le l__law_roll)) rfl (al_cons (al_cons al_nil)) rfl (s_cons (s_var (i := 1) rfl (.inr (.inl rfl))) (s_cons s_int s_nil)))) (s_cons (s_op op_addM br_add s_int (s_fn D__law_roll (takes_of rfl rfl rfl rfl) (hr.mono (Nat.le_add_right_of_le l__law_roll)) rfl (al_cons (al_cons al_nil)) rfl (s_cons (s_var (i := 1) rfl (.inr (.inl rfl))) (s_cons s_int s_nil)))) s_nil)) rfl)
    (b_cons (s_if (s_tcmp (op_neM hu) br_eq (s_fn D_best_turns (takes_of rfl rfl rfl rfl) (hr.mono (Nat.le_add_right_of_le l_best_turns)) rfl (al_cons (al_cons al_nil)) rfl (s_cons (s_var (i := 18) rfl (.inl rfl)) (s_cons (s_var (i := 19) rfl (.inl rfl)) s_nil))) (s_callB (call_min2 rfl) bc_min2 rfl (F.free 54 _ rfl) rfl (s_cons s_int (s_cons (s_callB (call_max2 rfl) bc_max2 rfl (F.free 53 _ rfl) rfl (s_cons s_int (s_cons (s_op op_fdivW br_div (s_op op_addM br_add (s_op op_mulM br_mul (s_op op_mulM br_mul s_int s_int) (s_var (i := 18) rfl (.inl rfl))) (s_op op_mulM br_mul s_int (s_var (i := 19) rfl (.inl rfl)))) (s_op op_mulM br_mul s_int (s_var (i := 19) rfl (.inl rfl)))) s_nil))) s_nil))) rfl) (b_one (s_ret s_bl)) b_nil)
    (b_cons (s_asg (vs := [20, 25]) (s_tup (s_cons (s_make F 24 26 rfl rfl D_Counting___init__ (takes_of rfl rfl rfl rfl) (hr.mono (Nat.le_add_right_of_le l_Counting___init__)) rfl (al_cons (al_cons al_nil)) rfl (s_cons (s_var (i := 2) rfl (.inr (.inl rfl))) (s_cons (s_var (i := 3) rfl (.inl rfl)) s_nil))) (s_cons (s_op op_mulM br_mul (s_lst (s_cons s_int s_nil)) (s_var (i := 2) rfl (.inr (.inl rfl)))) s_nil))) (g_tup rfl (gs_cons (g_name (i := 25) hN rfl (.inr rfl) (.inl rfl) (by decide)) (gs_cons (g_name (i := 20) hN rfl (.inr rfl) (.inl rfl) (by decide)) gs_nil))))
    (b_cons (s_for (vs := [21]) (passes_of rfl) rfl (i_range1 rfl (F.free 55 _ rfl) (s_cons (s_fn D__law_roll (takes_of rfl rfl rfl rfl) (hr.mono (Nat.le_add_right_of_le l__law_roll)) rfl (al_cons (al_cons al_nil)) rfl (s_cons (s_var (i := 1) rfl (.inr (.inl rfl))) (s_cons s_int s_nil))) s_nil)) (g_name (i := 21) hN rfl (.inl rfl) (.inr rfl) (by decide)) (b_cons (s_set (i := 11) hN rfl (.inr rfl) (.inl rfl) (s_ix (s_op op_addM br_add (s_var (i := 9) rfl (.inl rfl)) (s_var (i := 12) rfl (.inl rfl))) (s_fn D__law_roll (takes_of rfl rfl rfl rfl) (hr.mono (Nat.le_add_right_of_le l__law_roll)) rfl (al_cons (al_cons al_nil)) rfl (s_cons (s_var (i := 1) rfl (.inr (.inl rfl))) (s_cons (s_callB call_lenM bc_len rfl (F.free 51 _ rfl) rfl (s_cons (s_op op_addM br_add (s_var (i := 9) rfl (.inl rfl)) (s_var (i := 12) rfl (.inl rfl))) s_nil)) s_nil)))))
    (b_cons (s_set (i := 10) hN rfl (.inr rfl) (.inl rfl) (s_fn D__law_bits (takes_of rfl rfl rfl rfl) (hr.mono (Nat.le_add_right_of_le l__law_bits)) rfl (al_cons (al_cons al_nil)) rfl (s_cons (s_var (i := 6) rfl (.inr (.inl rfl))) (s_cons (s_var (i := 11) rfl (.inr (.inl rfl))) s_nil))))
    (b_cons (s_set (i := 22) hN rfl (.inr rfl) (.inl rfl) (s_cmp (op_eqM hu) br_eq (s_lc (own := [("place", 27)]) rfl hN (i_any (s_var (i := 10) rfl (.inr (.inl rfl)))) (blkOk_by (by kernel_rfl)) (fun _ _ _ _ _ => (g_name (i := 27) hN rfl (by first | exact .inl rfl | exact .inr rfl) (by first | exact .inr rfl | exact .inl rfl) (by decide))) (fun _ _ _ _ _ => (ts_one (s_tcmp (op_eqM hu) br_eq (s_ix (s_var (i := 20) rfl (by first | exact .inr (.inr rfl) | exact .inl rfl | exact .inr (.inl rfl))) (s_var (i := 27) rfl (by first | exact .inr (.inr rfl) | exact .inl rfl | exact .inr (.inl rfl)))) s_int rfl))) (fun _ _ _ _ _ => (s_var (i := 27) rfl (by first | exact .inr (.inr rfl) | exact .inl rfl | exact .inr (.inl rfl))))) (s_lst s_nil) rfl))
    (b_cons (s_if (s_tcmp (op_neM hu) br_eq (s_ome F 25 29 rfl rfl D_Counting_may_be_in (takes_of rfl rfl rfl rfl) (hr.mono (Nat.le_add_right_of_le l_Counting_may_be_in)) (al_cons al_nil) rfl (s_var (i := 25) rfl (.inr (.inl rfl))) (s_cons (s_var (i := 11) rfl (.inr (.inl rfl))) s_nil)) (s_var (i := 22) rfl (.inr (.inl rfl))) rfl) (b_one (s_ret s_bl)) b_nil)
    (b_cons (s_if (s_tcmp (op_gtU hu) br_gtU (s_fn D__law_roll (takes_of rfl rfl rfl rfl) (hr.mono (Nat.le_add_right_of_le l__law_roll)) rfl (al_cons (al_cons al_nil)) rfl (s_cons (s_var (i := 1) rfl (.inr (.inl rfl))) (s_cons s_int s_nil))) s_int rfl) (b_one (s_asg (vs := [24, 23, 20]) (s_tup (s_cons (s_lc (own := [("k", 26), ("many", 28)]) rfl hN (i_enum rfl (F.free 49 _ rfl) (s_cons (s_var (i := 20) rfl (.inr (.inl rfl))) s_nil)) (blkOk_by (by kernel_rfl)) (fun _ _ _ _ _ => (g_tup rfl (gs_cons (g_name (i := 26) hN rfl (by first | exact .inl rfl | exact .inr rfl) (by first | exact .inr rfl | exact .inl rfl) (by decide)) (gs_cons (g_name (i := 28) hN rfl (by first | exact .inl rfl | exact .inr rfl) (by first | exact .inr rfl | exact .inl rfl) (by decide)) gs_nil)))) (fun _ _ _ _ _ => ts_nil) (fun _ _ _ _ _ => (s_callB (call_min2 rfl) bc_min2 rfl (F.free 54 _ rfl) rfl (s_cons s_int (s_cons (s_op op_addM br_add (s_var (i := 28) rfl (by first | exact .inr (.inr rfl) | exact .inl rfl | exact .inr (.inl rfl))) (s_callT call_int1 bc_int rfl (F.free 50 _ rfl) rfl (s_cons (s_cmp (op_inM hu5) br_in (s_var (i := 26) rfl (by first | exact .inr (.inr rfl) | exact .inl rfl | exact .inr (.inl rfl))) (s_var (i := 10) rfl (by first | exact .inr (.inr rfl) | exact .inl rfl | exact .inr (.inl rfl))) rfl) s_nil))) s_nil))))) (s_cons (s_told (k := k) T__law_told hr rfl (lam_at G 3 rfl rfl rfl rfl) (LamX.lamS_by (by kernel_rfl)) rfl (fun _ _ _ _ _ => rfl) (catch_of F (l := ["SieveError"]) (by intro c hc; simp only [List.mem_cons, List.not_mem_nil, or_false] at hc; rcases hc with hc <;> subst hc <;> first | exact ⟨60, rfl⟩)) (by decide +kernel) (by intro A outer s H E f c' L hr; have hu := hr.units; have hu5 := hr.units5; have hu1 := hr.units1; exact (s_ome F 25 27 rfl rfl D_Counting_add (takes_of rfl rfl rfl rfl) (roomE (hr.mono l_Counting_add)) (al_cons al_nil) rfl (s_var (i := 25) rfl (by first | exact .inr (.inr rfl) | exact .inl rfl | exact .inr (.inl rfl))) (s_cons (s_var (i := 11) rfl (by first | exact .inr (.inr rfl) | exact .inl rfl | exact .inr (.inl rfl))) s_nil)))) (s_cons s_bl s_nil)))) (g_tup rfl (gs_cons (g_name (i := 20) hN rfl (.inr rfl) (.inl rfl) (by decide)) (gs_cons (g_name (i := 23) hN rfl (.inl rfl) (.inr rfl) (by decide)) (gs_cons (g_name (i := 24) hN rfl (.inl rfl) (.inr rfl) (by decide)) gs_nil)))))) (b_one (s_asg (vs := [24, 23, 20]) (s_tup (s_cons (s_lc (own := [("k", 26), ("many", 28)]) rfl hN (i_enum rfl (F.free 49 _ rfl) (s_cons (s_var (i := 20) rfl (.inr (.inl rfl))) s_nil)) (blkOk_by (by kernel_rfl)) (fun _ _ _ _ _ => (g_tup rfl (gs_cons (g_name (i := 26) hN rfl (by first | exact .inl rfl | exact .inr rfl) (by first | exact .inr rfl | exact .inl rfl) (by decide)) (gs_cons (g_name (i := 28) hN rfl (by first | exact .inl rfl | exact .inr rfl) (by first | exact .inr rfl | exact .inl rfl) (by decide)) gs_nil)))) (fun _ _ _ _ _ => ts_nil) (fun _ _ _ _ _ => (s_op op_sub br_sub (s_var (i := 28) rfl (by first | exact .inr (.inr rfl) | exact .inl rfl | exact .inr (.inl rfl))) (s_callT call_int1 bc_int rfl (F.free 50 _ rfl) rfl (s_cons (s_andV (s_var (i := 22) rfl (by first | exact .inr (.inr rfl) | exact .inl rfl | exact .inr (.inl rfl))) (s_andV (s_cmp (op_inM hu5) br_in (s_var (i := 26) rfl (by first | exact .inr (.inr rfl) | exact .inl rfl | exact .inr (.inl rfl))) (s_var (i := 10) rfl (by first | exact .inr (.inr rfl) | exact .inl rfl | exact .inr (.inl rfl))) rfl) (s_one (s_cmp (op_ltU hu) br_ltU (s_var (i := 28) rfl (by first | exact .inr (.inr rfl) | exact .inl rfl | exact .inr (.inl rfl))) s_int rfl)))) s_nil))))) (s_cons (s_told (k := k) T__law_told hr rfl (lam_at G 3 rfl rfl rfl rfl) (LamX.lamS_by (by kernel_rfl)) rfl (fun _ _ _ _ _ => rfl) (catch_of F (l := ["SieveError"]) (by intro c hc; simp only [List.mem_cons, List.not_mem_nil, or_false] at hc; rcases hc with hc <;> subst hc <;> first | exact ⟨60, rfl⟩)) (by decide +kernel) (by intro A outer s H E f c' L hr; have hu := hr.units; have hu5 := hr.units5; have hu1 := hr.units1; exact (s_ome F 25 28 rfl rfl D_Counting_remove (takes_of rfl rfl rfl rfl) (roomE (hr.mono l_Counting_remove)) (al_cons al_nil) rfl (s_var (i := 25) rfl (by first | exact .inr (.inr rfl) | exact .inl rfl | exact .inr (.inl rfl))) (s_cons (s_var (i := 11) rfl (by first | exact .inr (.inr rfl) | exact .inl rfl | exact .inr (.inl rfl))) s_nil)))) (s_cons (s_var (i := 22) rfl (.inr (.inl rfl))) s_nil)))) (g_tup rfl (gs_cons (g_name (i := 20) hN rfl (.inr rfl) (.inl rfl) (by decide)) (gs_cons (g_name (i := 23) hN rfl (.inl rfl) (.inr rfl) (by decide)) (gs_cons (g_name (i := 24) hN rfl (.inl rfl) (.inr rfl) (by decide)) gs_nil)))))))
    (b_one (s_if (s_w (w_or (s_tcmp (op_neM hu) br_eq (s_cmp (op_neM hu) br_eq (s_var (i := 23) rfl (.inl rfl)) (s_str (by decide +kernel)) rfl) (s_var (i := 24) rfl (.inl rfl)) rfl) (w_or1 (s_tcmp (op_neM hu) br_eq (s_fld (clsF_cons F 25 31 rfl rfl clsF_nil) (s_var (i := 25) rfl (.inr (.inl rfl)))) (s_var (i := 20) rfl (.inr (.inl rfl))) rfl)))) (b_one (s_ret s_bl)) b_nil))))))))
    (b_cons (s_if (s_tcmp (op_neM hu) br_eq (s_fld (clsF_cons F 8 17 rfl rfl clsF_nil) (s_ome0 F 25 30 rfl rfl D_Counting_plain (takes_of rfl rfl rfl rfl) (hr.mono (Nat.le_add_right_of_le l_Counting_plain)) rfl (s_var (i := 25) rfl (.inr (.inl rfl))))) (s_lc (own := [("many", 28)]) rfl hN (i_any (s_var (i := 20) rfl (.inr (.inl rfl)))) (blkOk_by (by kernel_rfl)) (fun _ _ _ _ _ => (g_name (i := 28) hN rfl (by first | exact .inl rfl | exact .inr rfl) (by first | exact .inr rfl | exact .inl rfl) (by decide))) (fun _ _ _ _ _ => ts_nil) (fun _ _ _ _ _ => (s_callT call_int1 bc_int rfl (F.free 50 _ rfl) rfl (s_cons (s_cmp (op_gtU hu) br_gtU (s_var (i := 28) rfl (by first | exact .inr (.inr rfl) | exact .inl rfl | exact .inr (.inl rfl))) s_int rfl) s_nil)))) rfl) (b_one (s_ret s_bl)) b_nil)
    (b_one (s_if (s_not (s_val (s_fn D__law_sized (takes_of rfl rfl rfl rfl) (hr.mono (Nat.le_add_right_of_le l__law_sized)) rfl (al_cons (al_cons al_nil)) rfl (s_cons (s_var (i := 1) rfl (.inr (.inl rfl))) (s_cons (s_var (i := 3) rfl (.inl rfl)) s_nil))))) (b_one (s_ret s_bl)) b_nil)))))))))))))))))))))))
    (b_one (s_ret (s_fn0 D__law_plain (takes_of rfl rfl rfl rfl) (hr.mono (Nat.le_add_right_of_le l__law_plain)) rfl rfl))))
theorem TT__law_told (F : Fx fa fn K mg) : Told K mg "_law_told" "what" (He.ga K "_law_told") (He.ga K "SieveError") "SieveError" := told_of (d := d20) (Ng := ["what"]) F 20 36 2 rfl rfl rfl rfl rfl rfl rfl ⟨rfl, rfl, rfl, by decide +kernel, rfl, by decide +kernel, by decide +kernel⟩ rfl rfl (.inl rfl) rfl (fun _ _ _ _ _ _ us hl => match us, hl with | [_], _ => rfl)
end K04

set_option Elab.async false
set_option linter.all false
set_option maxRecDepth 100000
set_option maxHeartbeats 0
namespace K04
open PySem PySem.Spec PyProof.Rows L2 Mi
variable {P : Program} {w : World} {K : PySem.W.Frag} {mg : Str → Option Value} {base : Heap}
def r_mixed : MF := iso (trim (runF 4 (m_mixed)))
theorem D_mixed (F : Fx fa fn K mg) (G : TabsF K mg base tf) : DefOk P w K mg base (tf.map (tbOf K)) 1 "mixed" 2 [] r_mixed := ((B_mixed (k := 0) F G).sim (trim_sim _)).iso
def r_Sieve___init__ : MF := trim (runF 3 (m_Sieve___init__))
theorem D_Sieve___init__ (F : Fx fa fn K mg) (G : TabsF K mg base tf) : MethOk P w K mg base (tf.map (tbOf K)) 1 "Sieve" "__init__" 3 [] r_Sieve___init__ := (B_Sieve___init__ (k := 0) F G).sim (trim_sim _)
def r_Sieve_bits_of : MF := trim (runF 3 (m_Sieve_bits_of r_mixed))
theorem D_Sieve_bits_of (F : Fx fa fn K mg) (G : TabsF K mg base tf) : MethOk P w K mg base (tf.map (tbOf K)) 2 "Sieve" "bits_of" 2 [] r_Sieve_bits_of := (B_Sieve_bits_of (k := 1) F G (D_mixed F G) (by decide)).sim (trim_sim _)
def r_Sieve_put : MF := trim (runF 4 (m_Sieve_put r_Sieve_bits_of))
theorem D_Sieve_put (F : Fx fa fn K mg) (G : TabsF K mg base tf) : MethOk P w K mg base (tf.map (tbOf K)) 3 "Sieve" "put" 2 [] r_Sieve_put := (B_Sieve_put (k := 2) F G (D_Sieve_bits_of F G) (by decide)).sim (trim_sim _)
def r_Sieve_may_have : MF := trim (runF 3 (m_Sieve_may_have r_Sieve_bits_of))
theorem D_Sieve_may_have (F : Fx fa fn K mg) (G : TabsF K mg base tf) : MethOk P w K mg base (tf.map (tbOf K)) 4 "Sieve" "may_have" 2 [] r_Sieve_may_have := (B_Sieve_may_have (k := 2) F G (D_Sieve_bits_of F G) (by decide)).sim (trim_sim _)
def r_Sieve_filled : MF := trim (runF 1 (m_Sieve_filled))
theorem D_Sieve_filled (F : Fx fa fn K mg) (G : TabsF K mg base tf) : MethOk P w K mg base (tf.map (tbOf K)) 1 "Sieve" "filled" 1 [] r_Sieve_filled := (B_Sieve_filled (k := 0) F G).sim (trim_sim _)
def r_Sieve_wrong_of : MF := trim (runF 3 (m_Sieve_wrong_of r_Sieve_may_have))
theorem D_Sieve_wrong_of (F : Fx fa fn K mg) (G : TabsF K mg base tf) : MethOk P w K mg base (tf.map (tbOf K)) 5 "Sieve" "wrong_of" 2 [] r_Sieve_wrong_of := (B_Sieve_wrong_of (k := 4) F G (D_Sieve_may_have F G) (by decide)).sim (trim_sim _)
def r_Sieve_joined_with : MF := trim (runF 5 (m_Sieve_joined_with r_Sieve___init__))
theorem D_Sieve_joined_with (F : Fx fa fn K mg) (G : TabsF K mg base tf) : MethOk P w K mg base (tf.map (tbOf K)) 3 "Sieve" "joined_with" 2 [] r_Sieve_joined_with := (B_Sieve_joined_with (k := 2) F G (D_Sieve___init__ F G) (by decide)).sim (trim_sim _)
def r_Sieve_folded : MF := trim (runF 3 (m_Sieve_folded r_Sieve___init__))
theorem D_Sieve_folded (F : Fx fa fn K mg) (G : TabsF K mg base tf) : MethOk P w K mg base (tf.map (tbOf K)) 3 "Sieve" "folded" 1 [] r_Sieve_folded := (B_Sieve_folded (k := 2) F G (D_Sieve___init__ F G) (by decide)).sim (trim_sim _)
def r_best_turns : MF := iso (trim (runF 2 (m_best_turns)))
theorem D_best_turns (F : Fx fa fn K mg) (G : TabsF K mg base tf) : DefOk P w K mg base (tf.map (tbOf K)) 1 "best_turns" 2 [] r_best_turns := ((B_best_turns (k := 0) F G).sim (trim_sim _)).iso
def r_odds : MF := iso (trim (runF 7 (m_odds)))
theorem D_odds (F : Fx fa fn K mg) (G : TabsF K mg base tf) : DefOk P w K mg base (tf.map (tbOf K)) 1 "odds" 2 [] r_odds := ((B_odds (k := 0) F G).sim (trim_sim _)).iso
def r_size_for : MF := iso (trim (runF 6 (m_size_for r_Sieve___init__ r_Sieve_put r_Sieve_wrong_of)))
theorem D_size_for (F : Fx fa fn K mg) (G : TabsF K mg base tf) : DefOk P w K mg base (tf.map (tbOf K)) 6 "size_for" 3 [] r_size_for := ((B_size_for (k := 5) F G (D_Sieve___init__ F G) (by decide) (D_Sieve_put F G) (by decide) (D_Sieve_wrong_of F G) (by decide)).sim (trim_sim _)).iso
def r_Counting___init__ : MF := trim (runF 3 (m_Counting___init__ r_Sieve___init__))
theorem D_Counting___init__ (F : Fx fa fn K mg) (G : TabsF K mg base tf) : MethOk P w K mg base (tf.map (tbOf K)) 3 "Counting" "__init__" 3 [] r_Counting___init__ := (B_Counting___init__ (k := 2) F G (D_Sieve___init__ F G) (by decide)).sim (trim_sim _)
def r_Counting_add : MF := trim (runF 3 (m_Counting_add r_Sieve_bits_of))
theorem D_Counting_add (F : Fx fa fn K mg) (G : TabsF K mg base tf) : MethOk P w K mg base (tf.map (tbOf K)) 3 "Counting" "add" 2 [] r_Counting_add := (B_Counting_add (k := 2) F G (D_Sieve_bits_of F G) (by decide)).sim (trim_sim _)
def r_Counting_may_be_in : MF := trim (runF 3 (m_Counting_may_be_in r_Sieve_bits_of))
theorem D_Counting_may_be_in (F : Fx fa fn K mg) (G : TabsF K mg base tf) : MethOk P w K mg base (tf.map (tbOf K)) 4 "Counting" "may_be_in" 2 [] r_Counting_may_be_in := (B_Counting_may_be_in (k := 2) F G (D_Sieve_bits_of F G) (by decide)).sim (trim_sim _)
def r_Counting_remove : MF := trim (runF 3 (m_Counting_remove r_Counting_may_be_in r_Sieve_bits_of))
theorem D_Counting_remove (F : Fx fa fn K mg) (G : TabsF K mg base tf) : MethOk P w K mg base (tf.map (tbOf K)) 5 "Counting" "remove" 2 [] r_Counting_remove := (B_Counting_remove (k := 4) F G (D_Counting_may_be_in F G) (by decide) (D_Sieve_bits_of F G) (by decide)).sim (trim_sim _)
def r_Counting_plain : MF := trim (runF 3 (m_Counting_plain r_Sieve___init__))
theorem D_Counting_plain (F : Fx fa fn K mg) (G : TabsF K mg base tf) : MethOk P w K mg base (tf.map (tbOf K)) 3 "Counting" "plain" 1 [] r_Counting_plain := (B_Counting_plain (k := 2) F G (D_Sieve___init__ F G) (by decide)).sim (trim_sim _)
def r__law_dice : MF := trim (runF 1 (m__law_dice))
theorem D__law_dice (F : Fx fa fn K mg) (G : TabsF K mg base tf) : DefOk P w K mg base (tf.map (tbOf K)) 1 "_law_dice" 1 [] r__law_dice := (B__law_dice (k := 0) F G).sim (trim_sim _)
def z__law_roll : MF := fun _ _ => .bad
def y__law_roll : MF := runF 3 (m__law_roll z__law_roll)
def r__law_roll : MF := trim (runF 3 (m__law_roll y__law_roll))
theorem D__law_roll (F : Fx fa fn K mg) (G : TabsF K mg base tf) : DefOk P w K mg base (tf.map (tbOf K)) 3 "_law_roll" 2 [] r__law_roll := by
  have Z : DefOk P w K mg base (tf.map (tbOf K)) 1 "_law_roll" 2 [] z__law_roll := def_bad (d := d18) (N := ["dice", "many", "found"]) (ps := ["dice", "many"]) F 18 34 rfl rfl rfl ⟨rfl, rfl, rfl, by decide +kernel, rfl, by decide +kernel, by decide +kernel⟩ (bd_all rfl fun _ _ _ _ _ _ us hl => match us, hl with | [_, _], _ => rfl)
  have Y := B__law_roll (k := 1) F G Z (by decide)
  exact (B__law_roll (k := 2) F G Y (by decide)).sim (trim_sim _)
def r__law_rounds : MF := trim (runF 4 (m__law_rounds r__law_dice))
theorem D__law_rounds (F : Fx fa fn K mg) (G : TabsF K mg base tf) : DefOk P w K mg base (tf.map (tbOf K)) 2 "_law_rounds" 2 [] r__law_rounds := (B__law_rounds (k := 1) F G (D__law_dice F G) (by decide)).sim (trim_sim _)
def r__law_mixed : MF := iso (trim (runF 8 (m__law_mixed)))
theorem D__law_mixed (F : Fx fa fn K mg) (G : TabsF K mg base tf) : DefOk P w K mg base (tf.map (tbOf K)) 1 "_law_mixed" 2 [] r__law_mixed := ((B__law_mixed (k := 0) F G).sim (trim_sim _)).iso
def r__law_bits : MF := trim (runF 3 (m__law_bits r__law_mixed))
theorem D__law_bits (F : Fx fa fn K mg) (G : TabsF K mg base tf) : DefOk P w K mg base (tf.map (tbOf K)) 2 "_law_bits" 2 [] r__law_bits := (B__law_bits (k := 1) F G (D__law_mixed F G) (by decide)).sim (trim_sim _)
def r__law_key : MF := trim (runF 2 (m__law_key r__law_roll))
theorem D__law_key (F : Fx fa fn K mg) (G : TabsF K mg base tf) : DefOk P w K mg base (tf.map (tbOf K)) 4 "_law_key" 1 [] r__law_key := (B__law_key (k := 3) F G (D__law_roll F G) (by decide)).sim (trim_sim _)
def r__law_power : MF := iso (trim (runF 4 (m__law_power)))
theorem D__law_power (F : Fx fa fn K mg) (G : TabsF K mg base tf) : DefOk P w K mg base (tf.map (tbOf K)) 1 "_law_power" 2 [] r__law_power := ((B__law_power (k := 0) F G).sim (trim_sim _)).iso
def r__law_held : MF := trim (runF 5 (m__law_held r__law_bits))
theorem D__law_held (F : Fx fa fn K mg) (G : TabsF K mg base tf) : DefOk P w K mg base (tf.map (tbOf K)) 3 "_law_held" 2 [] r__law_held := (B__law_held (k := 2) F G (D__law_bits F G) (by decide)).sim (trim_sim _)
def r__law_plain : MF := iso (trim (runF 5 (m__law_plain r_Sieve___init__ r_mixed r_Sieve_joined_with r_Sieve_folded r_best_turns r_odds r_size_for r_Counting___init__ r_Counting_remove r_Counting_may_be_in r_Counting_plain r_Sieve_filled r_Sieve_may_have r_Sieve_wrong_of r_Sieve_put r_Counting_add)))
theorem D__law_plain (F : Fx fa fn K mg) (G : TabsF K mg base tf) : DefOk P w K mg base (tf.map (tbOf K)) 9 "_law_plain" 0 [] r__law_plain := ((B__law_plain (k := 6) F G (D_Sieve___init__ F G) (by decide) (D_mixed F G) (by decide) (D_Sieve_joined_with F G) (by decide) (D_Sieve_folded F G) (by decide) (D_best_turns F G) (by decide) (D_odds F G) (by decide) (D_size_for F G) (by decide) (D_Counting___init__ F G) (by decide) (D_Counting_remove F G) (by decide) (D_Counting_may_be_in F G) (by decide) (D_Counting_plain F G) (by decide) (D_Sieve_filled F G) (by decide) (D_Sieve_may_have F G) (by decide) (D_Sieve_wrong_of F G) (by decide) (D_Sieve_put F G) (by decide) (D_Counting_add F G) (by decide) (TT__law_told F)).sim (trim_sim _)).iso
def r__law_sized : MF := trim (runF 13 (m__law_sized r__law_roll r__law_key r__law_held r__law_bits r_size_for))
theorem D__law_sized (F : Fx fa fn K mg) (G : TabsF K mg base tf) : DefOk P w K mg base (tf.map (tbOf K)) 7 "_law_sized" 2 [] r__law_sized := (B__law_sized (k := 6) F G (D__law_roll F G) (by decide) (D__law_key F G) (by decide) (D__law_held F G) (by decide) (D__law_bits F G) (by decide) (D_size_for F G) (by decide)).sim (trim_sim _)
def r_law : MF := runF 29 (m_law r__law_rounds r__law_roll r_Sieve___init__ r__law_key r__law_bits r_Sieve_put r_Sieve_bits_of r_Sieve_filled r_Sieve_may_have r_Sieve_wrong_of r_Sieve_joined_with r_Sieve_folded r_odds r__law_power r_best_turns r_Counting___init__ r_Counting_may_be_in r_Counting_add r_Counting_remove r_Counting_plain r__law_sized r__law_plain)
theorem D_law (F : Fx fa fn K mg) (G : TabsF K mg base tf) {fd : FuncData} (FD : FunD K d28.name d28.qual d28.params d28.body d28.scope (d28.dvs K) (d28.kws K) (He.ga K "law") fd) : FnOk P w K mg base (L2.CX P w) 12 (He.ga K "law") fd ["script"] (spF K (tf.map (tbOf K)) 1 r_law) := B_law (k := 9) F G (D__law_rounds F G) (by decide) (D__law_roll F G) (by decide) (D_Sieve___init__ F G) (by decide) (D__law_key F G) (by decide) (D__law_bits F G) (by decide) (D_Sieve_put F G) (by decide) (D_Sieve_bits_of F G) (by decide) (D_Sieve_filled F G) (by decide) (D_Sieve_may_have F G) (by decide) (D_Sieve_wrong_of F G) (by decide) (D_Sieve_joined_with F G) (by decide) (D_Sieve_folded F G) (by decide) (D_odds F G) (by decide) (D__law_power F G) (by decide) (D_best_turns F G) (by decide) (D_Counting___init__ F G) (by decide) (D_Counting_may_be_in F G) (by decide) (D_Counting_add F G) (by decide) (D_Counting_remove F G) (by decide) (D_Counting_plain F G) (by decide) (D__law_sized F G) (by decide) (D__law_plain F G) (by decide) (TT__law_told F) FD
end K04

set_option Elab.async false
set_option linter.all false
set_option maxRecDepth 100000
set_option maxHeartbeats 1000000
namespace K04
open PySem PySem.Spec PyProof.Rows L2 Mi
/-! ## dice -/
abbrev Dh (hc : Cells) (a b c : Int) : Cells := .lst [pI a, pI b, pI c] :: hc
/-- a roll came to v, the dice moved on -/
def Rolled (hc : Cells) (o : Out PV) (P : PV → Prop) : Prop := ∃ v a b c, o = .ok v (Dh hc a b c) ∧ P v
def isI (m : Int) (v : PV) : Prop := ∃ i : Int, v = pI i ∧ 0 ≤ i ∧ i < m
theorem roll_low {hc : Cells} (f : MF) (a b c m : Int) (h1 : 1 ≤ m) (h2 : m ≤ 100000000) : Rolled hc (runF 3 (m__law_roll f) [.r 0, pI m] (Dh hc a b c)) (isI m) := by
  have hm : 0 < m := by omega
  have hm2 : m < 18446744073709551616 := by omega
  have c0 : mOr (mTb (mBin (opEq true) (mBin opIx (mV 0) (mK (.d (.int 2)))) (mK (.d (.int 2))))) (mAnd (mTb (mBin (opEq true) (mBin opIx (mV 0) (mK (.d (.int 2)))) (mK (.d (.int 1))))) (mTb (mBin oGt (mBin opIx (mV 0) (mK (.d (.int 0)))) (mK (.d (.int 0)))))) [some (.r 0), some (pI m), none] (Dh hc a b c) = .ok (c == 2 || (c == 1 && decide (0 < a))) (Dh hc a b c) := by
    have i2 : opIx (.r 0) (.d (.int 2)) (Dh hc a b c) = .ok (pI c) (Dh hc a b c) := rfl
    have i0 : opIx (.r 0) (.d (.int 0)) (Dh hc a b c) = .ok (pI a) (Dh hc a b c) := rfl
    simp only [mOr_eq, mAnd_eq, mTb_eq, mBin_eq, mV_0, mK_eq, bind_ok, i2, i0, veq, vgt, if_true]
    cases (c == 2) <;> cases (c == 1) <;> rfl
  by_cases q : (c == 2 || (c == 1 && decide (0 < a))) = true
  · rw [q] at c0
    refine ⟨pI (a % m), a / m, b, c, runF_rt ?_, a % m, rfl, Int.emod_nonneg _ (by omega), Int.emod_lt_of_pos _ hm⟩
    unfold m__law_roll
    simp only [List.map_cons, List.map_nil, List.length_cons, List.length_nil, Nat.reduceAdd, Nat.reduceSub, List.replicate, List.cons_append, List.nil_append]
    refine seq_rt ((if_yes c0).trans ?_)
    have e1 : mAsg (mBin opMod (mCall biInt (aCons (mBin opIx (mV 0) (mK (.d (.int 0)))) aNil)) (mV 1)) (gN 2) [some (.r 0), some (pI m), none] (Dh hc a b c) = .nx [some (.r 0), some (pI m), some (pI (a % m))] (Dh hc a b c) := by
      have i0 : opIx (.r 0) (.d (.int 0)) (Dh hc a b c) = .ok (pI a) (Dh hc a b c) := rfl
      have bi : biInt [pI a] (Dh hc a b c) = .ok (pI a) (Dh hc a b c) := rfl
      simp only [mAsg_eq, mBin_eq, mCall_eq, aCons_eq, mV_0, mV_1, mK_eq, bind_ok, i0, aNil_eq, bi, vmod _ _ _ hm, toS_ok, gN_eq, List.set_cons_succ, List.set_cons_zero]
    have e2 : mAsg (mBin opDiv (mBin opIx (mV 0) (mK (.d (.int 0)))) (mV 1)) (gIx (mV 0) (mK (.d (.int 0)))) [some (.r 0), some (pI m), some (pI (a % m))] (Dh hc a b c) = .nx [some (.r 0), some (pI m), some (pI (a % m))] (Dh hc (a / m) b c) := by
      have i0 : opIx (.r 0) (.d (.int 0)) (Dh hc a b c) = .ok (pI a) (Dh hc a b c) := rfl
      simp only [mAsg_eq, mBin_eq, mV_0, mV_1, mK_eq, bind_ok, i0, vdiv _ _ _ hm hm2, toS_ok]
      rfl
    rw [seq_nx e1, seq_nx e2]
    rfl
  · have q' : (c == 2 || (c == 1 && decide (0 < a))) = false := by simpa using q
    rw [q'] at c0
    refine ⟨pI ((a * 48271 + b * 69621 + 11) % 2147483647 / 7 % m), (a * 48271 + b * 69621 + 11) % 2147483647, b + 1, 0, runF_rt ?_, _, rfl, Int.emod_nonneg _ (by omega), Int.emod_lt_of_pos _ hm⟩
    unfold m__law_roll
    simp only [List.map_cons, List.map_nil, List.length_cons, List.length_nil, Nat.reduceAdd, Nat.reduceSub, List.replicate, List.cons_append, List.nil_append]
    rw [seq_nx (if_no c0)]
    have e1 : mAsg (mK (.d (.int 0))) (gIx (mV 0) (mK (.d (.int 2)))) [some (.r 0), some (pI m), none] (Dh hc a b c) = .nx [some (.r 0), some (pI m), none] (Dh hc a b 0) := rfl
    rw [seq_nx e1]
    have c1 : mTb (mBin oGt (mV 1) (mK (.d (.int 100000000)))) [some (.r 0), some (pI m), none] (Dh hc a b 0) = .ok false (Dh hc a b 0) := by
      simp only [mTb_eq, mBin_eq, mV_1, mK_eq, bind_ok, vgt, show ¬ (100000000 < m) by omega, decide_false]
    rw [seq_nx (if_no c1)]
    have e2 : mAsg (mBin opMod (mCall biInt (aCons (mBin opAdd (mBin opAdd (mBin opMul (mBin opIx (mV 0) (mK (.d (.int 0)))) (mK (.d (.int 48271)))) (mBin opMul (mBin opIx (mV 0) (mK (.d (.int 1)))) (mK (.d (.int 69621))))) (mK (.d (.int 11)))) aNil)) (mK (.d (.int 2147483647)))) (gIx (mV 0) (mK (.d (.int 0)))) [some (.r 0), some (pI m), none] (Dh hc a b 0) = .nx [some (.r 0), some (pI m), none] (Dh hc ((a * 48271 + b * 69621 + 11) % 2147483647) b 0) := by
      have i0 : opIx (.r 0) (.d (.int 0)) (Dh hc a b 0) = .ok (pI a) (Dh hc a b 0) := rfl
      have i1 : opIx (.r 0) (.d (.int 1)) (Dh hc a b 0) = .ok (pI b) (Dh hc a b 0) := rfl
      have bi : ∀ x : Int, biInt [pI x] (Dh hc a b 0) = .ok (pI x) (Dh hc a b 0) := fun _ => rfl
      have m1 : mulOk a 48271 = true := mulOk_r (by omega) (by omega)
      have m2 : mulOk b 69621 = true := mulOk_r (by omega) (by omega)
      simp only [mAsg_eq, mBin_eq, mCall_eq, aCons_eq, mV_0, mK_eq, bind_ok, i0, i1, aNil_eq, vmul _ _ _ m1, vmul _ _ _ m2, vadd, bi, vmod _ _ _ (show (0 : Int) < 2147483647 by omega), toS_ok]
      rfl
    rw [seq_nx e2]
    generalize (a * 48271 + b * 69621 + 11) % 2147483647 = x
    have e3 : mAsg (mBin opAdd (mBin opIx (mV 0) (mK (.d (.int 1)))) (mK (.d (.int 1)))) (gIx (mV 0) (mK (.d (.int 1)))) [some (.r 0), some (pI m), none] (Dh hc x b 0) = .nx [some (.r 0), some (pI m), none] (Dh hc x (b + 1) 0) := rfl
    rw [seq_nx e3]
    have i0 : opIx (.r 0) (.d (.int 0)) (Dh hc x (b + 1) 0) = .ok (pI x) (Dh hc x (b + 1) 0) := rfl
    have bi : ∀ x' : Int, biInt [pI x'] (Dh hc x (b + 1) 0) = .ok (pI x') (Dh hc x (b + 1) 0) := fun _ => rfl
    simp only [mRet_eq, mBin_eq, mCall_eq, aCons_eq, mV_0, mV_1, mK_eq, bind_ok, i0, aNil_eq, vdiv _ _ _ (show (0 : Int) < 7 by omega) (show (7 : Int) < 18446744073709551616 by omega), bi, vmod _ _ _ hm, toS_ok]
theorem roll_high {hc : Cells} (f : MF) (k : ∀ a b c m, 1 ≤ m → m ≤ 100000000 → Rolled hc (f [.r 0, pI m] (Dh hc a b c)) (isI m)) (a b c m : Int) (h1 : 1 ≤ m) (h2 : m ≤ 1000000000001) : Rolled hc (runF 3 (m__law_roll f) [.r 0, pI m] (Dh hc a b c)) (isI m) := by
  by_cases hl : m ≤ 100000000
  · exact roll_low f a b c m h1 hl
  have hm : 0 < m := by omega
  have hm2 : m < 18446744073709551616 := by omega
  have c0 : mOr (mTb (mBin (opEq true) (mBin opIx (mV 0) (mK (.d (.int 2)))) (mK (.d (.int 2))))) (mAnd (mTb (mBin (opEq true) (mBin opIx (mV 0) (mK (.d (.int 2)))) (mK (.d (.int 1))))) (mTb (mBin oGt (mBin opIx (mV 0) (mK (.d (.int 0)))) (mK (.d (.int 0)))))) [some (.r 0), some (pI m), none] (Dh hc a b c) = .ok (c == 2 || (c == 1 && decide (0 < a))) (Dh hc a b c) := by
    have i2 : opIx (.r 0) (.d (.int 2)) (Dh hc a b c) = .ok (pI c) (Dh hc a b c) := rfl
    have i0 : opIx (.r 0) (.d (.int 0)) (Dh hc a b c) = .ok (pI a) (Dh hc a b c) := rfl
    simp only [mOr_eq, mAnd_eq, mTb_eq, mBin_eq, mV_0, mK_eq, bind_ok, i2, i0, veq, vgt, if_true]
    cases (c == 2) <;> cases (c == 1) <;> rfl
  by_cases q : (c == 2 || (c == 1 && decide (0 < a))) = true
  · rw [q] at c0
    refine ⟨pI (a % m), a / m, b, c, runF_rt ?_, a % m, rfl, Int.emod_nonneg _ (by omega), Int.emod_lt_of_pos _ hm⟩
    unfold m__law_roll
    simp only [List.map_cons, List.map_nil, List.length_cons, List.length_nil, Nat.reduceAdd, Nat.reduceSub, List.replicate, List.cons_append, List.nil_append]
    refine seq_rt ((if_yes c0).trans ?_)
    have e1 : mAsg (mBin opMod (mCall biInt (aCons (mBin opIx (mV 0) (mK (.d (.int 0)))) aNil)) (mV 1)) (gN 2) [some (.r 0), some (pI m), none] (Dh hc a b c) = .nx [some (.r 0), some (pI m), some (pI (a % m))] (Dh hc a b c) := by
      have i0 : opIx (.r 0) (.d (.int 0)) (Dh hc a b c) = .ok (pI a) (Dh hc a b c) := rfl
      have bi : biInt [pI a] (Dh hc a b c) = .ok (pI a) (Dh hc a b c) := rfl
      simp only [mAsg_eq, mBin_eq, mCall_eq, aCons_eq, mV_0, mV_1, mK_eq, bind_ok, i0, aNil_eq, bi, vmod _ _ _ hm, toS_ok, gN_eq, List.set_cons_succ, List.set_cons_zero]
    have e2 : mAsg (mBin opDiv (mBin opIx (mV 0) (mK (.d (.int 0)))) (mV 1)) (gIx (mV 0) (mK (.d (.int 0)))) [some (.r 0), some (pI m), some (pI (a % m))] (Dh hc a b c) = .nx [some (.r 0), some (pI m), some (pI (a % m))] (Dh hc (a / m) b c) := by
      have i0 : opIx (.r 0) (.d (.int 0)) (Dh hc a b c) = .ok (pI a) (Dh hc a b c) := rfl
      simp only [mAsg_eq, mBin_eq, mV_0, mV_1, mK_eq, bind_ok, i0, vdiv _ _ _ hm hm2, toS_ok]
      rfl
    rw [seq_nx e1, seq_nx e2]
    rfl
  · have q' : (c == 2 || (c == 1 && decide (0 < a))) = false := by simpa using q
    rw [q'] at c0
    obtain ⟨v1, a1, b1, c1, r1, i1, rfl, l1, u1⟩ := k a b 0 (m / 100000000 + 1) (by omega) (by omega)
    obtain ⟨v2, a2, b2, c2, r2, i2, rfl, l2, u2⟩ := k a1 b1 c1 100000000 (by omega) (by omega)
    refine ⟨pI ((i1 * 100000000 + i2) % m), a2, b2, c2, runF_rt ?_, _, rfl, Int.emod_nonneg _ (by omega), Int.emod_lt_of_pos _ hm⟩
    unfold m__law_roll
    simp only [List.map_cons, List.map_nil, List.length_cons, List.length_nil, Nat.reduceAdd, Nat.reduceSub, List.replicate, List.cons_append, List.nil_append]
    rw [seq_nx (if_no c0)]
    have e1 : mAsg (mK (.d (.int 0))) (gIx (mV 0) (mK (.d (.int 2)))) [some (.r 0), some (pI m), none] (Dh hc a b c) = .nx [some (.r 0), some (pI m), none] (Dh hc a b 0) := rfl
    rw [seq_nx e1]
    have c1' : mTb (mBin oGt (mV 1) (mK (.d (.int 100000000)))) [some (.r 0), some (pI m), none] (Dh hc a b 0) = .ok true (Dh hc a b 0) := by
      simp only [mTb_eq, mBin_eq, mV_1, mK_eq, bind_ok, vgt, show (100000000 < m) by omega, decide_true]
    have bi : ∀ (x' : Int) (h : Cells), biInt [pI x'] h = .ok (pI x') h := fun _ _ => rfl
    have m1 : mulOk i1 100000000 = true := mulOk_r (by omega) (by omega)
    refine seq_rt ((if_yes c1').trans ?_)
    simp only [mRet_eq, mBin_eq, mCall_eq, mCallD_eq, aCons_eq, mV_0, mV_1, mK_eq, bind_ok, aNil_eq, List.append_nil, vdiv _ _ _ (show (0 : Int) < 100000000 by omega) (show (100000000 : Int) < 18446744073709551616 by omega), vadd, r1, vmul _ _ _ m1, r2, bi, vmod _ _ _ hm, toS_ok]
theorem trim_rolled {hc : Cells} {f : MF} {m : Int} {ps : List PV} {a b c : Int} {P : PV → Prop} (h : Rolled hc (f ps (Dh hc a b c)) P) : Rolled hc (trim f ps (Dh hc a b c)) P := by
  obtain ⟨v, a1, b1, c1, e, p⟩ := h
  exact ⟨v, a1, b1, c1, trim_same e rfl, p⟩
theorem s_roll (hc : Cells) (a b c m : Int) (h1 : 1 ≤ m) (h2 : m ≤ 1000000000001) : Rolled hc (r__law_roll [.r 0, pI m] (Dh hc a b c)) (isI m) :=
  trim_rolled (m := m) (roll_high _ (fun a b c m h1 h2 => roll_low _ a b c m h1 h2) a b c m h1 h2)
theorem s_dice (n : Int) : ∃ a b c, r__law_dice [pI n] [] = .ok (.r 0) (Dh [] a b c) := by
  have e : ∃ a b c, runF 1 m__law_dice [pI n] [] = .ok (.r 0) (Dh [] a b c) := by
    by_cases q : -10 < n ∧ n < 10
    · refine ⟨if n < 0 then -n else n, 0, 2, runF_rt ?_⟩
      unfold m__law_dice
      refine seq_rt ((if_yes (h1 := []) ?_).trans ?_)
      · simp [q.1, q.2]
      · simp [biAbs, sz]
    · have p : (10 : Int) ^ (18 : Nat) = 1000000000000000000 := by decide
      have ow : opPow (pI 10) (pI 18) [] = .ok (pI 1000000000000000000) [] := rfl
      refine ⟨n, 1 + n % 1009, if 1000000000000000000 ≤ n then 1 else 0, runF_rt ?_⟩
      unfold m__law_dice
      rw [seq_nx (if_no (h1 := []) ?_)]
      · have bi : biInt [pI n] [] = .ok (pI n) [] := rfl
        have bb : biInt [pB (decide (1000000000000000000 ≤ n))] [] = .ok (pI (if 1000000000000000000 ≤ n then 1 else 0)) [] := by
          simp [biInt]
        simp only [List.map_cons, List.map_nil, List.length_cons, List.length_nil, Nat.sub_self, List.replicate, List.cons_append, List.nil_append, mRet_eq, mCell_eq, aCons_eq, mV_0, bind_ok, mBin_eq, mK_eq, mCall_eq, aNil_eq, bi, vmod _ _ _ (show (0 : Int) < 1009 by omega), vadd, ow, vge, bb, Nat.zero_add, Nat.reduceAdd, sz 3 (by omega), if_true, toS_ok]
      · by_cases q1 : -10 < n
        · simp [q1, show ¬ n < 10 by omega]
        · simp [q1]
  obtain ⟨a, b, c, e⟩ := e
  refine ⟨a, b, c, ?_⟩
  unfold r__law_dice trim
  rw [e]; rfl
theorem s_rounds (ns : List Int) : ∃ a b c, r__law_rounds [.sc ns, pI 1] [] = .ok (.ls [.r 0]) (Dh [] a b c) := by
  suffices e : ∃ a b c, runF 4 (m__law_rounds r__law_dice) [.sc ns, pI 1] [] = .ok (.ls [.r 0]) (Dh [] a b c) by
    obtain ⟨a, b, c, e⟩ := e
    refine ⟨a, b, c, ?_⟩
    unfold r__law_rounds trim
    rw [e]; rfl
  have fin : ∀ n : Int, ∃ a b c, mRet (mLc (iAny (mV 2)) (gN 3) mYes (mCallD r__law_dice [] (aCons (mV 3) aNil)) [3]) [some (.sc ns), some (pI 1), some (pL (pIs [n])), none] [] = .rt (.ls [.r 0]) (Dh [] a b c) := fun n => by
    obtain ⟨a, b, c, d⟩ := s_dice n
    refine ⟨a, b, c, ?_⟩
    have it := any_pL (f := mV 2) (e := [some (.sc ns), some (pI 1), some (pL (pIs [n])), none]) (h := []) (ds := pIs [n]) rfl
    rw [mRet_eq, mLc_eq it]
    simp only [lcL, List.map_cons, List.map_nil, gd_none, if_true, wipeE, List.set_cons_succ, List.set_cons_zero, gN_eq, mYes, calm_ok, mCallD_eq, aCons_eq, mV_3, bind_ok, aNil_eq, List.append_nil, d, List.length_nil, sz _ (show 0 + 1 ≤ 16777216 by omega)]
    rfl
  have s1 : mAsg (mSl (mV 0) oNo (oSo (mV 1))) (gN 2) [some (.sc ns), some (pI 1), none, none] [] = .nx [some (.sc ns), some (pI 1), some (pL (pIs (ns.take 1))), none] [] := by
    have := cut_to ns 1
    simp only [mAsg_eq, mSl_eq, mV_0, mV_1, oNo_eq, oSo_eq, bind_ok, opSl, toS_ok, gN_eq, List.set_cons_succ, List.set_cons_zero]
    rw [show (1 : Int) = ((1 : Nat) : Int) from rfl, this]
  have cq : ∀ l : List Int, mTb (mBin (opEq true) (mV 2) (mLst aNil)) [some (.sc ns), some (pI 1), some (pL (pIs l)), none] [] = .ok (decide (l = [])) [] := fun l => by
    have : mkL [] = pL (pIs []) := rfl
    simp only [mTb_eq, mBin_eq, mV_2, mLst_eq, aNil_eq, bind_ok, List.length_nil, sz 0 (by omega), if_true, this, eq_ints_l]
  have go : ∀ n, ∃ E, (runF 4 (m__law_rounds r__law_dice) [.sc ns, pI 1] [] = match mRet (mLc (iAny (mV 2)) (gN 3) mYes (mCallD r__law_dice [] (aCons (mV 3) aNil)) [3]) [some (.sc ns), some (pI 1), some (pL (pIs [n])), none] [] with
      | .rt v h => .ok v h
      | _ => E) ∨ ns.take 1 ≠ [n] ∧ (ns ≠ [] ∨ n ≠ 0) := fun n => by
    refine ⟨.bad, ?_⟩
    by_cases q : ns.take 1 = [n] ∨ (ns = [] ∧ n = 0)
    · left
      obtain ⟨a, b, c, f⟩ := fin n
      rw [f]
      refine runF_rt ?_
      unfold m__law_rounds
      simp only [List.map_cons, List.map_nil, List.length_cons, List.length_nil, Nat.reduceAdd, Nat.reduceSub, List.replicate, List.cons_append, List.nil_append]
      rw [seq_nx s1]
      rcases q with q | ⟨q, rfl⟩
      · rw [q, seq_nx (if_no (h1 := []) ((cq [n]).trans (by simp))), f]
      · subst q
        have : mAsg (mLst (aCons (mK (.d (.int 0))) aNil)) (gN 2) [some (.sc []), some (pI 1), some (pL (pIs [])), none] [] = .nx [some (.sc []), some (pI 1), some (pL (pIs [0])), none] [] := by
          have e : mkL [pI 0] = pL (pIs [0]) := rfl
          simp only [mAsg_eq, mLst_eq, aCons_eq, mK_eq, bind_ok, aNil_eq, List.length_cons, List.length_nil, Nat.zero_add, sz 1 (by omega), if_true, e, toS_ok, gN_eq, List.set_cons_succ, List.set_cons_zero]
        have c2 := (cq []).trans (show _ = Out.ok true [] by simp)
        rw [List.take_nil, seq_nx ((if_yes c2).trans this), f]
    · right
      exact ⟨fun x => q (.inl x), by by_cases z : ns = []; exact .inr (fun w => q (.inr ⟨z, w⟩)); exact .inl z⟩
  have key : ∃ n, ns.take 1 = [n] ∨ (ns = [] ∧ n = 0) := by
    cases ns with
    | nil => exact ⟨0, .inr ⟨rfl, rfl⟩⟩
    | cons n r => exact ⟨n, .inl rfl⟩
  obtain ⟨n, kn⟩ := key
  obtain ⟨E, g⟩ := go n
  rcases g with g | ⟨g1, g2⟩
  · obtain ⟨a, b, c, f⟩ := fin n
    rw [f] at g
    exact ⟨a, b, c, g⟩
  · rcases kn with kn | ⟨kn, kz⟩
    · exact absurd kn g1
    · rcases g2 with g2 | g2
      · exact absurd kn g2
      · exact absurd kz g2
/-! ## rolls with other cells about -/
abbrev ID (hc : Cells) (h : Cells) : Prop := ∃ a b c, h = Dh hc a b c
theorem roll_call {hc : Cells} {m : Int} (h1 : 1 ≤ m) (h2 : m ≤ 1000000000001) {f : ME PV} {e : Sl} {h : Cells} (i : ID hc h) (q : ∃ h', f e h = .ok (pI m) h' ∧ ID hc h') (d : mV k e h = .ok (.r 0) h) : ∃ h' v, mCallD r__law_roll [] (aCons (mV k) (aCons f aNil)) e h = .ok v h' ∧ isI m v ∧ ID hc h' := by
  obtain ⟨h', q1, a', b', c', rfl⟩ := q
  obtain ⟨v, a1, b1, c1, r, p⟩ := s_roll hc a' b' c' m h1 h2
  refine ⟨_, v, ?_, p, a1, b1, c1, rfl⟩
  simp only [mCallD_eq, aCons_eq, d, bind_ok, q1, aNil_eq, List.append_nil, r]
theorem roll_K {hc : Cells} {m : Int} (h1 : 1 ≤ m) (h2 : m ≤ 1000000000001) {e : Sl} {h : Cells} (i : ID hc h) (d : mV k e h = .ok (.r 0) h) : ∃ h' v, mCallD r__law_roll [] (aCons (mV k) (aCons (mK (.d (.int m))) aNil)) e h = .ok v h' ∧ isI m v ∧ ID hc h' :=
  roll_call h1 h2 i ⟨h, rfl, i⟩ d
theorem pick2 {hc : Cells} (x y : Int) {e : Sl} {h : Cells} (i : ID hc h) (d : mV k e h = .ok (.r 0) h) : ∃ h' m, mBin opIx (mLst (aCons (mK (.d (.int x))) (aCons (mK (.d (.int y))) aNil))) (mCallD r__law_roll [] (aCons (mV k) (aCons (mK (.d (.int 2))) aNil))) e h = .ok (pI m) h' ∧ (m = x ∨ m = y) ∧ ID hc h' := by
  obtain ⟨h', v, q, ⟨j, rfl, l, u⟩, i'⟩ := roll_K (m := 2) (by omega) (by omega) i d
  have e2 : mkL [pI x, pI y] = pL [.int x, .int y] := rfl
  have c : j = 0 ∨ j = 1 := by omega
  simp only [mBin_eq, mLst_eq, aCons_eq, mK_eq, bind_ok, aNil_eq, List.length_cons, List.length_nil, Nat.zero_add, Nat.reduceAdd, sz 2 (by omega), if_true, e2]
  rw [mCallD_eq, aCons_eq] at q
  rcases c with rfl | rfl
  · refine ⟨h', x, ?_, .inl rfl, i'⟩
    simp only [mCallD_eq] at q ⊢
    simp only [aCons_eq, mK_eq, aNil_eq, bind_ok] at q ⊢
    rw [q]; rfl
  · refine ⟨h', y, ?_, .inr rfl, i'⟩
    simp only [mCallD_eq] at q ⊢
    simp only [aCons_eq, mK_eq, aNil_eq, bind_ok] at q ⊢
    rw [q]; rfl
theorem pick3 {hc : Cells} (x y z : Int) {k : Nat} {e : Sl} {h : Cells} (i : ID hc h) (d : mV k e h = .ok (.r 0) h) : ∃ h' m, mBin opIx (mLst (aCons (mK (.d (.int x))) (aCons (mK (.d (.int y))) (aCons (mK (.d (.int z))) aNil)))) (mCallD r__law_roll [] (aCons (mV k) (aCons (mK (.d (.int 3))) aNil))) e h = .ok (pI m) h' ∧ (m = x ∨ m = y ∨ m = z) ∧ ID hc h' := by
  obtain ⟨h', v, q, ⟨j, rfl, l, u⟩, i'⟩ := roll_K (m := 3) (by omega) (by omega) i d
  have e2 : mkL [pI x, pI y, pI z] = pL [.int x, .int y, .int z] := rfl
  have c : j = 0 ∨ j = 1 ∨ j = 2 := by omega
  simp only [mBin_eq, mLst_eq, aCons_eq, mK_eq, bind_ok, aNil_eq, List.length_cons, List.length_nil, Nat.zero_add, Nat.reduceAdd, sz 3 (by omega), if_true, e2]
  simp only [mCallD_eq, aCons_eq, mK_eq, aNil_eq, bind_ok] at q ⊢
  rcases c with rfl | rfl | rfl
  · refine ⟨h', x, ?_, .inl rfl, i'⟩
    rw [q]; rfl
  · refine ⟨h', y, ?_, .inr (.inl rfl), i'⟩
    rw [q]; rfl
  · refine ⟨h', z, ?_, .inr (.inr rfl), i'⟩
    rw [q]; rfl
theorem draws {hc : Cells} {n : Nat} {fe : ME PV} {e : Sl} {h h1 : Cells} {fi : ME (List PV)} {j : Nat} (P : PV → Prop) (q : fi e h = .ok [nI n] h1) (b : n ≤ 1000000) (i : ID hc h1) (k : ∀ v h, ID hc h → ∃ h' w, fe ((wipeE e [j]).set j (some v)) h = .ok w h' ∧ P w ∧ ID hc h') :
    ∃ vs h', mLc (iRange1 fi) (gN j) mYes fe [j] e h = .ok (mkL vs) h' ∧ ID hc h' ∧ vs.length = n ∧ ∀ v ∈ vs, P v := by
  obtain ⟨vs, h', a1, a2, a3, a4⟩ := lc_inv (g := gN j) (fe := fe) (all := rngL 0 n) (e := wipeE e [j]) (ID hc) P (rngL 0 n) [] h1 (fun x _ h i => by
    obtain ⟨h', w, w1, w2, w3⟩ := k x h i
    exact ⟨_, _, w, h', rfl, w1, w2, w3⟩) (sz _ (by simp [rngL]; omega)) i
  refine ⟨vs, h', ?_, a2, by simpa [rngL] using a3, a4⟩
  rw [mLc_eq (range1_nat q b), a1]; rfl
/-- many whole numbers -/
theorem draw_ints {hc : Cells} {n : Nat} {fe : ME PV} {e : Sl} {h h1 : Cells} {fi : ME (List PV)} {j : Nat} (M : Int) (q : fi e h = .ok [nI n] h1) (b : n ≤ 1000000) (i : ID hc h1) (k : ∀ v h, ID hc h → ∃ h' w, fe ((wipeE e [j]).set j (some v)) h = .ok w h' ∧ isI M w ∧ ID hc h') :
    ∃ (A : List Int) (h' : Cells), mLc (iRange1 fi) (gN j) mYes fe [j] e h = .ok (pL (pIs A)) h' ∧ ID hc h' ∧ A.length = n ∧ ∀ x ∈ A, 0 ≤ x ∧ x < M := by
  obtain ⟨vs, h2, d1, d2, d3, d4⟩ := draws (isI M) q b i k
  obtain ⟨A, rfl, l, ha⟩ := all_ex (f := pI) (Q := fun x => 0 ≤ x ∧ x < M) (fun v h => h) vs d4
  rw [mkL_ints] at d1
  exact ⟨A, h2, d1, d2, by omega, ha⟩
end K04

set_option Elab.async false
set_option linter.all false
set_option maxRecDepth 100000
set_option maxHeartbeats 1000000
namespace K04
open PySem PySem.Spec PyProof.Rows L2 Mi
/-! ## keys: signs by their place in "abcxyz09-!?" -/
abbrev SG : Str := "0123456789abcdefghijklmnopqrstuvwxyzABCDEFGHIJKLMNOPQRSTUVWXYZ-_./: "
abbrev AL : Str := "abcxyz09-!?"
def kc (i : Nat) : Nat := AL.cps.toList.getD i 0
def one (i : Nat) : Str := ⟨#[kc i]⟩
def kx (is : List Nat) : Str := ⟨(is.map kc).toArray⟩
def svL : List Int := [11, 12, 13, 34, 35, 36, 1, 10, 63, 99, 99]
def sv (i : Nat) : Int := svL.getD i 0
def mxS (s : Int) (i : Nat) : Int := (s * 31 + sv i) % 1000003
def mx (is : List Nat) (t : Int) : Int := (is.foldl mxS (7 + 131 * t) * 17 + t) % 1000003
def keyOk (is : List Nat) : Prop := is.length ≤ 10 ∧ ∀ i ∈ is, i < 11
theorem kx_walk (is : List Nat) : ((kx is).cps.toList.map fun c => pS ⟨#[c]⟩) = is.map fun i => pS (one i) := by
  simp only [kx, List.map_map]; rfl
theorem in_tab : ∀ i < 11, decide (kc i ∈ SG.cps.toList) = decide (i < 9) := by decide +kernel
theorem occ_tab : ∀ i < 9, Builtin.Str.occurrences SG (one i) 0 SG.length 1 = [(sv i - 1).toNat] := by decide +kernel
theorem sv_pos : ∀ i < 11, 1 ≤ sv i ∧ sv i ≤ 99 := by decide +kernel
theorem sv_99 : ∀ i < 11, ¬ i < 9 → sv i = 99 := by decide +kernel
theorem in_one (i : Nat) (h : i < 11) (c : Cells) : opIn true (pS (one i)) (pS SG) c = .ok (pB (decide (i < 9))) c := by
  have := in_tab i h
  unfold opIn one
  simp only [this]
  cases decide (i < 9) <;> rfl
theorem index_one (i : Nat) (h : i < 9) (c : Cells) : meIndexS (pS SG) [pS (one i)] c = .ok (pI (sv i - 1)) c := by
  have := (sv_pos i (by omega)).1
  simp only [meIndexS, pS]; rw [occ_tab i h]
  simp only
  rw [Int.toNat_of_nonneg (by omega)]
abbrev xM : ME PV := mIfE (mTb (mBin (opIn true) (mV 3) (mK (.d (.str SG))))) (mBin opAdd (mMeth tyS meIndexS (mK (.d (.str SG))) (aCons (mV 3) aNil)) (mK (.d (.int 1)))) (mK (.d (.int 99)))
theorem xM_eq (i : Nat) (hi : i < 11) (a b c : Option PV) (h : Cells) : xM [a, b, c, some (pS (one i))] h = .ok (pI (sv i)) h := by
  simp only [mIfE_eq, mTb_eq, mBin_eq, mV_3, mK_eq, bind_ok, in_one i hi, mMeth_eq, tyS, if_true, aCons_eq, aNil_eq]
  by_cases q : i < 9
  · simp only [q, decide_true, if_true, index_one i q, bind_ok, vadd]
    rw [show sv i - 1 + 1 = sv i by omega]
  · simp only [q, decide_false, sv_99 i hi q]; rfl
abbrev bM : MS := mAsg (mBin opMod (mBin opAdd (mBin opMul (mV 2) (mK (.d (.int 31)))) xM) (mK (.d (.int 1000003)))) (gN 2)
theorem bM_eq (i : Nat) (hi : i < 11) (a b : Option PV) (s : Int) (h : Cells) : bM [a, b, some (pI s), some (pS (one i))] h = .nx [a, b, some (pI (mxS s i)), some (pS (one i))] h := by
  have m : mulOk s 31 = true := mulOk_r (by omega) (by omega)
  have x := xM_eq i hi a b (some (pI s)) h
  exact asg_N (bin (bin (bin (mV_2 _ _ _ _ _) (mK_eq _ _ _) (vmul _ _ _ m)) x (vadd _ _ _)) (mK_eq _ _ _) (vmod _ _ _ (by omega)))
theorem fM_eq (a b : Option PV) (h : Cells) (all : List PV) : ∀ (is : List Nat) (s : Int) (v : Option PV), (∀ i ∈ is, i < 11) → ∃ v', forL (gN 3) bM none all (is.map fun i => pS (one i)) [a, b, some (pI s), v] h = .nx [a, b, some (pI (is.foldl mxS s)), v'] h
  | [], s, v, _ => ⟨v, by simp⟩
  | i :: r, s, v, k => by
    obtain ⟨v', q⟩ := fM_eq a b h all r (mxS s i) (some (pS (one i))) (fun j hj => k j (by simp [hj]))
    refine ⟨v', ?_⟩
    rw [List.map_cons, forL_cons]
    simp only [gN_eq, List.set_cons_succ, List.set_cons_zero, bM_eq i (k i (by simp)), q, List.foldl_cons]
theorem s_mixed (is : List Nat) (k : ∀ i ∈ is, i < 11) (t : Int) (t0 : 0 ≤ t) (t1 : t ≤ 100) (h : Cells) : r_mixed [pS (kx is), pI t] h = .ok (pI (mx is t)) h := by
  refine iso_ok rfl (trim_same (runF_rt ?_) rfl) rfl
  unfold m_mixed
  simp only [List.map_cons, List.map_nil, List.length_cons, List.length_nil, Nat.reduceAdd, Nat.reduceSub, List.replicate, List.cons_append, List.nil_append]
  rw [seq_nx (if_no (h1 := []) (by simp only [mTb_eq, mBin_eq, mV_1, mK_eq, bind_ok, vlt]; rw [decide_eq_false (by omega)]))]
  have m : mulOk 131 t = true := mulOk_l (by omega) (by omega)
  rw [seq_nx (asg_N (bin (mK_eq _ _ _) (bin (mK_eq _ _ _) (mV_1 _ _ _ _) (vmul _ _ _ m)) (vadd _ _ _)))]
  simp only [List.set_cons_succ, List.set_cons_zero]
  have it : iAny (mV 0) [some (pS (kx is)), some (pI t), some (pI (7 + 131 * t)), none] [] = .ok (is.map (fun i => pS (one i)), none) [] := by rw [any_str (x := kx is) rfl, kx_walk]
  obtain ⟨v', q⟩ := fM_eq (some (pS (kx is))) (some (pI t)) [] (is.map (fun i => pS (one i))) is (7 + 131 * t) none k
  rw [seq_nx ((mFor_eq it).trans q)]
  have m2 : ∀ s, mulOk s 17 = true := fun s => mulOk_r (by omega) (by omega)
  rw [mRet_eq, bin (bin (bin (mV_2 _ _ _ _ _) (mK_eq _ _ _) (vmul _ _ _ (m2 _))) (mV_1 _ _ _ _) (vadd _ _ _)) (mK_eq _ _ _) (vmod _ _ _ (by omega))]
  rfl
/-! ### the law's -/
def enumSG : List (Nat × Nat) := SG.cps.toList.mapIdx fun i c => (i, c)
theorem places_tab : ∀ i < 11, ((enumSG.filter fun p => p.2 == kc i).map fun p => (p.1 : Int)) = if i < 9 then [sv i - 1] else [] := by decide +kernel
theorem enum_len : enumSG.length = 68 := by decide +kernel
abbrev lP : ME PV := mLc (iEnumT (aCons (mK (.d (.str SG))) aNil)) (gTp 2 (gsCons (gN 6) (gsCons (gN 7) gsNil))) (mTb (mBin (opEq true) (mV 7) (mV 3))) (mV 6) [6, 7]
theorem lP_eq (i : Nat) (hi : i < 11) (a b c d f u v : Option PV) (h : Cells) : lP [a, b, c, some (pS (one i)), d, f, u, v] h = .ok (pL (pIs (if i < 9 then [sv i - 1] else []))) h := by
  have it : iEnumT (aCons (mK (.d (.str SG))) aNil) [a, b, c, some (pS (one i)), d, f, u, v] h = .ok (enumSG.map (fun p => pT [.int (p.1 : Nat), .str ⟨#[p.2]⟩]), none) h := by
    have : (SG.cps.toList.mapIdx fun i c => mkT [.d (.int (i : Nat)), .d (.str ⟨#[c]⟩)]) = enumSG.map (fun p => pT [.int (p.1 : Nat), .str ⟨#[p.2]⟩]) := by
      unfold enumSG
      apply List.ext_getElem
      · simp
      · intro n h1 h2; simp [mkT_2]
    simp only [iEnumT, aCons_eq, mK_eq, bind_ok, aNil_eq]
    rw [← this]
  have lc := lc_pure (g := gTp 2 (gsCons (gN 6) (gsCons (gN 7) gsNil))) (t := mTb (mBin (opEq true) (mV 7) (mV 3))) (fe := mV 6) (all := enumSG.map (fun p => pT [.int (p.1 : Nat), .str ⟨#[p.2]⟩])) (e := [a, b, c, some (pS (one i)), d, f, none, none]) (h := h)
    (fun p : Nat × Nat => pT [.int (p.1 : Nat), .str ⟨#[p.2]⟩]) (fun p => p.2 == kc i) (fun p => pI (p.1 : Int)) enumSG [] (fun p _ => ⟨[a, b, c, some (pS (one i)), d, f, some (nI p.1), some (pS ⟨#[p.2]⟩)], by simp [gTp], by
      have : ((⟨#[p.2]⟩ : Str) == one i) = (p.2 == kc i) := by
        by_cases z : p.2 = kc i
        · rw [z]; simp [one]
        · have : (⟨#[p.2]⟩ : Str) ≠ one i := fun y => z (by simpa [one] using y)
          rw [beq_eq_false_iff_ne.mpr this, beq_eq_false_iff_ne.mpr z]
      simp only [mTb_eq, mBin_eq, mV_3, mV_7, bind_ok, eq_strs, if_true, this], fun _ => by simp⟩) (sz _ (by rw [enum_len]; simp))
  refine (mLc_eq it).trans ?_
  have w : wipeE [a, b, c, some (pS (one i)), d, f, u, v] [6, 7] = [a, b, c, some (pS (one i)), d, f, none, none] := rfl
  rw [w, lc]
  have e : ((enumSG.filter fun p => p.2 == kc i).map fun p => pI (p.1 : Int)) = (if i < 9 then [sv i - 1] else []).map pI := by
    rw [← places_tab i hi, List.map_map]; rfl
  rw [List.nil_append, e, mkL_ints]
abbrev bLM : MS := mSeq (mAsg lP (gN 4)) (mSeq (mAsg (mBin opAdd (mBin opMul (mK (.d (.int 31))) (mV 2)) (mIfE (mTb (mBin (opEq false) (mV 4) (mLst aNil))) (mBin opAdd (mBin opIx (mV 4) (mK (.d (.int 0)))) (mK (.d (.int 1)))) (mK (.d (.int 99))))) (gN 2))
    (mAsg (mBin opSub (mV 2) (mBin opMul (mBin opDiv (mV 2) (mK (.d (.int 1000003)))) (mK (.d (.int 1000003))))) (gN 2)))
theorem sub_div (s m : Int) : s - s / m * m = s % m := by rw [Int.emod_def, Int.mul_comm]
theorem bLM_eq (i : Nat) (hi : i < 11) (a b d f u v : Option PV) (s : Int) (h : Cells) : ∃ d', bLM [a, b, some (pI s), some (pS (one i)), d, f, u, v] h = .nx [a, b, some (pI (mxS s i)), some (pS (one i)), d', f, u, v] h := by
  refine ⟨some (pL (pIs (if i < 9 then [sv i - 1] else []))), ?_⟩
  refine (seq_nx (asg_N (lP_eq i hi a b (some (pI s)) d f u v h))).trans ?_
  simp only [List.set_cons_succ, List.set_cons_zero]
  have m : mulOk 31 s = true := mulOk_l (by omega) (by omega)
  have x : mIfE (mTb (mBin (opEq false) (mV 4) (mLst aNil))) (mBin opAdd (mBin opIx (mV 4) (mK (.d (.int 0)))) (mK (.d (.int 1)))) (mK (.d (.int 99))) [a, b, some (pI s), some (pS (one i)), some (pL (pIs (if i < 9 then [sv i - 1] else []))), f, u, v] h = .ok (pI (sv i)) h := by
    have e0 : mkL [] = pL (pIs []) := rfl
    simp only [mIfE_eq, mTb_eq, mBin_eq, mV_4, mLst_eq, aNil_eq, bind_ok, List.length_nil, sz 0 (by omega), if_true, e0, eq_ints_l]
    by_cases q : i < 9
    · simp only [if_pos q]
      have o : opIx (pL [.int (sv i - 1)]) (.d (.int 0)) h = .ok (pI (sv i - 1)) h := rfl
      simp [o]
    · simp only [if_neg q, sv_99 i hi q]; simp
  rw [seq_nx (asg_N (bin (bin (mK_eq _ _ _) (mV_2 _ _ _ _ _) (vmul _ _ _ m)) x (vadd _ _ _)))]
  simp only [List.set_cons_succ, List.set_cons_zero]
  have m3 : ∀ s, mulOk s 1000003 = true := fun s => mulOk_r (by omega) (by omega)
  rw [asg_N (bin (mV_2 _ _ _ _ _) (bin (bin (mV_2 _ _ _ _ _) (mK_eq _ _ _) (vdiv _ _ _ (by omega) (by omega))) (mK_eq _ _ _) (vmul _ _ _ (m3 _))) (vsub _ _ _)), sub_div]
  simp only [List.set_cons_succ, List.set_cons_zero, mxS, Int.mul_comm]
theorem fLM_eq (a b f u v : Option PV) (h : Cells) (all : List PV) : ∀ (is : List Nat) (s : Int) (x d : Option PV), (∀ i ∈ is, i < 11) → ∃ x' d', forL (gN 3) bLM none all (is.map fun i => pS (one i)) [a, b, some (pI s), x, d, f, u, v] h = .nx [a, b, some (pI (is.foldl mxS s)), x', d', f, u, v] h
  | [], s, x, d, _ => ⟨x, d, by simp⟩
  | i :: r, s, x, d, k => by
    obtain ⟨d1, e1⟩ := bLM_eq i (k i (by simp)) a b d f u v s h
    obtain ⟨x', d', q⟩ := fLM_eq a b f u v h all r (mxS s i) (some (pS (one i))) d1 (fun j hj => k j (by simp [hj]))
    refine ⟨x', d', ?_⟩
    rw [List.map_cons, forL_cons]
    simp only [gN_eq, List.set_cons_succ, List.set_cons_zero, e1, q, List.foldl_cons]
theorem s_lmixed (is : List Nat) (k : ∀ i ∈ is, i < 11) (t : Int) (t0 : 0 ≤ t) (t1 : t ≤ 100) (h : Cells) : r__law_mixed [pS (kx is), pI t] h = .ok (pI (mx is t)) h := by
  refine iso_ok rfl (trim_same (runF_rt ?_) rfl) rfl
  unfold m__law_mixed
  simp only [List.map_cons, List.map_nil, List.length_cons, List.length_nil, Nat.reduceAdd, Nat.reduceSub, List.replicate, List.cons_append, List.nil_append]
  have m : mulOk 131 t = true := mulOk_l (by omega) (by omega)
  rw [seq_nx (asg_N (bin (mK_eq _ _ _) (bin (mK_eq _ _ _) (mV_1 _ _ _ _) (vmul _ _ _ m)) (vadd _ _ _)))]
  simp only [List.set_cons_succ, List.set_cons_zero]
  have it : iAny (mV 0) [some (pS (kx is)), some (pI t), some (pI (7 + 131 * t)), none, none, none, none, none] [] = .ok (is.map (fun i => pS (one i)), none) [] := by rw [any_str (x := kx is) rfl, kx_walk]
  obtain ⟨x', d', q⟩ := fLM_eq (some (pS (kx is))) (some (pI t)) none none none [] (is.map (fun i => pS (one i))) is (7 + 131 * t) none none k
  rw [seq_nx ((mFor_eq it).trans q)]
  have m2 : ∀ s, mulOk 17 s = true := fun s => mulOk_l (by omega) (by omega)
  rw [seq_nx (asg_N (bin (bin (mK_eq _ _ _) (mV_2 _ _ _ _ _) (vmul _ _ _ (m2 _))) (mV_1 _ _ _ _) (vadd _ _ _)))]
  simp only [List.set_cons_succ, List.set_cons_zero]
  have m3 : ∀ s, mulOk s 1000003 = true := fun s => mulOk_r (by omega) (by omega)
  rw [mRet_eq, bin (mV_5 _ _ _ _ _ _ _ _) (bin (bin (mV_5 _ _ _ _ _ _ _ _) (mK_eq _ _ _) (vdiv _ _ _ (by omega) (by omega))) (mK_eq _ _ _) (vmul _ _ _ (m3 _))) (vsub _ _ _), sub_div]
  simp only [toS_ok, mx, Int.mul_comm]
theorem mx_range (is : List Nat) (t : Int) : 0 ≤ mx is t := Int.emod_nonneg _ (by omega)
end K04

set_option Elab.async false
set_option linter.all false
set_option maxRecDepth 100000
set_option maxHeartbeats 1000000
namespace K04
open PySem PySem.Spec PyProof.Rows L2 Mi
/-! ## the bits of a key -/
def ks (is : List Nat) (z : Int) (n : Nat) : List Int := (List.range n).map fun t : Nat => mx is t % z
def BK (is : List Nat) (z : Int) (n : Nat) : List Int := (ks is z n).foldl addK []
def BS (is : List Nat) (z : Int) (n : Nat) : List Int := sortI (BK is z n)
theorem BK_len (is : List Nat) (z : Int) (n : Nat) : (BK is z n).length ≤ n := by
  have := fold_len (ks is z n) []
  simpa [BK, ks] using this
theorem BS_mem {is : List Nat} {z : Int} {n : Nat} {x : Int} : x ∈ BS is z n ↔ x ∈ ks is z n := by
  unfold BS BK
  rw [(sortI_perm' _).mem_iff, fold_mem]; simp
theorem BS_nodup (is : List Nat) (z : Int) (n : Nat) : (BS is z n).Nodup := (sortI_perm' _).nodup_iff.mpr (fold_nodup _ _ .nil)
theorem BS_len (is : List Nat) (z : Int) (n : Nat) : (BS is z n).length ≤ n := by
  unfold BS; rw [(sortI_perm' _).length_eq]; exact BK_len is z n
theorem BS_range {is : List Nat} {z : Int} {n : Nat} (hz : 0 < z) {x : Int} (h : x ∈ BS is z n) : 0 ≤ x ∧ x < z := by
  rw [BS_mem] at h
  obtain ⟨t, _, rfl⟩ := List.mem_map.mp h
  exact ⟨Int.emod_nonneg _ (by omega), Int.emod_lt_of_pos _ hz⟩
theorem wfB_get {h : Cells} (w : wfB h = true) {i : Nat} {o : AO} (g : h[i]? = some o) : AO.bd h.length o = true := wfB_all w o (List.mem_of_getElem? g)
theorem s_bits (is : List Nat) (k : ∀ i ∈ is, i < 11) (n : Nat) (hn : n ≤ 8) (z : Int) (hz : 0 < z) (s : Nat) (fs : List (Str × PV)) (h : Cells) (w : wfB h = true) (g : h[s]? = some (.ins "Sieve" fs)) (l1 : fs.lookup ("turns" : Str) = some (nI n)) (l2 : fs.lookup ("size" : Str) = some (pI z)) :
    r_Sieve_bits_of [.r s, pS (kx is)] h = .ok (pT (pIs (BS is z n))) h := by
  refine trim_ok (g := [.dk (kvI (pB true) (BK is z n))]) (runF_rt ?_) w rfl
  unfold m_Sieve_bits_of
  simp only [List.map_cons, List.map_nil, List.length_cons, List.length_nil, Nat.reduceAdd, Nat.reduceSub, List.replicate, List.cons_append, List.nil_append]
  have it := range1_nat (g := aCons (mFld ["Sieve"] "turns" (mV 0)) aNil) (e := [some (.r s), some (pS (kx is)), none]) (h := h) (arg1 (fld_eq (mV_0 _ _ _) g (by simp) l1)) (by omega)
  have dc := dc_pure (g := gN 2) (fk := mBin opMod (mCallD r_mixed [] (aCons (mV 1) (aCons (mV 2) aNil))) (mFld ["Sieve"] "size" (mV 0))) (fe := mK (.d (.bool true))) (all := rngL 0 n) (e := [some (.r s), some (pS (kx is)), none]) (h := h)
    (fun t : Nat => pI (0 + (t : Int))) (fun t => (.inl (mx is t % z))) (fun _ => pB true) (List.range n) [] (fun t ht => by
      have tb : t < n := List.mem_range.mp ht
      refine ⟨[some (.r s), some (pS (kx is)), some (pI (0 + (t : Int)))], pI (mx is t % z), rfl, ?_, rfl, rfl⟩
      rw [Int.zero_add]
      exact bin (call2 (mV_1 _ _ _ _) (mV_2 _ _ _ _ _) (s_mixed is k t (by omega) (by omega) h)) (fld_eq (mV_0 _ _ _) g (by simp) l2) (vmod _ _ _ hz)) (sz _ (by simp; omega))
  have fk := fold_kvI (pB true) (fun t : Nat => mx is t % z) (List.range n) []
  have e1 : mDc (iRange1 (aCons (mFld ["Sieve"] "turns" (mV 0)) aNil)) (gN 2) mYes (mBin opMod (mCallD r_mixed [] (aCons (mV 1) (aCons (mV 2) aNil))) (mFld ["Sieve"] "size" (mV 0))) (mK (.d (.bool true))) [2] [some (.r s), some (pS (kx is)), none] h = .ok (.r h.length) (h ++ [.dk (kvI (pB true) (BK is z n))]) := by
    rw [mDc_eq it]
    refine Eq.trans dc ?_
    rw [show ([] : List (Key × PV)) = kvI (pB true) [] from rfl, fk]
    rfl
  have sd := sortedDI_eq (n := h.length) (h := h ++ [.dk (kvI (pB true) (BK is z n))]) (v := pB true) (l := BK is z n) at_end (by have := BK_len is z n; omega)
  rw [mRet_eq, bi1 (bi1 e1 sd) (tuple_pL _ _)]
  rfl
abbrev ownK (z : Int) (n : Nat) : List (Key × PV) := [(.inr "size", pI z), (.inr "turns", nI n)]
theorem own_turns (z : Int) (n : Nat) : getP (ownK z n) (.inr "turns" : Key) = some (nI n) := rfl
theorem own_size (z : Int) (n : Nat) : getP (ownK z n) (.inr "size" : Key) = some (pI z) := rfl
theorem s_lbits (is : List Nat) (k : ∀ i ∈ is, i < 11) (n : Nat) (hn : n ≤ 8) (z : Int) (hz : 0 < z) (o : Nat) (h : Cells) (w : wfB h = true) (g : h[o]? = some (.dk (ownK z n))) :
    r__law_bits [.r o, pS (kx is)] h = .ok (pL (pIs (BS is z n))) h := by
  refine trim_ok (g := [.dk (kvI (pI 1) (BK is z n))]) (runF_rt ?_) w rfl
  unfold m__law_bits
  simp only [List.map_cons, List.map_nil, List.length_cons, List.length_nil, Nat.reduceAdd, Nat.reduceSub, List.replicate, List.cons_append, List.nil_append]
  have gt : ∀ e, mV 0 e h = .ok (.r o) h → mBin opIxM (mV 0) (mK (.d (.str "turns"))) e h = .ok (nI n) h := fun e q => bin q (mK_eq _ _ _) (ixM_dict g rfl (own_turns z n))
  have gs : ∀ e, mV 0 e h = .ok (.r o) h → mBin opIxM (mV 0) (mK (.d (.str "size"))) e h = .ok (pI z) h := fun e q => bin q (mK_eq _ _ _) (ixM_dict g rfl (own_size z n))
  have it := range1_nat (g := aCons (mBin opIxM (mV 0) (mK (.d (.str "turns")))) aNil) (e := [some (.r o), some (pS (kx is)), none]) (h := h) (arg1 (gt _ (mV_0 _ _ _))) (by omega)
  have lc := lc_all (g := gN 2) (fe := mTup (aCons (mBin opMod (mCallD r__law_mixed [] (aCons (mV 1) (aCons (mV 2) aNil))) (mBin opIxM (mV 0) (mK (.d (.str "size"))))) (aCons (mK (.d (.int 1))) aNil))) (all := rngL 0 n) (e := [some (.r o), some (pS (kx is)), none]) (h := h)
    (fun t : Nat => pI (0 + (t : Int))) (fun t => pT [.int (mx is t % z), .int 1]) (List.range n) [] (fun t ht => by
      have tb : t < n := List.mem_range.mp ht
      refine ⟨[some (.r o), some (pS (kx is)), some (pI (0 + (t : Int)))], rfl, ?_⟩
      rw [Int.zero_add]
      exact tup2 (bin (call2 (mV_1 _ _ _ _) (mV_2 _ _ _ _ _) (s_lmixed is k t (by omega) (by omega) h)) (gs _ (mV_0 _ _ _)) (vmod _ _ _ hz)) (mK_eq _ _ _)) (sz _ (by simp; omega))
  have e1 : mLc (iRange1 (aCons (mBin opIxM (mV 0) (mK (.d (.str "turns")))) aNil)) (gN 2) mYes (mTup (aCons (mBin opMod (mCallD r__law_mixed [] (aCons (mV 1) (aCons (mV 2) aNil))) (mBin opIxM (mV 0) (mK (.d (.str "size"))))) (aCons (mK (.d (.int 1))) aNil))) [2] [some (.r o), some (pS (kx is)), none] h = .ok (pL ((ks is z n).map fun k => PyData.tuple [.int k, .int 1])) h := by
    rw [mLc_eq it]
    refine Eq.trans lc ?_
    rw [List.nil_append]
    have : ((List.range n).map fun t : Nat => pT [.int (mx is t % z), .int 1]) = ((ks is z n).map fun k => PyData.tuple [.int k, .int 1]).map .d := by
      simp only [ks, List.map_map]; rfl
    rw [this, mkL_map]
  have dp := dictP_eq (.int 1) (ks is z n) h
  have sd := sortedDI_eq (n := h.length) (h := h ++ [.dk (kvI (pI 1) (BK is z n))]) (v := pI 1) (l := BK is z n) at_end (by have := BK_len is z n; omega)
  rw [mRet_eq, bi1 (bi1 e1 dp) sd]
  rfl
end K04

set_option Elab.async false
set_option linter.all false
set_option maxRecDepth 100000
set_option maxHeartbeats 1000000
namespace K04
open PySem PySem.Spec PyProof.Rows L2 Mi
/-! ## sieves -/
abbrev sf (z n : Nat) (bv : PV) (p : Int) : List (Str × PV) := [("size", nI z), ("turns", nI n), ("bits", bv), ("put_in", pI p)]
structure SV (h : Cells) (s z n : Nat) (bv : PV) (B : List Int) (p : Int) : Prop where
  ins : h[s]? = some (.ins "Sieve" (sf z n bv p))
  bits : asL bv h = some (B.map pI)
  len : B.length = z
theorem f_size (z n : Nat) (bv : PV) (p : Int) : (sf z n bv p).lookup ("size" : Str) = some (nI z) := rfl
theorem f_turns (z n : Nat) (bv : PV) (p : Int) : (sf z n bv p).lookup ("turns" : Str) = some (nI n) := rfl
theorem f_bits (z n : Nat) (bv : PV) (p : Int) : (sf z n bv p).lookup ("bits" : Str) = some bv := rfl
theorem f_put (z n : Nat) (bv : PV) (p : Int) : (sf z n bv p).lookup ("put_in" : Str) = some (pI p) := rfl
theorem asL_r {b : Nat} {h : Cells} {xs : List PV} (e : asL (.r b) h = some xs) : h[b]? = some (.lst xs) := by
  unfold asL at e
  simp only at e
  split at e
  · rename_i q; obtain rfl := Option.some.inj e; exact q
  · cases e
def ind (z : Nat) (K : List Int) : List Int := (List.range z).map fun i : Nat => if (i : Int) ∈ K then (1 : Int) else 0
theorem ind_len (z : Nat) (K : List Int) : (ind z K).length = z := by simp [ind]
theorem ind_get {z i : Nat} (K : List Int) (h : i < z) : (ind z K)[i]? = some (if (i : Int) ∈ K then 1 else 0) := by simp [ind, h]
theorem ind_ext {z : Nat} {K L : List Int} (h : ∀ i : Nat, i < z → ((i : Int) ∈ K ↔ (i : Int) ∈ L)) : ind z K = ind z L := by
  unfold ind
  refine List.map_congr_left fun i hi => ?_
  have := h i (List.mem_range.mp hi)
  by_cases q : (i : Int) ∈ K
  · rw [if_pos q, if_pos (this.mp q)]
  · rw [if_neg q, if_neg (fun x => q (this.mpr x))]
theorem ind_set {z i : Nat} (K : List Int) (h : i < z) : (ind z K).set i 1 = ind z (addK K i) := by
  apply List.ext_getElem?
  intro j
  by_cases hj : j < z
  · by_cases e : i = j
    · subst e
      rw [List.getElem?_set_self (by rw [ind_len]; exact h), ind_get _ h, if_pos (addK_mem.mpr (.inr rfl))]
    · rw [List.getElem?_set_ne e, ind_get _ hj, ind_get _ hj]
      have : ((j : Int) ∈ addK K i) ↔ (j : Int) ∈ K := by
        rw [addK_mem]
        exact ⟨fun q => q.elim id (fun q => absurd (by omega) e), .inl⟩
      by_cases q : (j : Int) ∈ K
      · rw [if_pos q, if_pos (this.mpr q)]
      · rw [if_neg q, if_neg (fun x => q (this.mp x))]
  · rw [List.getElem?_eq_none (by rw [List.length_set, ind_len]; omega), List.getElem?_eq_none (by rw [ind_len]; omega)]
theorem it_bits {fo fk : ME PV} {e : Sl} {h : Cells} {is : List Nat} (k : ∀ i ∈ is, i < 11) {n z s : Nat} (hn : n ≤ 8) (hz : 0 < z) (w : wfB h = true) {bv : PV} {p : Int} (v : h[s]? = some (.ins "Sieve" (sf z n bv p))) (q0 : fo e h = .ok (.r s) h) (q1 : fk e h = .ok (pS (kx is)) h) :
    mMethD "Sieve" "bits_of" r_Sieve_bits_of [] fo (aCons fk aNil) e h = .ok (pT (pIs (BS is z n))) h :=
  meth_go q0 v rfl (arg1 q1) (s_bits is k n hn z (by omega) s _ h w v (f_turns _ _ _ _) (f_size _ _ _ _))
theorem walk_pT {f : ME PV} {e : Sl} {h h1 : Cells} {l : List Int} (q : f e h = .ok (pT (pIs l)) h1) : iAny f e h = .ok (l.map pI, none) h1 := by rw [any_pT q, pI_map]
theorem walk_pL {f : ME PV} {e : Sl} {h h1 : Cells} {l : List Int} (q : f e h = .ok (pL (pIs l)) h1) : iAny f e h = .ok (l.map pI, none) h1 := by rw [any_pL q, pI_map]
theorem toNat_of {x : Int} {z : Nat} (h : 0 ≤ x ∧ x < z) : ∃ i : Nat, x = i ∧ i < z := ⟨x.toNat, by omega, by omega⟩
theorem bds_ints (n : Nat) (l : List Int) : bds n (l.map pI) = true := by rw [← pI_map]; exact bds_map n _
theorem wfB_set {h : Cells} (w : wfB h = true) (i : Nat) {o : AO} (q : AO.bd h.length o = true) : wfB (h.set i o) = true := by
  unfold wfB at *
  rw [List.all_eq_true] at *
  intro x hx
  rw [List.length_set]
  rcases List.mem_or_eq_of_mem_set hx with k | k
  · exact w x k
  · rw [k]; exact q
theorem SV.bd {h : Cells} {s z n : Nat} {bv : PV} {B : List Int} {p q : Int} (v : SV h s z n bv B p) (w : wfB h = true) : AO.bd h.length (.ins "Sieve" (sf z n bv q)) = true := by
  have := wfB_get w v.ins
  simpa [AO.bd, bds, PV.bd] using this
abbrev bPut : MS := mSeq (mAug 2 iadd (mBin opSub (mK (.d (.int 1))) (mBin opIx (mFld ["Sieve"] "bits" (mV 0)) (mV 3)))) (mAsg (mK (.d (.int 1))) (gIx (mFld ["Sieve"] "bits" (mV 0)) (mV 3)))
theorem s_put (is : List Nat) (k : ∀ i ∈ is, i < 11) {n z : Nat} (hn : n ≤ 8) (hz : 0 < z) {s b : Nat} {K : List Int} {p : Int} {h : Cells} (w : wfB h = true) (v : SV h s z n (.r b) (ind z K) p) (sb : s ≠ b) :
    r_Sieve_put [.r s, pS (kx is)] h = .ok (nI ((BS is z n).filter fun x => decide (x ∉ K)).length) ((h.set b (.lst ((ind z ((BS is z n).foldl addK K)).map pI))).set s (.ins "Sieve" (sf z n (.r b) (p + 1)))) := by
  refine trim_same (runF_rt ?_) (by simp)
  unfold m_Sieve_put
  simp only [List.map_cons, List.map_nil, List.length_cons, List.length_nil, Nat.reduceAdd, Nat.reduceSub, List.replicate, List.cons_append, List.nil_append]
  rw [seq_nx (asg_N (mK_eq _ _ _))]
  simp only [List.set_cons_succ, List.set_cons_zero]
  have gb := asL_r v.bits
  have bl : b < h.length := (List.getElem?_eq_some_iff.mp gb).1
  have it := walk_pT (it_bits (fo := mV 0) (fk := mV 1) (e := [some (.r s), some (pS (kx is)), some (pI 0), none]) k hn hz w v.ins (mV_0 _ _ _) (mV_1 _ _ _ _))
  obtain ⟨e', h', f1, x', rfl, rfl⟩ := for_pre (g := gN 3) (b := bPut) pI (BS is z n) (fun pre e h' => ∃ x, e = [some (.r s), some (pS (kx is)), some (nI (pre.filter fun x => decide (x ∉ K)).length), x] ∧ h' = h.set b (.lst ((ind z (pre.foldl addK K)).map pI)))
    (fun pre x suf hf e h' ⟨u, he, hh⟩ => by
      subst he hh
      have nd := BS_nodup is z n
      have hx : x ∈ BS is z n := by rw [hf]; simp
      obtain ⟨i, rfl, iz⟩ := toNat_of (BS_range (by omega) hx)
      have np : (i : Int) ∉ pre := by
        rw [hf] at nd
        have := (List.nodup_append.mp nd).2.2
        exact fun q => this _ q _ (List.mem_cons_self) rfl
      have mk : ((i : Int) ∈ pre.foldl addK K) ↔ (i : Int) ∈ K := by rw [fold_mem]; exact ⟨fun q => q.resolve_right np, .inl⟩
      have g1 : (h.set b (.lst ((ind z (pre.foldl addK K)).map pI)))[s]? = some (.ins "Sieve" (sf z n (.r b) p)) := by rw [List.getElem?_set_ne (Ne.symm sb)]; exact v.ins
      have g2 : (h.set b (.lst ((ind z (pre.foldl addK K)).map pI)))[b]? = some (.lst ((ind z (pre.foldl addK K)).map pI)) := List.getElem?_set_self bl
      have gi : ((ind z (pre.foldl addK K)).map pI)[i]? = some (pI (if (i : Int) ∈ K then 1 else 0)) := by
        rw [List.getElem?_map, ind_get _ iz]
        by_cases q : (i : Int) ∈ K
        · rw [if_pos q, if_pos (mk.mpr q)]; rfl
        · rw [if_neg q, if_neg (fun x => q (mk.mp x))]; rfl
      refine ⟨_, _, [some (.r s), some (pS (kx is)), some (nI ((pre ++ [(i : Int)]).filter fun x => decide (x ∉ K)).length), some (nI i)], h.set b (.lst ((ind z ((pre ++ [(i : Int)]).foldl addK K)).map pI)), rfl, ?_, some (nI i), rfl, rfl⟩
      · have a1 : mAug 2 iadd (mBin opSub (mK (.d (.int 1))) (mBin opIx (mFld ["Sieve"] "bits" (mV 0)) (mV 3))) [some (.r s), some (pS (kx is)), some (nI (pre.filter fun x => decide (x ∉ K)).length), some (nI i)] (h.set b (.lst ((ind z (pre.foldl addK K)).map pI))) = .nx [some (.r s), some (pS (kx is)), some (nI ((pre ++ [(i : Int)]).filter fun x => decide (x ∉ K)).length), some (nI i)] (h.set b (.lst ((ind z (pre.foldl addK K)).map pI))) := by
          rw [mAug_2, bin (mK_eq _ _ _) (bin (fld_eq (mV_0 _ _ _) g1 (by simp) (f_bits _ _ _ _)) (mV_3 _ _ _ _ _ _) (ix_cell g2 gi)) (vsub _ _ _)]
          simp only [toS_ok, viadd, List.filter_append, List.length_append]
          by_cases q : (i : Int) ∈ K
          · rw [if_pos q]; simp [q]
          · rw [if_neg q]; simp [q]
        refine (seq_nx a1).trans ((asgIx (mK_eq _ _ _) (fld_eq (mV_0 _ _ _) g1 (by simp) (f_bits _ _ _ _)) (mV_3 _ _ _ _ _ _) g2 (by rw [List.length_map, ind_len]; exact iz)).trans ?_)
        rw [List.set_set, ← List.map_set, ind_set _ iz, List.foldl_append]; rfl) it ⟨none, rfl, by
        have : h.set b (.lst ((ind z K).map pI)) = h := by
          apply List.ext_getElem?
          intro j
          by_cases q : b = j
          · subst q; rw [List.getElem?_set_self bl, gb]
          · rw [List.getElem?_set_ne q]
        exact this.symm⟩
  rw [seq_nx f1]
  have g1 : (h.set b (.lst ((ind z ((BS is z n).foldl addK K)).map pI)))[s]? = some (.ins "Sieve" (sf z n (.r b) p)) := by rw [List.getElem?_set_ne (Ne.symm sb)]; exact v.ins
  rw [seq_nx (augF (mV_0 _ _ _) g1 (by simp) (f_put _ _ _ _) (mK_eq _ _ _) (viadd _ _ _) g1 (by simp)), mRet_eq, mV_2]
  rfl
end K04

set_option Elab.async false
set_option linter.all false
set_option maxRecDepth 100000
set_option maxHeartbeats 1000000
namespace K04
open PySem PySem.Spec PyProof.Rows L2 Mi
def got (B : List Int) (x : Int) : Bool := B.getD x.toNat 0 == 1
def mayB (is : List Nat) (z n : Nat) (B : List Int) : Bool := (BS is z n).all (got B)
theorem getD_at {B : List Int} {i : Nat} (h : i < B.length) : B[i]? = some (B.getD i 0) := by
  rw [List.getD_eq_getElem?_getD, List.getElem?_eq_getElem h]; rfl
theorem s_may (is : List Nat) (k : ∀ i ∈ is, i < 11) {n z : Nat} (hn : n ≤ 8) (hz : 0 < z) {s : Nat} {bv : PV} {B : List Int} {p : Int} {h : Cells} (w : wfB h = true) (v : SV h s z n bv B p) :
    r_Sieve_may_have [.r s, pS (kx is)] h = .ok (pB (mayB is z n B)) h := by
  refine trim_same (runF_rt ?_) rfl
  unfold m_Sieve_may_have
  simp only [List.map_cons, List.map_nil, List.length_cons, List.length_nil, Nat.reduceAdd, Nat.reduceSub, List.replicate, List.cons_append, List.nil_append]
  have it := walk_pT (it_bits (fo := mV 0) (fk := mV 1) (e := [some (.r s), some (pS (kx is)), none]) k hn hz w v.ins (mV_0 _ _ _) (mV_1 _ _ _ _))
  have g := gen_go (g := gN 2) (own := [2]) (c := cAll) (fe := mBin (opEq true) (mBin opIx (mFld ["Sieve"] "bits" (mV 0)) (mV 2)) (mK (.d (.int 1)))) pI (fun x => pB (got B x)) (BS is z n) it (fun x hx => by
    obtain ⟨i, rfl, iz⟩ := toNat_of (BS_range (by omega) hx)
    refine ⟨[some (.r s), some (pS (kx is)), some (nI i)], rfl, ?_⟩
    have gi : (B.map pI)[i]? = some (pI (B.getD i 0)) := by rw [List.getElem?_map, getD_at (by rw [v.len]; exact iz)]; rfl
    rw [bin (bin (fld_eq (mV_0 _ _ _) v.ins (by simp) (f_bits _ _ _ _)) (mV_2 _ _ _ _ _) (ix_asL v.bits gi)) (mK_eq _ _ _) (veq _ _ _ _)]
    simp [got])
  rw [mRet_eq, g, cAll_pure]
  rfl
theorem s_filled {n z s : Nat} {bv : PV} {B : List Int} {p : Int} {h : Cells} (v : SV h s z n bv B p) : r_Sieve_filled [.r s] h = .ok (pT [.int B.sum, .int z]) h := by
  refine trim_same (runF_rt ?_) rfl
  unfold m_Sieve_filled
  simp only [List.map_cons, List.map_nil, List.length_cons, List.length_nil, Nat.reduceAdd, Nat.reduceSub, List.replicate, List.cons_append, List.nil_append]
  rw [mRet_eq, tup2 (bi1 (fld_eq (mV_0 _ _ _) v.ins (by simp) (f_bits _ _ _ _)) (sum_asL v.bits)) (fld_eq (mV_0 _ _ _) v.ins (by simp) (f_size _ _ _ _))]
  rfl
def kD (L : List (List Nat)) : List PyData := L.map fun is => .str (kx is)
theorem kD_map (L : List (List Nat)) : (kD L).map PV.d = L.map fun is => pS (kx is) := by simp [kD]
theorem mkL_keys (L : List (List Nat)) : mkL (L.map fun is => pS (kx is)) = pL (kD L) := by rw [← kD_map, mkL_map]
def kOk (L : List (List Nat)) : Prop := L.length ≤ 1000 ∧ ∀ is ∈ L, ∀ i ∈ is, i < 11
theorem walk_keys {f : ME PV} {e : Sl} {h h1 : Cells} {t : Bool} {L : List (List Nat)} (q : f e h = .ok (pQ t (kD L)) h1) : iAny f e h = .ok (L.map (fun is => pS (kx is)), none) h1 := by rw [any_pQ q, kD_map]
theorem s_wrong {L : List (List Nat)} (k : kOk L) (t : Bool) {n z : Nat} (hn : n ≤ 8) (hz : 0 < z) {s : Nat} {bv : PV} {B : List Int} {p : Int} {h : Cells} (w : wfB h = true) (v : SV h s z n bv B p) :
    r_Sieve_wrong_of [.r s, pQ t (kD L)] h = .ok (nI (L.filter fun is => mayB is z n B).length) h := by
  refine trim_same (runF_rt ?_) rfl
  unfold m_Sieve_wrong_of
  simp only [List.map_cons, List.map_nil, List.length_cons, List.length_nil, Nat.reduceAdd, Nat.reduceSub, List.replicate, List.cons_append, List.nil_append]
  have it := walk_keys (f := mV 1) (e := [some (.r s), some (pQ t (kD L)), none]) (h := h) (mV_1 _ _ _ _)
  have g := lc_go (src := none) (g := gN 2) (vs := [2]) (t := mTb (mMethD "Sieve" "may_have" r_Sieve_may_have [] (mV 0) (aCons (mV 2) aNil))) (fe := mV 2) (fun is => pS (kx is)) (fun is => mayB is z n B) (fun is => pS (kx is)) L it rfl (fun is hi => by
    refine ⟨[some (.r s), some (pQ t (kD L)), some (pS (kx is))], rfl, ?_, fun _ => rfl⟩
    rw [mTb_eq, meth_go (mV_0 _ _ _) v.ins rfl (arg1 (mV_2 _ _ _ _ _)) (s_may is (k.2 is hi) hn hz w v)]
    rfl) (by have := k.1; omega)
  rw [mkL_keys] at g
  rw [mRet_eq, bi1 g (len_pL _ _)]
  simp [kD]
/-! ### made, joined, folded -/
theorem ind_nil (z : Nat) : ind z [] = List.replicate z 0 := by
  unfold ind
  simp
  rw [List.map_const']
  simp
theorem zero_len (z : Nat) : (List.replicate z (0 : Int)).length = z := by simp
theorem made_ok {z n : Nat} (z0 : 1 ≤ z) (z1 : z ≤ 4096) (n0 : 1 ≤ n) (n1 : n ≤ 8) (e : Sl) (h : Cells) (a1 : mV 1 e h = .ok (nI z) h) (a2 : mV 2 e h = .ok (nI n) h) :
    mOr (mNot (mTb (mChain oLe oLe (mK (.d (.int 1))) (mV 1) (mK (.d (.int 4096)))))) (mNot (mTb (mChain oLe oLe (mK (.d (.int 1))) (mV 2) (mK (.d (.int 8)))))) e h = .ok false h := by
  have b1 : decide ((1 : Int) ≤ (z : Int)) = true := by simp; omega
  have b2 : decide ((z : Int) ≤ 4096) = true := by simp; omega
  have b3 : decide ((1 : Int) ≤ (n : Int)) = true := by simp; omega
  have b4 : decide ((n : Int) ≤ 8) = true := by simp; omega
  simp only [mOr_eq, mNot_eq, mTb_eq, mChain_eq, mK_eq, a1, a2, bind_ok, vle, b1, b2, b3, b4, Bool.not_true, Bool.false_eq_true, if_false, if_true]
theorem s_init {z n : Nat} (z0 : 1 ≤ z) (z1 : z ≤ 4096) (n0 : 1 ≤ n) (n1 : n ≤ 8) (h : Cells) :
    r_Sieve___init__ [.r h.length, nI z, nI n] (h ++ [.ins "Sieve" []]) = .ok pN (h ++ [.ins "Sieve" (sf z n (.r (h.length + 1)) 0), .lst ((List.replicate z (0 : Int)).map pI)]) := by
  refine trim_keep (runF_nx (e := [some (.r h.length), some (nI z), some (nI n)]) ?_) (.inl ?_)
  · unfold m_Sieve___init__
    simp only [List.map_cons, List.map_nil, List.length_cons, List.length_nil, Nat.reduceAdd, Nat.reduceSub, List.replicate, List.cons_append, List.nil_append]
    rw [seq_nx (if_no (made_ok z0 z1 n0 n1 _ _ (mV_1 _ _ _ _) (mV_2 _ _ _ _ _))), seq_nx (asgF (mV_1 _ _ _ _) (mV_0 _ _ _) at_end (by simp) (by simp)), set_end]
    rw [seq_nx (asgF (mV_2 _ _ _ _ _) (mV_0 _ _ _) at_end (by simp) (by simp [putA])), set_end]
    have m : mBin opMulC (mLst (aCons (mK (.d (.int 0))) aNil)) (mV 1) [some (.r h.length), some (nI z), some (nI n)] (h ++ [.ins "Sieve" (putA "turns" (nI n) (putA "size" (nI z) []))]) = .ok (.r (h.length + 1)) ((h ++ [.ins "Sieve" (putA "turns" (nI n) (putA "size" (nI z) []))]) ++ [.lst ((List.replicate z (0 : Int)).map pI)]) := by
      rw [bin (lst1 (mK_eq _ _ _)) (mV_1 _ _ _ _) (rep0 z _ (by omega))]
      simp
    have g3 : ((h ++ [AO.ins "Sieve" (putA "turns" (nI n) (putA "size" (nI z) []))]) ++ [.lst ((List.replicate z (0 : Int)).map pI)])[h.length]? = some (.ins "Sieve" (putA "turns" (nI n) (putA "size" (nI z) []))) := by simp
    rw [seq_nx (asgF m (mV_0 _ _ _) g3 (by simp) (by exact (by decide : (2 : Nat) < 1000)))]
    have s3 : ∀ o o2 o3, ((h ++ [o]) ++ [o2]).set h.length o3 = h ++ [o3, o2] := fun o o2 o3 => by simp
    rw [s3]
    have g4 : ∀ o o2 : AO, (h ++ [o, o2])[h.length]? = some o := fun o o2 => by simp
    have s4 : ∀ o o2 o3 : AO, (h ++ [o, o2]).set h.length o3 = h ++ [o3, o2] := fun o o2 o3 => by simp
    rw [asgF (mK_eq _ _ _) (mV_0 _ _ _) (g4 _ _) (by simp) (by exact (by decide : (3 : Nat) < 1000)), s4]
    rfl
  · have t : ((h ++ [AO.ins "Sieve" (sf z n (.r (h.length + 1)) 0), .lst ((List.replicate z (0 : Int)).map pI)]).take (h ++ [AO.ins "Sieve" []]).length) = h ++ [AO.ins "Sieve" (sf z n (.r (h.length + 1)) 0)] := by
      rw [List.length_append, List.length_singleton, List.take_append, List.take_of_length_le (by omega)]
      simp
    rw [t]
    exact wfB_false (i := h.length) at_end (by simp [AO.bd, bds, PV.bd])
theorem s_make {z n : Nat} (z0 : 1 ≤ z) (z1 : z ≤ 4096) (n0 : 1 ≤ n) (n1 : n ≤ 8) {fa : ME (List PV)} {e : Sl} {h h1 : Cells} (q : fa e h = .ok [nI z, nI n] h1) :
    mMakeD "Sieve" r_Sieve___init__ [] fa e h = .ok (.r h1.length) (h1 ++ [.ins "Sieve" (sf z n (.r (h1.length + 1)) 0), .lst ((List.replicate z (0 : Int)).map pI)]) :=
  make_go q (s_init z0 z1 n0 n1 h1)
end K04

set_option Elab.async false
set_option linter.all false
set_option maxRecDepth 100000
set_option maxHeartbeats 1000000
namespace K04
open PySem PySem.Spec PyProof.Rows L2 Mi
theorem asL_app {v : PV} {h g : Cells} {xs : List PV} (e : asL v h = some xs) : asL v (h ++ g) = some xs := by
  cases v with
  | r n =>
    have q := asL_r e
    exact asL_cell (by rw [List.getElem?_append_left (List.getElem?_eq_some_iff.mp q).1]; exact q)
  | d x => cases x <;> first | exact e | cases e
  | _ => first | exact e | cases e
theorem SV.app {h g : Cells} {s z n : Nat} {bv : PV} {B : List Int} {p : Int} (v : SV h s z n bv B p) : SV (h ++ g) s z n bv B p :=
  ⟨by rw [List.getElem?_append_left (List.getElem?_eq_some_iff.mp v.ins).1]; exact v.ins, asL_app v.bits, v.len⟩
theorem fS_size {fo : ME PV} {e : Sl} {h0 h : Cells} {s z n : Nat} {bv : PV} {p : Int} (q : fo e h0 = .ok (.r s) h) (v : h[s]? = some (.ins "Sieve" (sf z n bv p))) : mFld ["Sieve"] "size" fo e h0 = .ok (nI z) h := fld_eq q v (by simp) (f_size _ _ _ _)
theorem fS_turns {fo : ME PV} {e : Sl} {h0 h : Cells} {s z n : Nat} {bv : PV} {p : Int} (q : fo e h0 = .ok (.r s) h) (v : h[s]? = some (.ins "Sieve" (sf z n bv p))) : mFld ["Sieve"] "turns" fo e h0 = .ok (nI n) h := fld_eq q v (by simp) (f_turns _ _ _ _)
theorem fS_bits {fo : ME PV} {e : Sl} {h0 h : Cells} {s z n : Nat} {bv : PV} {p : Int} (q : fo e h0 = .ok (.r s) h) (v : h[s]? = some (.ins "Sieve" (sf z n bv p))) : mFld ["Sieve"] "bits" fo e h0 = .ok bv h := fld_eq q v (by simp) (f_bits _ _ _ _)
theorem fS_put {fo : ME PV} {e : Sl} {h0 h : Cells} {s z n : Nat} {bv : PV} {p : Int} (q : fo e h0 = .ok (.r s) h) (v : h[s]? = some (.ins "Sieve" (sf z n bv p))) : mFld ["Sieve"] "put_in" fo e h0 = .ok (pI p) h := fld_eq q v (by simp) (f_put _ _ _ _)
abbrev newS (z n : Nat) (bv : PV) (p : Int) : Cells := [.ins "Sieve" (sf z n bv p), .lst ((List.replicate z (0 : Int)).map pI)]
theorem at2 {h : Cells} {o u : AO} : (h ++ [o, u])[h.length]? = some o := by simp
theorem set2 {h : Cells} {o u x : AO} : (h ++ [o, u]).set h.length x = h ++ [x, u] := by simp
theorem mapL (l : List Int) : mkL (l.map pI) = pL (pIs l) := mkL_ints l
theorem s_joined {z n : Nat} (z0 : 1 ≤ z) (z1 : z ≤ 4096) (n0 : 1 ≤ n) (n1 : n ≤ 8) {s o b1 b2 : Nat} {K M : List Int} {p q : Int} {h : Cells} (v1 : SV h s z n (.r b1) (ind z K) p) (v2 : SV h o z n (.r b2) (ind z M) q) :
    r_Sieve_joined_with [.r s, .r o] h = .ok (.r h.length) (h ++ newS z n (pL (pIs (ind z (K ++ M)))) (p + q)) := by
  refine trim_keep (runF_rt ?_) (.inr (by simp [PV.bd]))
  unfold m_Sieve_joined_with
  simp only [List.map_cons, List.map_nil, List.length_cons, List.length_nil, Nat.reduceAdd, Nat.reduceSub, List.replicate, List.cons_append, List.nil_append]
  have c1 := tup2 (e := [some (.r s), some (.r o), none, none, none]) (fS_size (mV_0 _ _ _) v1.ins) (fS_turns (mV_0 _ _ _) v1.ins)
  have c2 := tup2 (e := [some (.r s), some (.r o), none, none, none]) (fS_size (mV_1 _ _ _ _) v2.ins) (fS_turns (mV_1 _ _ _ _) v2.ins)
  rw [seq_nx (if_no (ck c1 c2 rfl (d_ints [z, n])))]
  have mk := s_make z0 z1 n0 n1 (arg2 (e := [some (.r s), some (.r o), none, none, none]) (fS_size (mV_0 _ _ _) v1.ins) (fS_turns (mV_0 _ _ _) v1.ins))
  rw [seq_nx (asg_N mk)]
  simp only [List.set_cons_succ, List.set_cons_zero]
  have w1 := v1.app (g := newS z n (.r (h.length + 1)) 0)
  have w2 := v2.app (g := newS z n (.r (h.length + 1)) 0)
  have g1 := asL_r w1.bits
  have g2 := asL_r w2.bits
  have it : iZipM (aCons (mFld ["Sieve"] "bits" (mV 0)) (aCons (mFld ["Sieve"] "bits" (mV 1)) aNil)) [some (.r s), some (.r o), some (.r h.length), none, none] (h ++ newS z n (.r (h.length + 1)) 0) = .ok (((ind z K).zip (ind z M)).map (fun p => pT [.int p.1, .int p.2]), some (.cells [(b1, (ind z K).map pI), (b2, (ind z M).map pI)])) (h ++ newS z n (.r (h.length + 1)) 0) := by
    unfold iZipM
    rw [arg2 (fS_bits (mV_0 _ _ _) w1.ins) (fS_bits (mV_1 _ _ _ _) w2.ins)]
    simp only [bind_ok, asF, asT, w1.bits, w2.bits, zipP_ints, rqC, List.cons_append, List.nil_append]
  have g := lc_goA (vs := [3, 4]) (fe := mCall biMax2 (aCons (mV 3) (aCons (mV 4) aNil))) (g := gTp 2 (gsCons (gN 3) (gsCons (gN 4) gsNil))) (fun p : Int × Int => pT [.int p.1, .int p.2]) (fun p => pI (if p.2 > p.1 then p.2 else p.1)) ((ind z K).zip (ind z M)) it
    (by simp only [gd, List.all_cons, List.all_nil, isLst_ints g1, isLst_ints g2, Bool.and_self]) (fun p _ => ⟨[some (.r s), some (.r o), some (.r h.length), some (pI p.1), some (pI p.2)], by simp [gTp, wipeE], bi2 (mV_3 _ _ _ _ _ _) (mV_4 _ _ _ _ _ _ _) rfl⟩) (by simp [ind_len]; omega)
  have em : ((ind z K).zip (ind z M)).map (fun p => if p.2 > p.1 then p.2 else p.1) = ind z (K ++ M) := by
    apply List.ext_getElem?
    intro i
    by_cases hi : i < z
    · rw [List.getElem?_map, List.getElem?_zip_eq_some (z := (if (i : Int) ∈ K then (1 : Int) else 0, if (i : Int) ∈ M then (1 : Int) else 0)) |>.mpr ⟨ind_get K hi, ind_get M hi⟩, ind_get _ hi]
      simp only [Option.map_some, List.mem_append]
      by_cases a : (i : Int) ∈ K <;> by_cases b : (i : Int) ∈ M <;> simp [a, b]
    · rw [List.getElem?_eq_none (by simp [ind_len]; omega), List.getElem?_eq_none (by rw [ind_len]; omega)]
  have e2 : (((ind z K).zip (ind z M)).map fun p => pI (if p.2 > p.1 then p.2 else p.1)) = (ind z (K ++ M)).map pI := by rw [← em, List.map_map]; rfl
  rw [e2, mapL] at g
  rw [seq_nx (asgF g (mV_2 _ _ _ _ _) at2 (by simp) (by exact (by decide : (4 : Nat) < 1000))), set2]
  have e3 : putA "bits" (pL (pIs (ind z (K ++ M)))) (sf z n (.r (h.length + 1)) 0) = sf z n (pL (pIs (ind z (K ++ M)))) 0 := rfl
  rw [e3]
  have x1 := v1.app (g := newS z n (pL (pIs (ind z (K ++ M)))) 0)
  have x2 := v2.app (g := newS z n (pL (pIs (ind z (K ++ M)))) 0)
  rw [seq_nx (asgF (bin (fS_put (mV_0 _ _ _) x1.ins) (fS_put (mV_1 _ _ _ _) x2.ins) (vadd _ _ _)) (mV_2 _ _ _ _ _) at2 (by simp) (by exact (by decide : (4 : Nat) < 1000))), set2, mRet_eq, mV_2]
  rfl
def FB (m : Nat) (K : List Int) : List Int := (List.range m).map fun i : Nat => if (i : Int) ∈ K ∨ ((i + m : Nat) : Int) ∈ K then (1 : Int) else 0
theorem s_folded {m n : Nat} (z0 : 1 ≤ m) (z1 : 2 * m ≤ 4096) (n0 : 1 ≤ n) (n1 : n ≤ 8) {s : Nat} {bv : PV} {K : List Int} {p : Int} {h : Cells} (v1 : SV h s (2 * m) n bv (ind (2 * m) K) p) :
    r_Sieve_folded [.r s] h = .ok (.r h.length) (h ++ newS m n (pL (pIs (FB m K))) p) := by
  refine trim_keep (runF_rt ?_) (.inr (by simp [PV.bd]))
  unfold m_Sieve_folded
  simp only [List.map_cons, List.map_nil, List.length_cons, List.length_nil, Nat.reduceAdd, Nat.reduceSub, List.replicate, List.cons_append, List.nil_append]
  have c1 : mTb (mBin (opEq true) (mBin opMod (mFld ["Sieve"] "size" (mV 0)) (mK (.d (.int 2)))) (mK (.d (.int 1)))) [some (.r s), none, none] h = .ok false h := by
    rw [mTb_eq, bin (bin (fS_size (mV_0 _ _ _) v1.ins) (mK_eq _ _ _) (vmod _ _ _ (by omega))) (mK_eq _ _ _) (veq _ _ _ _)]
    have : ((2 * m : Nat) : Int) % 2 = 0 := by omega
    rw [this]; rfl
  rw [seq_nx (if_no c1)]
  have hd : ((2 * m : Nat) : Int) / 2 = (m : Int) := by omega
  have d : mBin opDiv (mFld ["Sieve"] "size" (mV 0)) (mK (.d (.int 2))) [some (.r s), none, none] h = .ok (nI m) h := by
    rw [bin (fS_size (mV_0 _ _ _) v1.ins) (mK_eq _ _ _) (vdiv _ _ _ (by omega) (by omega)), hd]
  have mk := s_make z0 (by omega) n0 n1 (arg2 d (fS_turns (mV_0 _ _ _) v1.ins))
  rw [seq_nx (asg_N mk)]
  simp only [List.set_cons_succ, List.set_cons_zero]
  have w1 := v1.app (g := newS m n (.r (h.length + 1)) 0)
  have it := range1_nat (g := aCons (mFld ["Sieve"] "size" (mV 1)) aNil) (e := [some (.r s), some (.r h.length), none]) (h := h ++ newS m n (.r (h.length + 1)) 0) (arg1 (fS_size (mV_1 _ _ _ _) at2)) (by omega)
  have g := lc_goA (src := none) (vs := [2]) (fe := mCall biMax2 (aCons (mBin opIx (mFld ["Sieve"] "bits" (mV 0)) (mV 2)) (aCons (mBin opIx (mFld ["Sieve"] "bits" (mV 0)) (mBin opAdd (mV 2) (mFld ["Sieve"] "size" (mV 1)))) aNil))) (g := gN 2)
    (fun i : Nat => pI (0 + (i : Int))) (fun i => pI (if (i : Int) ∈ K ∨ ((i + m : Nat) : Int) ∈ K then 1 else 0)) (List.range m) it rfl (fun i hi => by
      have hi := List.mem_range.mp hi
      refine ⟨[some (.r s), some (.r h.length), some (pI (0 + (i : Int)))], rfl, ?_⟩
      rw [Int.zero_add]
      have ga : ((ind (2 * m) K).map pI)[i]? = some (pI (if (i : Int) ∈ K then 1 else 0)) := by rw [List.getElem?_map, ind_get _ (by omega)]; rfl
      have gb : ((ind (2 * m) K).map pI)[i + m]? = some (pI (if ((i + m : Nat) : Int) ∈ K then 1 else 0)) := by rw [List.getElem?_map, ind_get _ (by omega)]; rfl
      have ad : mBin opAdd (mV 2) (mFld ["Sieve"] "size" (mV 1)) [some (.r s), some (.r h.length), some (nI i)] (h ++ newS m n (.r (h.length + 1)) 0) = .ok (nI (i + m)) (h ++ newS m n (.r (h.length + 1)) 0) := by
        rw [bin (mV_2 _ _ _ _ _) (fS_size (mV_1 _ _ _ _) at2) (vadd _ _ _)]; rfl
      rw [bi2 (bin (fS_bits (mV_0 _ _ _) w1.ins) (mV_2 _ _ _ _ _) (ix_asL w1.bits ga)) (bin (fS_bits (mV_0 _ _ _) w1.ins) ad (ix_asL w1.bits gb)) rfl]
      by_cases a : (i : Int) ∈ K <;> by_cases b : ((i + m : Nat) : Int) ∈ K <;> simp only [a, b, if_true, if_false, or_true, true_or, or_self, or_false, false_or] <;> rfl) (by simp; omega)
  have e2 : ((List.range m).map fun i : Nat => pI (if (i : Int) ∈ K ∨ ((i + m : Nat) : Int) ∈ K then 1 else 0)) = (FB m K).map pI := by rw [FB, List.map_map]; rfl
  rw [e2, mapL] at g
  rw [seq_nx (asgF g (mV_1 _ _ _ _) at2 (by simp) (by exact (by decide : (4 : Nat) < 1000))), set2]
  have e3 : putA "bits" (pL (pIs (FB m K))) (sf m n (.r (h.length + 1)) 0) = sf m n (pL (pIs (FB m K))) 0 := rfl
  rw [e3]
  have x1 := v1.app (g := newS m n (pL (pIs (FB m K))) 0)
  rw [seq_nx (asgF (fS_put (mV_0 _ _ _) x1.ins) (mV_1 _ _ _ _) at2 (by simp) (by exact (by decide : (4 : Nat) < 1000))), set2, mRet_eq, mV_1]
  rfl
/-! ### numbers -/
def bt (w k : Int) : Int := let x := (693 * w + 500 * k) / (1000 * k); let y := if x > 1 then x else 1; if y < 8 then y else 8
theorem s_best (w k : Int) (w0 : 1 ≤ w) (w1 : w ≤ 10000) (k0 : 1 ≤ k) (k1 : k ≤ 10000) (h : Cells) : r_best_turns [pI w, pI k] h = .ok (pI (bt w k)) h := by
  refine iso_ok rfl (trim_same (runF_rt ?_) rfl) rfl
  unfold m_best_turns
  simp only [List.map_cons, List.map_nil, List.length_cons, List.length_nil, Nat.reduceAdd, Nat.reduceSub, List.replicate, List.cons_append, List.nil_append]
  have c : mTb (mBin oLt (mCall biMin2 (aCons (mV 0) (aCons (mV 1) aNil))) (mK (.d (.int 1)))) [some (pI w), some (pI k)] [] = .ok false [] := by
    rw [mTb_eq, bin (bi2 (mV_0 _ _ _) (mV_1 _ _ _ _) rfl) (mK_eq _ _ _) (vlt _ _ _)]
    have : ¬ (if k < w then k else w) < 1 := by split <;> omega
    simp only [bind_ok, this, decide_false]
  rw [seq_nx (if_no c)]
  have m1 : mulOk 693 w = true := mulOk_r (by omega) (by omega)
  have m2 : mulOk 500 k = true := mulOk_r (by omega) (by omega)
  have m3 : mulOk 1000 k = true := mulOk_r (by omega) (by omega)
  rw [mRet_eq, bi2 (mK_eq _ _ _) (bi2 (mK_eq _ _ _) (bin (bin (bin (mK_eq _ _ _) (mV_0 _ _ _) (vmul _ _ _ m1)) (bin (mK_eq _ _ _) (mV_1 _ _ _ _) (vmul _ _ _ m2)) (vadd _ _ _)) (bin (mK_eq _ _ _) (mV_1 _ _ _ _) (vmul _ _ _ m3)) (vdiv _ _ _ (by omega) (by omega))) rfl) rfl]
  rfl
theorem s_power (x : Int) (n : Nat) (x0 : 0 ≤ x) (x1 : x ≤ 100000) (n1 : n ≤ 1000) (h : Cells) : r__law_power [pI x, nI n] h = .ok (pI (x ^ n)) h := by
  refine iso_ok rfl (trim_same (runF_rt ?_) rfl) rfl
  unfold m__law_power
  simp only [List.map_cons, List.map_nil, List.length_cons, List.length_nil, Nat.reduceAdd, Nat.reduceSub, List.replicate, List.cons_append, List.nil_append]
  rw [seq_nx (asg_N (mK_eq _ _ _))]
  simp only [List.set_cons_succ, List.set_cons_zero]
  have it := range1_nat (g := aCons (mV 1) aNil) (e := [some (pI x), some (nI n), some (pI 1), none]) (h := []) (arg1 (mV_1 _ _ _ _)) (by omega)
  obtain ⟨e', h', f1, u, rfl, rfl⟩ := for_pre (g := gN 3) (b := mAsg (mBin opMul (mV 2) (mV 0)) (gN 2)) (fun i : Nat => pI (0 + (i : Int))) (List.range n) (fun pre e h' => ∃ u, e = [some (pI x), some (nI n), some (pI (x ^ pre.length)), u] ∧ h' = [])
    (fun pre i suf _ e h' ⟨u, he, hh⟩ => by
      subst he hh
      refine ⟨_, _, [some (pI x), some (nI n), some (pI (x ^ (pre ++ [i]).length)), some (pI (0 + (i : Int)))], [], rfl, ?_, _, rfl, rfl⟩
      refine (asg_N (bin (mV_2 _ _ _ _ _) (mV_0 _ _ _) (vmul _ _ _ (mulOk_r (by omega) (by omega))))).trans ?_
      rw [List.length_append, List.length_singleton, Int.pow_succ]; rfl) it ⟨none, by simp, rfl⟩
  rw [seq_nx f1, mRet_eq, mV_2]
  simp
theorem s_odds (t z : Int) (n : Nat) (t0 : 0 ≤ t) (t1 : t ≤ z) (z0 : 1 ≤ z) (z1 : z ≤ 100000) (n0 : 1 ≤ n) (n1 : n ≤ 1000) (h : Cells) : r_odds [pT [.int t, .int z], nI n] h = .ok (pT [.int (t ^ n), .int (z ^ n)]) h := by
  refine iso_ok rfl (trim_same (runF_rt ?_) rfl) rfl
  unfold m_odds
  simp only [List.map_cons, List.map_nil, List.length_cons, List.length_nil, Nat.reduceAdd, Nat.reduceSub, List.replicate, List.cons_append, List.nil_append]
  have s1 : mAsg (mV 0) (gTp 2 (gsCons (gN 2) (gsCons (gN 3) gsNil))) [some (pT [.int t, .int z]), some (nI n), none, none, none, none, none] [] = .nx [some (pT [.int t, .int z]), some (nI n), some (pI t), some (pI z), none, none, none] [] := rfl
  rw [seq_nx s1]
  have b1 : decide ((n : Int) < 1) = false := by simp; omega
  have c : mOr (mTb (mBin oLt (mV 1) (mK (.d (.int 1))))) (mOr (mNot (mTb (mChain oLe oLe (mK (.d (.int 0))) (mV 2) (mV 3)))) (mTb (mBin oLt (mV 3) (mK (.d (.int 1)))))) [some (pT [.int t, .int z]), some (nI n), some (pI t), some (pI z), none, none, none] [] = .ok false [] := by
    simp only [mOr_eq, mNot_eq, mTb_eq, mChain_eq, mBin_eq, mV_1, mV_2, mV_3, mK_eq, bind_ok, vlt, vle, b1, t0, t1, decide_true, Bool.not_true, Bool.false_eq_true, if_false, if_true, show ¬ (z < 1) by omega, decide_false]
  have s2 : mAsg2 (mK (.d (.int 1))) (gN 4) (gN 5) [some (pT [.int t, .int z]), some (nI n), some (pI t), some (pI z), none, none, none] [] = .nx [some (pT [.int t, .int z]), some (nI n), some (pI t), some (pI z), some (pI 1), some (pI 1), none] [] := rfl
  rw [seq_nx (if_no c), seq_nx s2]
  have it := range1_nat (g := aCons (mV 1) aNil) (e := [some (pT [.int t, .int z]), some (nI n), some (pI t), some (pI z), some (pI 1), some (pI 1), none]) (h := []) (arg1 (mV_1 _ _ _ _)) (by omega)
  obtain ⟨e', h', f1, u, rfl, rfl⟩ := for_pre (g := gN 6) (b := mPar 4 5 (aCons (mBin opMul (mV 4) (mV 2)) (aCons (mBin opMul (mV 5) (mV 3)) aNil))) (fun i : Nat => pI (0 + (i : Int))) (List.range n) (fun pre e h' => ∃ u, e = [some (pT [.int t, .int z]), some (nI n), some (pI t), some (pI z), some (pI (t ^ pre.length)), some (pI (z ^ pre.length)), u] ∧ h' = [])
    (fun pre i suf _ e h' ⟨u, he, hh⟩ => by
      subst he hh
      refine ⟨_, _, [some (pT [.int t, .int z]), some (nI n), some (pI t), some (pI z), some (pI (t ^ (pre ++ [i]).length)), some (pI (z ^ (pre ++ [i]).length)), some (pI (0 + (i : Int)))], [], rfl, ?_, _, rfl, rfl⟩
      simp only [List.set_cons_succ, List.set_cons_zero]
      rw [mPar_eq, arg2 (bin (mV_4 _ _ _ _ _ _ _) (mV_2 _ _ _ _ _) (vmul _ _ _ (mulOk_r (by omega) (by omega)))) (bin (mV_5 _ _ _ _ _ _ _ _) (mV_3 _ _ _ _ _ _) (vmul _ _ _ (mulOk_r (by omega) (by omega))))]
      rw [List.length_append, List.length_singleton, Int.pow_succ, Int.pow_succ]; rfl) it ⟨none, by simp, rfl⟩
  rw [seq_nx f1, mRet_eq, tup2 (mV_4 _ _ _ _ _ _ _) (mV_5 _ _ _ _ _ _ _ _)]
  simp
end K04

set_option Elab.async false
set_option linter.all false
set_option maxRecDepth 100000
set_option maxHeartbeats 1000000
namespace K04
open PySem PySem.Spec PyProof.Rows L2 Mi
/-! ## counting -/
abbrev cf (s c : Nat) : List (Str × PV) := [("sieve", .r s), ("counts", .r c)]
structure CV (h : Cells) (q s c z n : Nat) (C : List Int) : Prop where
  ins : h[q]? = some (.ins "Counting" (cf s c))
  sv : ∃ bv p, h[s]? = some (.ins "Sieve" (sf z n bv p))
  cnt : h[c]? = some (.lst (C.map pI))
  len : C.length = z
theorem fC_sieve {fo : ME PV} {e : Sl} {h0 h : Cells} {q s c : Nat} (k : fo e h0 = .ok (.r q) h) (v : h[q]? = some (.ins "Counting" (cf s c))) : mFld ["Counting"] "sieve" fo e h0 = .ok (.r s) h := fld_eq k v (by simp) rfl
theorem fC_counts {fo : ME PV} {e : Sl} {h0 h : Cells} {q s c : Nat} (k : fo e h0 = .ok (.r q) h) (v : h[q]? = some (.ins "Counting" (cf s c))) : mFld ["Counting"] "counts" fo e h0 = .ok (.r c) h := fld_eq k v (by simp) rfl
/-- f at the places ps -/
def upC (f : Int → Int) (C : List Int) (ps : List Int) : List Int := (List.range C.length).map fun i : Nat => if (i : Int) ∈ ps then f (C.getD i 0) else C.getD i 0
theorem upC_len (f : Int → Int) (C ps : List Int) : (upC f C ps).length = C.length := by simp [upC]
theorem upC_get (f : Int → Int) (C ps : List Int) {i : Nat} (h : i < C.length) : (upC f C ps)[i]? = some (if (i : Int) ∈ ps then f (C.getD i 0) else C.getD i 0) := by simp [upC, h]
theorem upC_nil (f : Int → Int) (C : List Int) : upC f C [] = C := by
  apply List.ext_getElem?
  intro i
  by_cases h : i < C.length
  · rw [upC_get f C [] h, getD_at h]; simp
  · rw [List.getElem?_eq_none (by rw [upC_len]; omega), List.getElem?_eq_none (by omega)]
theorem upC_snoc (f : Int → Int) (C pre : List Int) {i : Nat} (h : i < C.length) : upC f C (pre ++ [(i : Int)]) = (upC f C pre).set i (f (C.getD i 0)) := by
  apply List.ext_getElem?
  intro j
  by_cases hj : j < C.length
  · by_cases e : i = j
    · subst e
      rw [List.getElem?_set_self (by rw [upC_len]; exact h), upC_get _ _ _ h, if_pos (by simp)]
    · rw [List.getElem?_set_ne e, upC_get _ _ _ hj, upC_get _ _ _ hj]
      have : ((j : Int) ∈ pre ++ [(i : Int)]) ↔ (j : Int) ∈ pre := by
        rw [List.mem_append, List.mem_singleton]
        exact ⟨fun q => q.elim id (fun q => absurd (by omega) e), .inl⟩
      by_cases q : (j : Int) ∈ pre
      · rw [if_pos q, if_pos (this.mpr q)]
      · rw [if_neg q, if_neg (fun x => q (this.mp x))]
  · rw [List.getElem?_eq_none (by rw [upC_len]; omega), List.getElem?_eq_none (by rw [List.length_set, upC_len]; omega)]
theorem set_id {γ : Type} {l : List γ} {i : Nat} {x : γ} (h : l[i]? = some x) : l.set i x = l := by
  apply List.ext_getElem?
  intro j
  by_cases e : i = j
  · subst e; rw [List.getElem?_set_self (List.getElem?_eq_some_iff.mp h).1, h]
  · rw [List.getElem?_set_ne e]
def up1 (x : Int) : Int := if x + 1 < 15 then x + 1 else 15
def dn1 (x : Int) : Int := if x < 15 then x - 1 else x
/-- a loop that sets the counts at the places -/
theorem s_loop (f : Int → Int) {body : MS} {is : List Nat} (k : ∀ i ∈ is, i < 11) {q s c z n : Nat} (hn : n ≤ 8) (hz : 0 < z) (qc : q ≠ c) {C : List Int} {h : Cells} (w : wfB h = true) (v : CV h q s c z n C)
    (step : ∀ (i : Nat) (D : List Int) (h' : Cells) (u : Option PV), i < z → D.length = z → h'[q]? = some (.ins "Counting" (cf s c)) → h'[c]? = some (.lst (D.map pI)) → D[i]? = some (C.getD i 0) → body [some (.r q), some (pS (kx is)), some (nI i)] h' = .nx [some (.r q), some (pS (kx is)), some (nI i)] (h'.set c (.lst ((D.set i (f (C.getD i 0))).map pI)))) :
    ∃ u, mFor (iAny (mMethD "Sieve" "bits_of" r_Sieve_bits_of [] (mFld ["Counting"] "sieve" (mV 0)) (aCons (mV 1) aNil))) (gN 2) body [some (.r q), some (pS (kx is)), none] h = .nx [some (.r q), some (pS (kx is)), u] (h.set c (.lst ((upC f C (BS is z n)).map pI))) := by
  obtain ⟨bv, p, sv⟩ := v.sv
  have it := walk_pT (it_bits (fo := mFld ["Counting"] "sieve" (mV 0)) (fk := mV 1) (e := [some (.r q), some (pS (kx is)), none]) k hn hz w sv (fC_sieve (mV_0 _ _ _) v.ins) (mV_1 _ _ _ _))
  have cl : c < h.length := (List.getElem?_eq_some_iff.mp v.cnt).1
  obtain ⟨e', h', f1, u, rfl, rfl⟩ := for_pre (g := gN 2) (b := body) pI (BS is z n) (fun pre e h' => ∃ u, e = [some (.r q), some (pS (kx is)), u] ∧ h' = h.set c (.lst ((upC f C pre).map pI)))
    (fun pre x suf hf e h' ⟨u, he, hh⟩ => by
      subst he hh
      have nd := BS_nodup is z n
      have hx : x ∈ BS is z n := by rw [hf]; simp
      obtain ⟨i, rfl, iz⟩ := toNat_of (BS_range (by omega) hx)
      have np : (i : Int) ∉ pre := by
        rw [hf] at nd
        have := (List.nodup_append.mp nd).2.2
        exact fun q => this _ q _ (List.mem_cons_self) rfl
      have il : i < C.length := by rw [v.len]; exact iz
      refine ⟨_, _, [some (.r q), some (pS (kx is)), some (nI i)], h.set c (.lst ((upC f C (pre ++ [(i : Int)])).map pI)), rfl, ?_, _, rfl, rfl⟩
      refine (step i (upC f C pre) _ none iz (by rw [upC_len, v.len]) (by rw [List.getElem?_set_ne (Ne.symm qc)]; exact v.ins) (List.getElem?_set_self cl) (by rw [upC_get _ _ _ il, if_neg np])).trans ?_
      rw [List.set_set, upC_snoc _ _ _ il]) it ⟨none, rfl, by rw [upC_nil, set_id v.cnt]⟩
  exact ⟨u, f1⟩
theorem s_cadd {is : List Nat} (k : ∀ i ∈ is, i < 11) {q s c z n : Nat} (hn : n ≤ 8) (hz : 0 < z) (qc : q ≠ c) {C : List Int} {h : Cells} (w : wfB h = true) (v : CV h q s c z n C) :
    r_Counting_add [.r q, pS (kx is)] h = .ok pN (h.set c (.lst ((upC up1 C (BS is z n)).map pI))) := by
  obtain ⟨u, f⟩ := s_loop up1 (body := mAsg (mCall biMin2 (aCons (mK (.d (.int 15))) (aCons (mBin opAdd (mBin opIx (mFld ["Counting"] "counts" (mV 0)) (mV 2)) (mK (.d (.int 1)))) aNil))) (gIx (mFld ["Counting"] "counts" (mV 0)) (mV 2))) k hn hz qc w v
    (fun i D h' u iz dl g1 g2 gd => by
      have g3 : (D.map pI)[i]? = some (pI (C.getD i 0)) := by rw [List.getElem?_map, gd]; rfl
      refine (asgIx (bi2 (mK_eq _ _ _) (bin (bin (fC_counts (mV_0 _ _ _) g1) (mV_2 _ _ _ _ _) (ix_cell g2 g3)) (mK_eq _ _ _) (vadd _ _ _)) rfl) (fC_counts (mV_0 _ _ _) g1) (mV_2 _ _ _ _ _) g2 (by rw [List.length_map, dl]; exact iz)).trans ?_
      rw [List.map_set]; rfl)
  exact trim_same (runF_nx f) (by simp)
def hadB (C ps : List Int) : Bool := ps.all fun x => decide (0 < C.getD x.toNat 0)
theorem s_cmay {is : List Nat} (k : ∀ i ∈ is, i < 11) {q s c z n : Nat} (hn : n ≤ 8) (hz : 0 < z) {C : List Int} {h : Cells} (w : wfB h = true) (v : CV h q s c z n C) :
    r_Counting_may_be_in [.r q, pS (kx is)] h = .ok (pB (hadB C (BS is z n))) h := by
  refine trim_same (runF_rt ?_) rfl
  unfold m_Counting_may_be_in
  simp only [List.map_cons, List.map_nil, List.length_cons, List.length_nil, Nat.reduceAdd, Nat.reduceSub, List.replicate, List.cons_append, List.nil_append]
  obtain ⟨bv, p, sv⟩ := v.sv
  have it := walk_pT (it_bits (fo := mFld ["Counting"] "sieve" (mV 0)) (fk := mV 1) (e := [some (.r q), some (pS (kx is)), none]) k hn hz w sv (fC_sieve (mV_0 _ _ _) v.ins) (mV_1 _ _ _ _))
  have g := gen_go (g := gN 2) (own := [2]) (c := cAll) (fe := mBin oGt (mBin opIx (mFld ["Counting"] "counts" (mV 0)) (mV 2)) (mK (.d (.int 0)))) pI (fun x => pB (decide (0 < C.getD x.toNat 0))) (BS is z n) it (fun x hx => by
    obtain ⟨i, rfl, iz⟩ := toNat_of (BS_range (by omega) hx)
    refine ⟨[some (.r q), some (pS (kx is)), some (nI i)], rfl, ?_⟩
    have gi : (C.map pI)[i]? = some (pI (C.getD i 0)) := by rw [List.getElem?_map, getD_at (by rw [v.len]; exact iz)]; rfl
    rw [bin (bin (fC_counts (mV_0 _ _ _) v.ins) (mV_2 _ _ _ _ _) (ix_cell v.cnt gi)) (mK_eq _ _ _) (vgt _ _ _)]
    rfl)
  rw [mRet_eq, g, cAll_pure]
  rfl
theorem c_may {is : List Nat} {fo fk : ME PV} {e : Sl} {h : Cells} (k : ∀ i ∈ is, i < 11) {q s c z n : Nat} (hn : n ≤ 8) (hz : 0 < z) {C : List Int} (w : wfB h = true) (v : CV h q s c z n C) (q0 : fo e h = .ok (.r q) h) (q1 : fk e h = .ok (pS (kx is)) h) :
    mMethD "Counting" "may_be_in" r_Counting_may_be_in [] fo (aCons fk aNil) e h = .ok (pB (hadB C (BS is z n))) h := meth_go q0 v.ins rfl (arg1 q1) (s_cmay k hn hz w v)
theorem s_cremove {is : List Nat} (k : ∀ i ∈ is, i < 11) {q s c z n : Nat} (hn : n ≤ 8) (hz : 0 < z) (qc : q ≠ c) {C : List Int} {h : Cells} (w : wfB h = true) (v : CV h q s c z n C) :
    r_Counting_remove [.r q, pS (kx is)] h = if hadB C (BS is z n) then .ok pN (h.set c (.lst ((upC dn1 C (BS is z n)).map pI))) else .ex "SieveError" h := by
  have m := c_may (fo := mV 0) (fk := mV 1) (e := [some (.r q), some (pS (kx is)), none]) k hn hz w v (mV_0 _ _ _) (mV_1 _ _ _ _)
  cases hb : hadB C (BS is z n) with
  | false =>
    rw [hb] at m
    refine trim_sameX (runF_ex ?_) rfl
    exact seq_ex ((if_yes (h1 := h) (by rw [mNot_eq, mTb_eq]; simp only [List.map_cons, List.map_nil, List.length_cons, List.length_nil, Nat.reduceAdd, Nat.reduceSub, List.replicate, List.cons_append, List.nil_append]; rw [m]; rfl)).trans rfl)
  | true =>
    rw [hb] at m
    obtain ⟨u, f⟩ := s_loop dn1 (body := mIf (mTb (mBin oLt (mBin opIx (mFld ["Counting"] "counts" (mV 0)) (mV 2)) (mK (.d (.int 15))))) (mAugS opSub (mFld ["Counting"] "counts" (mV 0)) (mV 2) (mK (.d (.int 1)))) mSkip) k hn hz qc w v
      (fun i D h' u iz dl g1 g2 gd => by
        have g3 : (D.map pI)[i]? = some (pI (C.getD i 0)) := by rw [List.getElem?_map, gd]; rfl
        have ct : mTb (mBin oLt (mBin opIx (mFld ["Counting"] "counts" (mV 0)) (mV 2)) (mK (.d (.int 15)))) [some (.r q), some (pS (kx is)), some (nI i)] h' = .ok (decide (C.getD i 0 < 15)) h' := by
          rw [mTb_eq, bin (bin (fC_counts (mV_0 _ _ _) g1) (mV_2 _ _ _ _ _) (ix_cell g2 g3)) (mK_eq _ _ _) (vlt _ _ _)]; rfl
        by_cases hl : C.getD i 0 < 15
        · rw [decide_eq_true hl] at ct
          refine (if_yes ct).trans ((augS_eq (fC_counts (mV_0 _ _ _) g1) (mV_2 _ _ _ _ _) g2 g3 (mK_eq _ _ _) (vsub _ _ _) g2).trans ?_)
          rw [List.map_set, dn1, if_pos hl]
        · rw [decide_eq_false hl] at ct
          refine (if_no ct).trans ?_
          rw [dn1, if_neg hl, set_id gd, set_id g2])
    refine trim_same (runF_nx (e := [some (.r q), some (pS (kx is)), u]) ?_) (by simp)
    refine (seq_nx (if_no (h1 := h) (by rw [mNot_eq, mTb_eq]; simp only [List.map_cons, List.map_nil, List.length_cons, List.length_nil, Nat.reduceAdd, Nat.reduceSub, List.replicate, List.cons_append, List.nil_append]; rw [m]; rfl))).trans f
def plB (C : List Int) : List Int := C.map fun x => if 0 < x then 1 else 0
theorem s_cplain {q s c z n : Nat} (z0 : 1 ≤ z) (z1 : z ≤ 4096) (n0 : 1 ≤ n) (n1 : n ≤ 8) {C : List Int} {h : Cells} (v : CV h q s c z n C) :
    r_Counting_plain [.r q] h = .ok (.r h.length) (h ++ newS z n (pL (pIs (plB C))) 0) := by
  refine trim_keep (runF_rt ?_) (.inr (by simp [PV.bd]))
  unfold m_Counting_plain
  simp only [List.map_cons, List.map_nil, List.length_cons, List.length_nil, Nat.reduceAdd, Nat.reduceSub, List.replicate, List.cons_append, List.nil_append]
  obtain ⟨bv, p, sv⟩ := v.sv
  have mk := s_make z0 z1 n0 n1 (arg2 (e := [some (.r q), none, none]) (fS_size (fC_sieve (mV_0 _ _ _) v.ins) sv) (fS_turns (fC_sieve (mV_0 _ _ _) v.ins) sv))
  rw [seq_nx (asg_N mk)]
  simp only [List.set_cons_succ, List.set_cons_zero]
  have lift : ∀ {i : Nat} {o : AO}, h[i]? = some o → (h ++ newS z n (.r (h.length + 1)) 0)[i]? = some o := fun g => by rw [List.getElem?_append_left (List.getElem?_eq_some_iff.mp g).1]; exact g
  have it : iAny (mFld ["Counting"] "counts" (mV 0)) [some (.r q), some (.r h.length), none] (h ++ newS z n (.r (h.length + 1)) 0) = .ok (C.map pI, some (.one c)) (h ++ newS z n (.r (h.length + 1)) 0) := any_cell (fC_counts (mV_0 _ _ _) (lift v.ins)) (lift v.cnt)
  have g := lc_goA (vs := [2]) (g := gN 2) (fe := mIfE (mTb (mBin oGt (mV 2) (mK (.d (.int 0))))) (mK (.d (.int 1))) (mK (.d (.int 0)))) pI (fun x => pI (if 0 < x then 1 else 0)) C it (isLst_ints (lift v.cnt)) (fun x _ => ⟨[some (.r q), some (.r h.length), some (pI x)], rfl, by
    by_cases a : 0 < x <;> simp [a]⟩) (by rw [v.len]; omega)
  have e2 : (C.map fun x => pI (if 0 < x then 1 else 0)) = (plB C).map pI := by rw [plB, List.map_map]; rfl
  rw [e2, mapL] at g
  rw [seq_nx (asgF g (mV_1 _ _ _ _) at2 (by simp) (by exact (by decide : (4 : Nat) < 1000))), set2, mRet_eq, mV_1]
  rfl
abbrev newC (L z n : Nat) : Cells := [.ins "Counting" (cf (L + 1) (L + 3)), .ins "Sieve" (sf z n (.r (L + 2)) 0), .lst ((List.replicate z (0 : Int)).map pI), .lst ((List.replicate z (0 : Int)).map pI)]
theorem s_cinit {z n : Nat} (z0 : 1 ≤ z) (z1 : z ≤ 4096) (n0 : 1 ≤ n) (n1 : n ≤ 8) (h : Cells) :
    r_Counting___init__ [.r h.length, nI z, nI n] (h ++ [AO.ins "Counting" []]) = .ok pN (h ++ newC h.length z n) := by
  refine trim_keep (runF_nx (e := [some (.r h.length), some (nI z), some (nI n)]) ?_) (.inl ?_)
  · unfold m_Counting___init__
    simp only [List.map_cons, List.map_nil, List.length_cons, List.length_nil, Nat.reduceAdd, Nat.reduceSub, List.replicate, List.cons_append, List.nil_append]
    have mk := s_make z0 z1 n0 n1 (arg2 (e := [some (.r h.length), some (nI z), some (nI n)]) (h := h ++ [AO.ins "Counting" []]) (mV_1 _ _ _ _) (mV_2 _ _ _ _ _))
    have g1 : ((h ++ [AO.ins "Counting" []]) ++ [AO.ins "Sieve" (sf z n (.r ((h ++ [AO.ins "Counting" []]).length + 1)) 0), AO.lst ((List.replicate z (0 : Int)).map pI)])[h.length]? = some (AO.ins "Counting" []) := by simp
    rw [seq_nx (asgF mk (mV_0 _ _ _) g1 (by simp) (by simp))]
    have s1 : ((h ++ [AO.ins "Counting" []]) ++ [AO.ins "Sieve" (sf z n (.r ((h ++ [AO.ins "Counting" []]).length + 1)) 0), AO.lst ((List.replicate z (0 : Int)).map pI)]).set h.length (AO.ins "Counting" (putA "sieve" (.r (h ++ [AO.ins "Counting" []]).length) [])) = h ++ [AO.ins "Counting" [("sieve", .r (h.length + 1))], AO.ins "Sieve" (sf z n (.r (h.length + 2)) 0), AO.lst ((List.replicate z (0 : Int)).map pI)] := by simp [putA]
    rw [s1]
    have m := bin (g := opMulC) (lst1 (mK_eq (.d (.int 0)) [some (.r h.length), some (nI z), some (nI n)] (h ++ [AO.ins "Counting" [("sieve", .r (h.length + 1))], AO.ins "Sieve" (sf z n (.r (h.length + 2)) 0), AO.lst ((List.replicate z (0 : Int)).map pI)]))) (mV_1 _ _ _ _) (rep0 z _ (by omega))
    have g2 : ((h ++ [AO.ins "Counting" [("sieve", .r (h.length + 1))], AO.ins "Sieve" (sf z n (.r (h.length + 2)) 0), AO.lst ((List.replicate z (0 : Int)).map pI)]) ++ [AO.lst ((List.replicate z (0 : Int)).map pI)])[h.length]? = some (AO.ins "Counting" [("sieve", .r (h.length + 1))]) := by simp
    rw [asgF m (mV_0 _ _ _) g2 (by simp) (by simp)]
    have ne : ¬ (("sieve" : Str) = ("counts" : Str)) := by decide +kernel
    simp [putA, ne]
  · have t : ((h ++ newC h.length z n).take (h ++ [AO.ins "Counting" []]).length) = h ++ [AO.ins "Counting" (cf (h.length + 1) (h.length + 3))] := by
      rw [List.length_append, List.length_singleton, List.take_append, List.take_of_length_le (by omega)]
      simp
    rw [t]
    exact wfB_false (i := h.length) at_end (by simp [AO.bd, bds, PV.bd])
theorem s_cmake {z n : Nat} (z0 : 1 ≤ z) (z1 : z ≤ 4096) (n0 : 1 ≤ n) (n1 : n ≤ 8) {fa : ME (List PV)} {e : Sl} {h h1 : Cells} (q : fa e h = .ok [nI z, nI n] h1) :
    mMakeD "Counting" r_Counting___init__ [] fa e h = .ok (.r h1.length) (h1 ++ newC h1.length z n) :=
  make_go q (s_cinit z0 z1 n0 n1 h1)
end K04

set_option Elab.async false
set_option linter.all false
set_option maxRecDepth 100000
set_option maxHeartbeats 1000000
namespace K04
open PySem PySem.Spec PyProof.Rows L2 Mi
/-! ## drawn keys -/
theorem kx_cps (is : List Nat) : (kx is).cps.toList = is.map kc := by simp [kx]
theorem kx_len (is : List Nat) : (kx is).length = is.length := by simp [kx, Str.length]
theorem join_one (is : List Nat) : Str.join "" (is.map one) = kx is := by
  apply PySem.W.str_of_cps
  rw [kx_cps]
  show TL.tl (Str.join "" (is.map one)) = is.map kc
  have e : TL.tl "" = [] := by decide +kernel
  rw [TL.tl_join, e]
  induction is with
  | nil => rfl
  | cons i r ih =>
    cases r with
    | nil => rfl
    | cons j r => 
      simp only [List.map_cons] at ih ⊢
      simp only [TL.joinL]
      rw [ih]
      rfl
theorem asStrs_map (l : List Str) : asStrs (l.map pS) = some l := by
  induction l with
  | nil => rfl
  | cons x r ih => simp [asStrs, ih]
theorem meJoin_one (is : List Nat) (k : is.length ≤ 100) (h : Cells) : meJoin (pS "") [pL ((is.map one).map .str)] h = .ok (pS (kx is)) h := by
  have e : asS (pL ((is.map one).map .str)) h = some ((is.map one).map pS) := by simp [asS]
  have l0 : ((is.map one).map (·.length)).sum = is.length := by
    clear e k
    induction is with
    | nil => rfl
    | cons i r ih => simp only [List.map_cons, List.sum_cons, ih, List.length_cons]; have : (one i).length = 1 := rfl; omega
  have l1 : ("" : Str).length = 0 := by decide +kernel
  simp only [meJoin, pS, e, asStrs_map, l0, l1, Nat.mul_zero, Nat.add_zero]
  rw [if_pos (by omega), join_one]
abbrev KA : Str := "abcxyz09-!"
theorem KA_tab : ∀ i < 10, KA.cps.toList[i]? = some (kc i) := by decide +kernel
theorem KA_len : KA.length = 10 := by decide +kernel
theorem KA_at (i : Nat) (h : i < 10) (c : Cells) : opIx (pS KA) (nI i) c = .ok (pS (one i)) c := by
  have e : atI KA.cps.toList (i : Int) = some (kc i) := by rw [Mi.atI_nat, KA_tab i h]
  have l : KA.length ≤ sizeLine := sz _ (by rw [KA_len]; omega)
  simp only [opIx, l, if_true, e, one]
def isK (v : PV) : Prop := ∃ is : List Nat, v = pS (kx is) ∧ is.length ≤ 4 ∧ ∀ i ∈ is, i < 10
theorem s_key {hc h : Cells} (i0 : ID hc h) : ∃ h' v, r__law_key [.r 0] h = .ok v h' ∧ isK v ∧ ID hc h' := by
  obtain ⟨a, b, c, rfl⟩ := i0
  suffices Rolled hc (r__law_key [.r 0] (Dh hc a b c)) isK by
    obtain ⟨v, a1, b1, c1, e, p⟩ := this
    exact ⟨_, v, e, p, a1, b1, c1, rfl⟩
  refine trim_rolled (m := 0) ?_
  have i0 : ID hc (Dh hc a b c) := ⟨a, b, c, rfl⟩
  obtain ⟨h1, v1, q1, ⟨n, rfl, n0, n1⟩, i1⟩ := roll_K (k := 0) (e := [some (.r 0), none]) (m := 5) (by omega) (by omega) i0 rfl
  obtain ⟨N, rfl⟩ : ∃ N : Nat, n = N := ⟨n.toNat, by omega⟩
  obtain ⟨vs, h2, d1, ⟨a2, b2, c2, rfl⟩, d3, d4⟩ := draws (hc := hc) (j := 1) (e := [some (.r 0), none]) (fi := aCons (mCallD r__law_roll [] (aCons (mV 0) (aCons (mK (.d (.int 5))) aNil))) aNil) (h := Dh hc a b c)
    (fe := mBin opIx (mK (.d (.str KA))) (mCallD r__law_roll [] (aCons (mV 0) (aCons (mK (.d (.int 10))) aNil))))
    (fun v => ∃ i : Nat, v = pS (one i) ∧ i < 10) (by rw [aCons_eq, q1]; rfl) (by omega) i1 (fun v h i => by
      obtain ⟨h'', w, w1, ⟨j, rfl, j0, j1⟩, w3⟩ := roll_K (k := 0) (m := 10) (e := [some (.r 0), some v]) (by omega) (by omega) i rfl
      obtain ⟨J, rfl⟩ : ∃ J : Nat, j = J := ⟨j.toNat, by omega⟩
      exact ⟨h'', pS (one J), bin (mK_eq _ _ _) w1 (KA_at J (by omega) _), ⟨J, rfl, by omega⟩, w3⟩)
  obtain ⟨is, rfl, l, ha⟩ := all_ex (f := fun i : Nat => pS (one i)) (Q := fun i => i < 10) (fun v h => h) vs d4
  have lk : is.length ≤ 4 := by rw [l, d3]; omega
  refine ⟨pS (kx is), a2, b2, c2, runF_rt ?_, is, rfl, lk, ha⟩
  unfold m__law_key
  have e3 : mkL (is.map fun i => pS (one i)) = pL ((is.map one).map .str) := by
    have : (is.map fun i => pS (one i)) = ((is.map one).map PyData.str).map .d := by simp [List.map_map, Function.comp_def]
    rw [this, mkL_map]
  rw [e3] at d1
  simp only [List.map_cons, List.map_nil, List.length_cons, List.length_nil, Nat.reduceAdd, Nat.reduceSub, List.replicate, List.cons_append, List.nil_append, mRet_eq, mMeth_eq, mK_eq, bind_ok, tyS, if_true, aCons_eq]
  rw [d1]
  simp only [bind_ok, aNil_eq, meJoin_one is (by omega), toS_ok]
/-- many keys -/
theorem draw_keys {hc : Cells} {n : Nat} {e : Sl} {h h1 : Cells} {fi : ME (List PV)} {j k : Nat} (q : fi e h = .ok [nI n] h1) (b : n ≤ 1000) (i : ID hc h1) (d : ∀ v h, mV k ((wipeE e [j]).set j (some v)) h = .ok (.r 0) h) :
    ∃ (L : List (List Nat)) (h' : Cells), mLc (iRange1 fi) (gN j) mYes (mCallD r__law_key [] (aCons (mV k) aNil)) [j] e h = .ok (pL (kD L)) h' ∧ ID hc h' ∧ L.length = n ∧ ∀ is ∈ L, is.length ≤ 4 ∧ ∀ i ∈ is, i < 10 := by
  obtain ⟨vs, h2, d1, d2, d3, d4⟩ := draws (hc := hc) (fe := mCallD r__law_key [] (aCons (mV k) aNil)) isK q (by omega) i (fun w h i => by
    obtain ⟨h', v, e1, p, i'⟩ := s_key i
    exact ⟨h', v, call1 (d w h) e1, p, i'⟩)
  obtain ⟨L, rfl, l, ha⟩ := all_ex (f := fun is => pS (kx is)) (Q := fun is : List Nat => is.length ≤ 4 ∧ ∀ i ∈ is, i < 10) (fun v h => h) vs d4
  rw [mkL_keys] at d1
  exact ⟨L, h2, d1, d2, by omega, ha⟩
theorem kOk_of {L : List (List Nat)} (l : L.length ≤ 1000) (h : ∀ is ∈ L, is.length ≤ 4 ∧ ∀ i ∈ is, i < 10) : kOk L := ⟨l, fun is hi i q => by have := (h is hi).2 i q; omega⟩
/-! ## what is held -/
def KK (L : List (List Nat)) (z : Int) (n : Nat) (K : List Int) : List Int := L.foldl (fun K is => (BS is z n).foldl addK K) K
theorem KK_cons (is : List Nat) (L : List (List Nat)) (z : Int) (n : Nat) (K : List Int) : KK (is :: L) z n K = KK L z n ((BS is z n).foldl addK K) := rfl
theorem KK_snoc (is : List Nat) (L : List (List Nat)) (z : Int) (n : Nat) (K : List Int) : KK (L ++ [is]) z n K = (BS is z n).foldl addK (KK L z n K) := by rw [KK, List.foldl_append]; rfl
theorem KK_mem : ∀ (L : List (List Nat)) (z : Int) (n : Nat) (K : List Int) (x : Int), x ∈ KK L z n K ↔ x ∈ K ∨ ∃ is ∈ L, x ∈ BS is z n
  | [], z, n, K, x => by simp [KK]
  | is :: L, z, n, K, x => by
    rw [KK_cons, KK_mem L, fold_mem]
    simp [or_assoc]
theorem KK_nodup : ∀ (L : List (List Nat)) (z : Int) (n : Nat) (K : List Int), K.Nodup → (KK L z n K).Nodup
  | [], _, _, _, h => h
  | is :: L, z, n, K, h => KK_nodup L z n _ (fold_nodup _ _ h)
theorem KK_len : ∀ (L : List (List Nat)) (z : Int) (n : Nat) (K : List Int), (KK L z n K).length ≤ K.length + n * L.length
  | [], z, n, K => by simp [KK]
  | is :: L, z, n, K => by
    have := KK_len L z n ((BS is z n).foldl addK K)
    have h2 := fold_len (BS is z n) K
    have h3 := BS_len is z n
    rw [KK_cons, List.length_cons, Nat.mul_succ]; omega
theorem fold_self : ∀ (l K : List Int), (K ++ l).Nodup → l.foldl addK K = K ++ l
  | [], K, _ => by simp
  | x :: r, K, h => by
    have hx : x ∉ K := by
      have := (List.nodup_append.mp h).2.2
      exact fun q => this x q x (by simp) rfl
    rw [List.foldl_cons, addK, if_neg hx, fold_self r _ (by simpa using h)]; simp
theorem BS_self (is : List Nat) (z : Int) (n : Nat) : (BS is z n).foldl addK [] = BS is z n := by
  rw [fold_self _ _ (by simpa using BS_nodup is z n)]; rfl
theorem may_ind {is : List Nat} {z n : Nat} {K : List Int} (hz : 0 < z) : mayB is z n (ind z K) = (BS is z n).all fun x => decide (x ∈ K) := by
  unfold mayB
  rw [Bool.eq_iff_iff, List.all_eq_true, List.all_eq_true]
  have : ∀ x ∈ BS is z n, (got (ind z K) x = true ↔ decide (x ∈ K) = true) := fun x hx => by
    obtain ⟨i, rfl, iz⟩ := toNat_of (BS_range (by omega) hx)
    have g : (ind z K).getD i 0 = if (i : Int) ∈ K then 1 else 0 := by
      rw [List.getD_eq_getElem?_getD, ind_get _ iz]; rfl
    unfold got
    rw [Int.toNat_natCast, g]
    by_cases q : (i : Int) ∈ K <;> simp [q]
  exact ⟨fun h x hx => (this x hx).mp (h x hx), fun h x hx => (this x hx).mpr (h x hx)⟩
theorem wfB_app {h g : Cells} (w : wfB h = true) (k : ∀ o ∈ g, AO.bd (h ++ g).length o = true) : wfB (h ++ g) = true := by
  unfold wfB
  rw [List.all_eq_true]
  intro o ho
  rcases List.mem_append.mp ho with q | q
  · exact abd_mono (by simp) o (wfB_all w o q)
  · exact k o q
theorem bd_kvI (n : Nat) (d : PyData) (K : List Int) : AO.bd n (.dk (kvI (.d d) K)) = true := by
  have : (kvI (.d d) K).map (·.2) = (K.map fun _ => d).map .d := by simp [kvI]
  simp only [AO.bd, this, bds_map]
theorem SV.put {h : Cells} {s b z n : Nat} {K : List Int} {p : Int} (w : wfB h = true) (v : SV h s z n (.r b) (ind z K) p) (sb : s ≠ b) (K' : List Int) :
    SV ((h.set b (.lst ((ind z K').map pI))).set s (.ins "Sieve" (sf z n (.r b) (p + 1)))) s z n (.r b) (ind z K') (p + 1) ∧ wfB ((h.set b (.lst ((ind z K').map pI))).set s (.ins "Sieve" (sf z n (.r b) (p + 1)))) = true := by
  have gb := asL_r v.bits
  have sl := (List.getElem?_eq_some_iff.mp v.ins).1
  have bl := (List.getElem?_eq_some_iff.mp gb).1
  refine ⟨⟨?_, ?_, ind_len _ _⟩, wfB_set (wfB_set w b (by simp only [AO.bd, bds_ints])) s ?_⟩
  · rw [List.getElem?_set_self (by rw [List.length_set]; exact sl)]
  · refine asL_cell ?_
    rw [List.getElem?_set_ne sb, List.getElem?_set_self bl]
  · rw [List.length_set]; exact v.bd w
end K04

set_option Elab.async false
set_option linter.all false
set_option maxRecDepth 100000
set_option maxHeartbeats 1000000
namespace K04
open PySem PySem.Spec PyProof.Rows L2 Mi
theorem trim_some {f : MF} {ps : List PV} {h h' : Cells} {v : PV} (e : f ps h = .ok v h') : ∃ h'', trim f ps h = .ok v h'' := by
  unfold trim; rw [e]; simp only
  split <;> exact ⟨_, rfl⟩
theorem pairs1 {fi : ME (List PV × Option SR)} {j : Nat} {e : Sl} {h : Cells} {l : List Int} (it : fi e h = .ok (l.map pI, none) h) (hj : j < e.length) (b : l.length ≤ 1000) :
    mLc fi (gN j) mYes (mTup (aCons (mV j) (aCons (mK (.d (.int 1))) aNil))) [j] e h = .ok (pL (l.map fun k => .tuple [.int k, .int 1])) h := by
  have g := lc_goA (vs := [j]) (g := gN j) (fe := mTup (aCons (mV j) (aCons (mK (.d (.int 1))) aNil))) pI (fun x => pT [.int x, .int 1]) l it rfl (fun x _ => ⟨_, gN_eq _ _ _ _, tup2 (mV_eq (by rw [wipeE_length]; exact hj) _ _) (mK_eq _ _ _)⟩) (by omega)
  have e2 : (l.map fun x => pT [.int x, .int 1]) = (l.map fun k => PyData.tuple [.int k, .int 1]).map .d := by rw [List.map_map]; rfl
  rw [e2, mkL_map] at g
  exact g
theorem upd1 {LC : ME PV} {a t : Nat} {e : Sl} {h : Cells} {l K : List Int} (q : LC e h = .ok (pL (l.map fun k => .tuple [.int k, .int 1])) h) (nd : l.Nodup) (d : ∀ h, mV a e h = .ok (.r t) h) (g : h[t]? = some (.dk (kvI (pI 1) K))) (b : K.length + l.length ≤ 1000000) :
    mExp (mMeth tyD meUpdate (mV a) (aCons (mCall biDictP (aCons LC aNil)) aNil)) e h = .nx e ((h ++ [AO.dk (kvI (pI 1) l)]).set t (AO.dk (kvI (pI 1) (l.foldl addK K)))) := by
  have tl := (List.getElem?_eq_some_iff.mp g).1
  have dp := dictP_eq (.int 1) l h
  rw [fold_self l [] (by simpa using nd), List.nil_append] at dp
  have up := update_eq (n := t) (k := h.length) (h := h ++ [.dk (kvI (pI 1) l)]) (v := pI 1) (l := K) (m := l) (by rw [List.getElem?_append_left tl]; exact g) at_end (by omega) (by omega)
  rw [mExp_eq, mMeth_eq, d]
  simp only [bind_ok, tyD_cell g, if_true]
  rw [arg1 (bi1 q dp)]
  simp only [bind_ok, up, toS_ok]
theorem lbits_call {is : List Nat} {a b : Nat} (k : ∀ i ∈ is, i < 11) {n z : Nat} (hn : n ≤ 8) (hz : 0 < z) {o : Nat} {e : Sl} {h : Cells} (w : wfB h = true) (g : h[o]? = some (.dk (ownK z n))) (q0 : mV a e h = .ok (.r o) h) {fk : ME PV} (q1 : fk e h = .ok (pS (kx is)) h) :
    mCallD r__law_bits [] (aCons (mV a) (aCons fk aNil)) e h = .ok (pL (pIs (BS is z n))) h := call2 q0 q1 (s_lbits is k n hn z (by omega) o h w g)
theorem s_held {L : List (List Nat)} (k : kOk L) {n z : Nat} (hn : n ≤ 8) (hz : 0 < z) {o : Nat} {h : Cells} (w : wfB h = true) (g : h[o]? = some (.dk (ownK z n))) :
    ∃ G, r__law_held [.r o, pL (kD L)] h = .ok (.r h.length) (h ++ .dk (kvI (pI 1) (KK L z n [])) :: G) ∧ wfB (h ++ .dk (kvI (pI 1) (KK L z n [])) :: G) = true := by
  have ol := (List.getElem?_eq_some_iff.mp g).1
  have it := walk_keys (t := false) (f := mV 1) (e := [some (.r o), some (pL (kD L)), some (.r h.length), none, none]) (h := h ++ [.dk []]) (mV_1 _ _ _ _)
  have wf : ∀ (K : List Int) (G : Cells), (∀ x ∈ G, AO.bd 0 x = true) → wfB (h ++ .dk (kvI (pI 1) K) :: G) = true := fun K G hG => by
    refine wfB_app w (fun x hx => ?_)
    rcases List.mem_cons.mp hx with q | q
    · rw [q]; exact bd_kvI _ _ _
    · exact abd_mono (Nat.zero_le _) x (hG x q)
  obtain ⟨e', h', f1, u, v, G, rfl, rfl, hG⟩ := for_pre (g := gN 3) (b := mExp (mMeth tyD meUpdate (mV 2) (aCons (mCall biDictP (aCons (mLc (iAny (mCallD r__law_bits [] (aCons (mV 0) (aCons (mV 3) aNil)))) (gN 4) mYes (mTup (aCons (mV 4) (aCons (mK (.d (.int 1))) aNil))) [4]) aNil)) aNil))) (fun is => pS (kx is)) L
    (fun pre e h' => ∃ u v G, e = [some (.r o), some (pL (kD L)), some (.r h.length), u, v] ∧ h' = h ++ .dk (kvI (pI 1) (KK pre z n [])) :: G ∧ (∀ x ∈ G, AO.bd 0 x = true))
    (fun pre is suf hf e h' ⟨u, v, G, he, hh, hG⟩ => by
      subst he hh
      have ki := k.2 is (by rw [hf]; simp)
      have w' := wf (KK pre z n []) G hG
      have g' : (h ++ .dk (kvI (pI 1) (KK pre z n [])) :: G)[o]? = some (.dk (ownK z n)) := by rw [List.getElem?_append_left ol]; exact g
      have lb := lbits_call (a := 0) (b := 0) (fk := mV 3) (e := [some (.r o), some (pL (kD L)), some (.r h.length), some (pS (kx is)), v]) ki hn hz w' g' (mV_0 _ _ _) (mV_3 _ _ _ _ _ _)
      have p1 := pairs1 (j := 4) (walk_pL lb) (by simp) (by have := BS_len is z n; omega)
      have gt : (h ++ .dk (kvI (pI 1) (KK pre z n [])) :: G)[h.length]? = some (.dk (kvI (pI 1) (KK pre z n []))) := by simp
      have pl : pre.length ≤ L.length := by rw [hf]; simp
      have u1 := upd1 (a := 2) p1 (BS_nodup is z n) (fun h => mV_2 _ _ _ _ _) gt (by
        have a1 := KK_len pre z n []
        have a2 := BS_len is z n
        have a3 := k.1
        have : n * pre.length ≤ 8 * 1000 := Nat.mul_le_mul hn (by omega)
        simp only [List.length_nil] at a1
        omega)
      refine ⟨_, _, _, _, rfl, u1, _, _, G ++ [.dk (kvI (pI 1) (BS is z n))], rfl, ?_, fun x hx => ?_⟩
      · rw [KK_snoc]; simp
      · rcases List.mem_append.mp hx with q | q
        · exact hG x q
        · rw [List.mem_singleton.mp q]; exact bd_kvI _ _ _) it ⟨none, none, [], rfl, rfl, by simp⟩
  refine ⟨G, trim_keep (runF_rt ?_) (.inr (by simp [PV.bd])), wf _ G hG⟩
  unfold m__law_held
  simp only [List.map_cons, List.map_nil, List.length_cons, List.length_nil, Nat.reduceAdd, Nat.reduceSub, List.replicate, List.cons_append, List.nil_append]
  have s1 : mAsg mDnew (gN 2) [some (.r o), some (pL (kD L)), none, none, none] h = .nx [some (.r o), some (pL (kD L)), some (.r h.length), none, none] (h ++ [.dk []]) := rfl
  rw [seq_nx s1, seq_nx f1, mRet_eq, mV_2]
  rfl
/-! ## the least size -/
theorem q_one : ("?" : Str) = one 10 := by decide +kernel
theorem q_app (is : List Nat) : ("?" : Str) ++ kx is = kx (10 :: is) := by
  rw [q_one]
  apply PySem.W.str_of_cps
  show (one 10 ++ kx is).cps.toList = _
  have : (one 10 ++ kx is).cps = (one 10).cps ++ (kx is).cps := rfl
  rw [this, Array.toList_append, kx_cps, kx_cps]; rfl
theorem q_add {is : List Nat} (l : is.length ≤ 100) {f : ME PV} {e : Sl} {h h1 : Cells} (q : f e h = .ok (pS (kx is)) h1) : mBin opAdd (mK (.d (.str "?"))) f e h = .ok (pS (kx (10 :: is))) h1 := by
  have ln : ("?" : Str).length = 1 := by decide +kernel
  rw [bin (mK_eq _ _ _) q (vadd_str _ _ _ (sz _ (by rw [kx_len, ln]; omega))), q_app]
def q10 (L : List (List Nat)) : List (List Nat) := L.map (10 :: ·)
def kOk2 (L : List (List Nat)) : Prop := L.length ≤ 1000 ∧ ∀ is ∈ L, is.length ≤ 4 ∧ ∀ i ∈ is, i < 10
theorem kOk2.ok {L : List (List Nat)} (k : kOk2 L) : kOk L := kOk_of k.1 k.2
theorem kOk2.q10 {L : List (List Nat)} (k : kOk2 L) : kOk (q10 L) := by
  refine ⟨by rw [K04.q10, List.length_map]; exact k.1, fun is hi i q => ?_⟩
  obtain ⟨js, hj, rfl⟩ := List.mem_map.mp hi
  rcases List.mem_cons.mp q with rfl | q
  · omega
  · have := (k.2 js hj).2 i q; omega
def wrongN (L : List (List Nat)) (z n : Nat) : Nat := ((q10 L).filter fun is => (BS is z n).all fun x => decide (x ∈ KK L z n [])).length
def CP (L : List (List Nat)) (n : Nat) (most : Int) (z : Nat) : Bool := decide (1000 * (wrongN L z n : Int) ≤ most * L.length)
abbrev eF (L : List (List Nat)) (most : Int) (n z : Nat) (u v : Option PV) : Sl := [some (pL (kD L)), some (pI most), some (nI n), some (nI z), u, v]
abbrev cF : ME Bool := mTb (mBin oLe (mV 3) (mK (.d (.int 4096))))
abbrev bF1 : MS := mFor (iAny (mV 0)) (gN 5) (mExp (mMethD "Sieve" "put" r_Sieve_put [] (mV 4) (aCons (mV 5) aNil)))
abbrev bF2 : ME Bool := mTb (mBin oLe (mBin opMul (mK (.d (.int 1000))) (mMethD "Sieve" "wrong_of" r_Sieve_wrong_of [] (mV 4) (aCons (mLc (iAny (mV 0)) (gN 5) mYes (mBin opAdd (mK (.d (.str "?"))) (mV 5)) [5]) aNil))) (mBin opMul (mV 1) (mCall biLen (aCons (mV 0) aNil))))
abbrev bF : MS := mSeq (mAsg (mMakeD "Sieve" r_Sieve___init__ [] (aCons (mV 3) (aCons (mV 2) aNil))) (gN 4)) (mSeq bF1 (mSeq (mIf bF2 (mRet (mV 3)) mSkip) (mAug 3 imul (mK (.d (.int 2))))))
theorem newS_wf {h : Cells} (w : wfB h = true) (z n : Nat) : wfB (h ++ newS z n (.r (h.length + 1)) 0) = true := by
  refine wfB_app w (fun x hx => ?_)
  simp only [List.mem_cons, List.not_mem_nil, or_false] at hx
  rcases hx with rfl | rfl
  · simp [AO.bd, bds, PV.bd]
  · simp only [AO.bd, bds_ints]
theorem newS_SV (h : Cells) (z n : Nat) : SV (h ++ newS z n (.r (h.length + 1)) 0) h.length z n (.r (h.length + 1)) (ind z []) 0 := by
  refine ⟨at2, asL_cell ?_, ind_len _ _⟩
  rw [ind_nil]; simp
theorem tb {f : ME PV} {e : Sl} {h h1 : Cells} {b : Bool} (q : f e h = .ok (pB b) h1) : mTb f e h = .ok b h1 := by rw [mTb_eq, q]; rfl
theorem exp_go {f : ME PV} {e : Sl} {h h1 : Cells} {v : PV} (q : f e h = .ok v h1) : mExp f e h = .nx e h1 := by rw [mExp_eq, q]; rfl
theorem puts_eq {L : List (List Nat)} (k : kOk2 L) {n : Nat} (n1 : n ≤ 8) (most : Int) {z : Nat} (z0 : 1 ≤ z) (v : Option PV) {h0 h : Cells} {s : Nat} (w : wfB h = true) (sv0 : SV h s z n (.r (s + 1)) (ind z []) 0) :
    ∃ v' h', bF1 (eF L most n z (some (.r s)) v) h = .nx (eF L most n z (some (.r s)) v') h' ∧ SV h' s z n (.r (s + 1)) (ind z (KK L z n [])) L.length ∧ wfB h' = true := by
  have it := walk_keys (t := false) (f := mV 0) (e := eF L most n z (some (.r s)) v) (h := h) (mV_0 _ _ _)
  obtain ⟨e', h', f1, v', rfl, sv, w'⟩ := for_pre (g := gN 5) (b := mExp (mMethD "Sieve" "put" r_Sieve_put [] (mV 4) (aCons (mV 5) aNil))) (fun is => pS (kx is)) L
    (fun pre e h' => ∃ v', e = eF L most n z (some (.r s)) v' ∧ SV h' s z n (.r (s + 1)) (ind z (KK pre z n [])) pre.length ∧ wfB h' = true)
    (fun pre is suf hf e h' ⟨v', he, sv, w'⟩ => by
      subst he
      have ki := k.ok.2 is (by rw [hf]; simp)
      have pt := s_put is ki n1 (by omega) w' sv (by omega)
      have nx := sv.put w' (by omega) ((BS is z n).foldl addK (KK pre z n []))
      have c := meth_go (m := "put") (fo := mV 4) (e := eF L most n z (some (.r s)) (some (pS (kx is)))) (mV_4 _ _ _ _ _ _ _) sv.ins rfl (arg1 (mV_5 _ _ _ _ _ _ _ _)) pt
      refine ⟨_, _, _, _, gN_eq _ _ _ _, exp_go c, _, rfl, ?_, nx.2⟩
      rw [KK_snoc, List.length_append, List.length_singleton, Int.natCast_add]; exact nx.1) it ⟨v, rfl, sv0, w⟩
  exact ⟨v', h', f1, sv, w'⟩
theorem cond_eq {L : List (List Nat)} (k : kOk2 L) {n : Nat} (n1 : n ≤ 8) (most : Int) (m0 : 0 ≤ most) (m1 : most ≤ 1000) {z : Nat} (z0 : 1 ≤ z) (v : Option PV) {h : Cells} {s : Nat} {p : Int} (w : wfB h = true) (sv : SV h s z n (.r (s + 1)) (ind z (KK L z n [])) p) :
    bF2 (eF L most n z (some (.r s)) v) h = .ok (CP L n most z) h := by
  have it2 := walk_keys (t := false) (f := mV 0) (e := eF L most n z (some (.r s)) v) (h := h) (mV_0 _ _ _)
  have lc := lc_goA (vs := [5]) (g := gN 5) (fe := mBin opAdd (mK (.d (.str "?"))) (mV 5)) (fun is => pS (kx is)) (fun is => pS (kx (10 :: is))) L it2 rfl (fun is hi => ⟨_, gN_eq _ _ _ _, q_add (by have := (k.2 is hi).1; omega) (mV_5 _ _ _ _ _ _ _ _)⟩) (by have := k.1; omega)
  have e2 : (L.map fun is => pS (kx (10 :: is))) = (q10 L).map fun is => pS (kx is) := by rw [q10, List.map_map]; rfl
  rw [e2, mkL_keys] at lc
  have wr := s_wrong k.q10 false n1 (by omega) w sv
  have wn : ((q10 L).filter fun is => mayB is z n (ind z (KK L z n []))).length = wrongN L z n := by
    unfold wrongN
    congr 1
    refine List.filter_congr fun is _ => ?_
    exact may_ind (by omega)
  rw [wn] at wr
  have mw := meth_go (m := "wrong_of") (fo := mV 4) (e := eF L most n z (some (.r s)) v) (mV_4 _ _ _ _ _ _ _) sv.ins rfl (arg1 lc) wr
  have kl : (kD L).length = L.length := by simp [kD]
  have a1 : mulOk 1000 (wrongN L z n : Int) = true := mulOk_l (by omega) (by omega)
  have a2 : mulOk most (L.length : Int) = true := mulOk_l (by omega) (by omega)
  have ln := bi1 (f1 := mV 0) (e := eF L most n z (some (.r s)) v) (mV_0 _ _ _) (len_pL (kD L) h)
  rw [kl] at ln
  exact tb (bin (bin (mK_eq _ _ _) mw (vmul _ _ _ a1)) (bin (mV_1 _ _ _ _) ln (vmul _ _ _ a2)) (vle _ _ _))
end K04

set_option Elab.async false
set_option linter.all false
set_option maxRecDepth 100000
set_option maxHeartbeats 1000000
namespace K04
open PySem PySem.Spec PyProof.Rows L2 Mi
theorem bF_eq {L : List (List Nat)} (k : kOk2 L) {n : Nat} (n0 : 1 ≤ n) (n1 : n ≤ 8) (most : Int) (m0 : 0 ≤ most) (m1 : most ≤ 1000) {z : Nat} (z0 : 1 ≤ z) (z1 : z ≤ 4096) (u v : Option PV) {h : Cells} (w : wfB h = true) :
    ∃ u' v' h', wfB h' = true ∧ bF (eF L most n z u v) h = if CP L n most z then .rt (nI z) h' else .nx (eF L most n (z * 2) u' v') h' := by
  have s1 : mAsg (mMakeD "Sieve" r_Sieve___init__ [] (aCons (mV 3) (aCons (mV 2) aNil))) (gN 4) (eF L most n z u v) h = .nx (eF L most n z (some (.r h.length)) v) (h ++ newS z n (.r (h.length + 1)) 0) := asg_N (s_make z0 z1 n0 n1 (arg2 (mV_3 _ _ _ _ _ _) (mV_2 _ _ _ _ _)))
  obtain ⟨v', h', f1, sv, w'⟩ := puts_eq (h0 := []) k n1 most z0 v (newS_wf w z n) (newS_SV h z n)
  have c := cond_eq k n1 most m0 m1 z0 v' w' sv
  refine ⟨some (.r h.length), v', h', w', ?_⟩
  refine (seq_nx s1).trans ((seq_nx f1).trans ?_)
  cases hc : CP L n most z with
  | true =>
    rw [hc] at c
    exact seq_rt ((if_yes c).trans (by rw [mRet_eq, mV_3]; rfl))
  | false =>
    rw [hc] at c
    refine (seq_nx (if_no c)).trans ?_
    have a3 : mulOk (z : Int) 2 = true := mulOk_r (by omega) (by omega)
    have e3 : ((z : Int) * 2) = ((z * 2 : Nat) : Int) := by omega
    rw [mAug_3, mK_eq, toS_ok, vimul _ _ _ a3, toS_ok, e3]
    rw [if_neg (by decide)]
theorem wh_rt {c : ME Bool} {b : MS} {n : Nat} {e : Sl} {h h1 h2 : Cells} {v : PV} (q : c e h = .ok true h1) (p : b e h1 = .rt v h2) (hn : 0 < n) : mWh c b n e h = .rt v h2 := by
  obtain ⟨n, rfl⟩ : ∃ m, n = m + 1 := ⟨n - 1, by omega⟩
  rw [mWh_succ, q]; simp only [toS_ok, if_true]; rw [p]
theorem wF_eq {L : List (List Nat)} (k : kOk2 L) {n : Nat} (n0 : 1 ≤ n) (n1 : n ≤ 8) (most : Int) (m0 : 0 ≤ most) (m1 : most ≤ 1000) : ∀ (d p g : Nat) (u v : Option PV) (h : Cells), p + d = 13 → d < g → wfB h = true →
    (∃ q h', p ≤ q ∧ q ≤ 12 ∧ CP L n most (2 ^ q) = true ∧ (∀ r, p ≤ r → r < q → CP L n most (2 ^ r) = false) ∧ mWh cF bF g (eF L most n (2 ^ p) u v) h = .rt (nI (2 ^ q)) h') ∨
    ((∀ r, p ≤ r → r ≤ 12 → CP L n most (2 ^ r) = false) ∧ ∃ e' h', mWh cF bF g (eF L most n (2 ^ p) u v) h = .nx e' h')
  | 0, p, g, u, v, h, hp, hg, w => by
    obtain rfl : p = 13 := by omega
    right
    have c : cF (eF L most n (2 ^ 13) u v) h = .ok false h := tb (bin (mV_3 _ _ _ _ _ _) (mK_eq _ _ _) (vle _ _ _))
    exact ⟨fun r a b => by omega, _, _, wh_stop c (by omega)⟩
  | d + 1, p, g, u, v, h, hp, hg, w => by
    have pz : 2 ^ p ≤ 4096 := by
      have : 2 ^ p ≤ 2 ^ 12 := Nat.pow_le_pow_right (by omega) (by omega)
      omega
    have p1 : 1 ≤ 2 ^ p := Nat.one_le_two_pow
    obtain ⟨u', v', h', w', b⟩ := bF_eq k n0 n1 most m0 m1 (z := 2 ^ p) p1 pz u v w
    have c : cF (eF L most n (2 ^ p) u v) h = .ok true h := by
      have q := tb (bin (mV_3 (some (pL (kD L))) (some (pI most)) (some (nI n)) (nI (2 ^ p)) [u, v] h) (mK_eq (pI 4096) _ _) (vle _ _ _))
      have : decide (((2 ^ p : Nat) : Int) ≤ 4096) = true := by simp only [decide_eq_true_eq]; omega
      rw [this] at q
      exact q
    cases hc : CP L n most (2 ^ p) with
    | true =>
      rw [hc] at b
      exact .inl ⟨p, h', Nat.le_refl _, by omega, hc, fun r a b => by omega, wh_rt c b (by omega)⟩
    | false =>
      rw [hc] at b
      obtain ⟨g, rfl⟩ : ∃ m, g = m + 1 := ⟨g - 1, by omega⟩
      have t := wh_turn (n := g) c b
      rw [← Nat.pow_succ] at t
      rcases wF_eq k n0 n1 most m0 m1 d (p + 1) g u' v' h' (by omega) (by omega) w' with ⟨q, h2, a1, a2, a3, a4, a5⟩ | ⟨a1, e2, h2, a2⟩
      · refine .inl ⟨q, h2, by omega, a2, a3, fun r x y => ?_, t.trans a5⟩
        by_cases e : r = p
        · subst e; exact hc
        · exact a4 r (by omega) y
      · refine .inr ⟨fun r x y => ?_, e2, h2, t.trans a2⟩
        by_cases e : r = p
        · subst e; exact hc
        · exact a1 r (by omega) y
theorem bds_pL (ds : List PyData) (most : Int) (n : Nat) : bds 0 [pL ds, pI most, nI n] = true := rfl
theorem s_size {L : List (List Nat)} (k : kOk2 L) (k0 : 1 ≤ L.length) {n : Nat} (n0 : 1 ≤ n) (n1 : n ≤ 8) (most : Int) (m0 : 0 ≤ most) (m1 : most ≤ 1000) (h : Cells) :
    (∃ q, q ≤ 12 ∧ CP L n most (2 ^ q) = true ∧ (∀ r, r < q → CP L n most (2 ^ r) = false) ∧ r_size_for [pL (kD L), pI most, nI n] h = .ok (nI (2 ^ q)) h) ∨
    ((∀ r, r ≤ 12 → CP L n most (2 ^ r) = false) ∧ r_size_for [pL (kD L), pI most, nI n] h = .ok pN h) := by
  have kl : (kD L).length = L.length := by simp [kD]
  have c : mOr (mTb (mBin (opEq true) (mCall biLen (aCons (mV 0) aNil)) (mK (.d (.int 0))))) (mTb (mBin oLt (mV 1) (mK (.d (.int 0))))) [some (pL (kD L)), some (pI most), some (nI n), none, none, none] [] = .ok false [] := by
    refine or_no (h1 := []) ?_ ?_
    · rw [mTb_eq, bin (bi1 (mV_0 _ _ _) (len_pL _ _)) (mK_eq _ _ _) (veq _ _ _ _), kl]
      have : ((L.length : Int) == 0) = false := by simp; intro e; rw [e] at k0; simp at k0
      rw [this]; rfl
    · rw [mTb_eq, bin (mV_1 _ _ _ _) (mK_eq _ _ _) (vlt _ _ _)]
      have : decide (most < 0) = false := by simp; omega
      rw [this]; rfl
  have s1 : mAsg (mK (.d (.int 1))) (gN 3) [some (pL (kD L)), some (pI most), some (nI n), none, none, none] [] = .nx (eF L most n (2 ^ 0) none none) [] := rfl
  rcases wF_eq k n0 n1 most m0 m1 13 0 FU none none [] rfl (by unfold FU; omega) rfl with ⟨q, h2, a1, a2, a3, a4, a5⟩ | ⟨a1, e2, h2, a2⟩
  · refine .inl ⟨q, a2, a3, fun r hr => a4 r (by omega) hr, ?_⟩
    have r : runF 6 (m_size_for r_Sieve___init__ r_Sieve_put r_Sieve_wrong_of) [pL (kD L), pI most, nI n] [] = .ok (nI (2 ^ q)) h2 := runF_rt ((seq_nx (if_no c)).trans ((seq_nx s1).trans (seq_rt a5)))
    obtain ⟨h3, r3⟩ := trim_some r
    exact iso_ok (bds_pL _ _ _) r3 rfl
  · refine .inr ⟨fun r hr => a1 r (by omega) hr, ?_⟩
    have r : runF 6 (m_size_for r_Sieve___init__ r_Sieve_put r_Sieve_wrong_of) [pL (kD L), pI most, nI n] [] = .ok pN h2 := runF_rt ((seq_nx (if_no c)).trans ((seq_nx s1).trans ((seq_nx a2).trans rfl)))
    obtain ⟨h3, r3⟩ := trim_some r
    exact iso_ok (bds_pL _ _ _) r3 rfl
end K04

set_option Elab.async false
set_option linter.all false
set_option maxRecDepth 100000
set_option maxHeartbeats 1000000
namespace K04
open PySem PySem.Spec PyProof.Rows L2 Mi
/-! ## the law's least size -/
theorem disp_own {ft fz : ME PV} {e : Sl} {h : Cells} {z n : Nat} (qz : fz e h = .ok (nI z) h) (qt : ft e h = .ok (nI n) h) :
    mDisp [(mK (.d (.str "size")), fz), (mK (.d (.str "turns")), ft)] e h = .ok (.r h.length) (h ++ [.dk (ownK z n)]) := by
  have p : mPairs [(mK (.d (.str "size")), fz), (mK (.d (.str "turns")), ft)] e h = .ok [(.inr "size", nI z), (.inr "turns", nI n)] h := by
    unfold mPairs
    rw [mK_eq]
    simp only [bind_ok, qz, keyOf]
    unfold mPairs
    rw [mK_eq]
    simp only [bind_ok, qt, keyOf]
    unfold mPairs
    rfl
  unfold mDisp
  rw [p]
  rfl
theorem own_wf {h : Cells} (w : wfB h = true) (z n : Nat) : wfB (h ++ [.dk (ownK z n)]) = true := wfB_app w (fun x hx => by rw [List.mem_singleton.mp hx]; rfl)
abbrev xB : ME PV := mLc (iAny (mCallD r__law_bits [] (aCons (mV 6) (aCons (mBin opAdd (mK (.d (.str "?"))) (mV 11)) aNil)))) (gN 12) (mTb (mBin (opIn false) (mV 12) (mV 7))) (mV 12) [12]
abbrev xW : ME PV := mLc (iAny (mV 2)) (gN 11) (mTb (mBin (opEq true) xB (mLst aNil))) (mV 11) [11]
abbrev xC : ME PV := mBin opAdd (mV 4) (mBin opMul (mLst (aCons (mBin opIxM (mV 6) (mK (.d (.str "size")))) aNil)) (mCall biInt (aCons (mBin oLe (mBin opMul (mK (.d (.int 1000))) (mV 8)) (mBin opMul (mV 3) (mCall biLen (aCons (mV 2) aNil)))) aNil)))
abbrev xP : ME PV := mBin opIx (mLst (aCons (mK (.d (.int 1))) (aCons (mK (.d (.int 2))) (aCons (mK (.d (.int 4))) (aCons (mK (.d (.int 8))) (aCons (mK (.d (.int 16))) (aCons (mK (.d (.int 32))) (aCons (mK (.d (.int 64))) (aCons (mK (.d (.int 128))) aNil))))))))) (mV 5)
abbrev bZ : MS := mSeq (mAsg (mDisp [(mK (.d (.str "size")), xP), (mK (.d (.str "turns")), mV 1)]) (gN 6)) (mSeq (mAsg (mCallD r__law_held [] (aCons (mV 6) (aCons (mV 2) aNil))) (gN 7)) (mSeq (mAsg (mCall biLen (aCons xW aNil)) (gN 8)) (mAsg xC (gN 4))))
theorem ix8 : ∀ (i : Nat), i < 8 → ∀ h : Cells, opIx (pL [.int 1, .int 2, .int 4, .int 8, .int 16, .int 32, .int 64, .int 128]) (nI i) h = .ok (nI (2 ^ i)) h
  | 0, _, _ => rfl
  | 1, _, _ => rfl
  | 2, _, _ => rfl
  | 3, _, _ => rfl
  | 4, _, _ => rfl
  | 5, _, _ => rfl
  | 6, _, _ => rfl
  | 7, _, _ => rfl
  | _ + 8, h, _ => by omega
abbrev e13 (n : Nat) (L : List (List Nat)) (most : Int) (S : List Int) (x5 x6 x7 x8 x9 x10 x11 x12 : Option PV) : Sl := [some (.r 0), some (nI n), some (pL (kD L)), some (pI most), some (pL (pIs S)), x5, x6, x7, x8, x9, x10, x11, x12]
theorem bZ_eq {L : List (List Nat)} (k : kOk2 L) {n : Nat} (n1 : n ≤ 8) (most : Int) (m0 : 0 ≤ most) (m1 : most ≤ 1000) {i : Nat} (i8 : i < 8) (S : List Int) (sl : S.length ≤ 100) (x6 x7 x8 x9 x10 x11 x12 : Option PV) {h : Cells} (w : wfB h = true) :
    ∃ y6 y7 y8 G, bZ (e13 n L most S (some (nI i)) x6 x7 x8 x9 x10 x11 x12) h = .nx (e13 n L most (S ++ if CP L n most (2 ^ i) then [((2 ^ i : Nat) : Int)] else []) (some (nI i)) y6 y7 y8 x9 x10 x11 x12) (h ++ G) ∧ wfB (h ++ G) = true := by
  have z0 : 0 < 2 ^ i := Nat.two_pow_pos i
  have z1 : 2 ^ i ≤ 128 := by
    have : 2 ^ i ≤ 2 ^ 7 := Nat.pow_le_pow_right (by omega) (by omega)
    omega
  generalize hz : 2 ^ i = z at z0 z1
  have xp : xP (e13 n L most S (some (nI i)) x6 x7 x8 x9 x10 x11 x12) h = .ok (nI z) h := by
    rw [← hz]
    have l8 : mLst (aCons (mK (.d (.int 1))) (aCons (mK (.d (.int 2))) (aCons (mK (.d (.int 4))) (aCons (mK (.d (.int 8))) (aCons (mK (.d (.int 16))) (aCons (mK (.d (.int 32))) (aCons (mK (.d (.int 64))) (aCons (mK (.d (.int 128))) aNil)))))))) (e13 n L most S (some (nI i)) x6 x7 x8 x9 x10 x11 x12) h = .ok (pL [.int 1, .int 2, .int 4, .int 8, .int 16, .int 32, .int 64, .int 128]) h := rfl
    exact bin l8 (mV_5 _ _ _ _ _ _ _ _) (ix8 i i8 h)
  have s1 := asg_N (i := 6) (disp_own xp (mV_1 _ _ _ _))
  have w1 := own_wf w z n
  obtain ⟨G, hd, w2⟩ := s_held k.ok n1 z0 w1 (o := h.length) (at_end (o := .dk (ownK z n)))
  have s2 := asg_N (i := 7) (call2 (f1 := mV 6) (f2 := mV 2) (e := e13 n L most S (some (nI i)) (some (.r h.length)) x7 x8 x9 x10 x11 x12) (mV_6 _ _ _ _ _ _ _ _ _) (mV_2 _ _ _ _ _) hd)
  generalize hH : (h ++ [AO.dk (ownK z n)]) ++ AO.dk (kvI (pI 1) (KK L z n [])) :: G = H at hd w2 s2
  generalize hT : (h ++ [AO.dk (ownK z n)]).length = T at hd s2
  have gO : H[h.length]? = some (.dk (ownK z n)) := by rw [← hH, List.append_assoc]; simp
  have gT : H[T]? = some (.dk (kvI (pI 1) (KK L z n []))) := by rw [← hH, ← hT]; simp
  have it2 := walk_keys (t := false) (f := mV 2) (e := e13 n L most S (some (nI i)) (some (.r h.length)) (some (.r T)) x8 x9 x10 x11 x12) (h := H) (mV_2 _ _ _ _ _)
  have lc := lc_go (src := none) (vs := [11]) (g := gN 11) (t := mTb (mBin (opEq true) xB (mLst aNil))) (fe := mV 11) (fun is => pS (kx is)) (fun is => (BS (10 :: is) z n).all fun x => decide (x ∈ KK L z n [])) (fun is => pS (kx is)) L it2 rfl (fun is hi => by
    refine ⟨e13 n L most S (some (nI i)) (some (.r h.length)) (some (.r T)) x8 x9 x10 (some (pS (kx is))) x12, rfl, ?_, fun _ => mV_at (i := 11) rfl _⟩
    have ki := k.q10.2 (10 :: is) (List.mem_map.mpr ⟨is, hi, rfl⟩)
    have it3 := walk_pL (lbits_call (a := 6) (b := 0) (e := e13 n L most S (some (nI i)) (some (.r h.length)) (some (.r T)) x8 x9 x10 (some (pS (kx is))) x12) ki n1 z0 w2 gO (mV_6 _ _ _ _ _ _ _ _ _) (q_add (by have := (k.2 is hi).1; omega) (mV_at (i := 11) rfl H)))
    have lx := lc_go (src := none) (vs := [12]) (g := gN 12) (t := mTb (mBin (opIn false) (mV 12) (mV 7))) (fe := mV 12) pI (fun x => decide (x ∉ KK L z n [])) pI (BS (10 :: is) z n) it3 rfl (fun x _ => by
      refine ⟨e13 n L most S (some (nI i)) (some (.r h.length)) (some (.r T)) x8 x9 x10 (some (pS (kx is))) (some (pI x)), rfl, ?_, fun _ => mV_at (i := 12) rfl _⟩
      have q := tb (bin (mV_at (i := 12) (e := e13 n L most S (some (nI i)) (some (.r h.length)) (some (.r T)) x8 x9 x10 (some (pS (kx is))) (some (pI x))) rfl H) (mV_7 _ _ _ _ _ _ _ _ _ _) (in_kvI false x gT))
      rw [q]
      by_cases a : x ∈ KK L z n [] <;> simp [a]) (by have := BS_len (10 :: is) z n; omega)
    rw [mapL] at lx
    have e0 : mLst aNil (e13 n L most S (some (nI i)) (some (.r h.length)) (some (.r T)) x8 x9 x10 (some (pS (kx is))) x12) H = .ok (pL (pIs [])) H := rfl
    have q := tb (bin lx e0 (eq_ints_l true _ _ _))
    rw [if_pos rfl] at q
    rw [q]
    congr 1
    rw [Bool.eq_iff_iff, decide_eq_true_eq, List.filter_eq_nil_iff, List.all_eq_true]
    simp) (by have := k.1; omega)
  rw [mkL_keys] at lc
  have wl : (kD (L.filter fun is => (BS (10 :: is) z n).all fun x => decide (x ∈ KK L z n []))).length = wrongN L z n := by
    unfold wrongN q10
    rw [List.filter_map, List.length_map, kD, List.length_map]
    rfl
  have lw := bi1 lc (len_pL _ _)
  rw [wl] at lw
  have s3 := asg_N (i := 8) lw
  have kl : (kD L).length = L.length := by simp [kD]
  have a1 : mulOk 1000 (wrongN L z n : Int) = true := mulOk_l (by omega) (by omega)
  have a2 : mulOk most (L.length : Int) = true := mulOk_l (by omega) (by omega)
  have ln := bi1 (f1 := mV 2) (e := e13 n L most S (some (nI i)) (some (.r h.length)) (some (.r T)) (some (nI (wrongN L z n))) x9 x10 x11 x12) (mV_2 _ _ _ _ _) (len_pL (kD L) H)
  rw [kl] at ln
  have c4 := bin (g := oLe) (bin (mK_eq (pI 1000) _ _) (mV_8 (some (.r 0)) (some (nI n)) (some (pL (kD L))) (some (pI most)) (some (pL (pIs S))) (some (nI i)) (some (.r h.length)) (some (.r T)) (nI (wrongN L z n)) [x9, x10, x11, x12] H) (vmul _ _ _ a1)) (bin (mV_3 _ _ _ _ _ _) ln (vmul _ _ _ a2)) (vle _ _ _)
  have bi : ∀ b : Bool, biInt [pB b] H = .ok (pI (if b then 1 else 0)) H := fun b => rfl
  have sz1 := lst1 (bin (g := opIxM) (mV_6 (some (.r 0)) (some (nI n)) (some (pL (kD L))) (some (pI most)) (some (pL (pIs S))) (some (nI i)) (.r h.length) ([some (.r T), some (nI (wrongN L z n)), x9, x10, x11, x12]) H) (mK_eq (pS "size") _ _) (ixM_dict gO rfl (own_size z n)))
  have mu : ∀ b : Bool, opMul (pL [.int z]) (pI (if b then 1 else 0)) H = .ok (pL (pIs (if b then [(z : Int)] else []))) H := fun b => by cases b <;> rfl
  have x4 := bin (g := opAdd) (mV_4 (some (.r 0)) (some (nI n)) (some (pL (kD L))) (some (pI most)) (pL (pIs S)) ([some (nI i), some (.r h.length), some (.r T), some (nI (wrongN L z n)), x9, x10, x11, x12]) H) (bin sz1 (bi1 c4 (bi _)) (mu _)) (add_pL _ _ _ (sz _ (by
    simp only [List.length_map]
    have : (if decide (1000 * (wrongN L z n : Int) ≤ most * (L.length : Int)) = true then [(z : Int)] else []).length ≤ 1 := by split <;> simp
    omega)))
  have s4 := asg_N (i := 4) x4
  refine ⟨some (.r h.length), some (.r T), some (nI (wrongN L z n)), [AO.dk (ownK z n)] ++ AO.dk (kvI (pI 1) (KK L z n [])) :: G, ?_, by rw [← List.append_assoc, hH]; exact w2⟩
  rw [← List.append_assoc, hH]
  refine (seq_nx s1).trans ((seq_nx s2).trans ((seq_nx s3).trans (s4.trans ?_)))
  rw [← List.map_append]
  rfl
end K04

set_option Elab.async false
set_option linter.all false
set_option maxRecDepth 100000
set_option maxHeartbeats 1000000
namespace K04
open PySem PySem.Spec PyProof.Rows L2 Mi
def WD (hc : Cells) : Prop := wfB (Dh hc 0 0 0) = true
theorem ID.wf {hc h : Cells} (i : ID hc h) (w : WD hc) : wfB h = true := by obtain ⟨a, b, c, rfl⟩ := i; exact w
theorem ID.len {hc h : Cells} (i : ID hc h) : h.length = hc.length + 1 := by obtain ⟨a, b, c, rfl⟩ := i; rfl
def Sz (L : List (List Nat)) (n : Nat) (most : Int) (k : Nat) : List Int := ((List.range k).filter fun p => CP L n most (2 ^ p)).map fun p => ((2 ^ p : Nat) : Int)
theorem Sz_succ (L : List (List Nat)) (n : Nat) (most : Int) (k : Nat) : Sz L n most (k + 1) = Sz L n most k ++ if CP L n most (2 ^ k) then [((2 ^ k : Nat) : Int)] else [] := by
  unfold Sz
  rw [List.range_succ, List.filter_append, List.map_append]
  congr 1
  cases h : CP L n most (2 ^ k) <;> simp [h]
theorem Sz_len (L : List (List Nat)) (n : Nat) (most : Int) (k : Nat) : (Sz L n most k).length ≤ k := by
  unfold Sz
  rw [List.length_map]
  have := List.length_filter_le (fun p => CP L n most (2 ^ p)) (List.range k)
  simpa using this
theorem and_no {f g : ME Bool} {e : Sl} {h h1 : Cells} (a : f e h = .ok false h1) : mAnd f g e h = .ok false h1 := by rw [mAnd_eq, a]; rfl
theorem and_yes {f g : ME Bool} {e : Sl} {h h1 h2 : Cells} {b : Bool} (a : f e h = .ok true h1) (c : g e h1 = .ok b h2) : mAnd f g e h = .ok b h2 := by rw [mAnd_eq, a]; exact c
abbrev cZ : ME Bool := mOr (mAnd (mTb (mBin (opEq false) (mV 4) (mLst aNil))) (mTb (mBin (opEq false) (mV 9) (mBin opIx (mV 4) (mK (.d (.int 0))))))) (mAnd (mTb (mBin (opEq true) (mV 4) (mLst aNil))) (mAnd (mTb (mBin (opIsN false) (mV 9) (mK (.d .none)))) (mTb (mBin oLe (mV 9) (mK (.d (.int 128)))))))
theorem cZ_eq {L : List (List Nat)} (k : kOk2 L) (k0 : 1 ≤ L.length) {n : Nat} (n0 : 1 ≤ n) (n1 : n ≤ 8) (most : Int) (m0 : 0 ≤ most) (m1 : most ≤ 1000) (h : Cells) :
    ∃ v, r_size_for [pL (kD L), pI most, nI n] h = .ok v h ∧ ∀ e : Sl, (∀ h, mV 4 e h = .ok (pL (pIs (Sz L n most 8))) h) → (∀ h, mV 9 e h = .ok v h) → ∀ h, cZ e h = .ok false h := by
  have none_of : (∀ r, r < 8 → CP L n most (2 ^ r) = false) → Sz L n most 8 = [] := fun q => by
    unfold Sz
    rw [List.filter_eq_nil_iff.mpr]
    · rfl
    · intro r hr
      rw [q r (List.mem_range.mp hr)]; simp
  have e0 : ∀ (e : Sl) (h : Cells), mLst aNil e h = .ok (pL (pIs [])) h := fun _ _ => rfl
  rcases s_size k k0 n0 n1 most m0 m1 h with ⟨q, a1, a2, a3, a4⟩ | ⟨a1, a4⟩
  · refine ⟨_, a4, fun e m4 m9 h => ?_⟩
    by_cases q8 : q < 8
    · have hd : (Sz L n most 8)[0]? = some ((2 ^ q : Nat) : Int) := by
        have f : (List.range 8).find? (fun p => CP L n most (2 ^ p)) = some q := List.find?_range_eq_some.mpr ⟨a2, List.mem_range.mpr q8, fun j hj => by simp [a3 j hj]⟩
        unfold Sz
        rw [List.getElem?_map, ← List.head?_eq_getElem?, List.head?_filter, f]; rfl
      have ne : decide (Sz L n most 8 = []) = false := by
        rw [decide_eq_false_iff_not]; intro x; rw [x] at hd; cases hd
      have b1 := tb (bin (g := opEq false) (m4 h) (e0 e h) (eq_ints_l false _ _ _))
      have b2 := tb (bin (g := opEq true) (m4 h) (e0 e h) (eq_ints_l true _ _ _))
      have g0 : (pIs (Sz L n most 8))[0]? = some (.int ((2 ^ q : Nat) : Int)) := by rw [List.getElem?_map, hd]; rfl
      have b3 := tb (bin (g := opEq false) (m9 h) (bin (g := opIx) (m4 h) (mK_eq (pI 0) e h) (ix_pQ false _ 0 h _ g0)) (veq false _ _ _))
      rw [ne] at b1 b2
      rw [show (((2 ^ q : Nat) : Int) == ((2 ^ q : Nat) : Int)) = true from by simp] at b3
      exact or_no (and_yes b1 b3) (and_no b2)
    · have nl := none_of (fun r hr => a3 r (by omega))
      rw [nl] at m4
      have b1 := tb (bin (g := opEq false) (m4 h) (e0 e h) (eq_ints_l false _ _ _))
      have b2 := tb (bin (g := opEq true) (m4 h) (e0 e h) (eq_ints_l true _ _ _))
      have b3 := tb (bin (m9 h) (mK_eq pN e h) (is_none_d false _ _))
      have b4 := tb (bin (m9 h) (mK_eq (pI 128) e h) (vle _ _ _))
      have big : 2 ^ 8 ≤ 2 ^ q := Nat.pow_le_pow_right (by omega) (by omega)
      have : decide (((2 ^ q : Nat) : Int) ≤ 128) = false := by rw [decide_eq_false_iff_not]; omega
      rw [this] at b4
      exact or_no (and_no b1) (and_yes b2 (and_yes b3 b4))
  · refine ⟨_, a4, fun e m4 m9 h => ?_⟩
    have nl := none_of (fun r hr => a1 r (by omega))
    rw [nl] at m4
    have b1 := tb (bin (g := opEq false) (m4 h) (e0 e h) (eq_ints_l false _ _ _))
    have b2 := tb (bin (g := opEq true) (m4 h) (e0 e h) (eq_ints_l true _ _ _))
    have b3 := tb (bin (m9 h) (mK_eq pN e h) (is_none_d false _ _))
    exact or_no (and_no b1) (and_yes b2 (and_no b3))
theorem range_at {m : Nat} {pre suf : List Nat} {i : Nat} (h : List.range m = pre ++ i :: suf) : i = pre.length ∧ i < m := by
  have q : (List.range m)[pre.length]? = (pre ++ i :: suf)[pre.length]? := by rw [h]
  have lt : pre.length < m := by
    have := congrArg List.length h
    simp at this; omega
  rw [List.getElem?_range lt, List.getElem?_append_right (Nat.le_refl _), Nat.sub_self] at q
  simp at q
  exact ⟨q.symm, q ▸ lt⟩
theorem s_sized {hc h : Cells} (i0 : ID hc h) (w : WD hc) {n : Nat} (n0 : 1 ≤ n) (n1 : n ≤ 8) : ∃ h', r__law_sized [.r 0, nI n] h = .ok (pB true) h' ∧ ID hc h' := by
  obtain ⟨h1, v1, q1, ⟨N, rfl, l1, u1⟩, i1⟩ := roll_K (k := 0) (m := 4) (e := [some (.r 0), some (nI n), none, none, none, none, none, none, none, none, none, none, none]) (by omega) (by omega) i0 rfl
  obtain ⟨N, rfl⟩ : ∃ M : Nat, N = M := ⟨N.toNat, by omega⟩
  have q2 := bin (g := opAdd) (mK_eq (pI 1) _ _) q1 (vadd _ _ _)
  have q3 : (1 + (N : Int)) = ((1 + N : Nat) : Int) := by omega
  rw [q3] at q2
  obtain ⟨L, h2, d1, i2, Ll, Lk⟩ := draw_keys (j := 10) (k := 0) (arg1 q2) (by omega) i1 (fun v h => rfl)
  obtain ⟨h3, v3, q4, ⟨most, rfl, m0, m1⟩, i3⟩ := roll_K (k := 0) (m := 600) (e := [some (.r 0), some (nI n), none, none, none, none, none, none, none, none, none, none, none]) (by omega) (by omega) i2 rfl
  have k2 : kOk2 L := ⟨by omega, Lk⟩
  have w3 := i3.wf w
  obtain ⟨v, hs, hcz⟩ := cZ_eq k2 (by omega) n0 n1 most m0 (by omega) h3
  have it := range1_nat (g := aCons (mK (.d (.int 8))) aNil) (n := 8) (e := e13 n L most [] none none none none none none none none) (h := h3) (arg1 (mK_eq _ _ _)) (by omega)
  obtain ⟨e', h', f1, x5, x6, x7, x8, G, rfl, rfl, w4⟩ := for_pre (g := gN 5) (b := bZ) (fun i : Nat => pI (0 + (i : Int))) (List.range 8)
    (fun pre e h' => ∃ x5 x6 x7 x8 G, e = e13 n L most (Sz L n most pre.length) x5 x6 x7 x8 none none none none ∧ h' = h3 ++ G ∧ wfB (h3 ++ G) = true)
    (fun pre i suf hf e h' ⟨x5, x6, x7, x8, G, he, hh, w'⟩ => by
      subst he hh
      obtain ⟨ei, i8⟩ := range_at hf
      obtain ⟨y6, y7, y8, G', bz, w5⟩ := bZ_eq k2 n1 most m0 (by omega) i8 (Sz L n most pre.length) (by have := Sz_len L n most pre.length; omega) x6 x7 x8 none none none none w'
      refine ⟨_, _, _, _, gN_eq _ _ _ _, ?_, some (nI i), y6, y7, y8, G ++ G', rfl, rfl, by rw [← List.append_assoc]; exact w5⟩
      rw [Int.zero_add, ← List.append_assoc, List.length_append, List.length_singleton, Sz_succ, ← ei]
      rw [← ei] at bz
      exact bz) it ⟨none, none, none, none, [], rfl, by simp, by simpa using w3⟩
  have l8 : (List.range 8).length = 8 := rfl
  obtain ⟨v5, hs5, hcz5⟩ := cZ_eq k2 (by omega) n0 n1 most m0 (by omega) (h3 ++ G)
  refine ⟨h3, trim_chg (runF_rt (h1 := h3 ++ G) ?_) (by rw [i3.len, i0.len]) w3 rfl, i3⟩
  unfold m__law_sized
  simp only [List.map_cons, List.map_nil, List.length_cons, List.length_nil, Nat.reduceAdd, Nat.reduceSub, List.replicate, List.cons_append, List.nil_append]
  have s1 : ∀ X, mSeq (mPar 2 3 (aCons (mLc (iRange1 (aCons (mBin opAdd (mK (.d (.int 1))) (mCallD r__law_roll [] (aCons (mV 0) (aCons (mK (.d (.int 4))) aNil)))) aNil)) (gN 10) mYes (mCallD r__law_key [] (aCons (mV 0) aNil)) [10]) (aCons (mCallD r__law_roll [] (aCons (mV 0) (aCons (mK (.d (.int 600))) aNil))) aNil))) X [some (.r 0), some (nI n), none, none, none, none, none, none, none, none, none, none, none] h = X [some (.r 0), some (nI n), some (pL (kD L)), some (pI most), none, none, none, none, none, none, none, none, none] h3 := fun X => by
    refine seq_nx ?_
    rw [mPar_eq, arg2 d1 q4]
    rfl
  rw [s1]
  have s2 : mAsg (mLst aNil) (gN 4) [some (.r 0), some (nI n), some (pL (kD L)), some (pI most), none, none, none, none, none, none, none, none, none] h3 = .nx (e13 n L most [] none none none none none none none none) h3 := rfl
  rw [seq_nx s2, seq_nx f1]
  have s3 := asg_N (i := 9) (call3 (f1 := mV 2) (f2 := mV 3) (f3 := mV 1) (e := e13 n L most (Sz L n most 8) x5 x6 x7 x8 none none none none) (mV_2 _ _ _ _ _) (mV_3 _ _ _ _ _ _) (mV_1 _ _ _ _) hs5)
  rw [l8, seq_nx s3]
  have c9 := hcz5 ((e13 n L most (Sz L n most 8) x5 x6 x7 x8 none none none none).set 9 (some v5)) (fun h => mV_at (i := 4) rfl h) (fun h => mV_at (i := 9) rfl h) (h3 ++ G)
  exact (seq_nx (if_no c9)).trans rfl
end K04

set_option Elab.async false
set_option linter.all false
set_option maxRecDepth 100000
set_option maxHeartbeats 1000000
namespace K04
open PySem PySem.Spec PyProof.Rows L2 Mi
/-! ## the law: what its names and cells hold -/
structure EV (e : Sl) (z n : Nat) : Prop where
  len : e.length = 29
  m1 : ∀ h, mV 1 e h = .ok (.r 0) h
  m2 : ∀ h, mV 2 e h = .ok (nI z) h
  m3 : ∀ h, mV 3 e h = .ok (nI n) h
  m4 : ∀ h, mV 4 e h = .ok (.r 1) h
  m5 : ∀ h, mV 5 e h = .ok (.r 3) h
  m6 : ∀ h, mV 6 e h = .ok (.r 5) h
  m7 : ∀ h, mV 7 e h = .ok (.r 6) h
  m8 : ∀ h, mV 8 e h = .ok (.r 7) h
theorem EV.set {e : Sl} {z n : Nat} (v : EV e z n) (i : Nat) (q : 9 ≤ i) (x : Option PV) : EV (e.set i x) z n where
  len := by rw [List.length_set]; exact v.len
  m1 := fun h => by rw [mV_ne (by omega)]; exact v.m1 h
  m2 := fun h => by rw [mV_ne (by omega)]; exact v.m2 h
  m3 := fun h => by rw [mV_ne (by omega)]; exact v.m3 h
  m4 := fun h => by rw [mV_ne (by omega)]; exact v.m4 h
  m5 := fun h => by rw [mV_ne (by omega)]; exact v.m5 h
  m6 := fun h => by rw [mV_ne (by omega)]; exact v.m6 h
  m7 := fun h => by rw [mV_ne (by omega)]; exact v.m7 h
  m8 := fun h => by rw [mV_ne (by omega)]; exact v.m8 h
theorem EV.put {e : Sl} {z n : Nat} (v : EV e z n) {i : Nat} (q : i < 29) (p : PV) (h : Cells) : mV i (e.set i (some p)) h = .ok p h := mV_eq (by rw [v.len]; exact q) p h
structure SH (h : Cells) (z n : Nat) (K M Kt Mt : List Int) (p q : Int) : Prop where
  dz : ∃ hc, ID hc h
  wf : wfB h = true
  s1 : SV h 1 z n (.r 2) (ind z K) p
  s2 : SV h 3 z n (.r 4) (ind z M) q
  own : h[5]? = some (.dk (ownK z n))
  th : h[6]? = some (.dk (kvI (pI 1) Kt))
  mo : h[7]? = some (.dk (kvI (pI 1) Mt))
theorem ID.get {hc h : Cells} (i : ID hc h) (j : Nat) : h[j + 1]? = hc[j]? := by obtain ⟨a, b, c, rfl⟩ := i; rfl
theorem ID.same {hc h h' : Cells} (i : ID hc h) (i' : ID hc h') (j : Nat) (q : 0 < j) : h'[j]? = h[j]? := by
  obtain ⟨j, rfl⟩ : ∃ k, j = k + 1 := ⟨j - 1, by omega⟩
  rw [i.get, i'.get]
theorem ID.wfs {hc h h' : Cells} (i : ID hc h) (i' : ID hc h') (w : wfB h = true) : wfB h' = true := by
  obtain ⟨a, b, c, rfl⟩ := i
  obtain ⟨a', b', c', rfl⟩ := i'
  exact w
theorem SV.same {h h' : Cells} {s b z n : Nat} {B : List Int} {p : Int} (v : SV h s z n (.r b) B p) (e1 : h'[s]? = h[s]?) (e2 : h'[b]? = h[b]?) : SV h' s z n (.r b) B p :=
  ⟨by rw [e1]; exact v.ins, asL_cell (by rw [e2]; exact asL_r v.bits), v.len⟩
theorem SH.dice {h h' : Cells} {z n : Nat} {K M Kt Mt : List Int} {p q : Int} (s : SH h z n K M Kt Mt p q) {hc : Cells} (i : ID hc h) (i' : ID hc h') : SH h' z n K M Kt Mt p q where
  dz := ⟨hc, i'⟩
  wf := i.wfs i' s.wf
  s1 := s.s1.same (i.same i' 1 (by omega)) (i.same i' 2 (by omega))
  s2 := s.s2.same (i.same i' 3 (by omega)) (i.same i' 4 (by omega))
  own := by rw [i.same i' 5 (by omega)]; exact s.own
  th := by rw [i.same i' 6 (by omega)]; exact s.th
  mo := by rw [i.same i' 7 (by omega)]; exact s.mo
theorem get_appL {h g : Cells} {i : Nat} {o : AO} (e : h[i]? = some o) : (h ++ g)[i]? = some o := by rw [List.getElem?_append_left (List.getElem?_eq_some_iff.mp e).1]; exact e
theorem SH.app {h g : Cells} {z n : Nat} {K M Kt Mt : List Int} {p q : Int} (s : SH h z n K M Kt Mt p q) (w : wfB (h ++ g) = true) : SH (h ++ g) z n K M Kt Mt p q where
  dz := by obtain ⟨hc, a, b, c, rfl⟩ := s.dz; exact ⟨hc ++ g, a, b, c, rfl⟩
  wf := w
  s1 := s.s1.app
  s2 := s.s2.app
  own := get_appL s.own
  th := get_appL s.th
  mo := get_appL s.mo
theorem ID.set {hc h : Cells} (i : ID hc h) (j : Nat) (o : AO) : ID (hc.set j o) (h.set (j + 1) o) := by obtain ⟨a, b, c, rfl⟩ := i; exact ⟨a, b, c, rfl⟩
theorem SH.put1 {h : Cells} {z n : Nat} {K M Kt Mt : List Int} {p q : Int} (s : SH h z n K M Kt Mt p q) (K' : List Int) : SH ((h.set 2 (.lst ((ind z K').map pI))).set 1 (.ins "Sieve" (sf z n (.r 2) (p + 1)))) z n K' M Kt Mt (p + 1) q := by
  obtain ⟨hc, i⟩ := s.dz
  have nx := s.s1.put s.wf (by omega) K'
  refine ⟨⟨_, (i.set 1 _).set 0 _⟩, nx.2, nx.1, s.s2.same ?_ ?_, ?_, ?_, ?_⟩ <;> rw [List.getElem?_set_ne (by omega), List.getElem?_set_ne (by omega)]
  · exact s.own
  · exact s.th
  · exact s.mo
theorem SH.put2 {h : Cells} {z n : Nat} {K M Kt Mt : List Int} {p q : Int} (s : SH h z n K M Kt Mt p q) (M' : List Int) : SH ((h.set 4 (.lst ((ind z M').map pI))).set 3 (.ins "Sieve" (sf z n (.r 4) (q + 1)))) z n K M' Kt Mt p (q + 1) := by
  obtain ⟨hc, i⟩ := s.dz
  have nx := s.s2.put s.wf (by omega) M'
  refine ⟨⟨_, (i.set 3 _).set 2 _⟩, nx.2, s.s1.same ?_ ?_, nx.1, ?_, ?_, ?_⟩ <;> rw [List.getElem?_set_ne (by omega), List.getElem?_set_ne (by omega)]
  · exact s.own
  · exact s.th
  · exact s.mo
theorem SH.updT {h : Cells} {z n : Nat} {K M Kt Mt : List Int} {p q : Int} (s : SH h z n K M Kt Mt p q) (l K' : List Int) : SH ((h ++ [AO.dk (kvI (pI 1) l)]).set 6 (AO.dk (kvI (pI 1) K'))) z n K M K' Mt p q := by
  have s := s.app (g := [AO.dk (kvI (pI 1) l)]) (wfB_app s.wf (fun x hx => by rw [List.mem_singleton.mp hx]; exact bd_kvI _ _ _))
  obtain ⟨hc, i⟩ := s.dz
  refine ⟨⟨_, i.set 5 _⟩, wfB_set s.wf _ (bd_kvI _ _ _), s.s1.same ?_ ?_, s.s2.same ?_ ?_, ?_, ?_, ?_⟩
  iterate 5 rw [List.getElem?_set_ne (by omega)]
  · exact s.own
  · exact List.getElem?_set_self (List.getElem?_eq_some_iff.mp s.th).1
  · rw [List.getElem?_set_ne (by omega)]; exact s.mo
theorem SH.updM {h : Cells} {z n : Nat} {K M Kt Mt : List Int} {p q : Int} (s : SH h z n K M Kt Mt p q) (l M' : List Int) : SH ((h ++ [AO.dk (kvI (pI 1) l)]).set 7 (AO.dk (kvI (pI 1) M'))) z n K M Kt M' p q := by
  have s := s.app (g := [AO.dk (kvI (pI 1) l)]) (wfB_app s.wf (fun x hx => by rw [List.mem_singleton.mp hx]; exact bd_kvI _ _ _))
  obtain ⟨hc, i⟩ := s.dz
  refine ⟨⟨_, i.set 6 _⟩, wfB_set s.wf _ (bd_kvI _ _ _), s.s1.same ?_ ?_, s.s2.same ?_ ?_, ?_, ?_, ?_⟩
  iterate 5 rw [List.getElem?_set_ne (by omega)]
  · exact s.own
  · rw [List.getElem?_set_ne (by omega)]; exact s.th
  · exact List.getElem?_set_self (List.getElem?_eq_some_iff.mp s.mo).1
theorem asgT2 {f : ME PV} {i j : Nat} {e : Sl} {h h1 : Cells} {a b : PyData} (q : f e h = .ok (pT [a, b]) h1) : mAsg f (gTp 2 (gsCons (gN i) (gsCons (gN j) gsNil))) e h = .nx ((e.set i (some (.d a))).set j (some (.d b))) h1 := by
  rw [mAsg_eq, q]; rfl
theorem asgT3 {f g k : ME PV} {i j l : Nat} {e : Sl} {h h1 h2 h3 : Cells} {a b c : PV} (q1 : f e h = .ok a h1) (q2 : g e h1 = .ok b h2) (q3 : k e h2 = .ok c h3) (nd : mkT [a, b, c] = .tp [a, b, c] ∨ ∃ x y w, a = .d x ∧ b = .d y ∧ c = .d w) :
    mAsg (mTup (aCons f (aCons g (aCons k aNil)))) (gTp 3 (gsCons (gN i) (gsCons (gN j) (gsCons (gN l) gsNil)))) e h = .nx (((e.set i (some a)).set j (some b)).set l (some c)) h3 := by
  have t : mTup (aCons f (aCons g (aCons k aNil))) e h = .ok (mkT [a, b, c]) h3 := by
    rw [mTup_eq, aCons_eq, q1]; simp only [bind_ok]; rw [arg2 q2 q3]; rfl
  rw [mAsg_eq, t]
  rcases nd with nd | ⟨x, y, w, rfl, rfl, rfl⟩
  · rw [nd]; rfl
  · rfl
abbrev rf : MS := mRet (mK (.d (.bool false)))
abbrev st1 : MS := mAsg (mTup (aCons (mBin opAdd (mK (.d (.int 1))) (mCallD r__law_roll [] (aCons (mV 1) (aCons (mBin opIx (mLst (aCons (mK (.d (.int 6))) (aCons (mK (.d (.int 120))) aNil))) (mCallD r__law_roll [] (aCons (mV 1) (aCons (mK (.d (.int 2))) aNil)))) aNil)))) (aCons (mBin opAdd (mK (.d (.int 1))) (mCallD r__law_roll [] (aCons (mV 1) (aCons (mK (.d (.int 8))) aNil)))) aNil))) (gTp 2 (gsCons (gN 2) (gsCons (gN 3) gsNil)))
abbrev st2 : MS := mAsg (mTup (aCons (mMakeD "Sieve" r_Sieve___init__ [] (aCons (mV 2) (aCons (mV 3) aNil))) (aCons (mMakeD "Sieve" r_Sieve___init__ [] (aCons (mV 2) (aCons (mV 3) aNil))) (aCons (mDisp [((mK (.d (.str "size"))), (mV 2)), ((mK (.d (.str "turns"))), (mV 3))]) aNil)))) (gTp 3 (gsCons (gN 4) (gsCons (gN 5) (gsCons (gN 6) gsNil))))
abbrev st3 : MS := mAsg (mTup (aCons mDnew (aCons mDnew (aCons (mLc (iRange1 (aCons (mCallD r__law_roll [] (aCons (mV 1) (aCons (mK (.d (.int 9))) aNil))) aNil)) (gN 26) mYes (mCallD r__law_key [] (aCons (mV 1) aNil)) [26]) aNil)))) (gTp 3 (gsCons (gN 7) (gsCons (gN 8) (gsCons (gN 9) gsNil))))
theorem G1 (x0 : Option PV) {h : Cells} (i0 : ID [] h) (X : MS) : ∃ e h' z n keys, EV e z n ∧ (∀ h, mV 9 e h = .ok (pL (kD keys)) h) ∧ SH h' z n [] [] [] [] 0 0 ∧ (1 ≤ z ∧ z ≤ 120 ∧ 1 ≤ n ∧ n ≤ 8) ∧ keys.length ≤ 8 ∧ (∀ is ∈ keys, is.length ≤ 4 ∧ ∀ i ∈ is, i < 10) ∧
    mSeq st1 (mSeq st2 (mSeq st3 X)) (x0 :: some (.r 0) :: List.replicate 27 none) h = X e h' := by
  have d0 : ∀ h, mV 1 (x0 :: some (.r 0) :: List.replicate 27 none) h = .ok (.r 0) h := fun h => rfl
  obtain ⟨h1, m, q1, hm, i1⟩ := pick2 (k := 1) 6 120 i0 (d0 h)
  obtain ⟨h2, v2, q2, ⟨zz, rfl, z0, z1⟩, i2⟩ := roll_call (k := 1) (m := m) (by omega) (by omega) i0 ⟨h1, q1, i1⟩ (d0 h)
  obtain ⟨h3, v3, q3, ⟨nn, rfl, n0, n1⟩, i3⟩ := roll_K (k := 1) (m := 8) (by omega) (by omega) i2 (d0 h2)
  have a1 := bin (g := opAdd) (mK_eq (pI 1) _ _) q2 (vadd _ _ _)
  have a2 := bin (g := opAdd) (mK_eq (pI 1) _ _) q3 (vadd _ _ _)
  obtain ⟨z, ez, zl, zu⟩ : ∃ z : Nat, 1 + zz = z ∧ 1 ≤ z ∧ z ≤ 120 := ⟨(1 + zz).toNat, by omega, by omega, by omega⟩
  obtain ⟨n, en, nl, nu⟩ : ∃ n : Nat, 1 + nn = n ∧ 1 ≤ n ∧ n ≤ 8 := ⟨(1 + nn).toNat, by omega, by omega, by omega⟩
  rw [ez] at a1
  rw [en] at a2
  have s1 := asgT2 (i := 2) (j := 3) (tup2 a1 a2)
  obtain ⟨a, b, c, rfl⟩ := i3
  generalize hE : ((x0 :: some (PV.r 0) :: List.replicate 27 none).set 2 (some (pI z))).set 3 (some (pI n)) = E at s1
  have e1 : ∀ h, mV 1 E h = .ok (.r 0) h := fun h => by rw [← hE]; rfl
  have e2 : ∀ h, mV 2 E h = .ok (nI z) h := fun h => by rw [← hE]; rfl
  have e3 : ∀ h, mV 3 E h = .ok (nI n) h := fun h => by rw [← hE]; rfl
  have eL : E.length = 29 := by rw [← hE]; rfl
  have k1 := s_make zl (by omega) nl nu (arg2 (e2 (Dh [] a b c)) (e3 _))
  have k2 := s_make zl (by omega) nl nu (arg2 (e2 (Dh [] a b c ++ newS z n (.r 2) 0)) (e3 _))
  have k3 := disp_own (e2 (Dh [] a b c ++ newS z n (.r 2) 0 ++ newS z n (.r 4) 0)) (e3 _)
  have s2 := asgT3 (i := 4) (j := 5) (l := 6) k1 k2 k3 (.inl rfl)
  generalize hF : ((E.set 4 (some (.r (Dh [] a b c).length))).set 5 (some (.r (Dh [] a b c ++ newS z n (.r 2) 0).length))).set 6 (some (.r (Dh [] a b c ++ newS z n (.r 2) 0 ++ newS z n (.r 4) 0).length)) = F at s2
  have f1 : ∀ h, mV 1 F h = .ok (.r 0) h := fun h => by rw [← hF, mV_ne (by omega), mV_ne (by omega), mV_ne (by omega)]; exact e1 h
  have i4 : ID (newS z n (.r 2) 0 ++ newS z n (.r 4) 0 ++ [.dk (ownK z n)] ++ [.dk []] ++ [.dk []]) (Dh [] a b c ++ newS z n (.r 2) 0 ++ newS z n (.r 4) 0 ++ [.dk (ownK z n)] ++ [.dk []] ++ [.dk []]) := ⟨a, b, c, rfl⟩
  obtain ⟨h5, v5, q5, ⟨N, rfl, N0, N1⟩, i5⟩ := roll_K (k := 1) (m := 9) (by omega) (by omega) i4 (f1 _)
  obtain ⟨N, rfl⟩ : ∃ M : Nat, N = M := ⟨N.toNat, by omega⟩
  obtain ⟨keys, h6, d1, i6, kl, kk⟩ := draw_keys (j := 26) (k := 1) (arg1 q5) (by omega) i5 (fun v h => by
    show mV 1 ((F.set 26 none).set 26 (some v)) h = _
    rw [mV_ne (by omega), mV_ne (by omega)]; exact f1 h)
  have dn : ∀ h, mDnew F h = .ok (.r h.length) (h ++ [.dk []]) := fun _ => rfl
  have s3 := asgT3 (i := 7) (j := 8) (l := 9) (dn (Dh [] a b c ++ newS z n (.r 2) 0 ++ newS z n (.r 4) 0 ++ [.dk (ownK z n)])) (dn _) d1 (.inl rfl)
  have w4 : wfB (Dh [] a b c ++ newS z n (.r 2) 0 ++ newS z n (.r 4) 0 ++ [.dk (ownK z n)] ++ [.dk []] ++ [.dk []]) = true := by
    have wz : bds 8 ((List.replicate z (0 : Int)).map pI) = true := bds_ints _ _
    simp [wfB, AO.bd, bds, PV.bd] at wz ⊢
    exact wz
  have sh : SH (Dh [] a b c ++ newS z n (.r 2) 0 ++ newS z n (.r 4) 0 ++ [.dk (ownK z n)] ++ [.dk []] ++ [.dk []]) z n [] [] [] [] 0 0 := by
    refine ⟨⟨_, i4⟩, w4, ⟨rfl, ?_, ind_len _ _⟩, ⟨rfl, ?_, ind_len _ _⟩, rfl, rfl, rfl⟩
    · rw [ind_nil]; exact asL_cell rfl
    · rw [ind_nil]; exact asL_cell rfl
  refine ⟨_, h6, z, n, keys, ⟨?_, fun h => ?_, fun h => ?_, fun h => ?_, fun h => ?_, fun h => ?_, fun h => ?_, fun h => ?_, fun h => ?_⟩, fun h => ?_, sh.dice i4 i6, ⟨zl, zu, nl, nu⟩, by omega, kk, (seq_nx s1).trans ((seq_nx s2).trans (seq_nx s3))⟩
  · rw [List.length_set, List.length_set, List.length_set, ← hF, List.length_set, List.length_set, List.length_set]; exact eL
  · rw [mV_ne (by omega), mV_ne (by omega), mV_ne (by omega)]; exact f1 h
  · rw [mV_ne (by omega), mV_ne (by omega), mV_ne (by omega), ← hF, mV_ne (by omega), mV_ne (by omega), mV_ne (by omega)]; exact e2 h
  · rw [mV_ne (by omega), mV_ne (by omega), mV_ne (by omega), ← hF, mV_ne (by omega), mV_ne (by omega), mV_ne (by omega)]; exact e3 h
  · rw [mV_ne (by omega), mV_ne (by omega), mV_ne (by omega), ← hF, mV_ne (by omega), mV_ne (by omega), mV_eq (by rw [eL]; omega)]; rfl
  · rw [mV_ne (by omega), mV_ne (by omega), mV_ne (by omega), ← hF, mV_ne (by omega), mV_eq (by rw [List.length_set, eL]; omega)]; rfl
  · rw [mV_ne (by omega), mV_ne (by omega), mV_ne (by omega), ← hF, mV_eq (by rw [List.length_set, List.length_set, eL]; omega)]; rfl
  · rw [mV_ne (by omega), mV_ne (by omega), mV_eq (by rw [← hF, List.length_set, List.length_set, List.length_set, eL]; omega)]; rfl
  · rw [mV_ne (by omega), mV_eq (by rw [List.length_set, ← hF, List.length_set, List.length_set, List.length_set, eL]; omega)]; rfl
  · rw [mV_eq (by rw [List.length_set, List.length_set, ← hF, List.length_set, List.length_set, List.length_set, eL]; omega)]
end K04

set_option Elab.async false
set_option linter.all false
set_option maxRecDepth 100000
set_option maxHeartbeats 1000000
namespace K04
open PySem PySem.Spec PyProof.Rows L2 Mi
theorem d_pI (i : Int) : (PyData.int i).depth ≤ 64 := by simp [PyData.depth]
theorem d_pIs (l : List Int) : (PyData.list (pIs l)).depth ≤ 64 := by simp [PyData.depth, depth_ints]
theorem n_pIs (l : List Int) : nD (.list (pIs l)) = true := by simp [nD, nDs_ints]
/-- the places of l that are not (are) in a dict -/
theorem out_of {fi : ME (List PV × Option SR)} {j a t : Nat} {e : Sl} {h : Cells} {l K : List Int} (b : Bool) (it : fi e h = .ok (l.map pI, none) h) (hj : j < e.length) (ja : a ≠ j) (d : mV a e h = .ok (.r t) h) (g : h[t]? = some (.dk (kvI (pI 1) K))) (bd : l.length ≤ 1000) :
    mLc fi (gN j) (mTb (mBin (opIn b) (mV j) (mV a))) (mV j) [j] e h = .ok (pL (pIs (l.filter fun x => b == decide (x ∈ K)))) h := by
  have q := lc_go (src := none) (vs := [j]) (g := gN j) (t := mTb (mBin (opIn b) (mV j) (mV a))) (fe := mV j) pI (fun x => b == decide (x ∈ K)) pI l it rfl (fun x _ => by
    refine ⟨_, gN_eq _ _ _ _, tb (bin (mV_eq (by rw [wipeE_length]; exact hj) _ _) ?_ (in_kvI b x g)), fun _ => mV_eq (by rw [wipeE_length]; exact hj) _ _⟩
    rw [mV_ne (Ne.symm ja)]
    show mV a (e.set j none) h = _
    rw [mV_ne (Ne.symm ja)]; exact d) (by omega)
  rw [mapL] at q
  exact q
/-- the list of what stands at the places -/
theorem ints_of {fi : ME (List PV × Option SR)} {j : Nat} {fe : ME PV} {e : Sl} {h : Cells} {z : Nat} (f : Nat → Int) (it : fi e h = .ok (rngL 0 z, none) h) (k : ∀ i : Nat, i < z → fe ((wipeE e [j]).set j (some (nI i))) h = .ok (pI (f i)) h) (b : z ≤ 100000) :
    mLc fi (gN j) mYes fe [j] e h = .ok (pL (pIs ((List.range z).map f))) h := by
  have q := lc_goA (src := none) (vs := [j]) (g := gN j) (fe := fe) (fun i : Nat => pI (0 + (i : Int))) (fun i => pI (f i)) (List.range z) it rfl (fun i hi => ⟨_, gN_eq _ _ _ _, by rw [Int.zero_add]; exact k i (List.mem_range.mp hi)⟩) (by simp; omega)
  have e2 : ((List.range z).map fun i => pI (f i)) = ((List.range z).map f).map pI := by rw [List.map_map]; rfl
  rw [e2, mapL] at q
  exact q
theorem asX_cell {b : Nat} {h : Cells} {l : List Int} (g : h[b]? = some (.lst (l.map pI))) : asX (.r b) h = some (.list (pIs l)) := by
  unfold asX; simp only [g, allD_int]; rfl
/-- a cell of numbers against a list of the same numbers -/
theorem ckC {X Y : ME PV} {e : Sl} {h h1 h2 : Cells} {b : Nat} {l : List Int} (qx : X e h = .ok (.r b) h1) (qy : Y e h1 = .ok (pL (pIs l)) h2) (g : h2[b]? = some (.lst (l.map pI))) : mTb (mBin (opEq false) X Y) e h = .ok false h2 := by
  have q : opEq false (.r b) (pL (pIs l)) h2 = .ok (pB false) h2 := by
    have a : asX (.r b) h2 = some (.list (pIs l)) := asX_cell g
    have a2 : asX (pL (pIs l)) h2 = some (.list (pIs l)) := rfl
    unfold opEq
    simp only [a, a2]
    have := eqv_nD _ (n_pIs l)
    simp [d_pIs, this, PyData.depth, depth_ints]
  exact tb (bin qx qy q)
abbrev bL1 : MS := mAsg (mCallD r__law_bits [] (aCons (mV 6) (aCons (mV 11) aNil))) (gN 10)
abbrev bL2 : MS := mIf (mTb (mBin (opEq false) (mMethD "Sieve" "put" r_Sieve_put [] (mV 4) (aCons (mV 11) aNil)) (mCall biLen (aCons (mLc (iAny (mV 10)) (gN 27) (mTb (mBin (opIn false) (mV 27) (mV 7))) (mV 27) [27]) aNil)))) rf mSkip
abbrev bL3 : MS := mIf (mTb (mBin (opEq false) (mCall biList (aCons (mMethD "Sieve" "bits_of" r_Sieve_bits_of [] (mV 4) (aCons (mV 11) aNil)) aNil)) (mV 10))) rf mSkip
abbrev bL4 : MS := mExp (mMeth tyD meUpdate (mV 7) (aCons (mCall biDictP (aCons (mLc (iAny (mV 10)) (gN 27) mYes (mTup (aCons (mV 27) (aCons (mK (.d (.int 1))) aNil))) [27]) aNil)) aNil))
theorem G2 {e : Sl} {h : Cells} {z n : Nat} {keys : List (List Nat)} (v : EV e z n) (m9 : ∀ h, mV 9 e h = .ok (pL (kD keys)) h) (s : SH h z n [] [] [] [] 0 0) (zn : 1 ≤ z ∧ z ≤ 120 ∧ 1 ≤ n ∧ n ≤ 8) (kl : keys.length ≤ 8) (kk : ∀ is ∈ keys, is.length ≤ 4 ∧ ∀ i ∈ is, i < 10) (X : MS) :
    ∃ e' h', EV e' z n ∧ (∀ h, mV 9 e' h = .ok (pL (kD keys)) h) ∧ SH h' z n (KK keys z n []) [] (KK keys z n []) [] keys.length 0 ∧ mSeq (mFor (iAny (mV 9)) (gN 11) (mSeq bL1 (mSeq bL2 (mSeq bL3 bL4)))) X e h = X e' h' := by
  have it := walk_keys (t := false) (f := mV 9) (e := e) (h := h) (m9 h)
  obtain ⟨e', h', f1, v', m9', s'⟩ := for_pre (g := gN 11) (b := mSeq bL1 (mSeq bL2 (mSeq bL3 bL4))) (fun is => pS (kx is)) keys (fun pre e h => EV e z n ∧ (∀ h, mV 9 e h = .ok (pL (kD keys)) h) ∧ SH h z n (KK pre z n []) [] (KK pre z n []) [] pre.length 0)
    (fun pre is suf hf e h ⟨v, m9, s⟩ => by
      have hi : is ∈ keys := by rw [hf]; simp
      have ki : ∀ i ∈ is, i < 11 := fun i q => by have := (kk is hi).2 i q; omega
      have hz : 0 < z := by omega
      have v1 := v.set 11 (by omega) (some (pS (kx is)))
      have k1 := lbits_call (a := 6) (b := 0) (fk := mV 11) ki zn.2.2.2 hz s.wf s.own (v1.m6 h) (v.put (i := 11) (by omega) (pS (kx is)) h)
      have s1 := asg_N (i := 10) k1
      generalize hE : (e.set 11 (some (pS (kx is)))).set 10 (some (pL (pIs (BS is z n)))) = E at s1
      have v2 : EV E z n := by rw [← hE]; exact v1.set 10 (by omega) _
      have e10 : ∀ h, mV 10 E h = .ok (pL (pIs (BS is z n))) h := fun h => by rw [← hE]; exact v1.put (by omega) _ h
      have e11 : ∀ h, mV 11 E h = .ok (pS (kx is)) h := fun h => by rw [← hE, mV_ne (by omega)]; exact v.put (by omega) _ h
      have e9 : ∀ h, mV 9 E h = .ok (pL (kD keys)) h := fun h => by rw [← hE, mV_ne (by omega), mV_ne (by omega)]; exact m9 h
      have pt := s_put is ki zn.2.2.2 hz s.wf s.s1 (by omega)
      have c2 := meth_go (m := "put") (v2.m4 h) s.s1.ins rfl (arg1 (e11 h)) pt
      have sp := s.put1 ((BS is z n).foldl addK (KK pre z n []))
      generalize hh : (h.set 2 (.lst ((ind z ((BS is z n).foldl addK (KK pre z n []))).map pI))).set 1 (.ins "Sieve" (sf z n (.r 2) ((pre.length : Int) + 1))) = h1 at c2 sp
      have bl := BS_len is z n
      have c3 := out_of (j := 27) (a := 7) false (walk_pL (e10 h1)) (by rw [v2.len]; omega) (by omega) (v2.m7 h1) sp.th (by omega)
      have fe : ((BS is z n).filter fun x => false == decide (x ∈ KK pre z n [])) = (BS is z n).filter fun x => decide (x ∉ KK pre z n []) := List.filter_congr fun x _ => by by_cases a : x ∈ KK pre z n [] <;> simp [a]
      rw [fe] at c3
      have c4 := bi1 c3 (len_pL _ _)
      rw [List.length_map] at c4
      have t2 := ck c2 c4 rfl (d_pI _)
      have c5 := it_bits (fo := mV 4) (fk := mV 11) ki zn.2.2.2 hz sp.wf sp.s1.ins (v2.m4 h1) (e11 h1)
      have t3 := ck (bi1 c5 (list_pT _ _)) (e10 h1) (n_pIs _) (d_pIs _)
      have p1 := pairs1 (j := 27) (walk_pL (e10 h1)) (by rw [v2.len]; omega) (by omega)
      have kl2 := KK_len pre z n []
      have pl : pre.length ≤ keys.length := by rw [hf]; simp
      have : n * pre.length ≤ 8 * 8 := Nat.mul_le_mul zn.2.2.2 (by omega)
      have t4 := upd1 (a := 7) p1 (BS_nodup is z n) v2.m7 sp.th (by simp only [List.length_nil] at kl2; omega)
      refine ⟨_, _, _, _, gN_eq _ _ _ _, (seq_nx s1).trans ((seq_nx (if_no t2)).trans ((seq_nx (if_no t3)).trans t4)), v2, e9, ?_⟩
      rw [KK_snoc, List.length_append, List.length_singleton, Int.natCast_add]
      exact sp.updT _ _) it ⟨v, m9, s⟩
  exact ⟨e', h', v', m9', s', seq_nx f1⟩
/-! ### what the sieve holds -/
abbrev xI : ME PV := mLc (iRange1 (aCons (mV 2) aNil)) (gN 27) mYes (mCall biInt (aCons (mBin (opIn true) (mV 27) (mV 7)) aNil)) [27]
theorem in27 {e : Sl} {z n : Nat} (v : EV e z n) {a t : Nat} {h : Cells} {K : List Int} (a8 : a < 9) (d : mV a e h = .ok (.r t) h) (g : h[t]? = some (.dk (kvI (pI 1) K))) (i : Nat) : mBin (opIn true) (mV 27) (mV a) ((wipeE e [27]).set 27 (some (nI i))) h = .ok (pB (decide ((i : Int) ∈ K))) h := by
  have q := bin (g := opIn true) (mV_eq (i := 27) (e := wipeE e [27]) (by rw [wipeE_length, v.len]; omega) (nI i) h) (show mV a ((wipeE e [27]).set 27 (some (nI i))) h = .ok (.r t) h by rw [mV_ne (by omega)]; show mV a (e.set 27 none) h = _; rw [mV_ne (by omega)]; exact d) (in_kvI true (i : Int) g)
  rw [q]; simp
theorem xI_eq {e : Sl} {h : Cells} {z n : Nat} (v : EV e z n) (z1 : z ≤ 120) {K : List Int} (g : h[6]? = some (.dk (kvI (pI 1) K))) : xI e h = .ok (pL (pIs (ind z K))) h := by
  refine ints_of (fun i => if (i : Int) ∈ K then 1 else 0) (range1_nat (arg1 (v.m2 h)) (by omega)) (fun i hi => bi1 (in27 v (by omega) (v.m7 h) g i) ?_) (by omega)
  by_cases a : (i : Int) ∈ K <;> simp only [a, decide_true, decide_false, if_true, if_false] <;> rfl
end K04

set_option Elab.async false
set_option linter.all false
set_option maxRecDepth 100000
set_option maxHeartbeats 1000000
namespace K04
open PySem PySem.Spec PyProof.Rows L2 Mi
theorem sum_ite (p : Nat → Bool) : ∀ l : List Nat, (l.map fun i => if p i then (1 : Int) else 0).sum = (l.filter p).length
  | [] => rfl
  | x :: r => by
    have ih := sum_ite p r
    simp only [List.map_cons, List.sum_cons, ih]
    cases h : p x <;> simp [h] <;> omega
theorem ind_sum {z : Nat} {K : List Int} (nd : K.Nodup) (b : ∀ x ∈ K, 0 ≤ x ∧ x < z) : (ind z K).sum = K.length := by
  have e := sum_ite (fun i : Nat => decide ((i : Int) ∈ K)) (List.range z)
  have e2 : ind z K = (List.range z).map fun i : Nat => if decide ((i : Int) ∈ K) = true then (1 : Int) else 0 := by
    unfold ind
    refine List.map_congr_left fun i _ => ?_
    by_cases a : (i : Int) ∈ K <;> simp [a]
  rw [e2, e]
  have p : (((List.range z).filter fun i : Nat => decide ((i : Int) ∈ K)).map fun i : Nat => (i : Int)).Perm K := by
    refine (List.perm_ext_iff_of_nodup ?_ nd).mpr fun x => ?_
    · exact List.Pairwise.map _ (fun a b (h : a ≠ b) e => h (by omega)) (List.nodup_range.filter _)
    · rw [List.mem_map]
      constructor
      · rintro ⟨i, hi, rfl⟩
        simpa using (List.mem_filter.mp hi).2
      · intro hx
        obtain ⟨i, rfl, iz⟩ := toNat_of (b x hx)
        exact ⟨i, List.mem_filter.mpr ⟨List.mem_range.mpr iz, by simpa using hx⟩, rfl⟩
  have := p.length_eq
  rw [List.length_map] at this
  rw [this]
theorem KK_range {L : List (List Nat)} {z n : Nat} (hz : 0 < z) {x : Int} (h : x ∈ KK L z n []) : 0 ≤ x ∧ x < z := by
  rcases (KK_mem _ _ _ _ _).mp h with q | ⟨is, _, q⟩
  · simp at q
  · exact BS_range (by omega) q
theorem may_all {L : List (List Nat)} {z n : Nat} (hz : 0 < z) {is : List Nat} (h : is ∈ L) : mayB is z n (ind z (KK L z n [])) = true := by
  rw [may_ind hz, List.all_eq_true]
  intro x hx
  simp only [decide_eq_true_eq]
  exact (KK_mem _ _ _ _ _).mpr (.inr ⟨is, h, hx⟩)
theorem len_dict {t : Nat} {h : Cells} {l : List Int} (g : h[t]? = some (.dk (kvI (pI 1) l))) (b : l.length ≤ 100000) : biLen [.r t] h = .ok (nI l.length) h := by
  have a1 : asL (.r t) h = none := by simp [asL, g]
  have a2 : asT (.r t) = none := rfl
  have a3 : asDict (.r t) h = some (kvI (pI 1) l) := by simp [asDict, g]
  unfold biLen
  simp only [a1, a2, a3]
  simp [kvI]
abbrev xD (o : Nat) : ME PV := mLc (iAny (mV 9)) (gN 11) (mNot (mTb (mMethD "Sieve" "may_have" r_Sieve_may_have [] (mV o) (aCons (mV 11) aNil)))) (mV 11) [11]
/-- no key that is surely not there -/
theorem xD_eq {e : Sl} {h : Cells} {L : List (List Nat)} {o s z n : Nat} {bv : PV} {B : List Int} {p : Int} (k : kOk L) (hn : n ≤ 8) (hz : 0 < z) (el : e.length = 29) (oo : o ≠ 11) (m9 : mV 9 e h = .ok (pL (kD L)) h) (mo : mV o e h = .ok (.r s) h) (w : wfB h = true) (sv : SV h s z n bv B p) (all : ∀ is ∈ L, mayB is z n B = true) :
    mTb (mBin (opEq false) (xD o) (mLst aNil)) e h = .ok false h := by
  have it := walk_keys (t := false) (f := mV 9) (e := e) (h := h) m9
  have lc := lc_go (src := none) (vs := [11]) (g := gN 11) (t := mNot (mTb (mMethD "Sieve" "may_have" r_Sieve_may_have [] (mV o) (aCons (mV 11) aNil)))) (fe := mV 11) (fun is => pS (kx is)) (fun is => !mayB is z n B) (fun is => pS (kx is)) L it rfl (fun is hi => by
    have e11 : mV 11 ((wipeE e [11]).set 11 (some (pS (kx is)))) h = .ok (pS (kx is)) h := mV_eq (by rw [wipeE_length, el]; omega) _ _
    have eo : mV o ((wipeE e [11]).set 11 (some (pS (kx is)))) h = .ok (.r s) h := by
      rw [mV_ne (Ne.symm oo)]
      show mV o (e.set 11 none) h = _
      rw [mV_ne (Ne.symm oo)]; exact mo
    refine ⟨_, gN_eq _ _ _ _, ?_, fun _ => e11⟩
    rw [mNot_eq, tb (meth_go (m := "may_have") eo sv.ins rfl (arg1 e11) (s_may is (k.2 is hi) hn hz w sv))]
    rfl) (by have := k.1; omega)
  rw [List.filter_eq_nil_iff.mpr (fun is hi => by rw [all is hi]; simp)] at lc
  have e0 : mLst aNil e h = .ok (pL []) h := rfl
  exact ck lc e0 rfl (by simp [PyData.depth, PyData.depthAll])
abbrev st5 : MS := mIf (mOr (mTb (mBin (opEq false) (mFld ["Sieve"] "bits" (mV 4)) xI)) (mOr (mTb (mBin (opEq false) (mFld ["Sieve"] "put_in" (mV 4)) (mCall biLen (aCons (mV 9) aNil)))) (mOr (mTb (mBin (opEq false) (mMethD "Sieve" "filled" r_Sieve_filled [] (mV 4) aNil) (mTup (aCons (mCall biLen (aCons (mV 7) aNil)) (aCons (mV 2) aNil))))) (mTb (mBin (opEq false) (xD 4) (mLst aNil)))))) rf mSkip
theorem G3 {e : Sl} {h : Cells} {z n : Nat} {keys : List (List Nat)} (v : EV e z n) (m9 : ∀ h, mV 9 e h = .ok (pL (kD keys)) h) (s : SH h z n (KK keys z n []) [] (KK keys z n []) [] keys.length 0) (zn : 1 ≤ z ∧ z ≤ 120 ∧ 1 ≤ n ∧ n ≤ 8) (kl : keys.length ≤ 8) (kk : ∀ is ∈ keys, is.length ≤ 4 ∧ ∀ i ∈ is, i < 10) :
    st5 e h = .nx e h := by
  have kd : (kD keys).length = keys.length := by simp [kD]
  have kn := KK_len keys z n []
  have : n * keys.length ≤ 8 * 8 := Nat.mul_le_mul zn.2.2.2 kl
  simp only [List.length_nil] at kn
  have a := ckC (fS_bits (v.m4 h) s.s1.ins) (xI_eq v zn.2.1 s.th) (asL_r s.s1.bits)
  have b1 := bi1 (m9 h) (len_pL (kD keys) h)
  rw [kd] at b1
  have b := ck (fS_put (v.m4 h) s.s1.ins) b1 rfl (d_pI _)
  have c1 := meth_go (m := "filled") (fa := aNil) (v.m4 h) s.s1.ins rfl (aNil_eq _ _) (s_filled s.s1)
  rw [ind_sum (KK_nodup _ _ _ _ .nil) (fun x hx => KK_range (by omega) hx)] at c1
  have c := ck c1 (tup2 (bi1 (v.m7 h) (len_dict s.th (by omega))) (v.m2 h)) rfl (d_ints [((KK keys z n []).length : Int), (z : Int)])
  have d := xD_eq (o := 4) (kOk_of (by omega) kk) zn.2.2.2 (by omega) v.len (by omega) (m9 h) (v.m4 h) s.wf s.s1 (fun is hi => may_all (by omega) hi)
  exact if_no (or_no a (or_no b (or_no c d)))
end K04

set_option Elab.async false
set_option linter.all false
set_option maxRecDepth 100000
set_option maxHeartbeats 1000000
namespace K04
open PySem PySem.Spec PyProof.Rows L2 Mi
def inK (K : List Int) (z n : Nat) (is : List Nat) : Bool := (BS is z n).all fun x => decide (x ∈ K)
def bD (l : List Bool) : List PyData := l.map .bool
theorem mkL_bools (l : List Bool) : mkL (l.map pB) = pL (bD l) := by
  have : l.map pB = (bD l).map .d := by rw [bD, List.map_map]; rfl
  rw [this, mkL_map]
theorem n_bD (l : List Bool) : nD (.list (bD l)) = true := by
  simp only [nD]
  exact nDs_of fun d hd => by obtain ⟨i, _, rfl⟩ := List.mem_map.mp hd; rfl
theorem dep_bD (l : List Bool) : PyData.depthAll (bD l) ≤ 0 := depth_le fun d hd => by obtain ⟨i, _, rfl⟩ := List.mem_map.mp hd; simp [PyData.depth]
theorem d_bD (l : List Bool) : (PyData.list (bD l)).depth ≤ 64 := by have := dep_bD l; simp only [PyData.depth]; omega
theorem lay_bD : ∀ l : List Bool, PyData.canLayAll0 (bD l) = true
  | [] => by simp [bD, PyData.canLayAll0]
  | x :: r => by have := lay_bD r; simpa [bD, PyData.canLayAll0, PyData.canLay0] using this
theorem count_true (l : List Bool) (h : Cells) : meCount (pL (bD l)) [pB true] h = .ok (nI (l.filter id).length) h := by
  have a1 : asX (pL (bD l)) h = some (.list (bD l)) := rfl
  have a2 : asX (pB true) h = some (.bool true) := rfl
  have s1 : SeqAt.shaped (.bool true) = true := by simp [SeqAt.shaped, PyData.canLay0, PyData.depth]
  have s2 : SeqAt.shaped (.list (bD l)) = true := by
    have := d_bD l
    simp only [SeqAt.shaped, PyData.canLay0, lay_bD, Bool.true_and, decide_eq_true_eq]; exact this
  unfold meCount
  simp only [a1, a2, s1, s2, Bool.and_self, if_true]
  have c : (bD l).countP (fun z => PyData.eqv z (.bool true)) = (l.filter id).length := by
    rw [bD, List.countP_map, List.countP_eq_length_filter]
    congr 1
    refine List.filter_congr fun b _ => ?_
    cases b <;> simp [PyData.eqv, Function.comp]
  rw [c]
/-- a comprehension over keys -/
theorem keys_of {i j : Nat} {fe : ME PV} {e : Sl} {h : Cells} {L : List (List Nat)} (f : List Nat → Bool) (m : mV i e h = .ok (pL (kD L)) h) (b : L.length ≤ 1000) (k : ∀ is ∈ L, fe ((e.set j none).set j (some (pS (kx is)))) h = .ok (pB (f is)) h) :
    mLc (iAny (mV i)) (gN j) mYes fe [j] e h = .ok (pL (bD (L.map f))) h := by
  have it := walk_keys (t := false) (f := mV i) (e := e) (h := h) m
  have q := lc_goA (src := none) (vs := [j]) (g := gN j) (fe := fe) (fun is => pS (kx is)) (fun is => pB (f is)) L it rfl (fun is hi => ⟨_, gN_eq _ _ _ _, k is hi⟩) (by omega)
  have e2 : (L.map fun is => pB (f is)) = (L.map f).map pB := by rw [List.map_map]; rfl
  rw [e2, mkL_bools] at q
  exact q
abbrev st6 : MS := mAsg (mLc (iRange1 (aCons (mK (.d (.int 6))) aNil)) (gN 26) mYes (mCallD r__law_key [] (aCons (mV 1) aNil)) [26]) (gN 12)
abbrev st7 : MS := mAsg (mLc (iAny (mV 12)) (gN 11) mYes (mBin (opEq true) (mLc (iAny (mCallD r__law_bits [] (aCons (mV 6) (aCons (mV 11) aNil)))) (gN 27) (mTb (mBin (opIn false) (mV 27) (mV 7))) (mV 27) [27]) (mLst aNil)) [11]) (gN 13)
abbrev st8 : MS := mIf (mOr (mTb (mBin (opEq false) (mLc (iAny (mV 12)) (gN 11) mYes (mMethD "Sieve" "may_have" r_Sieve_may_have [] (mV 4) (aCons (mV 11) aNil)) [11]) (mV 13))) (mTb (mBin (opEq false) (mMethD "Sieve" "wrong_of" r_Sieve_wrong_of [] (mV 4) (aCons (mV 12) aNil)) (mMeth tyL meCount (mV 13) (aCons (mK (.d (.bool true))) aNil))))) rf mSkip
theorem G4 {e : Sl} {h : Cells} {z n : Nat} {keys : List (List Nat)} {K : List Int} {p : Int} (v : EV e z n) (m9 : ∀ h, mV 9 e h = .ok (pL (kD keys)) h) (s : SH h z n K [] K [] p 0) (zn : 1 ≤ z ∧ z ≤ 120 ∧ 1 ≤ n ∧ n ≤ 8) (X : MS) :
    ∃ e' h' L, EV e' z n ∧ (∀ h, mV 9 e' h = .ok (pL (kD keys)) h) ∧ (∀ h, mV 12 e' h = .ok (pL (kD L)) h) ∧ SH h' z n K [] K [] p 0 ∧ L.length = 6 ∧ (∀ is ∈ L, is.length ≤ 4 ∧ ∀ i ∈ is, i < 10) ∧ mSeq st6 (mSeq st7 (mSeq st8 X)) e h = X e' h' := by
  have hz : 0 < z := by omega
  obtain ⟨hc, i0⟩ := s.dz
  obtain ⟨L, h1, d1, i1, ll, lk⟩ := draw_keys (n := 6) (j := 26) (k := 1) (arg1 (mK_eq (pI 6) e h)) (by omega) i0 (fun v' h => by
    show mV 1 ((e.set 26 none).set 26 (some v')) h = _
    rw [mV_ne (by omega), mV_ne (by omega)]; exact v.m1 h)
  have s1 := asg_N (i := 12) d1
  have sh := s.dice i0 i1
  have kL := kOk_of (show L.length ≤ 1000 by omega) lk
  have v1 := v.set 12 (by omega) (some (pL (kD L)))
  have m12 : ∀ h, mV 12 (e.set 12 (some (pL (kD L)))) h = .ok (pL (kD L)) h := fun h => v.put (by omega) _ h
  have m91 : ∀ h, mV 9 (e.set 12 (some (pL (kD L)))) h = .ok (pL (kD keys)) h := fun h => by rw [mV_ne (by omega)]; exact m9 h
  generalize e.set 12 (some (pL (kD L))) = E at s1 v1 m12 m91
  have f7 := keys_of (i := 12) (j := 11) (e := E) (h := h1) (fe := mBin (opEq true) (mLc (iAny (mCallD r__law_bits [] (aCons (mV 6) (aCons (mV 11) aNil)))) (gN 27) (mTb (mBin (opIn false) (mV 27) (mV 7))) (mV 27) [27]) (mLst aNil)) (inK K z n) (m12 h1) (by omega) (fun is hi => by
    have v2 := (v1.set 11 (by omega) none).set 11 (by omega) (some (pS (kx is)))
    have e11 := (v1.set 11 (by omega) none).put (i := 11) (by omega) (pS (kx is)) h1
    generalize (E.set 11 none).set 11 (some (pS (kx is))) = F at v2 e11
    have k1 := lbits_call (a := 6) (b := 0) (fk := mV 11) (kL.2 is hi) zn.2.2.2 hz sh.wf sh.own (v2.m6 h1) e11
    have o := out_of (j := 27) (a := 7) false (walk_pL k1) (by rw [v2.len]; omega) (by omega) (v2.m7 h1) sh.th (by have := BS_len is z n; omega)
    have e0 : mLst aNil F h1 = .ok (pL (pIs [])) h1 := rfl
    rw [bin o e0 (eq_ints_l true _ _ _)]
    rw [if_pos rfl]
    congr 3
    unfold inK
    rw [Bool.eq_iff_iff, decide_eq_true_eq, List.filter_eq_nil_iff, List.all_eq_true]
    simp)
  have s2 := asg_N (i := 13) f7
  have v3 := v1.set 13 (by omega) (some (pL (bD (L.map (inK K z n)))))
  have m13 := v1.put (i := 13) (by omega) (pL (bD (L.map (inK K z n))))
  have m122 : ∀ h, mV 12 (E.set 13 (some (pL (bD (L.map (inK K z n)))))) h = .ok (pL (kD L)) h := fun h => by rw [mV_ne (by omega)]; exact m12 h
  have m92 : ∀ h, mV 9 (E.set 13 (some (pL (bD (L.map (inK K z n)))))) h = .ok (pL (kD keys)) h := fun h => by rw [mV_ne (by omega)]; exact m91 h
  generalize E.set 13 (some (pL (bD (L.map (inK K z n))))) = F at s2 v3 m13 m122 m92
  have f8 := keys_of (i := 12) (j := 11) (e := F) (h := h1) (fe := mMethD "Sieve" "may_have" r_Sieve_may_have [] (mV 4) (aCons (mV 11) aNil)) (inK K z n) (m122 h1) (by omega) (fun is hi => by
    have v2 := (v3.set 11 (by omega) none).set 11 (by omega) (some (pS (kx is)))
    have e11 := (v3.set 11 (by omega) none).put (i := 11) (by omega) (pS (kx is)) h1
    have q := meth_go (m := "may_have") (v2.m4 h1) sh.s1.ins rfl (arg1 e11) (s_may is (kL.2 is hi) zn.2.2.2 hz sh.wf sh.s1)
    rw [may_ind hz] at q
    exact q)
  have c1 := ck f8 (m13 h1) (n_bD _) (d_bD _)
  have wr := meth_go (m := "wrong_of") (v3.m4 h1) sh.s1.ins rfl (arg1 (m122 h1)) (s_wrong kL false zn.2.2.2 hz sh.wf sh.s1)
  have cn : mMeth tyL meCount (mV 13) (aCons (mK (.d (.bool true))) aNil) F h1 = .ok (nI ((L.map (inK K z n)).filter id).length) h1 := by
    rw [mMeth_eq, m13]
    have ty : tyL (pL (bD (L.map (inK K z n)))) h1 = true := rfl
    simp only [bind_ok, ty, if_true, arg1 (mK_eq _ _ _), count_true]
  have en : (L.filter fun is => mayB is z n (ind z K)).length = ((L.map (inK K z n)).filter id).length := by
    rw [List.filter_map, List.length_map]
    congr 1
    refine List.filter_congr fun is _ => ?_
    rw [may_ind hz]; rfl
  rw [en] at wr
  have c2 := ck wr cn rfl (d_pI _)
  exact ⟨F, h1, L, v3, m92, m122, sh, ll, lk, (seq_nx s1).trans ((seq_nx s2).trans (seq_nx (if_no (or_no c1 c2))))⟩
end K04

set_option Elab.async false
set_option linter.all false
set_option maxRecDepth 100000
set_option maxHeartbeats 1000000
namespace K04
open PySem PySem.Spec PyProof.Rows L2 Mi
abbrev st9 : MS := mFor (iAny (mSl (mV 12) oNo (oSo (mK (.d (.int 3)))))) (gN 11) (mSeq (mExp (mMethD "Sieve" "put" r_Sieve_put [] (mV 5) (aCons (mV 11) aNil)))
    (mExp (mMeth tyD meUpdate (mV 8) (aCons (mCall biDictP (aCons (mLc (iAny (mCallD r__law_bits [] (aCons (mV 6) (aCons (mV 11) aNil)))) (gN 27) mYes (mTup (aCons (mV 27) (aCons (mK (.d (.int 1))) aNil))) [27]) aNil)) aNil))))
abbrev st10 : MS := mAsg (mMethD "Sieve" "joined_with" r_Sieve_joined_with [] (mV 4) (aCons (mV 5) aNil)) (gN 14)
abbrev xJ : ME PV := mLc (iRange1 (aCons (mV 2) aNil)) (gN 27) mYes (mCall biInt (aCons (mOrV (mBin (opIn true) (mV 27) (mV 7)) (mBin (opIn true) (mV 27) (mV 8))) aNil)) [27]
abbrev st11 : MS := mIf (mTb (mBin (opEq false) (mFld ["Sieve"] "bits" (mV 14)) xJ)) rf mSkip
abbrev st12 : MS := mIf (mOr (mTb (mBin (opEq false) (mFld ["Sieve"] "put_in" (mV 14)) (mBin opAdd (mCall biLen (aCons (mV 9) aNil)) (mK (.d (.int 3)))))) (mTb (mBin (opEq false) (mFld ["Sieve"] "bits" (mV 4)) xI))) rf mSkip
theorem newS_wf2 {h : Cells} (w : wfB h = true) (z n : Nat) (B : List Int) (p : Int) : wfB (h ++ newS z n (pL (pIs B)) p) = true := by
  refine wfB_app w (fun x hx => ?_)
  simp only [List.mem_cons, List.not_mem_nil, or_false] at hx
  rcases hx with rfl | rfl
  · simp [AO.bd, bds, PV.bd]
  · simp only [AO.bd, bds_ints]
theorem orV_eq {f g : ME PV} {e : Sl} {h h1 h2 : Cells} {a b : Bool} (q1 : f e h = .ok (pB a) h1) (q2 : g e h1 = .ok (pB b) h2) (same : h1 = h2) : mOrV f g e h = .ok (pB (a || b)) h2 := by
  subst same
  rw [mOrV_eq, tb q1]
  cases a with
  | true => rfl
  | false => simp only [bind_ok, Bool.false_eq_true, if_false, Bool.false_or]; exact q2
theorem biInt_eq (b : Bool) (h : Cells) : biInt [pB b] h = .ok (pI (if b then 1 else 0)) h := rfl
theorem G5 {e : Sl} {h : Cells} {z n : Nat} {keys L : List (List Nat)} {K : List Int} (v : EV e z n) (m9 : ∀ h, mV 9 e h = .ok (pL (kD keys)) h) (m12 : ∀ h, mV 12 e h = .ok (pL (kD L)) h) (s : SH h z n K [] K [] keys.length 0) (zn : 1 ≤ z ∧ z ≤ 120 ∧ 1 ≤ n ∧ n ≤ 8) (ll : L.length = 6) (lk : ∀ is ∈ L, is.length ≤ 4 ∧ ∀ i ∈ is, i < 10) (X : MS) :
    ∃ e' h' M q, EV e' z n ∧ (∀ h, mV 9 e' h = .ok (pL (kD keys)) h) ∧ (∀ h, mV 12 e' h = .ok (pL (kD L)) h) ∧ SH h' z n K M K M keys.length q ∧ mSeq st9 (mSeq st10 (mSeq st11 (mSeq st12 X))) e h = X e' h' := by
  have hz : 0 < z := by omega
  have sl : mSl (mV 12) oNo (oSo (mK (.d (.int 3)))) e h = .ok (pQ false (kD (L.take 3))) h := by
    have a := sl_pL (kD L) none (some 3) h
    have c := cut_to (kD L) 3
    have d : (kD L).take 3 = kD (L.take 3) := by rw [kD, kD, List.map_take]
    rw [show ((3 : Nat) : Int) = 3 from rfl, d] at c
    rw [c] at a
    rw [mSl_eq, m12]
    simp only [bind_ok, oNo_eq, oSo_eq, mK_eq]
    exact a
  have it := walk_keys (t := false) sl
  obtain ⟨e', h', f1, v', m9', m12', s'⟩ := for_pre (g := gN 11) (b := mSeq (mExp (mMethD "Sieve" "put" r_Sieve_put [] (mV 5) (aCons (mV 11) aNil))) (mExp (mMeth tyD meUpdate (mV 8) (aCons (mCall biDictP (aCons (mLc (iAny (mCallD r__law_bits [] (aCons (mV 6) (aCons (mV 11) aNil)))) (gN 27) mYes (mTup (aCons (mV 27) (aCons (mK (.d (.int 1))) aNil))) [27]) aNil)) aNil)))) (fun is => pS (kx is)) (L.take 3)
    (fun pre e h => EV e z n ∧ (∀ h, mV 9 e h = .ok (pL (kD keys)) h) ∧ (∀ h, mV 12 e h = .ok (pL (kD L)) h) ∧ SH h z n K (KK pre z n []) K (KK pre z n []) keys.length pre.length)
    (fun pre is suf hf e h ⟨v, m9, m12, s⟩ => by
      have hi : is ∈ L := List.mem_of_mem_take (by rw [hf]; simp)
      have ki : ∀ i ∈ is, i < 11 := fun i q => by have := (lk is hi).2 i q; omega
      have v2 := v.set 11 (by omega) (some (pS (kx is)))
      have e11 : ∀ h, mV 11 (e.set 11 (some (pS (kx is)))) h = .ok (pS (kx is)) h := fun h => v.put (by omega) _ h
      have e9 : ∀ h, mV 9 (e.set 11 (some (pS (kx is)))) h = .ok (pL (kD keys)) h := fun h => by rw [mV_ne (by omega)]; exact m9 h
      have e12 : ∀ h, mV 12 (e.set 11 (some (pS (kx is)))) h = .ok (pL (kD L)) h := fun h => by rw [mV_ne (by omega)]; exact m12 h
      have g0 : gN 11 (pS (kx is)) e h = some (e.set 11 (some (pS (kx is))), h) := rfl
      generalize e.set 11 (some (pS (kx is))) = E at v2 e11 e9 e12 g0
      have pt := s_put is ki zn.2.2.2 hz s.wf s.s2 (by omega)
      have c2 := exp_go (meth_go (m := "put") (v2.m5 h) s.s2.ins rfl (arg1 (e11 h)) pt)
      have sp := s.put2 ((BS is z n).foldl addK (KK pre z n []))
      generalize hh : (h.set 4 (.lst ((ind z ((BS is z n).foldl addK (KK pre z n []))).map pI))).set 3 (.ins "Sieve" (sf z n (.r 4) ((pre.length : Int) + 1))) = h1 at c2 sp
      have bl := BS_len is z n
      have k1 := lbits_call (a := 6) (b := 0) (fk := mV 11) ki zn.2.2.2 hz sp.wf sp.own (v2.m6 h1) (e11 h1)
      have p1 := pairs1 (j := 27) (walk_pL k1) (by rw [v2.len]; omega) (by omega)
      have kl2 := KK_len pre z n []
      have pl : pre.length ≤ 6 := by
        have := congrArg List.length hf
        simp at this; omega
      have : n * pre.length ≤ 8 * 8 := Nat.mul_le_mul zn.2.2.2 (by omega)
      have t4 := upd1 (a := 8) p1 (BS_nodup is z n) v2.m8 sp.mo (by simp only [List.length_nil] at kl2; omega)
      refine ⟨_, _, _, _, g0, (seq_nx c2).trans t4, v2, e9, e12, ?_⟩
      rw [KK_snoc, List.length_append, List.length_singleton, Int.natCast_add]
      exact sp.updM _ _) it ⟨v, m9, m12, s⟩
  have tl : (L.take 3).length = 3 := by rw [List.length_take, ll]; rfl
  rw [tl] at s'
  generalize KK (L.take 3) z n [] = M at s'
  have jn := meth_go (m := "joined_with") (v'.m4 h') s'.s1.ins rfl (arg1 (v'.m5 h')) (s_joined zn.1 (by omega) zn.2.2.1 zn.2.2.2 s'.s1 s'.s2)
  have s10 := asg_N (i := 14) jn
  have gJ : (h' ++ newS z n (pL (pIs (ind z (K ++ M)))) ((keys.length : Int) + ((3 : Nat) : Int)))[h'.length]? = some (.ins "Sieve" (sf z n (pL (pIs (ind z (K ++ M)))) ((keys.length : Int) + ((3 : Nat) : Int)))) := at2
  have sh := s'.app (newS_wf2 s'.wf z n (ind z (K ++ M)) ((keys.length : Int) + ((3 : Nat) : Int)))
  have v3 := v'.set 14 (by omega) (some (.r h'.length))
  have m14 := v'.put (i := 14) (by omega) (.r h'.length)
  have e9 : ∀ h, mV 9 (e'.set 14 (some (.r h'.length))) h = .ok (pL (kD keys)) h := fun h => by rw [mV_ne (by omega)]; exact m9' h
  have e12 : ∀ h, mV 12 (e'.set 14 (some (.r h'.length))) h = .ok (pL (kD L)) h := fun h => by rw [mV_ne (by omega)]; exact m12' h
  generalize e'.set 14 (some (.r h'.length)) = F at s10 v3 m14 e9 e12
  generalize h' ++ newS z n (pL (pIs (ind z (K ++ M)))) ((keys.length : Int) + ((3 : Nat) : Int)) = H at s10 gJ sh
  have xj : xJ F H = .ok (pL (pIs (ind z (K ++ M)))) H := by
    refine ints_of (fun i => if (i : Int) ∈ K ++ M then 1 else 0) (range1_nat (arg1 (v3.m2 H)) (by omega)) (fun i hi => bi1 (orV_eq (in27 v3 (by omega) (v3.m7 H) sh.th i) (in27 v3 (by omega) (v3.m8 H) sh.mo i) rfl) ?_) (by omega)
    rw [biInt_eq]
    by_cases a : (i : Int) ∈ K <;> by_cases b : (i : Int) ∈ M <;> simp [a, b]
  have c11 := ck (fS_bits (m14 H) gJ) xj (n_pIs _) (d_pIs _)
  have kd : (kD keys).length = keys.length := by simp [kD]
  have b1 := bi1 (e9 H) (len_pL (kD keys) H)
  rw [kd] at b1
  have c12 := ck (fS_put (m14 H) gJ) (bin (g := opAdd) b1 (mK_eq (pI 3) _ _) (vadd _ _ _)) rfl (d_pI _)
  have c13 := ckC (fS_bits (v3.m4 H) sh.s1.ins) (xI_eq v3 zn.2.1 sh.th) (asL_r sh.s1.bits)
  exact ⟨F, H, M, _, v3, e9, e12, sh, (seq_nx f1).trans ((seq_nx s10).trans ((seq_nx (if_no c11)).trans (seq_nx (if_no (or_no c12 c13)))))⟩
end K04

set_option Elab.async false
set_option linter.all false
set_option maxRecDepth 100000
set_option maxHeartbeats 1000000
namespace K04
open PySem PySem.Spec PyProof.Rows L2 Mi
theorem FB_len (m : Nat) (K : List Int) : (FB m K).length = m := by simp [FB]
theorem FB_get {m i : Nat} (K : List Int) (h : i < m) : (FB m K)[i]? = some (if (i : Int) ∈ K ∨ ((i + m : Nat) : Int) ∈ K then 1 else 0) := by simp [FB, h]
theorem half_mod (y : Int) (m : Nat) (hm : 0 < m) : y % ((2 * m : Nat) : Int) = y % m ∨ y % ((2 * m : Nat) : Int) = y % m + m := by
  have e : y % ((2 * m : Nat) : Int) % m = y % m := Int.emod_emod_of_dvd y ⟨2, by rw [Int.natCast_mul]; omega⟩
  have r0 : 0 ≤ y % ((2 * m : Nat) : Int) := Int.emod_nonneg _ (by omega)
  have r1 : y % ((2 * m : Nat) : Int) < ((2 * m : Nat) : Int) := Int.emod_lt_of_pos _ (by omega)
  generalize y % ((2 * m : Nat) : Int) = r at e r0 r1
  by_cases q : r < m
  · left
    rw [← e, Int.emod_eq_of_lt r0 q]
  · right
    have s : ((r - m) + m) % (m : Int) = (r - m) % m := by simp
    have s2 := Int.emod_eq_of_lt (show 0 ≤ r - m by omega) (show r - m < m by omega)
    rw [Int.sub_add_cancel, e, s2] at s
    omega
theorem may_half {is : List Nat} {m n : Nat} {K : List Int} (hm : 0 < m) (hK : ∀ t : Nat, t < n → mx is t % ((2 * m : Nat) : Int) ∈ K) : mayB is m n (FB m K) = true := by
  unfold mayB
  rw [List.all_eq_true]
  intro x hx
  obtain ⟨i, ei, im⟩ := toNat_of (BS_range (by omega) hx)
  obtain ⟨t, ht, et⟩ := List.mem_map.mp (BS_mem.mp hx)
  have k := hK t (List.mem_range.mp ht)
  have o := half_mod (mx is t) m hm
  rw [et, ei] at o
  subst ei
  have g : (FB m K).getD i 0 = 1 := by
    rw [List.getD_eq_getElem?_getD, FB_get _ im, if_pos]
    · rfl
    · rcases o with o | o
      · left; rw [o] at k; exact k
      · right; rw [o] at k; rw [Int.natCast_add]; exact k
  unfold got
  rw [Int.toNat_natCast, g]; rfl
abbrev xH : ME PV := mLc (iRange1 (aCons (mBin opDiv (mV 2) (mK (.d (.int 2)))) aNil)) (gN 27) mYes (mCall biInt (aCons (mOrV (mBin (opIn true) (mV 27) (mV 7)) (mBin (opIn true) (mBin opAdd (mV 27) (mBin opDiv (mV 2) (mK (.d (.int 2))))) (mV 7))) aNil)) [27]
abbrev st13i : MS := mIf (mOr (mTb (mBin (opEq false) (mFld ["Sieve"] "size" (mV 15)) (mBin opDiv (mV 2) (mK (.d (.int 2)))))) (mOr (mTb (mBin (opEq false) (mFld ["Sieve"] "bits" (mV 15)) xH)) (mOr (mTb (mBin (opEq false) (mFld ["Sieve"] "put_in" (mV 15)) (mCall biLen (aCons (mV 9) aNil)))) (mTb (mBin (opEq false) (xD 15) (mLst aNil)))))) rf mSkip
abbrev st13 : MS := mIf (mTb (mBin (opEq true) (mBin opMul (mBin opDiv (mV 2) (mK (.d (.int 2)))) (mK (.d (.int 2)))) (mV 2))) (mSeq (mAsg (mMethD "Sieve" "folded" r_Sieve_folded [] (mV 4) aNil) (gN 15)) st13i) mSkip
theorem G6 {e : Sl} {h : Cells} {z n : Nat} {keys L : List (List Nat)} {K M : List Int} {q : Int} (v : EV e z n) (m9 : ∀ h, mV 9 e h = .ok (pL (kD keys)) h) (m12 : ∀ h, mV 12 e h = .ok (pL (kD L)) h) (s : SH h z n K M K M keys.length q) (zn : 1 ≤ z ∧ z ≤ 120 ∧ 1 ≤ n ∧ n ≤ 8)
    (kl : keys.length ≤ 8) (kk : ∀ is ∈ keys, is.length ≤ 4 ∧ ∀ i ∈ is, i < 10) (hK : ∀ is ∈ keys, ∀ t : Nat, t < n → mx is t % (z : Int) ∈ K) (X : MS) :
    ∃ e' h', EV e' z n ∧ (∀ h, mV 9 e' h = .ok (pL (kD keys)) h) ∧ (∀ h, mV 12 e' h = .ok (pL (kD L)) h) ∧ SH h' z n K M K M keys.length q ∧ mSeq st13 X e h = X e' h' := by
  have dv : ∀ h, mBin opDiv (mV 2) (mK (.d (.int 2))) e h = .ok (pI ((z : Int) / 2)) h := fun h => bin (v.m2 h) (mK_eq (pI 2) _ _) (vdiv _ _ _ (by omega) (by omega))
  have c := tb (bin (g := opEq true) (bin (g := opMul) (dv h) (mK_eq (pI 2) _ _) (vmul _ _ _ (mulOk_r (by omega) (by omega)))) (v.m2 h) (veq _ _ _ _))
  rw [if_pos rfl] at c
  by_cases ev : (z : Int) / 2 * 2 = z
  · obtain ⟨m, rfl⟩ : ∃ m, z = 2 * m := ⟨z / 2, by omega⟩
    have hm : ((2 * m : Nat) : Int) / 2 = (m : Int) := by omega
    have ct : mTb (mBin (opEq true) (mBin opMul (mBin opDiv (mV 2) (mK (.d (.int 2)))) (mK (.d (.int 2)))) (mV 2)) e h = .ok true h := by
      rw [show (((2 * m : Nat) : Int) / 2 * 2 == ((2 * m : Nat) : Int)) = true from by simpa using ev] at c
      exact c
    have m0 : 1 ≤ m := by omega
    have fo := meth_go (m := "folded") (fa := aNil) (v.m4 h) s.s1.ins rfl (aNil_eq _ _) (s_folded m0 (by omega) zn.2.2.1 zn.2.2.2 s.s1)
    have s1 := asg_N (i := 15) fo
    have gJ : (h ++ newS m n (pL (pIs (FB m K))) keys.length)[h.length]? = some (.ins "Sieve" (sf m n (pL (pIs (FB m K))) keys.length)) := at2
    have sh := s.app (newS_wf2 s.wf m n (FB m K) keys.length)
    have v3 := v.set 15 (by omega) (some (.r h.length))
    have m15 := v.put (i := 15) (by omega) (.r h.length)
    have e9 : ∀ h', mV 9 (e.set 15 (some (.r h.length))) h' = .ok (pL (kD keys)) h' := fun h => by rw [mV_ne (by omega)]; exact m9 h
    have e12 : ∀ h', mV 12 (e.set 15 (some (.r h.length))) h' = .ok (pL (kD L)) h' := fun h => by rw [mV_ne (by omega)]; exact m12 h
    generalize e.set 15 (some (.r h.length)) = F at s1 v3 m15 e9 e12
    generalize h ++ newS m n (pL (pIs (FB m K))) keys.length = H at s1 gJ sh
    have sv : SV H h.length m n (pL (pIs (FB m K))) (FB m K) keys.length := ⟨gJ, by rw [asL_pL, pI_map], FB_len _ _⟩
    have dv2 : ∀ (E : Sl), EV E (2 * m) n → ∀ h, mBin opDiv (mV 2) (mK (.d (.int 2))) E h = .ok (nI m) h := fun E w h => by
      rw [bin (w.m2 h) (mK_eq (pI 2) _ _) (vdiv _ _ _ (by omega) (by omega)), hm]
    have c1 := ck (fS_size (m15 H) gJ) (dv2 F v3 H) rfl (d_pI _)
    have xh : xH F H = .ok (pL (pIs (FB m K))) H := by
      refine ints_of (fun i => if (i : Int) ∈ K ∨ ((i + m : Nat) : Int) ∈ K then 1 else 0) (range1_nat (arg1 (dv2 F v3 H)) (by omega)) (fun i hi => bi1 (orV_eq (in27 v3 (by omega) (v3.m7 H) sh.th i) (b := decide (((i + m : Nat) : Int) ∈ K)) ?_ rfl) ?_) (by omega)
      · have v4 := (v3.set 27 (by omega) none).set 27 (by omega) (some (nI i))
        have e27 := (v3.set 27 (by omega) none).put (i := 27) (by omega) (nI i) H
        have ad := bin (g := opAdd) e27 (dv2 _ v4 H) (vadd _ _ _)
        rw [← Int.natCast_add] at ad
        have q := bin (g := opIn true) ad (v4.m7 H) (in_kvI true _ sh.th)
        refine Eq.trans q ?_
        simp
      · rw [biInt_eq]
        by_cases a : (i : Int) ∈ K <;> by_cases b : ((i + m : Nat) : Int) ∈ K <;> simp only [a, b, decide_true, decide_false, Bool.or_true, Bool.true_or, Bool.or_self, Bool.or_false, Bool.false_or, or_true, true_or, or_self, or_false, false_or, if_true, if_false] <;> rfl
    have c2 := ck (fS_bits (m15 H) gJ) xh (n_pIs _) (d_pIs _)
    have kd : (kD keys).length = keys.length := by simp [kD]
    have b1 := bi1 (e9 H) (len_pL (kD keys) H)
    rw [kd] at b1
    have c3 := ck (fS_put (m15 H) gJ) b1 rfl (d_pI _)
    have c4 := xD_eq (o := 15) (kOk_of (by omega) kk) zn.2.2.2 (by omega) v3.len (by omega) (e9 H) (m15 H) sh.wf sv (fun is hi => may_half (by omega) (hK is hi))
    exact ⟨F, H, v3, e9, e12, sh, seq_nx ((if_yes ct).trans ((seq_nx s1).trans (if_no (or_no c1 (or_no c2 (or_no c3 c4))))))⟩
  · rw [show ((z : Int) / 2 * 2 == (z : Int)) = false from by simpa using ev] at c
    exact ⟨e, h, v, m9, m12, s, seq_nx (if_no c)⟩
/-! ### numbers -/
theorem K_le {z : Nat} {K : List Int} (nd : K.Nodup) (b : ∀ x ∈ K, 0 ≤ x ∧ x < z) : K.length ≤ z := by
  have e := ind_sum nd b
  have le : ∀ l : List Nat, (l.map fun i : Nat => if (i : Int) ∈ K then (1 : Int) else 0).sum ≤ l.length := fun l => by
    induction l with
    | nil => simp
    | cons x r ih =>
      simp only [List.map_cons, List.sum_cons, List.length_cons]
      split <;> omega
  have := le (List.range z)
  rw [List.length_range] at this
  unfold ind at e
  omega
abbrev st14 : MS := mAsg (mCallD r_odds [] (aCons (mMethD "Sieve" "filled" r_Sieve_filled [] (mV 4) aNil) (aCons (mV 3) aNil))) (gTp 2 (gsCons (gN 16) (gsCons (gN 17) gsNil)))
abbrev st15 : MS := mIf (mTb (mBin (opEq false) (mTup (aCons (mV 16) (aCons (mV 17) aNil))) (mTup (aCons (mCallD r__law_power [] (aCons (mCall biLen (aCons (mV 7) aNil)) (aCons (mV 3) aNil))) (aCons (mCallD r__law_power [] (aCons (mV 2) (aCons (mV 3) aNil))) aNil))))) rf mSkip
abbrev st16 : MS := mPar 18 19 (aCons (mBin opAdd (mK (.d (.int 1))) (mCallD r__law_roll [] (aCons (mV 1) (aCons (mK (.d (.int 2000))) aNil)))) (aCons (mBin opAdd (mK (.d (.int 1))) (mCallD r__law_roll [] (aCons (mV 1) (aCons (mK (.d (.int 200))) aNil)))) aNil))
abbrev st17 : MS := mIf (mTb (mBin (opEq false) (mCallD r_best_turns [] (aCons (mV 18) (aCons (mV 19) aNil))) (mCall biMin2 (aCons (mK (.d (.int 8))) (aCons (mCall biMax2 (aCons (mK (.d (.int 1))) (aCons (mBin opDiv (mBin opAdd (mBin opMul (mBin opMul (mK (.d (.int 2))) (mK (.d (.int 693)))) (mV 18)) (mBin opMul (mK (.d (.int 1000))) (mV 19))) (mBin opMul (mK (.d (.int 2000))) (mV 19))) aNil))) aNil))))) rf mSkip
theorem G7 {e : Sl} {h : Cells} {z n : Nat} {keys L : List (List Nat)} {K M : List Int} {p q : Int} (v : EV e z n) (m9 : ∀ h, mV 9 e h = .ok (pL (kD keys)) h) (m12 : ∀ h, mV 12 e h = .ok (pL (kD L)) h) (s : SH h z n K M K M p q) (zn : 1 ≤ z ∧ z ≤ 120 ∧ 1 ≤ n ∧ n ≤ 8)
    (nd : K.Nodup) (rg : ∀ x ∈ K, 0 ≤ x ∧ x < z) (X : MS) :
    ∃ e' h', EV e' z n ∧ (∀ h, mV 9 e' h = .ok (pL (kD keys)) h) ∧ (∀ h, mV 12 e' h = .ok (pL (kD L)) h) ∧ SH h' z n K M K M p q ∧ mSeq st14 (mSeq st15 (mSeq st16 (mSeq st17 X))) e h = X e' h' := by
  have kz := K_le nd rg
  have c1 := meth_go (m := "filled") (fa := aNil) (v.m4 h) s.s1.ins rfl (aNil_eq _ _) (s_filled s.s1)
  rw [ind_sum nd rg] at c1
  have od := call2 c1 (v.m3 h) (s_odds K.length z n (by omega) (by omega) (by omega) (by omega) zn.2.2.1 (by omega) h)
  have s14 := asgT2 (i := 16) (j := 17) od
  have v1 := (v.set 16 (by omega) (some (pI ((K.length : Int) ^ n)))).set 17 (by omega) (some (pI ((z : Int) ^ n)))
  have m17 := (v.set 16 (by omega) (some (pI ((K.length : Int) ^ n)))).put (i := 17) (by omega) (pI ((z : Int) ^ n))
  have m16 : ∀ h, mV 16 ((e.set 16 (some (pI ((K.length : Int) ^ n)))).set 17 (some (pI ((z : Int) ^ n)))) h = .ok (pI ((K.length : Int) ^ n)) h := fun h => by rw [mV_ne (by omega)]; exact v.put (by omega) _ h
  have e9 : ∀ h, mV 9 ((e.set 16 (some (pI ((K.length : Int) ^ n)))).set 17 (some (pI ((z : Int) ^ n)))) h = .ok (pL (kD keys)) h := fun h => by rw [mV_ne (by omega), mV_ne (by omega)]; exact m9 h
  have e12 : ∀ h, mV 12 ((e.set 16 (some (pI ((K.length : Int) ^ n)))).set 17 (some (pI ((z : Int) ^ n)))) h = .ok (pL (kD L)) h := fun h => by rw [mV_ne (by omega), mV_ne (by omega)]; exact m12 h
  generalize (e.set 16 (some (pI ((K.length : Int) ^ n)))).set 17 (some (pI ((z : Int) ^ n))) = E at s14 v1 m17 m16 e9 e12
  have p1 := call2 (bi1 (v1.m7 h) (len_dict s.th (by omega))) (v1.m3 h) (s_power K.length n (by omega) (by omega) (by omega) h)
  have p2 := call2 (v1.m2 h) (v1.m3 h) (s_power z n (by omega) (by omega) (by omega) h)
  have c15 := ck (tup2 (m16 h) (m17 h)) (tup2 p1 p2) rfl (d_ints [(K.length : Int) ^ n, (z : Int) ^ n])
  obtain ⟨hc, i0⟩ := s.dz
  obtain ⟨h1, x1, q1, ⟨w, rfl, w0, w1⟩, i1⟩ := roll_K (k := 1) (m := 2000) (by omega) (by omega) i0 (v1.m1 h)
  obtain ⟨h2, x2, q2, ⟨k, rfl, k0, k1⟩, i2⟩ := roll_K (k := 1) (m := 200) (by omega) (by omega) i1 (v1.m1 h1)
  have a1 := bin (g := opAdd) (mK_eq (pI 1) _ _) q1 (vadd _ _ _)
  have a2 := bin (g := opAdd) (mK_eq (pI 1) _ _) q2 (vadd _ _ _)
  have s16 : st16 E h = .nx ((E.set 18 (some (pI (1 + w)))).set 19 (some (pI (1 + k)))) h2 := (mPar_eq _ _ _ _ _).trans (by rw [arg2 a1 a2]; rfl)
  have sh := s.dice i0 i2
  have v2 := (v1.set 18 (by omega) (some (pI (1 + w)))).set 19 (by omega) (some (pI (1 + k)))
  have m19 := (v1.set 18 (by omega) (some (pI (1 + w)))).put (i := 19) (by omega) (pI (1 + k))
  have m18 : ∀ h, mV 18 ((E.set 18 (some (pI (1 + w)))).set 19 (some (pI (1 + k)))) h = .ok (pI (1 + w)) h := fun h => by rw [mV_ne (by omega)]; exact v1.put (by omega) _ h
  have f9 : ∀ h, mV 9 ((E.set 18 (some (pI (1 + w)))).set 19 (some (pI (1 + k)))) h = .ok (pL (kD keys)) h := fun h => by rw [mV_ne (by omega), mV_ne (by omega)]; exact e9 h
  have f12 : ∀ h, mV 12 ((E.set 18 (some (pI (1 + w)))).set 19 (some (pI (1 + k)))) h = .ok (pL (kD L)) h := fun h => by rw [mV_ne (by omega), mV_ne (by omega)]; exact e12 h
  generalize (E.set 18 (some (pI (1 + w)))).set 19 (some (pI (1 + k))) = F at s16 v2 m19 m18 f9 f12
  generalize hW : 1 + w = W at m18
  generalize hY : 1 + k = Y at m19
  have b1 := call2 (m18 h2) (m19 h2) (s_best W Y (by omega) (by omega) (by omega) (by omega) h2)
  have m1 : mulOk 2 693 = true := by decide
  have dd := bin (g := opDiv) (bin (g := opAdd) (bin (g := opMul) (bin (g := opMul) (mK_eq (pI 2) _ _) (mK_eq (pI 693) _ _) (vmul _ _ _ m1)) (m18 h2) (vmul _ _ _ (mulOk_l (by omega) (by omega)))) (bin (g := opMul) (mK_eq (pI 1000) _ _) (m19 h2) (vmul _ _ _ (mulOk_l (by omega) (by omega)))) (vadd _ _ _)) (bin (g := opMul) (mK_eq (pI 2000) _ _) (m19 h2) (vmul _ _ _ (mulOk_l (by omega) (by omega)))) (vdiv _ _ _ (by omega) (by omega))
  have eq : (2 * 693 * W + 1000 * Y) / (2000 * Y) = (693 * W + 500 * Y) / (1000 * Y) := by
    have x1 : 2 * 693 * W + 1000 * Y = 2 * (693 * W + 500 * Y) := by omega
    have x2 : 2000 * Y = 2 * (1000 * Y) := by omega
    rw [x1, x2, Int.mul_ediv_mul_of_pos _ _ (by omega)]
  rw [eq] at dd
  have b2 : mCall biMin2 (aCons (mK (.d (.int 8))) (aCons (mCall biMax2 (aCons (mK (.d (.int 1))) (aCons (mBin opDiv (mBin opAdd (mBin opMul (mBin opMul (mK (.d (.int 2))) (mK (.d (.int 693)))) (mV 18)) (mBin opMul (mK (.d (.int 1000))) (mV 19))) (mBin opMul (mK (.d (.int 2000))) (mV 19))) aNil))) aNil)) F h2 = .ok (pI (bt W Y)) h2 := bi2 (mK_eq (pI 8) _ _) (bi2 (mK_eq (pI 1) _ _) dd rfl) rfl
  have c17 := ck b1 b2 rfl (d_pI _)
  exact ⟨F, h2, v2, f9, f12, sh, (seq_nx s14).trans ((seq_nx (if_no c15)).trans ((seq_nx s16).trans (seq_nx (if_no c17))))⟩
end K04

set_option Elab.async false
set_option linter.all false
set_option maxRecDepth 100000
set_option maxHeartbeats 1000000
namespace K04
open PySem PySem.Spec PyProof.Rows L2 Mi
theorem in_pL (x : Int) (l : List Int) (h : Cells) : opIn true (pI x) (pL (pIs l)) h = .ok (pB (decide (x ∈ l))) h := by
  have s1 : SeqAt.shaped (.int x) = true := by simp [SeqAt.shaped, PyData.canLay0, PyData.depth]
  have s2 : SeqAt.shaped (.list (pIs l)) = true := by
    have := d_pIs l
    simp only [SeqAt.shaped, PyData.canLay0, canLay_ints, Bool.true_and, decide_eq_true_eq]; exact this
  have m : memD (.int x) (pIs l) = decide (x ∈ l) := by
    unfold memD
    rw [Bool.eq_iff_iff, List.any_eq_true, decide_eq_true_eq]
    constructor
    · rintro ⟨d, hd, e⟩
      obtain ⟨y, hy, rfl⟩ := List.mem_map.mp hd
      have : y = x := by simpa [PyData.eqv] using e
      exact this ▸ hy
    · intro hx
      exact ⟨.int x, List.mem_map.mpr ⟨x, hx, rfl⟩, by simp [PyData.eqv]⟩
  have a1 : asX (pL (pIs l)) h = some (.list (pIs l)) := rfl
  have a2 : asX (pI x) h = some (.int x) := rfl
  unfold opIn
  simp only [a1, a2, s1, s2, Bool.and_self, if_true, m]
  cases decide (x ∈ l) <;> rfl
theorem min_eq (x y : Int) (h : Cells) : biMin2 [pI x, pI y] h = .ok (pI (if y < x then y else x)) h := rfl
/-- numbers with their places -/
theorem enum_go {f : ME PV} {e : Sl} {h : Cells} {C : List Int} (q : f e h = .ok (pL (pIs C)) h) : iEnumL (aCons f aNil) e h = .ok ((List.range C.length).map (fun i : Nat => pT [.int i, .int (C.getD i 0)]), none) h := by
  unfold iEnumL
  rw [arg1 q]
  simp only [bind_ok, asF]
  congr 2
  apply List.ext_getElem?
  intro i
  by_cases hi : i < C.length
  · rw [List.getElem?_map, List.getElem?_range hi]
    simp only [List.getElem?_mapIdx, List.getElem?_map, getD_at hi, Option.map_some]
    rfl
  · rw [List.getElem?_eq_none (by simp; omega), List.getElem?_eq_none (by simp; omega)]
theorem upd_of {fe : ME PV} {e : Sl} {h : Cells} {C : List Int} (g : Nat → Int) (b : C.length ≤ 100000) (q : mV 20 e h = .ok (pL (pIs C)) h) (k : ∀ i : Nat, i < C.length → fe ((((e.set 28 none).set 26 none).set 26 (some (nI i))).set 28 (some (pI (C.getD i 0)))) h = .ok (pI (g i)) h) :
    mLc (iEnumL (aCons (mV 20) aNil)) (gTp 2 (gsCons (gN 26) (gsCons (gN 28) gsNil))) mYes fe [26, 28] e h = .ok (pL (pIs ((List.range C.length).map g))) h := by
  have q := lc_goA (src := none) (vs := [26, 28]) (g := gTp 2 (gsCons (gN 26) (gsCons (gN 28) gsNil))) (fe := fe) (fun i : Nat => pT [.int i, .int (C.getD i 0)]) (fun i => pI (g i)) (List.range C.length) (enum_go q) rfl (fun i hi => ⟨_, rfl, k i (List.mem_range.mp hi)⟩) (by simp; omega)
  have e2 : ((List.range C.length).map fun i => pI (g i)) = ((List.range C.length).map g).map pI := by rw [List.map_map]; rfl
  rw [e2, mapL] at q
  exact q
abbrev c1 : MS := mAsg (mBin opIx (mBin opAdd (mV 9) (mV 12)) (mCallD r__law_roll [] (aCons (mV 1) (aCons (mCall biLen (aCons (mBin opAdd (mV 9) (mV 12)) aNil)) aNil)))) (gN 11)
abbrev c3 : MS := mAsg (mBin (opEq true) (mLc (iAny (mV 10)) (gN 27) (mTb (mBin (opEq true) (mBin opIx (mV 20) (mV 27)) (mK (.d (.int 0))))) (mV 27) [27]) (mLst aNil)) (gN 22)
abbrev c4 : MS := mIf (mTb (mBin (opEq false) (mMethD "Counting" "may_be_in" r_Counting_may_be_in [] (mV 25) (aCons (mV 11) aNil)) (mV 22))) rf mSkip
abbrev xU : ME PV := mLc (iEnumL (aCons (mV 20) aNil)) (gTp 2 (gsCons (gN 26) (gsCons (gN 28) gsNil))) mYes (mCall biMin2 (aCons (mK (.d (.int 15))) (aCons (mBin opAdd (mV 28) (mCall biInt (aCons (mBin (opIn true) (mV 26) (mV 10)) aNil))) aNil))) [26, 28]
abbrev xN : ME PV := mLc (iEnumL (aCons (mV 20) aNil)) (gTp 2 (gsCons (gN 26) (gsCons (gN 28) gsNil))) mYes (mBin opSub (mV 28) (mCall biInt (aCons (mAndV (mV 22) (mAndV (mBin (opIn true) (mV 26) (mV 10)) (mBin oLt (mV 28) (mK (.d (.int 15)))))) aNil))) [26, 28]
abbrev c5a : MS := mAsg (mTup (aCons xU (aCons (mTold (mMethD "Counting" "add" r_Counting_add [] (mV 25) (aCons (mV 11) aNil)) (inS ["SieveError"]) "SieveError") (aCons (mK (.d (.bool true))) aNil)))) (gTp 3 (gsCons (gN 20) (gsCons (gN 23) (gsCons (gN 24) gsNil))))
abbrev c5b : MS := mAsg (mTup (aCons xN (aCons (mTold (mMethD "Counting" "remove" r_Counting_remove [] (mV 25) (aCons (mV 11) aNil)) (inS ["SieveError"]) "SieveError") (aCons (mV 22) aNil)))) (gTp 3 (gsCons (gN 20) (gsCons (gN 23) (gsCons (gN 24) gsNil))))
abbrev c5 : MS := mIf (mTb (mBin oGt (mCallD r__law_roll [] (aCons (mV 1) (aCons (mK (.d (.int 3))) aNil))) (mK (.d (.int 0))))) c5a c5b
abbrev c6 : MS := mIf (mOr (mTb (mBin (opEq false) (mBin (opEq false) (mV 23) (mK (.d (.str "SieveError")))) (mV 24))) (mTb (mBin (opEq false) (mFld ["Counting"] "counts" (mV 25)) (mV 20)))) rf mSkip
def cntOk (C : List Int) : Prop := ∀ i : Nat, i < C.length → 0 ≤ C.getD i 0 ∧ C.getD i 0 ≤ 15
theorem cntOk.up {C : List Int} (k : cntOk C) (f : Int → Int) (hf : ∀ x, 0 ≤ x → x ≤ 15 → 0 ≤ f x ∧ f x ≤ 15) (ps : List Int) : cntOk (upC f C ps) := fun i hi => by
  rw [upC_len] at hi
  have g : (upC f C ps).getD i 0 = if (i : Int) ∈ ps then f (C.getD i 0) else C.getD i 0 := by
    rw [List.getD_eq_getElem?_getD, upC_get _ _ _ hi]; rfl
  have := k i hi
  rw [g]
  split
  · exact hf _ this.1 this.2
  · exact this
theorem xU_eq {e : Sl} {h : Cells} {C B : List Int} (el : e.length = 29) (b : C.length ≤ 1000) (k : cntOk C) (m20 : ∀ h, mV 20 e h = .ok (pL (pIs C)) h) (m10 : ∀ h, mV 10 e h = .ok (pL (pIs B)) h) : xU e h = .ok (pL (pIs (upC up1 C B))) h := by
  refine upd_of (fun i => if (i : Int) ∈ B then up1 (C.getD i 0) else C.getD i 0) (by omega) (m20 h) (fun i hi => ?_)
  have e28 : mV 28 ((((e.set 28 none).set 26 none).set 26 (some (nI i))).set 28 (some (pI (C.getD i 0)))) h = .ok (pI (C.getD i 0)) h := mV_eq (by simp [el]) _ _
  have e26 : mV 26 ((((e.set 28 none).set 26 none).set 26 (some (nI i))).set 28 (some (pI (C.getD i 0)))) h = .ok (nI i) h := by rw [mV_ne (by omega)]; exact mV_eq (by simp [el]) _ _
  have e10 : mV 10 ((((e.set 28 none).set 26 none).set 26 (some (nI i))).set 28 (some (pI (C.getD i 0)))) h = .ok (pL (pIs B)) h := by rw [mV_ne (by omega), mV_ne (by omega), mV_ne (by omega), mV_ne (by omega)]; exact m10 h
  generalize (((e.set 28 none).set 26 none).set 26 (some (nI i))).set 28 (some (pI (C.getD i 0))) = E at e28 e26 e10
  have kk := k i hi
  refine (bi2 (mK_eq (pI 15) _ _) (bin (g := opAdd) e28 (bi1 (bin (g := opIn true) e26 e10 (in_pL _ _ _)) (biInt_eq _ _)) (vadd _ _ _)) (min_eq _ _ _)).trans ?_
  by_cases a : (i : Int) ∈ B
  · simp only [a, decide_true, if_true, up1]
  · simp only [a, decide_false, Bool.false_eq_true, if_false, Int.add_zero]
    congr 3
    split <;> omega
theorem andV_eq {f g : ME PV} {e : Sl} {h : Cells} {a b : Bool} (q1 : f e h = .ok (pB a) h) (q2 : g e h = .ok (pB b) h) : mAndV f g e h = .ok (pB (a && b)) h := by
  rw [mAndV_eq, tb q1]
  cases a with
  | true => exact q2
  | false => rfl
theorem xN_eq {e : Sl} {h : Cells} {C B : List Int} {hd : Bool} (el : e.length = 29) (b : C.length ≤ 1000) (m20 : ∀ h, mV 20 e h = .ok (pL (pIs C)) h) (m10 : ∀ h, mV 10 e h = .ok (pL (pIs B)) h) (m22 : ∀ h, mV 22 e h = .ok (pB hd) h) : xN e h = .ok (pL (pIs (if hd then upC dn1 C B else C))) h := by
  have ee : (if hd then upC dn1 C B else C) = (List.range C.length).map (fun i : Nat => if hd && decide ((i : Int) ∈ B) && decide (C.getD i 0 < 15) then C.getD i 0 - 1 else C.getD i 0) := by
    cases hd with
    | true =>
      simp only [if_true, Bool.true_and, upC]
      refine List.map_congr_left fun i _ => ?_
      by_cases a : (i : Int) ∈ B <;> by_cases c : C.getD i 0 < 15 <;> simp [a, c, dn1]
    | false =>
      simp only [Bool.false_and, Bool.false_eq_true, if_false]
      exact (upC_nil dn1 C).symm.trans (List.map_congr_left fun i _ => by simp)
  rw [ee]
  refine upd_of _ (by omega) (m20 h) (fun i hi => ?_)
  have e28 : mV 28 ((((e.set 28 none).set 26 none).set 26 (some (nI i))).set 28 (some (pI (C.getD i 0)))) h = .ok (pI (C.getD i 0)) h := mV_eq (by simp [el]) _ _
  have e26 : mV 26 ((((e.set 28 none).set 26 none).set 26 (some (nI i))).set 28 (some (pI (C.getD i 0)))) h = .ok (nI i) h := by rw [mV_ne (by omega)]; exact mV_eq (by simp [el]) _ _
  have e10 : mV 10 ((((e.set 28 none).set 26 none).set 26 (some (nI i))).set 28 (some (pI (C.getD i 0)))) h = .ok (pL (pIs B)) h := by rw [mV_ne (by omega), mV_ne (by omega), mV_ne (by omega), mV_ne (by omega)]; exact m10 h
  have e22 : mV 22 ((((e.set 28 none).set 26 none).set 26 (some (nI i))).set 28 (some (pI (C.getD i 0)))) h = .ok (pB hd) h := by rw [mV_ne (by omega), mV_ne (by omega), mV_ne (by omega), mV_ne (by omega)]; exact m22 h
  generalize (((e.set 28 none).set 26 none).set 26 (some (nI i))).set 28 (some (pI (C.getD i 0))) = E at e28 e26 e10 e22
  have q := bin (g := opSub) e28 (bi1 (andV_eq e22 (andV_eq (bin (g := opIn true) e26 e10 (in_pL _ _ _)) (bin (g := oLt) e28 (mK_eq (pI 15) _ _) (vlt _ _ _)))) (biInt_eq _ _)) (vsub _ _ _)
  refine q.trans ?_
  generalize C.getD i 0 = y
  cases hd <;> by_cases a : (i : Int) ∈ B <;> by_cases c : y < 15 <;> simp [a, c]
end K04

set_option Elab.async false
set_option linter.all false
set_option maxRecDepth 100000
set_option maxHeartbeats 1000000
namespace K04
open PySem PySem.Spec PyProof.Rows L2 Mi
theorem CV.same {h h' : Cells} {q s c z n : Nat} {C : List Int} (v : CV h q s c z n C) (e1 : h'[q]? = h[q]?) (e2 : h'[s]? = h[s]?) (e3 : h'[c]? = h[c]?) : CV h' q s c z n C :=
  ⟨by rw [e1]; exact v.ins, by rw [e2]; exact v.sv, by rw [e3]; exact v.cnt, v.len⟩
theorem CV.set {h : Cells} {q s c z n : Nat} {C : List Int} (v : CV h q s c z n C) (qc : q ≠ c) (sc : s ≠ c) {C' : List Int} (l : C'.length = C.length) : CV (h.set c (.lst (C'.map pI))) q s c z n C' :=
  ⟨by rw [List.getElem?_set_ne (Ne.symm qc)]; exact v.ins, by rw [List.getElem?_set_ne (Ne.symm sc)]; exact v.sv, List.getElem?_set_self (List.getElem?_eq_some_iff.mp v.cnt).1, by rw [l]; exact v.len⟩
theorem SH.setC {h : Cells} {z n : Nat} {K M Kt Mt : List Int} {p q : Int} (s : SH h z n K M Kt Mt p q) {c : Nat} (c8 : 8 ≤ c) (l : List Int) : SH (h.set c (.lst (l.map pI))) z n K M Kt Mt p q := by
  obtain ⟨hc, i⟩ := s.dz
  obtain ⟨d, rfl⟩ : ∃ d, c = d + 1 := ⟨c - 1, by omega⟩
  refine ⟨⟨_, i.set d _⟩, wfB_set s.wf _ (by simp only [AO.bd, bds_ints]), s.s1.same ?_ ?_, s.s2.same ?_ ?_, ?_, ?_, ?_⟩ <;> rw [List.getElem?_set_ne (by omega)]
  · exact s.own
  · exact s.th
  · exact s.mo
theorem neS (v : PV) (b : Bool) (h : Cells) (q : (v = pN ∧ b = true) ∨ (v = pS "SieveError" ∧ b = false)) : opEq false v (pS "SieveError") h = .ok (pB b) h := by
  rcases q with ⟨rfl, rfl⟩ | ⟨rfl, rfl⟩
  · rw [eq_data false .none (.str "SieveError") h (by simp [PyData.depth])]; simp [PyData.eqv]
  · rw [eq_strs]; simp
structure L8 (e : Sl) (h : Cells) (z n : Nat) (keys L : List (List Nat)) (K M : List Int) (p r : Int) (q : Nat) (C : List Int) : Prop where
  v : EV e z n
  m9 : ∀ h, mV 9 e h = .ok (pL (kD keys)) h
  m12 : ∀ h, mV 12 e h = .ok (pL (kD L)) h
  m25 : ∀ h, mV 25 e h = .ok (.r q) h
  m20 : ∀ h, mV 20 e h = .ok (pL (pIs C)) h
  s : SH h z n K M K M p r
  c : CV h q (q + 1) (q + 3) z n C
  k : cntOk C
theorem c6_ok {e : Sl} {h : Cells} {z n : Nat} {keys L : List (List Nat)} {K M : List Int} {p r : Int} {q : Nat} {C C' : List Int} (q8 : 8 ≤ q) (l : L8 e h z n keys L K M p r q C) {h2 : Cells} (s2 : SH h2 z n K M K M p r) (cv : CV h2 q (q + 1) (q + 3) z n C') (k' : cntOk C') {v23 : PV} {b : Bool} (vb : (v23 = pN ∧ b = true) ∨ (v23 = pS "SieveError" ∧ b = false)) :
    ∃ e', L8 e' h2 z n keys L K M p r q C' ∧ c6 (((e.set 20 (some (pL (pIs C')))).set 23 (some v23)).set 24 (some (pB b))) h2 = .nx e' h2 := by
  have v1 := ((l.v.set 20 (by omega) (some (pL (pIs C')))).set 23 (by omega) (some v23)).set 24 (by omega) (some (pB b))
  have m24 := ((l.v.set 20 (by omega) (some (pL (pIs C')))).set 23 (by omega) (some v23)).put (i := 24) (by omega) (pB b)
  have m23 : ∀ h, mV 23 (((e.set 20 (some (pL (pIs C')))).set 23 (some v23)).set 24 (some (pB b))) h = .ok v23 h := fun h => by rw [mV_ne (by omega)]; exact (l.v.set 20 (by omega) (some (pL (pIs C')))).put (by omega) _ h
  have m20 : ∀ h, mV 20 (((e.set 20 (some (pL (pIs C')))).set 23 (some v23)).set 24 (some (pB b))) h = .ok (pL (pIs C')) h := fun h => by rw [mV_ne (by omega), mV_ne (by omega)]; exact l.v.put (by omega) _ h
  have m9 : ∀ h, mV 9 (((e.set 20 (some (pL (pIs C')))).set 23 (some v23)).set 24 (some (pB b))) h = .ok (pL (kD keys)) h := fun h => by rw [mV_ne (by omega), mV_ne (by omega), mV_ne (by omega)]; exact l.m9 h
  have m12 : ∀ h, mV 12 (((e.set 20 (some (pL (pIs C')))).set 23 (some v23)).set 24 (some (pB b))) h = .ok (pL (kD L)) h := fun h => by rw [mV_ne (by omega), mV_ne (by omega), mV_ne (by omega)]; exact l.m12 h
  have m25 : ∀ h, mV 25 (((e.set 20 (some (pL (pIs C')))).set 23 (some v23)).set 24 (some (pB b))) h = .ok (.r q) h := fun h => by rw [mV_ne (by omega), mV_ne (by omega), mV_ne (by omega)]; exact l.m25 h
  generalize ((e.set 20 (some (pL (pIs C')))).set 23 (some v23)).set 24 (some (pB b)) = E at v1 m24 m23 m20 m9 m12 m25
  have a := ck (bin (g := opEq false) (m23 h2) (mK_eq (pS "SieveError") _ _) (neS v23 b h2 vb)) (m24 h2) rfl (by simp [PyData.depth])
  have c := ckC (fC_counts (m25 h2) cv.ins) (m20 h2) cv.cnt
  exact ⟨E, ⟨v1, m9, m12, m25, m20, s2, cv, k'⟩, if_no (or_no a c)⟩
theorem kD_app (a b : List (List Nat)) : kD a ++ kD b = kD (a ++ b) := by simp [kD]
theorem inS1 : inS ["SieveError"] "SieveError" = true := by decide +kernel
theorem step8 {e : Sl} {h : Cells} {z n : Nat} {keys L : List (List Nat)} {K M : List Int} {p r : Int} {q : Nat} {C : List Int} (q8 : 8 ≤ q) (zn : 1 ≤ z ∧ z ≤ 120 ∧ 1 ≤ n ∧ n ≤ 8) (kl : keys.length ≤ 8) (kk : ∀ is ∈ keys, is.length ≤ 4 ∧ ∀ i ∈ is, i < 10) (ll : L.length = 6) (lk : ∀ is ∈ L, is.length ≤ 4 ∧ ∀ i ∈ is, i < 10)
    (l : L8 e h z n keys L K M p r q C) : ∃ e' h' C', L8 e' h' z n keys L K M p r q C' ∧ mSeq c1 (mSeq bL1 (mSeq c3 (mSeq c4 (mSeq c5 c6)))) e h = .nx e' h' := by
  have hz : 0 < z := by omega
  have ad : ∀ h, mBin opAdd (mV 9) (mV 12) e h = .ok (pL (kD (keys ++ L))) h := fun h => by
    rw [bin (l.m9 h) (l.m12 h) (add_pL _ _ _ (sz _ (by simp [kD]; omega))), kD_app]
  have kn : (kD (keys ++ L)).length = keys.length + 6 := by simp [kD, ll]
  have ln := bi1 (ad h) (len_pL _ h)
  rw [kn] at ln
  obtain ⟨hc, i0⟩ := l.s.dz
  obtain ⟨h1, x1, q1, ⟨j, rfl, j0, j1⟩, i1⟩ := roll_call (k := 1) (m := ((keys.length + 6 : Nat) : Int)) (by omega) (by omega) i0 ⟨h, ln, i0⟩ (l.v.m1 h)
  obtain ⟨J, rfl⟩ : ∃ J : Nat, j = J := ⟨j.toNat, by omega⟩
  have jl : J < (keys ++ L).length := by rw [List.length_append, ll]; omega
  have gk : (kD (keys ++ L))[J]? = some (.str (kx ((keys ++ L)[J]))) := by rw [kD, List.getElem?_map, List.getElem?_eq_getElem jl]; rfl
  have hi : (keys ++ L)[J] ∈ keys ++ L := List.getElem_mem jl
  generalize (keys ++ L)[J] = is at gk hi
  have ki : ∀ i ∈ is, i < 11 := fun i q => by
    rcases List.mem_append.mp hi with a | a
    · have := (kk is a).2 i q; omega
    · have := (lk is a).2 i q; omega
  have s1 := asg_N (i := 11) (bin (g := opIx) (ad h) q1 (ix_pQ false (kD (keys ++ L)) J h1 _ gk))
  have sh := l.s.dice i0 i1
  have cv : CV h1 q (q + 1) (q + 3) z n C := l.c.same (i0.same i1 q (by omega)) (i0.same i1 (q + 1) (by omega)) (i0.same i1 (q + 3) (by omega))
  have v1 := l.v.set 11 (by omega) (some (pS (kx is)))
  have s2 := asg_N (i := 10) (lbits_call (a := 6) (b := 0) (fk := mV 11) ki zn.2.2.2 hz sh.wf sh.own (v1.m6 h1) (l.v.put (i := 11) (by omega) (pS (kx is)) h1))
  have v2 := v1.set 10 (by omega) (some (pL (pIs (BS is z n))))
  have e10 : ∀ h, mV 10 ((e.set 11 (some (pS (kx is)))).set 10 (some (pL (pIs (BS is z n))))) h = .ok (pL (pIs (BS is z n))) h := fun h => v1.put (by omega) _ h
  have e11 : ∀ h, mV 11 ((e.set 11 (some (pS (kx is)))).set 10 (some (pL (pIs (BS is z n))))) h = .ok (pS (kx is)) h := fun h => by rw [mV_ne (by omega)]; exact l.v.put (by omega) _ h
  have e9 : ∀ h, mV 9 ((e.set 11 (some (pS (kx is)))).set 10 (some (pL (pIs (BS is z n))))) h = .ok (pL (kD keys)) h := fun h => by rw [mV_ne (by omega), mV_ne (by omega)]; exact l.m9 h
  have e12 : ∀ h, mV 12 ((e.set 11 (some (pS (kx is)))).set 10 (some (pL (pIs (BS is z n))))) h = .ok (pL (kD L)) h := fun h => by rw [mV_ne (by omega), mV_ne (by omega)]; exact l.m12 h
  have e25 : ∀ h, mV 25 ((e.set 11 (some (pS (kx is)))).set 10 (some (pL (pIs (BS is z n))))) h = .ok (.r q) h := fun h => by rw [mV_ne (by omega), mV_ne (by omega)]; exact l.m25 h
  have e20 : ∀ h, mV 20 ((e.set 11 (some (pS (kx is)))).set 10 (some (pL (pIs (BS is z n))))) h = .ok (pL (pIs C)) h := fun h => by rw [mV_ne (by omega), mV_ne (by omega)]; exact l.m20 h
  generalize (e.set 11 (some (pS (kx is)))).set 10 (some (pL (pIs (BS is z n)))) = E at s2 v2 e10 e11 e9 e12 e25 e20
  have bl := BS_len is z n
  have lc := lc_go (src := none) (vs := [27]) (g := gN 27) (t := mTb (mBin (opEq true) (mBin opIx (mV 20) (mV 27)) (mK (.d (.int 0))))) (fe := mV 27) pI (fun x => C.getD x.toNat 0 == 0) pI (BS is z n) (walk_pL (e10 h1)) rfl (fun x hx => by
    obtain ⟨i, rfl, iz⟩ := toNat_of (BS_range (by omega) hx)
    have e27 : mV 27 ((wipeE E [27]).set 27 (some (nI i))) h1 = .ok (nI i) h1 := mV_eq (by rw [wipeE_length, v2.len]; omega) _ _
    have f20 : mV 20 ((wipeE E [27]).set 27 (some (nI i))) h1 = .ok (pL (pIs C)) h1 := by
      rw [mV_ne (by omega)]
      show mV 20 (E.set 27 none) h1 = _
      rw [mV_ne (by omega)]; exact e20 h1
    have gi : (pIs C)[i]? = some (.int (C.getD i 0)) := by rw [List.getElem?_map, getD_at (by rw [cv.len]; exact iz)]; rfl
    refine ⟨_, gN_eq _ _ _ _, ?_, fun _ => e27⟩
    exact tb (bin (g := opEq true) (bin (g := opIx) f20 e27 (ix_pQ false (pIs C) i h1 _ gi)) (mK_eq (pI 0) _ _) (veq true _ _ _))) (by omega)
  rw [mapL] at lc
  have e0 : mLst aNil E h1 = .ok (pL (pIs [])) h1 := rfl
  have hd := bin (g := opEq true) lc e0 (eq_ints_l true _ _ _)
  have hb : (if true = true then decide ((BS is z n).filter (fun x => C.getD x.toNat 0 == 0) = []) else !decide ((BS is z n).filter (fun x => C.getD x.toNat 0 == 0) = [])) = hadB C (BS is z n) := by
    rw [if_pos rfl]
    unfold hadB
    rw [Bool.eq_iff_iff, decide_eq_true_eq, List.filter_eq_nil_iff, List.all_eq_true]
    have : ∀ x ∈ BS is z n, (¬ (C.getD x.toNat 0 == 0) = true ↔ decide (0 < C.getD x.toNat 0) = true) := fun x hx => by
      obtain ⟨i, rfl, iz⟩ := toNat_of (BS_range (by omega) hx)
      have := l.k i (by rw [cv.len]; exact iz)
      rw [Int.toNat_natCast, decide_eq_true_eq, beq_iff_eq]
      omega
    exact ⟨fun f x hx => (this x hx).mp (f x hx), fun f x hx => (this x hx).mpr (f x hx)⟩
  rw [hb] at hd
  have s3 := asg_N (i := 22) hd
  have v3 := v2.set 22 (by omega) (some (pB (hadB C (BS is z n))))
  have m22 := v2.put (i := 22) (by omega) (pB (hadB C (BS is z n)))
  have f10 : ∀ h, mV 10 (E.set 22 (some (pB (hadB C (BS is z n))))) h = .ok (pL (pIs (BS is z n))) h := fun h => by rw [mV_ne (by omega)]; exact e10 h
  have f11 : ∀ h, mV 11 (E.set 22 (some (pB (hadB C (BS is z n))))) h = .ok (pS (kx is)) h := fun h => by rw [mV_ne (by omega)]; exact e11 h
  have l3 : L8 (E.set 22 (some (pB (hadB C (BS is z n))))) h1 z n keys L K M p r q C := ⟨v3, fun h => by rw [mV_ne (by omega)]; exact e9 h, fun h => by rw [mV_ne (by omega)]; exact e12 h, fun h => by rw [mV_ne (by omega)]; exact e25 h, fun h => by rw [mV_ne (by omega)]; exact e20 h, sh, cv, l.k⟩
  generalize E.set 22 (some (pB (hadB C (BS is z n)))) = F at s3 v3 m22 f10 f11 l3
  have my := c_may (fo := mV 25) (fk := mV 11) (e := F) ki zn.2.2.2 hz sh.wf cv (l3.m25 h1) (f11 h1)
  have s4 : c4 F h1 = .nx F h1 := if_no (ck my (m22 h1) rfl (by simp [PyData.depth]))
  obtain ⟨h2, x2, q2, ⟨g, rfl, g0, g1⟩, i2⟩ := roll_K (k := 1) (m := 3) (by omega) (by omega) i1 (v3.m1 h1)
  have ct := tb (bin (g := oGt) q2 (mK_eq (pI 0) _ _) (vgt _ _ _))
  have sh2 := sh.dice i1 i2
  have cv2 : CV h2 q (q + 1) (q + 3) z n C := cv.same (i1.same i2 q (by omega)) (i1.same i2 (q + 1) (by omega)) (i1.same i2 (q + 3) (by omega))
  have l4 : L8 F h2 z n keys L K M p r q C := ⟨l3.v, l3.m9, l3.m12, l3.m25, l3.m20, sh2, cv2, l3.k⟩
  have cl : C.length ≤ 1000 := by rw [cv.len]; omega
  by_cases gg : 0 < g
  · rw [decide_eq_true gg] at ct
    have ad := meth_go (m := "add") (l4.m25 h2) cv2.ins rfl (arg1 (f11 h2)) (s_cadd ki zn.2.2.2 hz (by omega) sh2.wf cv2)
    have s5 := asgT3 (i := 20) (j := 23) (l := 24) (xU_eq v3.len cl l3.k l3.m20 f10 (h := h2)) (told_ok (ct := inS ["SieveError"]) (r := "SieveError") ad) (mK_eq (pB true) _ _) (.inr ⟨_, _, _, rfl, rfl, rfl⟩)
    obtain ⟨e', l5, s6⟩ := c6_ok q8 l4 (sh2.setC (c := q + 3) (by omega) _) (cv2.set (by omega) (by omega) (upC_len up1 C (BS is z n))) (l3.k.up up1 (fun x a b => by unfold up1; split <;> omega) _) (.inl ⟨rfl, rfl⟩)
    exact ⟨e', _, _, l5, (seq_nx s1).trans ((seq_nx s2).trans ((seq_nx s3).trans ((seq_nx s4).trans ((seq_nx ((if_yes ct).trans s5)).trans s6))))⟩
  · rw [decide_eq_false gg] at ct
    have ite : ∀ {c : ME Bool} {f k : MS} {e : Sl} {h h1 : Cells}, c e h = .ok false h1 → mIf c f k e h = k e h1 := fun q => by unfold mIf; rw [q]; rfl
    have rm0 := s_cremove ki zn.2.2.2 hz (q := q) (s := q + 1) (c := q + 3) (by omega) sh2.wf cv2
    have xn := xN_eq (h := h2) v3.len cl l3.m20 f10 m22
    cases hh : hadB C (BS is z n) with
    | true =>
      rw [hh] at rm0 xn m22
      rw [if_pos rfl] at rm0 xn
      have rm := meth_go (m := "remove") (l4.m25 h2) cv2.ins rfl (arg1 (f11 h2)) rm0
      have s5 := asgT3 (i := 20) (j := 23) (l := 24) xn (told_ok (ct := inS ["SieveError"]) (r := "SieveError") rm) (m22 _) (.inr ⟨_, _, _, rfl, rfl, rfl⟩)
      have dn : cntOk (upC dn1 C (BS is z n)) := fun i hi => by
        rw [upC_len] at hi
        have g : (upC dn1 C (BS is z n)).getD i 0 = if (i : Int) ∈ BS is z n then dn1 (C.getD i 0) else C.getD i 0 := by
          rw [List.getD_eq_getElem?_getD, upC_get _ _ _ hi]; rfl
        have k := l3.k i hi
        rw [g]
        split
        · rename_i hm
          have pos := List.all_eq_true.mp hh (i : Int) hm
          rw [Int.toNat_natCast, decide_eq_true_eq] at pos
          unfold dn1; split <;> omega
        · exact k
      obtain ⟨e', l5, s6⟩ := c6_ok q8 l4 (sh2.setC (c := q + 3) (by omega) _) (cv2.set (by omega) (by omega) (upC_len dn1 C (BS is z n))) dn (.inl ⟨rfl, rfl⟩)
      exact ⟨e', _, _, l5, (seq_nx s1).trans ((seq_nx s2).trans ((seq_nx s3).trans ((seq_nx s4).trans ((seq_nx ((ite ct).trans s5)).trans s6))))⟩
    | false =>
      rw [hh] at rm0 xn m22
      rw [if_neg (by decide)] at rm0 xn
      have rm := meth_go (m := "remove") (l4.m25 h2) cv2.ins rfl (arg1 (f11 h2)) rm0
      have s5 := asgT3 (i := 20) (j := 23) (l := 24) xn (told_ex (ct := inS ["SieveError"]) (r := "SieveError") rm inS1) (m22 _) (.inr ⟨_, _, _, rfl, rfl, rfl⟩)
      obtain ⟨e', l5, s6⟩ := c6_ok q8 l4 sh2 cv2 l3.k (.inr ⟨rfl, rfl⟩)
      exact ⟨e', _, _, l5, (seq_nx s1).trans ((seq_nx s2).trans ((seq_nx s3).trans ((seq_nx s4).trans ((seq_nx ((ite ct).trans s5)).trans s6))))⟩
end K04

set_option Elab.async false
set_option linter.all false
set_option maxRecDepth 100000
set_option maxHeartbeats 1000000
namespace K04
open PySem PySem.Spec PyProof.Rows L2 Mi
theorem mul0 (z : Nat) (b : z ≤ 100000) (h : Cells) : opMul (pL [.int 0]) (nI z) h = .ok (pL (pIs (List.replicate z 0))) h := by
  have e : (List.replicate (z : Int).toNat ([.int 0] : List PyData)).flatten = pIs (List.replicate z 0) := by
    rw [Int.toNat_natCast]
    clear b
    induction z with
    | zero => rfl
    | succ n ih => rw [List.replicate_succ, List.flatten_cons, ih, List.replicate_succ]; rfl
  unfold opMul
  simp only [e]
  rw [if_pos]
  simp only [Bool.and_eq_true, decide_eq_true_eq, List.length_singleton, Int.toNat_natCast, Nat.one_mul]
  exact ⟨⟨by omega, by omega⟩, sz _ (by omega)⟩
theorem newC_wf {h : Cells} (w : wfB h = true) (z n : Nat) : wfB (h ++ newC h.length z n) = true := by
  refine wfB_app w (fun x hx => ?_)
  simp only [List.mem_cons, List.not_mem_nil, or_false] at hx
  rcases hx with rfl | rfl | rfl | rfl
  · simp [AO.bd, bds, PV.bd]
  · simp [AO.bd, bds, PV.bd]
  · simp only [AO.bd, bds_ints]
  · simp only [AO.bd, bds_ints]
abbrev st18 : MS := mAsg (mTup (aCons (mMakeD "Counting" r_Counting___init__ [] (aCons (mV 2) (aCons (mV 3) aNil))) (aCons (mBin opMul (mLst (aCons (mK (.d (.int 0))) aNil)) (mV 2)) aNil))) (gTp 2 (gsCons (gN 25) (gsCons (gN 20) gsNil)))
abbrev st19 : MS := mFor (iRange1 (aCons (mCallD r__law_roll [] (aCons (mV 1) (aCons (mK (.d (.int 30))) aNil))) aNil)) (gN 21) (mSeq c1 (mSeq bL1 (mSeq c3 (mSeq c4 (mSeq c5 c6)))))
abbrev st20 : MS := mIf (mTb (mBin (opEq false) (mFld ["Sieve"] "bits" (mMethD "Counting" "plain" r_Counting_plain [] (mV 25) aNil)) (mLc (iAny (mV 20)) (gN 28) mYes (mCall biInt (aCons (mBin oGt (mV 28) (mK (.d (.int 0)))) aNil)) [28]))) rf mSkip
abbrev st21 : MS := mIf (mNot (mTb (mCallD r__law_sized [] (aCons (mV 1) (aCons (mV 3) aNil))))) rf mSkip
theorem L8.set {e : Sl} {h : Cells} {z n : Nat} {keys L : List (List Nat)} {K M : List Int} {p r : Int} {q : Nat} {C : List Int} (l : L8 e h z n keys L K M p r q C) (x : Option PV) : L8 (e.set 21 x) h z n keys L K M p r q C :=
  ⟨l.v.set 21 (by omega) x, fun h => by rw [mV_ne (by omega)]; exact l.m9 h, fun h => by rw [mV_ne (by omega)]; exact l.m12 h, fun h => by rw [mV_ne (by omega)]; exact l.m25 h, fun h => by rw [mV_ne (by omega)]; exact l.m20 h, l.s, l.c, l.k⟩
theorem L8.dice {e : Sl} {h h' : Cells} {z n : Nat} {keys L : List (List Nat)} {K M : List Int} {p r : Int} {q : Nat} {C : List Int} (l : L8 e h z n keys L K M p r q C) (q8 : 8 ≤ q) {hc : Cells} (i : ID hc h) (i' : ID hc h') : L8 e h' z n keys L K M p r q C :=
  ⟨l.v, l.m9, l.m12, l.m25, l.m20, l.s.dice i i', l.c.same (i.same i' q (by omega)) (i.same i' (q + 1) (by omega)) (i.same i' (q + 3) (by omega)), l.k⟩
theorem G8 {e : Sl} {h : Cells} {z n : Nat} {keys L : List (List Nat)} {K M : List Int} {p r : Int} (v : EV e z n) (m9 : ∀ h, mV 9 e h = .ok (pL (kD keys)) h) (m12 : ∀ h, mV 12 e h = .ok (pL (kD L)) h) (s : SH h z n K M K M p r) (zn : 1 ≤ z ∧ z ≤ 120 ∧ 1 ≤ n ∧ n ≤ 8)
    (kl : keys.length ≤ 8) (kk : ∀ is ∈ keys, is.length ≤ 4 ∧ ∀ i ∈ is, i < 10) (ll : L.length = 6) (lk : ∀ is ∈ L, is.length ≤ 4 ∧ ∀ i ∈ is, i < 10) :
    ∃ e' h', mSeq st18 (mSeq st19 (mSeq st20 st21)) e h = .nx e' h' := by
  have q8 : 8 ≤ h.length := (List.getElem?_eq_some_iff.mp s.mo).1
  have t := arg2 (s_cmake zn.1 (by omega) zn.2.2.1 zn.2.2.2 (arg2 (v.m2 h) (v.m3 h))) (bin (g := opMul) (lst1 (mK_eq (pI 0) _ _)) (v.m2 _) (mul0 z (by omega) _))
  have s18 : st18 e h = .nx ((e.set 25 (some (.r h.length))).set 20 (some (pL (pIs (List.replicate z 0))))) (h ++ newC h.length z n) := by
    refine (mAsg_eq _ _ _ _).trans ?_
    rw [mTup_eq, t]
    rfl
  have w := newC_wf s.wf z n
  have sh := s.app w
  have cv : CV (h ++ newC h.length z n) h.length (h.length + 1) (h.length + 3) z n (List.replicate z 0) := ⟨by simp, ⟨.r (h.length + 2), 0, by simp⟩, by simp, by simp⟩
  have ck0 : cntOk (List.replicate z 0) := fun i hi => by
    rw [List.length_replicate] at hi
    have : (List.replicate z (0 : Int)).getD i 0 = 0 := by simp [List.getD_eq_getElem?_getD, List.getElem?_replicate, hi]
    omega
  have v1 := (v.set 25 (by omega) (some (.r h.length))).set 20 (by omega) (some (pL (pIs (List.replicate z 0))))
  have l0 : L8 ((e.set 25 (some (.r h.length))).set 20 (some (pL (pIs (List.replicate z 0))))) (h ++ newC h.length z n) z n keys L K M p r h.length (List.replicate z 0) :=
    ⟨v1, fun h => by rw [mV_ne (by omega), mV_ne (by omega)]; exact m9 h, fun h => by rw [mV_ne (by omega), mV_ne (by omega)]; exact m12 h, fun h' => by rw [mV_ne (by omega)]; exact v.put (by omega) _ h', (v.set 25 (by omega) (some (.r h.length))).put (by omega) _, sh, cv, ck0⟩
  generalize (e.set 25 (some (.r h.length))).set 20 (some (pL (pIs (List.replicate z 0)))) = E at s18 l0
  generalize h.length = q at q8 l0 s18
  generalize h ++ newC q z n = H at l0 s18
  obtain ⟨hc, i0⟩ := l0.s.dz
  obtain ⟨h1, x1, q1, ⟨N, rfl, N0, N1⟩, i1⟩ := roll_K (k := 1) (m := 30) (by omega) (by omega) i0 (l0.v.m1 H)
  obtain ⟨N, rfl⟩ : ∃ J : Nat, N = J := ⟨N.toNat, by omega⟩
  have it := range1_nat (g := aCons (mCallD r__law_roll [] (aCons (mV 1) (aCons (mK (.d (.int 30))) aNil))) aNil) (arg1 q1) (by omega)
  obtain ⟨e', h', f1, C, l⟩ := for_pre (g := gN 21) (b := mSeq c1 (mSeq bL1 (mSeq c3 (mSeq c4 (mSeq c5 c6))))) (fun i : Nat => pI (0 + (i : Int))) (List.range N) (fun pre e h => ∃ C, L8 e h z n keys L K M p r q C)
    (fun pre i suf hf e h ⟨C, l⟩ => by
      obtain ⟨e2, h2, C', l2, st⟩ := step8 q8 zn kl kk ll lk (l.set (some (pI (0 + (i : Int)))))
      exact ⟨_, _, e2, h2, gN_eq _ _ _ _, st, C', l2⟩) it ⟨_, l0.dice q8 i0 i1⟩
  have pn := meth_go (m := "plain") (fa := aNil) (l.m25 h') l.c.ins rfl (aNil_eq _ _) (s_cplain zn.1 (by omega) zn.2.2.1 zn.2.2.2 l.c)
  have lcC := lc_goA (src := none) (vs := [28]) (g := gN 28) (fe := mCall biInt (aCons (mBin oGt (mV 28) (mK (.d (.int 0)))) aNil)) pI (fun x => pI (if 0 < x then 1 else 0)) C (walk_pL (l.m20 (h' ++ newS z n (pL (pIs (plB C))) 0))) rfl (fun x _ => by
    refine ⟨_, gN_eq _ _ _ _, ?_⟩
    rw [bi1 (bin (g := oGt) (mV_eq (by rw [wipeE_length, l.v.len]; omega) (pI x) _) (mK_eq (pI 0) _ _) (vgt _ _ _)) (biInt_eq _ _)]
    by_cases a : 0 < x <;> simp [a]) (by rw [l.c.len]; omega)
  have e2 : (C.map fun x => pI (if 0 < x then 1 else 0)) = (plB C).map pI := by rw [plB, List.map_map]; rfl
  rw [e2, mapL] at lcC
  have c20 := ck (fS_bits pn at2) lcC (n_pIs _) (d_pIs _)
  have sh3 := l.s.app (newS_wf2 l.s.wf z n (plB C) 0)
  obtain ⟨hc3, i3⟩ := sh3.dz
  have wd : WD hc3 := by
    have w := sh3.wf
    obtain ⟨a, b, c, e⟩ := i3
    rw [e] at w
    exact w
  obtain ⟨h4, sz4, i4⟩ := s_sized i3 wd zn.2.2.1 zn.2.2.2
  have c21 : mNot (mTb (mCallD r__law_sized [] (aCons (mV 1) (aCons (mV 3) aNil)))) e' (h' ++ newS z n (pL (pIs (plB C))) 0) = .ok false h4 := by
    rw [mNot_eq, tb (call2 (l.v.m1 _) (l.v.m3 _) sz4)]; rfl
  exact ⟨e', h4, (seq_nx s18).trans ((seq_nx f1).trans ((seq_nx (if_no c20)).trans (if_no c21)))⟩
abbrev XA : MS := mSeq st18 (mSeq st19 (mSeq st20 st21))
abbrev XB : MS := mSeq st14 (mSeq st15 (mSeq st16 (mSeq st17 XA)))
abbrev XC : MS := mSeq st9 (mSeq st10 (mSeq st11 (mSeq st12 (mSeq st13 XB))))
abbrev XD : MS := mSeq st6 (mSeq st7 (mSeq st8 XC))
abbrev XE : MS := mSeq (mFor (iAny (mV 9)) (gN 11) (mSeq bL1 (mSeq bL2 (mSeq bL3 bL4)))) (mSeq st5 XD)
abbrev XF : MS := mSeq st1 (mSeq st2 (mSeq st3 XE))
theorem law_body (x0 : Option PV) {h : Cells} (i0 : ID [] h) : ∃ e' h', XF (x0 :: some (.r 0) :: List.replicate 27 none) h = .nx e' h' := by
  obtain ⟨e1, h1, z, n, keys, v1, m91, s1, zn, kl, kk, r1⟩ := G1 x0 i0 XE
  obtain ⟨e2, h2, v2, m92, s2, r2⟩ := G2 v1 m91 s1 zn kl kk (mSeq st5 XD)
  have r3 := G3 v2 m92 s2 zn kl kk
  obtain ⟨e4, h4, L, v4, m94, m124, s4, ll, lk, r4⟩ := G4 v2 m92 s2 zn XC
  obtain ⟨e5, h5, M, q, v5, m95, m125, s5, r5⟩ := G5 v4 m94 m124 s4 zn ll lk (mSeq st13 XB)
  obtain ⟨e6, h6, v6, m96, m126, s6, r6⟩ := G6 v5 m95 m125 s5 zn kl kk (fun is hi t ht => (KK_mem _ _ _ _ _).mpr (.inr ⟨is, hi, BS_mem.mpr (List.mem_map.mpr ⟨t, List.mem_range.mpr ht, rfl⟩)⟩)) XB
  obtain ⟨e7, h7, v7, m97, m127, s7, r7⟩ := G7 v6 m96 m126 s6 zn (KK_nodup _ _ _ _ .nil) (fun x hx => KK_range (by omega) hx) XA
  obtain ⟨e8, h8, r8⟩ := G8 v7 m97 m127 s7 zn kl kk ll lk
  exact ⟨e8, h8, r1.trans (r2.trans ((seq_nx r3).trans (r4.trans (r5.trans (r6.trans (r7.trans r8))))))⟩
theorem plain_true (h : Cells) : r__law_plain [] h = .ok (pB true) h := iso_true (by decide +kernel) h
theorem law_true : ∀ ns : List Int, ns.length ≤ 63 → ∃ h', r_law [.sc ns] [] = .ok (.d (.bool true)) h' := fun ns _ => by
  obtain ⟨a, b, c, rd⟩ := s_rounds ns
  have it : iAny (mCallD r__law_rounds [] (aCons (mV 0) (aCons (mK (.d (.int 1))) aNil))) (some (.sc ns) :: none :: List.replicate 27 none) [] = .ok ([.r 0], none) (Dh [] a b c) := any_ls (call2 (mV_0 _ _ _) (mK_eq _ _ _) rd)
  obtain ⟨e', h', lb⟩ := law_body (some (.sc ns)) (h := Dh [] a b c) ⟨a, b, c, rfl⟩
  have fo := for_one (j := 1) (b := XF) it lb
  refine ⟨h', runF_rt ?_⟩
  unfold m_law
  exact (seq_nx fo).trans (by rw [mRet_eq, mCall0_eq, plain_true]; rfl)
end K04

set_option Elab.async false
set_option linter.all false
set_option maxRecDepth 100000
set_option maxHeartbeats 0
namespace K04
open PySem PySem.Spec PyProof.Rows L2 Mi
abbrev R : PySem.W.OpenRow := PySem.W.OpenLaw.row PySem.Challenge.rw_storestack_k04_sieves_and_keys
abbrev hk : PySem.W.Hook := He.hookX 5 fa fn [] (tfD tf) (apart tf)
def ob (s : PySem.W.SharedT) : He.AlX := He.obsX 5 fa fn [] (tfD tf) (apart tf) (HandSHeadRun.getT s)
theorem ob_eq (s : PySem.W.SharedT) : ob s = hk.obs s.abs := He.obsX_eq (HandSHeadRun.getT_eq s)
theorem run (w : World) : HandSHeadRun.RunEq R (PySem.W.view R.prog [24]) hk ob 3000 ((["StoreError", "SieveError", "MOST_BITS", "SIGNS", "mixed", "Sieve", "best_turns", "odds", "size_for", "Counting", "_law_dice", "_law_roll", "_law_rounds", "_law_told", "_law_mixed", "_law_bits", "_law_key", "_law_power", "_law_held", "_law_plain", "_law_sized"] : List PySem.Str)) w := by
  intro os
  kernel_rfl
end K04
open PySem PySem.W PySem.Calls PyProof.Rows
theorem PySem.Challenge.cw_storestack_k04_sieves_and_keys_holds : PySem.Challenge.rw_storestack_k04_sieves_and_keys.Holds := by
  w_on; o_law
  refine HandSHeadRun.head_any (r := OpenLaw.row PySem.Challenge.rw_storestack_k04_sieves_and_keys) (q := view (OpenLaw.row PySem.Challenge.rw_storestack_k04_sieves_and_keys).prog [24]) (H := K04.hk) (ob := K04.ob) (M := 3000) (loose := (["StoreError", "SieveError", "MOST_BITS", "SIGNS", "mixed", "Sieve", "best_turns", "odds", "size_for", "Counting", "_law_dice", "_law_roll", "_law_rounds", "_law_told", "_law_mixed", "_law_bits", "_law_key", "_law_power", "_law_held", "_law_plain", "_law_sized"] : List PySem.Str)) (d := HandSHeadRun.topDef (OpenLaw.row PySem.Challenge.rw_storestack_k04_sieves_and_keys).prog 24) (kwd := []) K04.ob_eq
    (by kernel_rfl) (fun s => by kernel_rfl) K04.run (by kernel_rfl) (by kernel_rfl) (by kernel_rfl) (by rfl) (by first | assumption | decide +kernel) (by decide +kernel) ⟨rfl, rfl, rfl, rfl, rfl, by decide +kernel⟩ ?hw ?hc
  case hw => w_witness2
  case hc =>
    refine LamX.walk_ofTsE (n := 63) (k := 12) (x := "script") (CX := fun w => L2.CX (PySem.Challenge.rw_storestack_k04_sieves_and_keys).prog w) rfl (by decide) rfl (by exact ⟨by rfl, by decide, by decide⟩) (fun w mg fad h Y hN hm => ?_) (fun w H s e s' c => ?_)
    · exact Mi.law_end (k := 12) (n := 63) (nm := "law") (d := K04.d28) (f := K04.r_law) 28 44 rfl rfl rfl rfl hN (fun _ _ _ _ _ _ us hl => match us, hl with | [_], _ => rfl) Y (fun K base F G fd FD => K04.D_law F G FD) K04.law_true fad hm
    · obtain ⟨_, _, _, _, _, _, _, _, _, _, _, _, q⟩ := c
      exact q

