import PyProof.Rows.All
import Wide.All
import OpenK.AllK
import Wide.FinOn
import HandS.ForMost
import HandS.ForExc
import HandS.IsInst
import HandS.Zip
import KE.GoesMore
import KE.GoesZip
import KE.KRevSl
import KE.RegKIsAll
import HandS.TupLe
import HandS.Deep
import HandS.New
import HandS.Wide
import HandS.More
import HandS.TryOnly
import HandS.ForDict
import HandS.Iter
import HandS.DictTup
import PyProof.Rows.SortShellAny
import KE.KDictSum
import HandS.ExcIs
import HandS.ExcOwn
import HandS.WordsExc
import PySem.Challenge.RW_rotafair_k22_who_is_bound
set_option Elab.async false
set_option linter.all false
set_option maxRecDepth 100000
set_option maxHeartbeats 0
section
namespace DL
open PySem L2

abbrev Tx := List Nat
abbrev txOf (x : Str) : Tx := x.cps.toList
def strOf (l : Tx) : Str := ⟨l.toArray⟩
theorem txOf_strOf (l : Tx) : txOf (strOf l) = l := rfl
theorem strOf_txOf (x : Str) : strOf (txOf x) = x := TL.ext_tl rfl
theorem strOf_inj {a b : Tx} (h : strOf a = strOf b) : a = b := by
  have := congrArg txOf h; exact this

def okTx (x : Tx) : Bool := x.all fun c => decide (c ≤ 1114111)
/-- plain data -/
inductive D where
  | non | bl (b : Bool) | int (i : Int) | str (x : Tx) | ty (n : String) | fn (a : Addr)
  | lst (xs : List D) | tup (xs : List D) | obj (C : Addr) (fs : List (Str × D))

mutual
inductive Rep (K : PySem.W.Frag) (F : Hp) : V → D → Prop
  | non : Rep K F .non .non
  | bl (b : Bool) : Rep K F (.bl b) (.bl b)
  | int (i : Int) : Rep K F (.int i) (.int i)
  | str (x : Tx) : x.length ≤ sizeLine → okTx x = true → Rep K F (.str (strOf x)) (.str x)
  | ty (n : String) : Rep K F (.ty n) (.ty n)
  | fn (a : Addr) : Rep K F (.ref a) (.fn a)
  | lst {a : Addr} {vs : List V} {xs : List D} : SqL K F a vs → xs.length ≤ sizeLine → RepL K F vs xs → Rep K F (.ref a) (.lst xs)
  | tup {a : Addr} {vs : List V} {xs : List D} : SqT K F a vs → xs.length ≤ sizeLine → RepL K F vs xs → Rep K F (.ref a) (.tup xs)
  | obj {a C dx : Addr} {fs : List (Str × V)} {gs : List (Str × D)} : F a = some (.ins C dx fs) → RepF K F fs gs → Rep K F (.ref a) (.obj C gs)
inductive RepL (K : PySem.W.Frag) (F : Hp) : List V → List D → Prop
  | nil : RepL K F [] []
  | cons {v : V} {vs : List V} {d : D} {ds : List D} : Rep K F v d → RepL K F vs ds → RepL K F (v :: vs) (d :: ds)
inductive RepF (K : PySem.W.Frag) (F : Hp) : List (Str × V) → List (Str × D) → Prop
  | nil : RepF K F [] []
  | cons {f : Str} {v : V} {vs : List (Str × V)} {d : D} {ds : List (Str × D)} : Rep K F v d → RepF K F vs ds → RepF K F ((f, v) :: vs) ((f, d) :: ds)
end

theorem L2same_seqT {K : PySem.W.Frag} {H H' : Hp} {a : Addr} {xs : List V} (e : Same H H') (h : SqT K H a xs) : SqT K H' a xs := by
  rcases h with (h | ⟨o, h⟩) | h
  · exact .inl (.inl (e _ _ h))
  · exact .inl (.inr ⟨o, e _ _ h⟩)
  · exact .inr h

section
variable {K : PySem.W.Frag} {F F' : Hp}
mutual
theorem Rep.mono (e : Same F F') : ∀ {v : V} {d : D}, Rep K F v d → Rep K F' v d
  | _, _, .non => .non
  | _, _, .bl b => .bl b
  | _, _, .int i => .int i
  | _, _, .str x h g => .str x h g
  | _, _, .ty n => .ty n
  | _, _, .fn a => .fn a
  | _, _, .lst h z r => .lst (e.seq h) z (RepL.mono e r)
  | _, _, .tup h z r => .tup (L2same_seqT e h) z (RepL.mono e r)
  | _, _, .obj h r => .obj (e _ _ h) (RepF.mono e r)
theorem RepL.mono (e : Same F F') : ∀ {v : List V} {d : List D}, RepL K F v d → RepL K F' v d
  | _, _, .nil => .nil
  | _, _, .cons h r => .cons (Rep.mono e h) (RepL.mono e r)
theorem RepF.mono (e : Same F F') : ∀ {v : List (Str × V)} {d : List (Str × D)}, RepF K F v d → RepF K F' v d
  | _, _, .nil => .nil
  | _, _, .cons h r => .cons (Rep.mono e h) (RepF.mono e r)
end
theorem RepL.length : ∀ {v : List V} {d : List D}, RepL K F v d → v.length = d.length
  | _, _, .nil => rfl
  | _, _, .cons h r => by simp [RepL.length r]
theorem RepL.get : ∀ {v : List V} {d : List D} {i : Nat} {x : V}, RepL K F v d → v[i]? = some x → ∃ y, d[i]? = some y ∧ Rep K F x y
  | _, _, _, _, .nil, h => by simp at h
  | _, _, 0, _, .cons h r, e => by simp at e; subst e; exact ⟨_, rfl, h⟩
  | _, _, i + 1, _, .cons h r, e => by
    obtain ⟨y, h1, h2⟩ := RepL.get (i := i) r (by simpa using e)
    exact ⟨y, by simpa using h1, h2⟩
theorem RepL.getD : ∀ {v : List V} {d : List D} {i : Nat} {y : D}, RepL K F v d → d[i]? = some y → ∃ x, v[i]? = some x ∧ Rep K F x y
  | _, _, _, _, .nil, h => by simp at h
  | _, _, 0, _, .cons h r, e => by simp at e; subst e; exact ⟨_, rfl, h⟩
  | _, _, i + 1, _, .cons h r, e => by
    obtain ⟨y, h1, h2⟩ := RepL.getD (i := i) r (by simpa using e)
    exact ⟨y, by simpa using h1, h2⟩
theorem RepL.append : ∀ {v w : List V} {d e : List D}, RepL K F v d → RepL K F w e → RepL K F (v ++ w) (d ++ e)
  | _, _, _, _, .nil, s => s
  | _, _, _, _, .cons h r, s => .cons h (RepL.append r s)
theorem RepL.take : ∀ {v : List V} {d : List D} (n : Nat), RepL K F v d → RepL K F (v.take n) (d.take n)
  | _, _, 0, _ => by simp; exact .nil
  | _, _, n + 1, .nil => .nil
  | _, _, n + 1, .cons h r => .cons h (RepL.take n r)
theorem RepL.drop : ∀ {v : List V} {d : List D} (n : Nat), RepL K F v d → RepL K F (v.drop n) (d.drop n)
  | _, _, 0, h => h
  | _, _, n + 1, .nil => .nil
  | _, _, n + 1, .cons h r => RepL.drop n r
theorem RepL.set {x : V} {y : D} (h : Rep K F x y) : ∀ {v : List V} {d : List D} (i : Nat), RepL K F v d → RepL K F (v.set i x) (d.set i y)
  | _, _, _, .nil => .nil
  | _, _, 0, .cons _ r => .cons h r
  | _, _, i + 1, .cons q r => .cons q (RepL.set h i r)
theorem RepL.ints : ∀ {vs : List V} {ns : List Int}, RepL K F vs (ns.map D.int) → vs = ns.map V.int
  | _, [], h => by cases h; rfl
  | _, n :: ns, h => by
    cases h with
    | cons h r => cases h; rw [RepL.ints r]; rfl
theorem RepL.of_ints : ∀ (ns : List Int), RepL K F (ns.map V.int) (ns.map D.int)
  | [] => .nil
  | n :: ns => .cons (.int n) (RepL.of_ints ns)
theorem RepL.bls : ∀ {vs : List V} {ns : List Bool}, RepL K F vs (ns.map D.bl) → vs = ns.map V.bl
  | _, [], h => by cases h; rfl
  | _, n :: ns, h => by
    cases h with
    | cons h r => cases h; rw [RepL.bls r]; rfl
theorem RepL.strs : ∀ {vs : List V} {ns : List Tx}, RepL K F vs (ns.map D.str) → vs = (ns.map strOf).map V.str
  | _, [], h => by cases h; rfl
  | _, n :: ns, h => by
    cases h with
    | cons h r => cases h; rw [RepL.strs r]; rfl
theorem RepL.of_strs : ∀ (ns : List Tx), (∀ n ∈ ns, n.length ≤ sizeLine ∧ okTx n = true) → RepL K F ((ns.map strOf).map V.str) (ns.map D.str)
  | [], _ => .nil
  | n :: ns, h => .cons (.str n (h n (by simp)).1 (h n (by simp)).2) (RepL.of_strs ns fun m hm => h m (by simp [hm]))
theorem RepF.look {f : Str} : ∀ {v : List (Str × V)} {d : List (Str × D)} {y : D}, RepF K F v d → d.lookup f = some y → ∃ x, v.lookup f = some x ∧ Rep K F x y
  | _, _, _, .nil, h => by simp at h
  | (g, x) :: vs, (_, z) :: ds, y, .cons h r, e => by
    simp only [List.lookup] at e ⊢
    cases q : f == g with
    | true => rw [q] at e; simp at e; subst e; exact ⟨x, rfl, h⟩
    | false => rw [q] at e; exact RepF.look r e
theorem RepF.look_none {f : Str} : ∀ {v : List (Str × V)} {d : List (Str × D)}, RepF K F v d → d.lookup f = none → v.lookup f = none
  | _, _, .nil, h => rfl
  | (g, x) :: vs, (_, z) :: ds, .cons h r, e => by
    simp only [List.lookup] at e ⊢
    cases q : f == g with
    | true => rw [q] at e; simp at e
    | false => rw [q] at e; exact RepF.look_none r e
theorem RepF.length : ∀ {v : List (Str × V)} {d : List (Str × D)}, RepF K F v d → v.length = d.length
  | _, _, .nil => rfl
  | _, _, .cons h r => by simp [RepF.length r]
end

/-- a field put -/
def putD (f : Str) (d : D) : List (Str × D) → List (Str × D)
  | [] => [(f, d)]
  | (g, e) :: r => if g = f then (g, d) :: r else (g, e) :: putD f d r

/-- the frozen part and the heap grow -/
structure Ext (F H F' H' : Hp) : Prop where
  f : Same F F'
  h : Same H H'
  w : Same F' H'
  o : ∀ a, H a ≠ none → F' a = F a
theorem Ext.refl {F H : Hp} (e : Same F H) : Ext F H F H := ⟨.refl _, .refl _, e, fun _ _ => rfl⟩
theorem Ext.trans {F H F1 H1 F2 H2 : Hp} (a : Ext F H F1 H1) (b : Ext F1 H1 F2 H2) : Ext F H F2 H2 :=
  ⟨a.f.trans b.f, a.h.trans b.h, b.w, fun x n => by
    have n1 : H1 x ≠ none := by
      cases q : H x with
      | none => exact absurd q n
      | some o => rw [a.h x o q]; simp
    rw [b.o x n1, a.o x n]⟩
theorem L2same_upd_new {H : Hp} {p : Addr} {o : HO} (h : H p = none) : Same H (upd H p o) := fun b u e => by
  rw [upd_ne (ne_of_none e h)]; exact e
theorem L2same_upd2 {F H : Hp} {p : Addr} {o : HO} (e : Same F H) : Same (upd F p o) (upd H p o) := fun b u q => by
  by_cases hb : b = p
  · subst hb; rw [upd_same] at q ⊢; exact q
  · rw [upd_ne hb] at q ⊢; exact e _ _ q
theorem Ext.new {F H : Hp} {p : Addr} {o : HO} (e : Same F H) (h : H p = none) : Ext F H (upd F p o) (upd H p o) :=
  ⟨L2same_upd_new (e.free h), L2same_upd_new h, L2same_upd2 e, fun a n => upd_ne (fun z => n (by rw [z]; exact h))⟩

/-- what may be looked at by its slot's name -/
def notT : D → Prop | .tup _ => False | _ => True
/-- the parts of an own tuple: each list in it is own, too, what else it has is shared -/
inductive OwnP (K : PySem.W.Frag) (F H : Hp) : List V → List D → List Addr → Prop
  | nil : OwnP K F H [] [] []
  | sh {v : V} {d : D} {vs : List V} {ds : List D} {fp : List Addr} : Rep K F v d → (∀ xs, d ≠ .lst xs) → OwnP K F H vs ds fp → OwnP K F H (v :: vs) (d :: ds) fp
  | ow {a : Addr} {ws vs : List V} {xs ds : List D} {fp : List Addr} : H a = some (.lst ws) → RepL K F ws xs → xs.length ≤ sizeLine → F a = none → OwnP K F H vs ds fp → OwnP K F H (.ref a :: vs) (.lst xs :: ds) (a :: fp)
/-- an own (unshared) thing -/
inductive Own (K : PySem.W.Frag) (F H : Hp) : V → D → List Addr → Prop
  | lst {a : Addr} {vs : List V} {xs : List D} : H a = some (.lst vs) → RepL K F vs xs → xs.length ≤ sizeLine → F a = none → Own K F H (.ref a) (.lst xs) [a]
  | obj {a C dx : Addr} {fs : List (Str × V)} {gs : List (Str × D)} : H a = some (.ins C dx fs) → RepF K F fs gs → F a = none → Own K F H (.ref a) (.obj C gs) [a]
  | tup {a : Addr} {vs : List V} {xs : List D} {fp : List Addr} : H a = some (.tup vs) → OwnP K F H vs xs fp → xs.length ≤ sizeLine → F a = none → Own K F H (.ref a) (.tup xs) (a :: fp)
theorem OwnP.ext {K : PySem.W.Frag} {F H F' H' : Hp} (x : Ext F H F' H') : ∀ {vs : List V} {ds : List D} {fp : List Addr}, OwnP K F H vs ds fp → OwnP K F' H' vs ds fp
  | _, _, _, .nil => .nil
  | _, _, _, .sh r n q => .sh (r.mono x.f) n (q.ext x)
  | _, _, _, .ow h r z n q => .ow (x.h _ _ h) (r.mono x.f) z (by rw [x.o _ (by rw [h]; simp)]; exact n) (q.ext x)
theorem OwnP.none {K : PySem.W.Frag} {F H : Hp} : ∀ {vs : List V} {ds : List D} {fp : List Addr}, OwnP K F H vs ds fp → ∀ a ∈ fp, F a = Option.none ∧ H a ≠ Option.none
  | _, _, _, .nil, _, h => by cases h
  | _, _, _, .sh _ _ q, a, h => q.none a h
  | _, _, _, .ow h r z n q, a, hm => by
    rcases List.mem_cons.mp hm with e | e
    · subst e; exact ⟨n, by rw [h]; simp⟩
    · exact q.none a e
/-- a change elsewhere -/
theorem OwnP.updH {K : PySem.W.Frag} {F H : Hp} {b : Addr} {u : HO} : ∀ {vs : List V} {ds : List D} {fp : List Addr}, OwnP K F H vs ds fp → b ∉ fp → OwnP K F (upd H b u) vs ds fp
  | _, _, _, .nil, _ => .nil
  | _, _, _, .sh r n q, m => .sh r n (q.updH m)
  | _, _, _, .ow h r z n q, m => by
    rw [List.mem_cons, not_or] at m
    exact .ow (by rw [upd_ne (fun e => m.1 e.symm)]; exact h) r z n (q.updH m.2)
theorem OwnP.updF {K : PySem.W.Frag} {F H : Hp} {b : Addr} {u : HO} (nF : F b = Option.none) : ∀ {vs : List V} {ds : List D} {fp : List Addr}, OwnP K F H vs ds fp → b ∉ fp → OwnP K (L2.upd F b u) H vs ds fp
  | _, _, _, .nil, _ => .nil
  | _, _, _, .sh r n q, m => .sh (r.mono (L2same_upd_new nF)) n (q.updF nF m)
  | _, _, _, .ow h r z n q, m => by
    rw [List.mem_cons, not_or] at m
    exact .ow h (r.mono (L2same_upd_new nF)) z (by rw [upd_ne (fun e => m.1 e.symm)]; exact n) (q.updF nF m.2)
theorem OwnP.hh {K : PySem.W.Frag} {F H H' : Hp} : ∀ {vs : List V} {ds : List D} {fp : List Addr}, OwnP K F H vs ds fp → (∀ a ∈ fp, H' a = H a) → OwnP K F H' vs ds fp
  | _, _, _, .nil, _ => .nil
  | _, _, _, .sh r n q, m => .sh r n (q.hh m)
  | _, _, _, .ow h r z n q, m => .ow (by rw [m _ (by simp)]; exact h) r z n (q.hh fun b hb => m b (List.mem_cons_of_mem _ hb))
theorem OwnP.length {K : PySem.W.Frag} {F H : Hp} : ∀ {vs : List V} {ds : List D} {fp : List Addr}, OwnP K F H vs ds fp → vs.length = ds.length
  | _, _, _, .nil => rfl
  | _, _, _, .sh _ _ q => by simp [q.length]
  | _, _, _, .ow _ _ _ _ q => by simp [q.length]
theorem Own.ext {K : PySem.W.Frag} {F H F' H' : Hp} {v : V} {d : D} {fp : List Addr} (x : Ext F H F' H') (h : Own K F H v d fp) : Own K F' H' v d fp := by
  cases h with
  | lst h r z n => exact .lst (x.h _ _ h) (r.mono x.f) z (by rw [x.o _ (by rw [h]; simp)]; exact n)
  | obj h r n => exact .obj (x.h _ _ h) (r.mono x.f) (by rw [x.o _ (by rw [h]; simp)]; exact n)
  | tup h q z n => exact .tup (x.h _ _ h) (q.ext x) z (by rw [x.o _ (by rw [h]; simp)]; exact n)
theorem Own.none {K : PySem.W.Frag} {F H : Hp} {v : V} {d : D} {fp : List Addr} (h : Own K F H v d fp) : ∀ a ∈ fp, F a = none ∧ H a ≠ Option.none := by
  cases h with
  | lst h r z n => intro a ha; simp at ha; subst ha; exact ⟨n, by rw [h]; simp⟩
  | obj h r n => intro a ha; simp at ha; subst ha; exact ⟨n, by rw [h]; simp⟩
  | tup h q z n =>
    intro a ha
    rcases List.mem_cons.mp ha with e | e
    · subst e; exact ⟨n, by rw [h]; simp⟩
    · exact q.none a e
theorem Own.updH {K : PySem.W.Frag} {F H : Hp} {v : V} {d : D} {fp : List Addr} {b : Addr} {u : HO} (o : Own K F H v d fp) (m : b ∉ fp) : Own K F (L2.upd H b u) v d fp := by
  cases o with
  | lst h r z f => exact .lst (by rw [upd_ne (fun e => m (by simp [e]))]; exact h) r z f
  | obj h r f => exact .obj (by rw [upd_ne (fun e => m (by simp [e]))]; exact h) r f
  | tup h q z f =>
    rw [List.mem_cons, not_or] at m
    exact .tup (by rw [upd_ne (fun e => m.1 e.symm)]; exact h) (q.updH m.2) z f
theorem Own.updF {K : PySem.W.Frag} {F H : Hp} {v : V} {d : D} {fp : List Addr} {b : Addr} {u : HO} (nF : F b = Option.none) (o : Own K F H v d fp) (m : b ∉ fp) : Own K (L2.upd F b u) H v d fp := by
  have sm : Same F (L2.upd F b u) := L2same_upd_new nF
  cases o with
  | lst h r z f => exact .lst h (r.mono sm) z (by rw [upd_ne (fun e => m (by simp [e]))]; exact f)
  | obj h r f => exact .obj h (r.mono sm) (by rw [upd_ne (fun e => m (by simp [e]))]; exact f)
  | tup h q z f =>
    rw [List.mem_cons, not_or] at m
    exact .tup h (q.updF nF m.2) z (by rw [upd_ne (fun e => m.1 e.symm)]; exact f)
/-- a value that may be looked at: shared, or own -/
def BRep (K : PySem.W.Frag) (F H : Hp) (v : V) (d : D) : Prop := Rep K F v d ∨ ∃ fp, Own K F H v d fp ∧ notT d
theorem BRep.ext {K : PySem.W.Frag} {F H F' H' : Hp} {v : V} {d : D} (x : Ext F H F' H') (h : BRep K F H v d) : BRep K F' H' v d := by
  rcases h with h | ⟨fp, h, nt⟩
  · exact .inl (h.mono x.f)
  · exact .inr ⟨fp, h.ext x, nt⟩

/-- a slot of the frame -/
inductive Sl where
  | no | sh (d : D) | ow (d : D) | bo (d : D) | dk (l : List (Tx × D)) | nl (xs : List D)
abbrev Rh := List Sl
/-- a dict's pairs, the keys texts -/
inductive KRep (K : PySem.W.Frag) (F : Hp) : List (Key × V) → List (Tx × D) → Prop
  | nil : KRep K F [] []
  | cons {k : Tx} {v : V} {d : D} {vs : List (Key × V)} {ds : List (Tx × D)} : Rep K F (.str (strOf k)) (.str k) → Rep K F v d → KRep K F vs ds → KRep K F ((.inr (strOf k), v) :: vs) ((k, d) :: ds)
theorem KRep.mono {K : PySem.W.Frag} {F F' : Hp} (e : Same F F') : ∀ {vs : List (Key × V)} {ds : List (Tx × D)}, KRep K F vs ds → KRep K F' vs ds
  | _, _, .nil => .nil
  | _, _, .cons h1 h2 r => .cons (h1.mono e) (h2.mono e) (r.mono e)
inductive SlRep (K : PySem.W.Frag) (F0 H0 F H : Hp) : Option V → Sl → List Addr → Prop
  | no {x : Option V} : SlRep K F0 H0 F H x .no []
  | sh {v : V} {d : D} : Rep K F v d → SlRep K F0 H0 F H (some v) (.sh d) []
  | ow {v : V} {d : D} {fp : List Addr} : Own K F H v d fp → SlRep K F0 H0 F H (some v) (.ow d) fp
  /-- looked at only: the caller's thing, as it stood at the entry -/
  | bo {v : V} {d : D} : BRep K F0 H0 v d → SlRep K F0 H0 F H (some v) (.bo d) []
  | dk {a : Addr} {vs : List (Key × V)} {ds : List (Tx × D)} : H a = some (.dK vs) → KRep K F vs ds → F a = none → SlRep K F0 H0 F H (some (.ref a)) (.dk ds) [a]
  /-- a list with own lists in it -/
  | nl {a : Addr} {vs : List V} {xs : List D} {fp : List Addr} : H a = some (.lst vs) → OwnP K F H vs xs fp → xs.length ≤ sizeLine → F a = none → SlRep K F0 H0 F H (some (.ref a)) (.nl xs) (a :: fp)
inductive SlsRep (K : PySem.W.Frag) (F0 H0 F H : Hp) : St → Rh → List (List Addr) → Prop
  | nil : SlsRep K F0 H0 F H [] [] []
  | cons {x : Option V} {s : Sl} {fp : List Addr} {σ : St} {ρ : Rh} {fps : List (List Addr)} : SlRep K F0 H0 F H x s fp → SlsRep K F0 H0 F H σ ρ fps → SlsRep K F0 H0 F H (x :: σ) (s :: ρ) (fp :: fps)
theorem SlRep.ext {K : PySem.W.Frag} {F0 H0 : Hp} {F H F' H' : Hp} {x : Option V} {s : Sl} {fp : List Addr} (e : Ext F H F' H') (h : SlRep K F0 H0 F H x s fp) : SlRep K F0 H0 F' H' x s fp := by
  cases h with
  | no => exact .no
  | sh h => exact .sh (h.mono e.f)
  | ow h => exact .ow (h.ext e)
  | bo h => exact .bo h
  | dk h r n => exact .dk (e.h _ _ h) (r.mono e.f) (by rw [e.o _ (by rw [h]; simp)]; exact n)
  | nl h q z n => exact .nl (e.h _ _ h) (q.ext e) z (by rw [e.o _ (by rw [h]; simp)]; exact n)
theorem SlsRep.ext {K : PySem.W.Frag} {F0 H0 : Hp} {F H F' H' : Hp} (e : Ext F H F' H') : ∀ {σ : St} {ρ : Rh} {fps : List (List Addr)}, SlsRep K F0 H0 F H σ ρ fps → SlsRep K F0 H0 F' H' σ ρ fps
  | _, _, _, .nil => .nil
  | _, _, _, .cons h r => .cons (h.ext e) (r.ext e)
theorem SlsRep.length {K : PySem.W.Frag} {F0 H0 : Hp} {F H : Hp} : ∀ {σ : St} {ρ : Rh} {fps : List (List Addr)}, SlsRep K F0 H0 F H σ ρ fps → σ.length = ρ.length
  | _, _, _, .nil => rfl
  | _, _, _, .cons h r => by simp [SlsRep.length r]
theorem SlsRep.get {K : PySem.W.Frag} {F0 H0 : Hp} {F H : Hp} : ∀ {σ : St} {ρ : Rh} {fps : List (List Addr)} {i : Nat} {s : Sl}, SlsRep K F0 H0 F H σ ρ fps → ρ[i]? = some s → ∃ x fp, σ[i]? = some x ∧ fps[i]? = some fp ∧ SlRep K F0 H0 F H x s fp
  | _, _, _, _, _, .nil, e => by simp at e
  | _, _, _, 0, _, .cons h r, e => by simp at e; subst e; exact ⟨_, _, rfl, rfl, h⟩
  | _, _, _, i + 1, _, .cons h r, e => by
    obtain ⟨x, fp, h1, h2, h3⟩ := SlsRep.get (i := i) r (by simpa using e)
    exact ⟨x, fp, by simpa using h1, by simpa using h2, h3⟩
theorem SlsRep.set {K : PySem.W.Frag} {F0 H0 : Hp} {F H : Hp} {x : Option V} {s : Sl} {fp : List Addr} (q : SlRep K F0 H0 F H x s fp) : ∀ {σ : St} {ρ : Rh} {fps : List (List Addr)} (i : Nat), SlsRep K F0 H0 F H σ ρ fps → SlsRep K F0 H0 F H (σ.set i x) (ρ.set i s) (fps.set i fp)
  | _, _, _, _, .nil => .nil
  | _, _, _, 0, .cons _ r => .cons q r
  | _, _, _, i + 1, .cons h r => .cons h (r.set q i)
/-- own slots' addresses lie apart, were not there at the entry -/
structure FpOk (F0 H0 : Hp) (fps : List (List Addr)) : Prop where
  nd : fps.flatten.Nodup
  new : ∀ a ∈ fps.flatten, H0 a = none
theorem sublist_set_nil : ∀ (fps : List (List Addr)) (i : Nat), (fps.set i []).flatten.Sublist fps.flatten
  | [], _ => by simp
  | l :: r, 0 => by simp
  | l :: r, i + 1 => by simp only [List.set_cons_succ, List.flatten_cons]; exact (List.Sublist.refl l).append (sublist_set_nil r i)
theorem FpOk.set_nil {F0 H0 : Hp} {fps : List (List Addr)} (h : FpOk F0 H0 fps) (i : Nat) : FpOk F0 H0 (fps.set i []) :=
  ⟨h.nd.sublist (sublist_set_nil fps i), fun a ha => h.new a ((sublist_set_nil fps i).subset ha)⟩
/-- the frame as plain data -/
structure ERep (K : PySem.W.Frag) (F0 H0 F H : Hp) (σ : St) (ρ : Rh) (fps : List (List Addr)) : Prop where
  x : Ext F0 H0 F H
  s : SlsRep K F0 H0 F H σ ρ fps
  p : FpOk F0 H0 fps
theorem ERep.ext {K : PySem.W.Frag} {F0 H0 F H F' H' : Hp} {σ : St} {ρ : Rh} {fps : List (List Addr)} (h : ERep K F0 H0 F H σ ρ fps) (e : Ext F H F' H') : ERep K F0 H0 F' H' σ ρ fps :=
  ⟨h.x.trans e, h.s.ext e, h.p⟩

abbrev DE := Rh → (D → Prop) → Prop
abbrev DT := Rh → (Bool → Prop) → Prop
abbrev DA := Rh → (List D → Prop) → Prop
inductive BRepL (K : PySem.W.Frag) (F H : Hp) : List V → List D → Prop
  | nil : BRepL K F H [] []
  | cons {v : V} {vs : List V} {d : D} {ds : List D} : BRep K F H v d → BRepL K F H vs ds → BRepL K F H (v :: vs) (d :: ds)
theorem BRepL.ext {K : PySem.W.Frag} {F H F' H' : Hp} (x : Ext F H F' H') : ∀ {v : List V} {d : List D}, BRepL K F H v d → BRepL K F' H' v d
  | _, _, .nil => .nil
  | _, _, .cons h r => .cons (h.ext x) (r.ext x)
section
variable (K : PySem.W.Frag) (F0 H0 : Hp)
def low (d : DE) : TE := fun σ H Q => ∃ F ρ fps P, ERep K F0 H0 F H σ ρ fps ∧ d ρ P ∧ ∀ x, P x → ∀ F' H' v, Ext F H F' H' → Rep K F' v x → Q v H'
def lowB (d : DE) : TE := fun σ H Q => ∃ F ρ fps P, ERep K F0 H0 F H σ ρ fps ∧ d ρ P ∧ ∀ x, P x → ∀ F' H' v, Ext F H F' H' → BRep K F' H' v x → Q v H'
def lowT (d : DT) : TT := fun σ H Q => ∃ F ρ fps P, ERep K F0 H0 F H σ ρ fps ∧ d ρ P ∧ ∀ b, P b → ∀ F' H', Ext F H F' H' → Q b H'
def lowA (d : DA) : TA := fun σ H Q => ∃ F ρ fps P, ERep K F0 H0 F H σ ρ fps ∧ d ρ P ∧ ∀ xs, P xs → ∀ F' H' vs, Ext F H F' H' → RepL K F' vs xs → Q vs H'
def lowAB (d : DA) : TA := fun σ H Q => ∃ F ρ fps P, ERep K F0 H0 F H σ ρ fps ∧ d ρ P ∧ ∀ xs, P xs → ∀ F' H' vs, Ext F H F' H' → BRepL K F' H' vs xs → Q vs H'
end

section
variable {X : Cx} {F0 H0 : Hp} {e a b : Expr} {pos : Pos}
theorem peW {t t' : TE} (h : PE X e t) (k : ∀ σ H Q, t' σ H Q → t σ H Q) : PE X e t' := ⟨fun pins s σ H Q I q => h.run pins s σ H Q I (k σ H Q q)⟩
theorem ptW {t t' : TT} (h : PT X e t) (k : ∀ σ H Q, t' σ H Q → t σ H Q) : PT X e t' := ⟨fun pins s σ H Q I q => h.run pins s σ H Q I (k σ H Q q)⟩
theorem paW {es : List Expr} {t t' : TA} (h : PA X es t) (k : ∀ σ H Q, t' σ H Q → t σ H Q) : PA X es t' := ⟨fun pos pins s σ H Q I q => h.run pos pins s σ H Q I (k σ H Q q)⟩
theorem psW {st : Stmt} {t t' : TS} (h : PS X st t) (k : ∀ D σ H, t' D σ H → t D σ H) : PS X st t' := ⟨fun pins s σ H D I q => h.run pins s σ H D I (k D σ H q)⟩
theorem pssW {st : List Stmt} {t t' : TS} (h : PSs X st t) (k : ∀ D σ H, t' D σ H → t D σ H) : PSs X st t' := ⟨fun pins s σ H D I q => h.run pins s σ H D I (k D σ H q)⟩
theorem piW {tg it : Expr} {t t' : TI} (h : PI X tg it t) (k : ∀ σ H R, t' σ H R → t σ H R) : PI X tg it t' := ⟨fun pins s σ H R I q => h.run pins s σ H R I (k σ H R q)⟩

abbrev LE (X : Cx) (F0 H0 : Hp) (e : Expr) (d : DE) : Prop := PE X e (low X.K F0 H0 d)
abbrev LB (X : Cx) (F0 H0 : Hp) (e : Expr) (d : DE) : Prop := PE X e (lowB X.K F0 H0 d)
abbrev LT (X : Cx) (F0 H0 : Hp) (e : Expr) (d : DT) : Prop := PT X e (lowT X.K F0 H0 d)
abbrev LA (X : Cx) (F0 H0 : Hp) (e : List Expr) (d : DA) : Prop := PA X e (lowA X.K F0 H0 d)
abbrev LAB (X : Cx) (F0 H0 : Hp) (e : List Expr) (d : DA) : Prop := PA X e (lowAB X.K F0 H0 d)

theorem lb {d : DE} (h : LE X F0 H0 e d) : LB X F0 H0 e d := peW h fun σ H Q ⟨F, ρ, fps, P, E, q, k⟩ => ⟨F, ρ, fps, P, E, q, fun x px F' H' v e r => k x px F' H' v e (.inl r)⟩

def dVar (i : Nat) : DE := fun ρ P => match ρ[i]? with | some (.sh d) => P d | _ => False
def dVarB (i : Nat) : DE := fun ρ P => match ρ[i]? with | some (.sh d) => P d | some (.ow d) => notT d ∧ P d | some (.bo d) => P d | _ => False
theorem le_var {i : Nat} (h : PE X e (tVar i)) : LE X F0 H0 e (dVar i) := peW h fun σ H Q ⟨F, ρ, fps, P, E, q, k⟩ => by
  unfold dVar at q
  cases hs : ρ[i]? with
  | none => rw [hs] at q; exact q.elim
  | some s =>
    rw [hs] at q
    cases s with
    | sh d =>
      obtain ⟨x, fp, h1, _, h3⟩ := E.s.get hs
      cases h3 with
      | sh r => exact ⟨_, h1, k d q F H _ (.refl E.x.w) r⟩
    | _ => exact q.elim
theorem lb_var {i : Nat} (h : PE X e (tVar i)) : LB X F0 H0 e (dVarB i) := peW h fun σ H Q ⟨F, ρ, fps, P, E, q, k⟩ => by
  unfold dVarB at q
  cases hs : ρ[i]? with
  | none => rw [hs] at q; exact q.elim
  | some s =>
    rw [hs] at q
    cases s with
    | no => exact q.elim
    | sh d =>
      obtain ⟨x, fp, h1, _, h3⟩ := E.s.get hs
      cases h3 with
      | sh r => exact ⟨_, h1, k d q F H _ (.refl E.x.w) (.inl r)⟩
    | ow d =>
      obtain ⟨x, fp, h1, _, h3⟩ := E.s.get hs
      cases h3 with
      | ow r => exact ⟨_, h1, k d q.2 F H _ (.refl E.x.w) (.inr ⟨fp, r, q.1⟩)⟩
    | bo d =>
      obtain ⟨x, fp, h1, _, h3⟩ := E.s.get hs
      cases h3 with
      | bo r => exact ⟨_, h1, k d q F H _ (.refl E.x.w) (r.ext E.x)⟩
    | dk l => exact q.elim
    | nl l => exact q.elim
def dC (d : D) : DE := fun _ P => P d
theorem le_c {v : V} {d : D} (h : PE X e (tC v)) (r : ∀ F : Hp, Rep X.K F v d) : LE X F0 H0 e (dC d) := peW h fun σ H Q ⟨F, ρ, fps, P, E, q, k⟩ => k d q F H _ (.refl E.x.w) (r F)
theorem le_int {i j pos} : LE X F0 H0 (.Constant (.int i) j pos) (dC (.int i)) := le_c pe_int fun _ => .int i
theorem le_bl {i j pos} : LE X F0 H0 (.Constant (.bool i) j pos) (dC (.bl i)) := le_c pe_bl fun _ => .bl i
theorem le_non {j pos} : LE X F0 H0 (.Constant .none j pos) (dC .non) := le_c pe_non fun _ => .non
theorem rep_str {K : PySem.W.Frag} {F : Hp} {x : Str} {l : Tx} (h : txOf x = l) (hl : l.length ≤ sizeLine) (ho : okTx l = true) : Rep K F (.str x) (.str l) := by
  subst h
  have := Rep.str (K := K) (F := F) (txOf x) hl ho
  rw [strOf_txOf] at this
  exact this
theorem le_str {x : Str} {l : Tx} {j pos} (h : txOf x = l) (hl : (decide (l.length ≤ 1000) && okTx l) = true := by decide) : LE X F0 H0 (.Constant (.str x) j pos) (dC (.str l)) :=
  le_c pe_str fun _ => by
    simp only [Bool.and_eq_true, decide_eq_true_eq] at hl
    exact rep_str h (Nat.le_trans hl.1 (by decide)) hl.2

abbrev DR2 := D → D → (D → Prop) → Prop
def LowR2 (K : PySem.W.Frag) (r : R2) (d : DR2) : Prop := ∀ (F H : Hp) v w x y (P : D → Prop) (Q : VK), Same F H → BRep K F H v x → BRep K F H w y → d x y P → (∀ z, P z → ∀ F' H' u, Ext F H F' H' → Rep K F' u z → Q u H') → r v w H Q
def dOp (d : DR2) (da db : DE) : DE := fun ρ P => da ρ fun x => db ρ fun y => d x y P
theorem low_op {r : R2} {d : DR2} {da db : DE} (hr : LowR2 X.K r d) : ∀ σ H Q, low X.K F0 H0 (dOp d da db) σ H Q → tOp r (lowB X.K F0 H0 da) (lowB X.K F0 H0 db) σ H Q := fun σ H Q ⟨F, ρ, fps, P, E, q, k⟩ =>
  ⟨F, ρ, fps, _, E, q, fun x hx F1 H1 v e1 r1 => ⟨F1, ρ, fps, _, E.ext e1, hx, fun y hy F2 H2 w e2 r2 => hr F2 H2 v w x y P Q e2.w (r1.ext e2) r2 hy fun z pz F3 H3 u e3 r3 => k z pz F3 H3 u ((e1.trans e2).trans e3) r3⟩⟩
theorem le_op {op : Operator} {r : R2} {d : DR2} {da db : DE} (hr : LowR2 X.K r d) (ho : OpR X (binaryOp op) r) (ha : LB X F0 H0 a da) (hb : LB X F0 H0 b db) : LE X F0 H0 (.BinOp a op b pos) (dOp d da db) :=
  peW (pe_op ho ha hb) (low_op hr)
theorem le_cmp {op : CmpOp} {r : R2} {d : DR2} {da db : DE} (hr : LowR2 X.K r d) (ho : OpR X (compareOp op) r) (ha : LB X F0 H0 a da) (hb : LB X F0 H0 b db) (hm : behindInMarks op b = false) : LE X F0 H0 (.Compare a [op] [b] pos) (dOp d da db) :=
  peW (pe_cmpR ho ha hb hm) (low_op hr)
end
end DL
end
section
namespace DL
open PySem L2
section
variable {K : PySem.W.Frag} {F H F' H' : Hp}
theorem BRep.int {v : V} {i : Int} (h : BRep K F H v (.int i)) : v = .int i := by
  rcases h with h | ⟨fp, h, nt⟩ <;> cases h; rfl
theorem BRep.bl {v : V} {i : Bool} (h : BRep K F H v (.bl i)) : v = .bl i := by
  rcases h with h | ⟨fp, h, nt⟩ <;> cases h; rfl
theorem BRep.non {v : V} (h : BRep K F H v .non) : v = .non := by
  rcases h with h | ⟨fp, h, nt⟩ <;> cases h; rfl
theorem BRep.str {v : V} {i : Tx} (h : BRep K F H v (.str i)) : v = .str (strOf i) ∧ i.length ≤ sizeLine ∧ okTx i = true := by
  rcases h with h | ⟨fp, h, nt⟩
  · cases h with
    | str _ z g => exact ⟨rfl, z, g⟩
  · cases h
theorem BRep.lst {v : V} {xs : List D} (e : Same F H) (h : BRep K F H v (.lst xs)) : ∃ a vs, v = .ref a ∧ SqL K H a vs ∧ RepL K F vs xs ∧ xs.length ≤ sizeLine := by
  rcases h with h | ⟨fp, h, nt⟩
  · cases h with
    | lst s z r => exact ⟨_, _, rfl, e.seq s, r, z⟩
  · cases h with
    | lst s r z n => exact ⟨_, _, rfl, .of s, r, z⟩
theorem BRep.tup {v : V} {xs : List D} (e : Same F H) (h : BRep K F H v (.tup xs)) : ∃ a vs, v = .ref a ∧ SqT K H a vs ∧ RepL K F vs xs ∧ xs.length ≤ sizeLine := by
  rcases h with h | ⟨fp, h, nt⟩
  · cases h with
    | tup s z r => exact ⟨_, _, rfl, L2same_seqT e s, r, z⟩
  · exact nt.elim
theorem BRep.obj {v : V} {C : Addr} {gs : List (Str × D)} (e : Same F H) (h : BRep K F H v (.obj C gs)) : ∃ a dx fs, v = .ref a ∧ H a = some (.ins C dx fs) ∧ RepF K F fs gs := by
  rcases h with h | ⟨fp, h, nt⟩
  · cases h with
    | obj s r => exact ⟨_, _, _, rfl, e _ _ s, r⟩
  · cases h with
    | obj s r n => exact ⟨_, _, _, rfl, s, r⟩
theorem rep_newL {p : Addr} {vs : List V} {xs : List D} (e : Same F H) (np : H p = none) (r : RepL K F vs xs) (z : xs.length ≤ sizeLine) : Rep K (upd F p (.lst vs)) (.ref p) (.lst xs) :=
  .lst (.of upd_same) z (r.mono (L2same_upd_new (e.free np)))
theorem rep_newT {p : Addr} {vs : List V} {xs : List D} (e : Same F H) (np : H p = none) (r : RepL K F vs xs) (z : xs.length ≤ sizeLine) : Rep K (upd F p (.tup vs)) (.ref p) (.tup xs) :=
  .tup (.of upd_same) z (r.mono (L2same_upd_new (e.free np)))
end

section
variable {X : Cx}
theorem op_catS : OpR X (binaryOp .Add) (fun x y H Q => ∃ l b xs zs, x = .ref l ∧ y = .ref b ∧ SqL X.K H l xs ∧ SqL X.K H b zs ∧ xs.length + zs.length ≤ sizeLine ∧ ∀ p, H p = none → Q (.ref p) (upd H p (.lst (xs ++ zs)))) := by
  intro pins s σ H x y v u Q I rx ry h
  obtain ⟨l, b, xs, zs, rfl, rfl, hH, hB, hz, q⟩ := h
  cases rx
  cases ry
  obtain ⟨its, r, pl, z⟩ := I.list hH
  obtain ⟨its2, r2, pl2, z2⟩ := I.list hB
  obtain ⟨⟨cls, dd, data, sl⟩, ho, hc, n, hd⟩ := pl.isList
  obtain ⟨⟨cls2, dd2, data2, sl2⟩, ho2, hc2, n2, hd2⟩ := pl2.isList
  simp only at hc hd hc2 hd2
  subst hc hd hc2 hd2
  have e1 := r.length
  have e2 := r2.length
  refine PySem.concat_meets ⟨_, ho, rfl⟩ ⟨_, ho2, rfl⟩ PySem.noFill_list_add PySem.seq_list_add PySem.F.slot_list_add PySem.F.entry_list_add (PySem.F.args_list_add_2 _ _) (PyProof.Rows.list_addW l b its.toArray its2.toArray n n2 dd dd2 sl sl2 (by simp; omega)) ⟨ho, ho2, ?_⟩
  have ea : its.toArray ++ its2.toArray = (its ++ its2).toArray := by simp
  rw [ea]
  exact ⟨.ref _, _, I.lnew (t' := s.toks) (r.append r2) (by rw [List.length_append]; omega), rfl, q _ I.fresh⟩

theorem okTx_app (a b : Tx) : okTx (a ++ b) = (okTx a && okTx b) := by simp [okTx, List.all_append]
def dAdd : DR2
  | .int i, .int j, P => P (.int (i + j))
  | .str a, .str b, P => a.length + b.length ≤ sizeLine ∧ P (.str (a ++ b))
  | .lst a, .lst b, P => a.length + b.length ≤ sizeLine ∧ P (.lst (a ++ b))
  | _, _, _ => False
theorem strOf_app (a b : Tx) : strOf a ++ strOf b = strOf (a ++ b) := TL.ext_tl (by rw [TL.tl_append]; rfl)
theorem strOf_len (a : Tx) : (strOf a).length = a.length := by rw [TL.len_tl]; rfl
abbrev rAddAll (K : PySem.W.Frag) : R2 := fun x y H Q => (∃ i j, x = .int i ∧ y = .int j ∧ Q (.int (i + j)) H) ∨ ((∃ i j, x = .str i ∧ y = .str j ∧ i.length + j.length ≤ sizeLine ∧ Q (.str (i ++ j)) H) ∨
  (∃ l b xs zs, x = .ref l ∧ y = .ref b ∧ SqL K H l xs ∧ SqL K H b zs ∧ xs.length + zs.length ≤ sizeLine ∧ ∀ p, H p = none → Q (.ref p) (upd H p (.lst (xs ++ zs)))))
theorem op_addAll : OpR X (binaryOp .Add) (rAddAll X.K) := OpR.or op_add (OpR.or op_add_str op_catS)
theorem low_add {K : PySem.W.Frag} : LowR2 K (rAddAll K) dAdd := by
  intro F H v w x y P Q e bx byy d k
  unfold dAdd at d
  split at d
  · rename_i i j
    exact .inl ⟨i, j, bx.int, byy.int, k _ d F H _ (.refl e) (.int _)⟩
  · rename_i a b
    obtain ⟨rfl, ha, ga⟩ := bx.str
    obtain ⟨rfl, hb, gb⟩ := byy.str
    refine .inr (.inl ⟨_, _, rfl, rfl, by rw [strOf_len, strOf_len]; exact d.1, k _ d.2 F H _ (.refl e) ?_⟩)
    rw [strOf_app]
    exact .str _ (by rw [List.length_append]; exact d.1) (by rw [okTx_app, ga, gb]; rfl)
  · rename_i a b
    obtain ⟨l, vs, rfl, h1, r1, z1⟩ := bx.lst e
    obtain ⟨m, ws, rfl, h2, r2, z2⟩ := byy.lst e
    refine .inr (.inr ⟨_, _, vs, ws, rfl, rfl, h1, h2, by rw [r1.length, r2.length]; exact d.1, fun p hp => ?_⟩)
    exact k _ d.2 _ _ _ (.new e hp) (rep_newL e hp (r1.append r2) (by rw [List.length_append]; exact d.1))
  · exact d.elim
def dSub : DR2
  | .int i, .int j, P => P (.int (i - j))
  | _, _, _ => False
theorem low_sub {K : PySem.W.Frag} : LowR2 K (rI0 fun i j => .int (i - j)) dSub := by
  intro F H v w x y P Q e bx byy d k
  unfold dSub at d
  split at d
  · rename_i i j
    exact ⟨i, j, bx.int, byy.int, k _ d F H _ (.refl e) (.int _)⟩
  · exact d.elim
def dMul : DR2
  | .int i, .int j, P => (i.natAbs < 18446744073709551616 ∨ j.natAbs < 18446744073709551616) ∧ P (.int (i * j))
  | _, _, _ => False
theorem low_mul {K : PySem.W.Frag} : LowR2 K (rI CMul fun i j => .int (i * j)) dMul := by
  intro F H v w x y P Q e bx byy d k
  unfold dMul at d
  split at d
  · rename_i i j
    refine ⟨i, j, bx.int, byy.int, ?_, k _ d.2 F H _ (.refl e) (.int _)⟩
    rcases d.1 with h | h
    · exact .inl (by omega)
    · exact .inr (by omega)
  · exact d.elim
def dMod : DR2
  | .int i, .int j, P => 0 < j ∧ P (.int (i % j))
  | _, _, _ => False
theorem low_mod {K : PySem.W.Frag} : LowR2 K (rI (fun _ j => 0 < j) fun i j => .int (i % j)) dMod := by
  intro F H v w x y P Q e bx byy d k
  unfold dMod at d
  split at d
  · rename_i i j
    exact ⟨i, j, bx.int, byy.int, d.1, k _ d.2 F H _ (.refl e) (.int _)⟩
  · exact d.elim
def dFdiv : DR2
  | .int i, .int j, P => (0 < j ∧ j < 1073741824) ∧ P (.int (i / j))
  | _, _, _ => False
theorem low_fdiv {K : PySem.W.Frag} : LowR2 K (rI CDiv fun i j => .int (i / j)) dFdiv := by
  intro F H v w x y P Q e bx byy d k
  unfold dFdiv at d
  split at d
  · rename_i i j
    exact ⟨i, j, bx.int, byy.int, d.1, k _ d.2 F H _ (.refl e) (.int _)⟩
  · exact d.elim
def dPow : DR2
  | .int i, .int j, P => (0 ≤ j ∧ j ≤ 1000000 ∧ i.natAbs < 2 ^ 64) ∧ P (.int (i ^ j.toNat))
  | _, _, _ => False
theorem low_pow {K : PySem.W.Frag} : LowR2 K (rI CPow fun i j => .int (i ^ j.toNat)) dPow := by
  intro F H v w x y P Q e bx byy d k
  unfold dPow at d
  split at d
  · rename_i i j
    exact ⟨i, j, bx.int, byy.int, d.1, k _ d.2 F H _ (.refl e) (.int _)⟩
  · exact d.elim

mutual
/-- None, ints, texts, lists and tuples of such -/
def plainD : D → Bool
  | .non => true
  | .int _ => true
  | .str _ => true
  | .lst xs => plainDL xs
  | .tup xs => plainDL xs
  | _ => false
def plainDL : List D → Bool
  | [] => true
  | x :: xs => plainD x && plainDL xs
end
mutual
def deep : D → Nat
  | .lst xs => deepL xs + 1
  | .tup xs => deepL xs + 1
  | _ => 0
def deepL : List D → Nat
  | [] => 0
  | x :: xs => max (deep x) (deepL xs)
end
mutual
def toPy : D → PyData
  | .int i => .int i
  | .str x => .str (strOf x)
  | .lst xs => .list (toPyL xs)
  | .tup xs => .tuple (toPyL xs)
  | .bl b => .bool b
  | _ => .none
def toPyL : List D → List PyData
  | [] => []
  | x :: xs => toPy x :: toPyL xs
end
noncomputable def eqD (x y : D) : Bool := @decide (x = y) (Classical.propDecidable _)
theorem eqD_iff {x y : D} : eqD x y = true ↔ x = y := by simp [eqD]
theorem eqD_true {x y : D} (h : x = y) : eqD x y = true := by simp [eqD, h]
theorem eqD_false {x y : D} (h : x ≠ y) : eqD x y = false := by simp [eqD, h]
theorem eqD_prop {x y : D} {p : Prop} [Decidable p] (h : x = y ↔ p) : eqD x y = decide p := by
  by_cases q : p
  · rw [decide_eq_true q, eqD_true (h.mpr q)]
  · rw [decide_eq_false q, eqD_false (fun z => q (h.mp z))]
mutual
theorem eqv_toPy : ∀ (x y : D), plainD x = true → plainD y = true → PyData.eqv (toPy x) (toPy y) = eqD x y
  | .non, y, _, hy => by cases y <;> simp [plainD] at hy <;> simp [toPy, PyData.eqv, eqD]
  | .int i, y, _, hy => by
    cases y <;> simp [plainD] at hy <;> simp [toPy, PyData.eqv, eqD]
    rename_i j
    by_cases h : i = j <;> simp [h]
  | .str i, y, _, hy => by
    cases y <;> simp [plainD] at hy <;> simp [toPy, PyData.eqv, eqD]
    rename_i j
    by_cases h : i = j
    · simp [h]
    · have : ¬ strOf i = strOf j := fun q => h (strOf_inj q)
      simp [h, this]
  | .lst xs, y, hx, hy => by
    cases y <;> simp [plainD] at hy <;> simp [toPy, PyData.eqv, eqD]
    rename_i ys
    simp [plainD] at hx
    rw [eqv_toPyL xs ys hx hy]
    by_cases h : xs = ys <;> simp [h]
  | .tup xs, y, hx, hy => by
    cases y <;> simp [plainD] at hy <;> simp [toPy, PyData.eqv, eqD]
    rename_i ys
    simp [plainD] at hx
    rw [eqv_toPyL xs ys hx hy]
    by_cases h : xs = ys <;> simp [h]
  | .bl _, _, hx, _ => by simp [plainD] at hx
  | .ty _, _, hx, _ => by simp [plainD] at hx
  | .fn _, _, hx, _ => by simp [plainD] at hx
  | .obj _ _, _, hx, _ => by simp [plainD] at hx
theorem eqv_toPyL : ∀ (x y : List D), plainDL x = true → plainDL y = true → PyData.eqvAll (toPyL x) (toPyL y) = @decide (x = y) (Classical.propDecidable _)
  | [], [], _, _ => by simp [toPyL, PyData.eqvAll]
  | [], _ :: _, _, _ => by simp [toPyL, PyData.eqvAll]
  | _ :: _, [], _, _ => by simp [toPyL, PyData.eqvAll]
  | x :: xs, y :: ys, hx, hy => by
    simp [plainDL] at hx hy
    simp only [toPyL, PyData.eqvAll]
    rw [eqv_toPy x y hx.1 hy.1, eqv_toPyL xs ys hx.2 hy.2]
    by_cases h : x = y
    · subst h
      by_cases g : xs = ys
      · subst g; simp [eqD]
      · simp [eqD, g]
    · simp [eqD, h]
end
theorem strOk_of {x : Tx} (h : okTx x = true) : PyData.strOk (strOf x) = true := by
  unfold PyData.strOk
  simp only [okTx, List.all_eq_true, decide_eq_true_eq] at h
  simp [strOf]
  intro i hi
  have := h i hi
  omega
mutual
theorem rep_dp {K : PySem.W.Frag} {F : Hp} : ∀ (d : D) {v : V}, Rep K F v d → plainD d = true → Dp K F v (toPy d) ∧ (toPy d).canLay0 = true ∧ (toPy d).depth = deep d
  | .non, _, r, _ => by cases r; exact ⟨.non, by simp [toPy, PyData.canLay0, PyData.depth, deep]⟩
  | .int i, _, r, _ => by cases r; exact ⟨.int i, by simp [toPy, PyData.canLay0, PyData.depth, deep]⟩
  | .str x, _, r, _ => by cases r with | str _ z g => exact ⟨.str _, by simp [toPy, PyData.canLay0, PyData.depth, deep, strOk_of g]⟩
  | .lst xs, _, r, h => by
    simp [plainD] at h
    cases r with
    | lst s z r =>
      have := rep_dpL xs r h
      exact ⟨.lst s this.1, by simp [toPy, PyData.canLay0, PyData.depth, deep, this.2.1, this.2.2]⟩
  | .tup xs, _, r, h => by
    simp [plainD] at h
    cases r with
    | tup s z r =>
      have := rep_dpL xs r h
      exact ⟨.tup s this.1, by simp [toPy, PyData.canLay0, PyData.depth, deep, this.2.1, this.2.2]⟩
  | .bl _, _, _, hx => by simp [plainD] at hx
  | .ty _, _, _, hx => by simp [plainD] at hx
  | .fn _, _, _, hx => by simp [plainD] at hx
  | .obj _ _, _, _, hx => by simp [plainD] at hx
theorem rep_dpL {K : PySem.W.Frag} {F : Hp} : ∀ (d : List D) {v : List V}, RepL K F v d → plainDL d = true → DpAll K F v (toPyL d) ∧ PyData.canLayAll0 (toPyL d) = true ∧ PyData.depthAll (toPyL d) = deepL d
  | [], _, r, _ => by cases r; exact ⟨.nil, by simp [toPyL, PyData.canLayAll0, PyData.depthAll, deepL]⟩
  | x :: xs, _, r, h => by
    simp [plainDL] at h
    cases r with
    | cons a b =>
      have h1 := rep_dp x a h.1
      have h2 := rep_dpL xs b h.2
      exact ⟨.cons h1.1 h2.1, by simp [toPyL, PyData.canLayAll0, PyData.depthAll, deepL, h1.2.1, h1.2.2, h2.2.1, h2.2.2]⟩
end
theorem brep_dp {K : PySem.W.Frag} {F H : Hp} (e : Same F H) {d : D} {v : V} (r : BRep K F H v d) (h : plainD d = true) (hd : deep d ≤ 60) : Dp K H v (toPy d) ∧ SeqAt.shaped (toPy d) = true := by
  have fin : ∀ G v, Rep K G v d → Dp K G v (toPy d) ∧ SeqAt.shaped (toPy d) = true := fun G v r => by
    have := rep_dp d r h
    refine ⟨this.1, ?_⟩
    unfold SeqAt.shaped
    rw [this.2.1, this.2.2]
    simp
    omega
  rcases r with r | ⟨fp, r, nt⟩
  · exact fin H v (r.mono e)
  · cases r with
    | lst s r z n => exact fin H _ (.lst (.of s) z (r.mono e))
    | obj s r n => simp [plainD] at h
    | tup s q z n => exact nt.elim
def dEq : DR2
  | .bl i, .bl j, P => P (.bl (i == j))
  | x, y, P => (plainD x = true ∧ deep x ≤ 60) ∧ (plainD y = true ∧ deep y ≤ 60) ∧ P (.bl (eqD x y))
def dNe : DR2
  | .bl i, .bl j, P => P (.bl (!(i == j)))
  | x, y, P => (plainD x = true ∧ deep x ≤ 60) ∧ (plainD y = true ∧ deep y ≤ 60) ∧ P (.bl (!eqD x y))
abbrev rEqAll (K : PySem.W.Frag) : R2 := fun x y H Q => rEq x y H Q ∨ rEqD K x y H Q
abbrev rNeAll (K : PySem.W.Frag) : R2 := fun x y H Q => rNe x y H Q ∨ rNeD K x y H Q
theorem op_eqAll (hu : X.A.units + 64 < cLine) : OpR X (compareOp .Eq) (rEqAll X.K) := OpR.or op_eq (op_eqD hu)
theorem op_neAll (hu : X.A.units + 64 < cLine) : OpR X (compareOp .NotEq) (rNeAll X.K) := OpR.or op_ne (op_neD hu)
theorem low_eq {K : PySem.W.Frag} : LowR2 K (rEqAll K) dEq := by
  intro F H v w x y P Q e bx byy d k
  unfold dEq at d
  split at d
  · rename_i i j
    refine .inl ⟨by rw [bx.bl, byy.bl]; rfl, k _ d F H _ (.refl e) ?_⟩
    rw [bx.bl, byy.bl, dec_bl]
    exact .bl _
  · have h1 := brep_dp e bx d.1.1 d.1.2
    have h2 := brep_dp e byy d.2.1.1 d.2.1.2
    refine .inr ⟨_, _, h1.1, h2.1, h1.2, h2.2, k _ d.2.2 F H _ (.refl e) ?_⟩
    rw [eqv_toPy _ _ d.1.1 d.2.1.1]
    exact .bl _
theorem low_ne {K : PySem.W.Frag} : LowR2 K (rNeAll K) dNe := by
  intro F H v w x y P Q e bx byy d k
  unfold dNe at d
  split at d
  · rename_i i j
    refine .inl ⟨by rw [bx.bl, byy.bl]; rfl, k _ d F H _ (.refl e) ?_⟩
    rw [bx.bl, byy.bl, dec_bl]
    exact .bl _
  · have h1 := brep_dp e bx d.1.1 d.1.2
    have h2 := brep_dp e byy d.2.1.1 d.2.1.2
    refine .inr ⟨_, _, h1.1, h2.1, h1.2, h2.2, k _ d.2.2 F H _ (.refl e) ?_⟩
    rw [eqv_toPy _ _ d.1.1 d.2.1.1]
    exact .bl _
def dIC (f : Int → Int → Bool) : DR2
  | .int i, .int j, P => P (.bl (f i j))
  | _, _, _ => False
theorem low_ic {K : PySem.W.Frag} {f : Int → Int → Bool} : LowR2 K (rI0 fun i j => .bl (f i j)) (dIC f) := by
  intro F H v w x y P Q e bx byy d k
  unfold dIC at d
  split at d
  · rename_i i j
    exact ⟨i, j, bx.int, byy.int, k _ d F H _ (.refl e) (.bl _)⟩
  · exact d.elim
abbrev dLt : DR2 := dIC fun i j => decide (i < j)
abbrev dLe : DR2 := dIC fun i j => decide (i ≤ j)
abbrev dGt : DR2 := dIC fun i j => decide (j < i)
abbrev dGe : DR2 := dIC fun i j => decide (j ≤ i)
/-- is None -/
def isNon : D → Bool
  | .non => true
  | _ => false
def dIsN (neg : Bool) : DR2
  | x, .non, P => P (.bl (if neg then !isNon x else isNon x))
  | _, _, _ => False
theorem brep_non {K : PySem.W.Frag} {F H : Hp} {v : V} {x : D} (b : BRep K F H v x) : decide (v = .non) = isNon x := by
  rcases b with b | ⟨fp, b, nt⟩ <;> cases b <;> simp [isNon]
theorem low_isN {K : PySem.W.Frag} : LowR2 K (fun x y H Q => y = .non ∧ Q (.bl (decide (x = .non))) H) (dIsN false) := by
  intro F H v w x y P Q e bx byy d k
  unfold dIsN at d
  split at d
  · refine ⟨byy.non, k _ d F H _ (.refl e) ?_⟩
    rw [brep_non bx]
    exact .bl _
  · exact d.elim
theorem low_notN {K : PySem.W.Frag} : LowR2 K (fun x y H Q => y = .non ∧ Q (.bl (!decide (x = .non))) H) (dIsN true) := by
  intro F H v w x y P Q e bx byy d k
  unfold dIsN at d
  split at d
  · refine ⟨byy.non, k _ d F H _ (.refl e) ?_⟩
    rw [brep_non bx]
    exact .bl _
  · exact d.elim
end
end DL
end
section
namespace DL
open PySem L2
section
variable {X : Cx} {F0 H0 : Hp} {e a b c : Expr} {pos : Pos}

abbrev DR1 := D → (D → Prop) → Prop
def LowR1 (K : PySem.W.Frag) (r : V → Hp → VK → Prop) (d : DR1) : Prop := ∀ (F H : Hp) v x (P : D → Prop) (Q : VK), Same F H → BRep K F H v x → d x P → (∀ z, P z → ∀ F' H' u, Ext F H F' H' → Rep K F' u z → Q u H') → r v H Q
def dUn (d : DR1) (da : DE) : DE := fun ρ P => da ρ fun x => d x P
theorem low_un {r : V → Hp → VK → Prop} {d : DR1} {da : DE} (hr : LowR1 X.K r d) : ∀ σ H Q, low X.K F0 H0 (dUn d da) σ H Q → tUn r (lowB X.K F0 H0 da) σ H Q := fun σ H Q ⟨F, ρ, fps, P, E, q, k⟩ =>
  ⟨F, ρ, fps, _, E, q, fun x hx F1 H1 v e1 r1 => hr F1 H1 v x P Q e1.w r1 hx fun z pz F3 H3 u e3 r3 => k z pz F3 H3 u (e1.trans e3) r3⟩
def dNeg : DR1
  | .int i, P => P (.int (-i))
  | _, _ => False
theorem low_neg {K : PySem.W.Frag} : LowR1 K (rU fun i => .int (-i)) dNeg := by
  intro F H v x P Q e bx d k
  unfold dNeg at d
  split at d
  · exact ⟨_, bx.int, k _ d F H _ (.refl e) (.int _)⟩
  · exact d.elim
theorem le_neg {da : DE} (ha : LB X F0 H0 a da) : LE X F0 H0 (.UnaryOp .USub a pos) (dUn dNeg da) := peW (pe_un un_neg ha) (low_un low_neg)

def dTst (da : DE) : DT := fun ρ P => da ρ fun x => match x with | .bl k => P k | _ => False
theorem low_tst {t : TE} {da : DE} (h : ∀ σ H Q, low X.K F0 H0 da σ H Q → t σ H Q) : ∀ σ H Q, lowT X.K F0 H0 (dTst da) σ H Q → t σ H fun x H' => ∃ k, x = .bl k ∧ Q k H' := fun σ H Q ⟨F, ρ, fps, P, E, q, k⟩ =>
  h σ H _ ⟨F, ρ, fps, _, E, q, fun x hx F1 H1 v e1 r1 => by
    cases x <;> first | exact hx.elim | skip
    cases r1
    exact ⟨_, rfl, k _ hx F1 H1 e1⟩⟩
theorem lt_cmp {op : CmpOp} {r : R2} {d : DR2} {da db : DE} (hr : LowR2 X.K r d) (ho : OpR X (compareOp op) r) (ha : LB X F0 H0 a da) (hb : LB X F0 H0 b db) (hm : behindInMarks op b = false) : LT X F0 H0 (.Compare a [op] [b] pos) (dTst (dOp d da db)) :=
  ptW (pt_cmpR ho ha hb hm) (low_tst (low_op hr))
theorem lt_val {da : DE} (h : LE X F0 H0 e da) (he : ∀ whole, isTrue e X.env whole = (do let v ← whole; standAt e.pos; holding [v] (truthy v)) := by intro _; rfl) : LT X F0 H0 e (dTst da) :=
  ptW (pt_val h he) (low_tst fun _ _ _ q => q)
/-- truth of lists, texts, ints -/
def truD : D → Option Bool
  | .non => some false
  | .bl k => some k
  | .int i => some (i != 0)
  | .str z => some (!z.isEmpty)
  | .lst z => some (!z.isEmpty)
  | .tup z => some (!z.isEmpty)
  | _ => none
def dTru (da : DE) : DT := fun ρ P => da ρ fun x => match truD x with | some k => P k | none => False
theorem lt_tru {da : DE} (h : LB X F0 H0 e da) (he : ∀ whole, isTrue e X.env whole = (do let v ← whole; standAt e.pos; holding [v] (truthy v)) := by intro _; rfl) : LT X F0 H0 e (dTru da) :=
  ptW (pt_truth h he) fun σ H Q ⟨F, ρ, fps, P, E, q, k⟩ => ⟨F, ρ, fps, _, E, q, fun x hx F1 H1 v e1 r1 => by
    have w := e1.w
    cases x with
    | non => have := r1.non; subst this; exact ⟨_, rfl, k _ hx F1 H1 e1⟩
    | bl i => have := r1.bl; subst this; exact ⟨_, rfl, k _ hx F1 H1 e1⟩
    | int i => have := r1.int; subst this; exact ⟨_, rfl, k _ hx F1 H1 e1⟩
    | str z =>
      obtain ⟨rfl, h1, h2⟩ := r1.str
      refine ⟨_, ⟨by rw [strOf_len]; exact h1, rfl⟩, ?_⟩
      have : (((strOf z).length : Int) != 0) = !z.isEmpty := by rw [strOf_len]; cases z <;> simp <;> omega
      rw [this]
      exact k _ hx F1 H1 e1
    | lst z =>
      obtain ⟨p, vs, rfl, s, r, _⟩ := r1.lst w
      refine ⟨_, .inl ⟨vs, s, rfl⟩, ?_⟩
      have : (!vs.isEmpty) = !z.isEmpty := by cases r <;> simp
      rw [this]
      exact k _ hx F1 H1 e1
    | tup z =>
      obtain ⟨p, vs, rfl, s, r, _⟩ := r1.tup w
      refine ⟨_, .inr (.inl ⟨vs, s, rfl⟩), ?_⟩
      have : (!vs.isEmpty) = !z.isEmpty := by cases r <;> simp
      rw [this]
      exact k _ hx F1 H1 e1
    | ty n => exact hx.elim
    | fn n => exact hx.elim
    | obj n m => exact hx.elim⟩
def dAndT (da db : DT) : DT := fun ρ P => da ρ fun k => if k = true then db ρ P else P false
def dOrT (da db : DT) : DT := fun ρ P => da ρ fun k => if k = true then P true else db ρ P
def dNotT (da : DT) : DT := fun ρ P => da ρ fun k => P (!k)
theorem pwW {t t' : TT} (h : PW X e t) (k : ∀ σ H Q, t' σ H Q → t σ H Q) : PW X e t' := ⟨fun wh pins s σ H Q I q => h.run wh pins s σ H Q I (k σ H Q q)⟩
abbrev LW (X : Cx) (F0 H0 : Hp) (e : Expr) (d : DT) : Prop := PW X e (lowT X.K F0 H0 d)
theorem lw_and1 {da : DT} (ha : LT X F0 H0 a da) : LW X F0 H0 (.BoolOp .And [a] pos) da := pw_and1 ha
theorem lw_or1 {da : DT} (ha : LT X F0 H0 a da) : LW X F0 H0 (.BoolOp .Or [a] pos) da := pw_or1 ha
theorem lw_and {rest : List Expr} {da db : DT} (ha : LT X F0 H0 a da) (hb : LW X F0 H0 (.BoolOp .And (b :: rest) pos) db) : LW X F0 H0 (.BoolOp .And (a :: b :: rest) pos) (dAndT da db) :=
  pwW (pw_and ha hb) fun σ H Q ⟨F, ρ, fps, P, E, q, k⟩ => ⟨F, ρ, fps, _, E, q, fun x hx F1 H1 e1 => by
    cases x with
    | true => exact ⟨F1, ρ, fps, P, E.ext e1, hx, fun y hy F2 H2 e2 => k y hy F2 H2 (e1.trans e2)⟩
    | false => exact k _ hx F1 H1 e1⟩
theorem lw_or {rest : List Expr} {da db : DT} (ha : LT X F0 H0 a da) (hb : LW X F0 H0 (.BoolOp .Or (b :: rest) pos) db) : LW X F0 H0 (.BoolOp .Or (a :: b :: rest) pos) (dOrT da db) :=
  pwW (pw_or ha hb) fun σ H Q ⟨F, ρ, fps, P, E, q, k⟩ => ⟨F, ρ, fps, _, E, q, fun x hx F1 H1 e1 => by
    cases x with
    | false => exact ⟨F1, ρ, fps, P, E.ext e1, hx, fun y hy F2 H2 e2 => k y hy F2 H2 (e1.trans e2)⟩
    | true => exact k _ hx F1 H1 e1⟩
theorem lt_bool {da : DT} (h : LW X F0 H0 e da) : LT X F0 H0 e da := h.pt
theorem lt_not {da : DT} (h : LT X F0 H0 a da) : LT X F0 H0 (.UnaryOp .Not a pos) (dNotT da) :=
  ptW (pt_not h) fun σ H Q ⟨F, ρ, fps, P, E, q, k⟩ => ⟨F, ρ, fps, _, E, q, fun x hx F1 H1 e1 => k _ hx F1 H1 e1⟩
/-- as values -/
def dAndV (da db : DE) : DE := fun ρ P => da ρ fun x => match x with | .bl true => db ρ P | .bl false => P (.bl false) | _ => False
def dOrV (da db : DE) : DE := fun ρ P => da ρ fun x => match x with | .bl false => db ρ P | .bl true => P (.bl true) | _ => False
def dNotV (da : DE) : DE := fun ρ P => da ρ fun x => match x with | .bl k => P (.bl !k) | _ => False
theorem le_one {op} {da : DE} (h : LE X F0 H0 a da) : LE X F0 H0 (.BoolOp op [a] pos) da := pe_one h
theorem le_and {rest : List Expr} {da db : DE} (ha : LE X F0 H0 a da) (hb : LE X F0 H0 (.BoolOp .And (b :: rest) pos) db) : LE X F0 H0 (.BoolOp .And (a :: b :: rest) pos) (dAndV da db) :=
  peW (pe_and ha hb) fun σ H Q ⟨F, ρ, fps, P, E, q, k⟩ => ⟨F, ρ, fps, _, E, q, fun x hx F1 H1 v e1 r1 => by
    cases x with
    | bl x =>
      cases r1
      cases x with
      | true => exact ⟨true, rfl, F1, ρ, fps, P, E.ext e1, hx, fun y hy F2 H2 w e2 r2 => k y hy F2 H2 w (e1.trans e2) r2⟩
      | false => exact ⟨false, rfl, k _ hx F1 H1 _ e1 (.bl _)⟩
    | _ => exact hx.elim⟩
theorem le_or {rest : List Expr} {da db : DE} (ha : LE X F0 H0 a da) (hb : LE X F0 H0 (.BoolOp .Or (b :: rest) pos) db) : LE X F0 H0 (.BoolOp .Or (a :: b :: rest) pos) (dOrV da db) :=
  peW (pe_or ha hb) fun σ H Q ⟨F, ρ, fps, P, E, q, k⟩ => ⟨F, ρ, fps, _, E, q, fun x hx F1 H1 v e1 r1 => by
    cases x with
    | bl x =>
      cases r1
      cases x with
      | false => exact ⟨false, rfl, F1, ρ, fps, P, E.ext e1, hx, fun y hy F2 H2 w e2 r2 => k y hy F2 H2 w (e1.trans e2) r2⟩
      | true => exact ⟨true, rfl, k _ hx F1 H1 _ e1 (.bl _)⟩
    | _ => exact hx.elim⟩
theorem le_not {da : DE} (ha : LE X F0 H0 a da) : LE X F0 H0 (.UnaryOp .Not a pos) (dNotV da) :=
  peW (pe_not ha) fun σ H Q ⟨F, ρ, fps, P, E, q, k⟩ => ⟨F, ρ, fps, _, E, q, fun x hx F1 H1 v e1 r1 => by
    cases x with
    | bl x => cases r1; exact ⟨x, rfl, k _ hx F1 H1 _ e1 (.bl _)⟩
    | _ => exact hx.elim⟩
def dIf (dc : DT) (da db : DE) : DE := fun ρ P => dc ρ fun k => if k = true then da ρ P else db ρ P
theorem le_if {dc : DT} {da db : DE} (hc : LT X F0 H0 c dc) (ha : LE X F0 H0 a da) (hb : LE X F0 H0 b db) : LE X F0 H0 (.IfExp c a b pos) (dIf dc da db) :=
  peW (pe_ifExp hc ha hb) fun σ H Q ⟨F, ρ, fps, P, E, q, k⟩ => ⟨F, ρ, fps, _, E, q, fun x hx F1 H1 e1 => by
    cases x with
    | true => exact ⟨F1, ρ, fps, P, E.ext e1, hx, fun y hy F2 H2 w e2 r2 => k y hy F2 H2 w (e1.trans e2) r2⟩
    | false => exact ⟨F1, ρ, fps, P, E.ext e1, hx, fun y hy F2 H2 w e2 r2 => k y hy F2 H2 w (e1.trans e2) r2⟩⟩

def dNil : DA := fun _ P => P []
def dCons (da : DE) (dr : DA) : DA := fun ρ P => da ρ fun x => dr ρ fun xs => P (x :: xs)
theorem la_nil : LA X F0 H0 [] dNil := paW pa_nil fun σ H Q ⟨F, ρ, fps, P, E, q, k⟩ => k _ q F H _ (.refl E.x.w) .nil
theorem lab_nil : LAB X F0 H0 [] dNil := paW pa_nil fun σ H Q ⟨F, ρ, fps, P, E, q, k⟩ => k _ q F H _ (.refl E.x.w) .nil
theorem la_cons {es : List Expr} {da : DE} {dr : DA} (ha : LE X F0 H0 e da) (hr : LA X F0 H0 es dr) (hs : starEach (e :: es) X.env = (false, eval e X.env) :: starEach es X.env := by rfl) : LA X F0 H0 (e :: es) (dCons da dr) :=
  paW (pa_cons ha hr hs) fun σ H Q ⟨F, ρ, fps, P, E, q, k⟩ => ⟨F, ρ, fps, _, E, q, fun x hx F1 H1 v e1 r1 =>
    ⟨F1, ρ, fps, _, E.ext e1, hx, fun y hy F2 H2 w e2 r2 => k _ hy F2 H2 _ (e1.trans e2) (.cons (r1.mono e2.f) r2)⟩⟩
theorem lab_cons {es : List Expr} {da : DE} {dr : DA} (ha : LB X F0 H0 e da) (hr : LAB X F0 H0 es dr) (hs : starEach (e :: es) X.env = (false, eval e X.env) :: starEach es X.env := by rfl) : LAB X F0 H0 (e :: es) (dCons da dr) :=
  paW (pa_cons ha hr hs) fun σ H Q ⟨F, ρ, fps, P, E, q, k⟩ => ⟨F, ρ, fps, _, E, q, fun x hx F1 H1 v e1 r1 =>
    ⟨F1, ρ, fps, _, E.ext e1, hx, fun y hy F2 H2 w e2 r2 => k _ hy F2 H2 _ (e1.trans e2) (.cons (r1.ext e2) r2)⟩⟩
def dTup (da : DA) : DE := fun ρ P => da ρ fun xs => xs.length ≤ sizeLine ∧ P (.tup xs)
def dLst (da : DA) : DE := fun ρ P => da ρ fun xs => xs.length ≤ sizeLine ∧ P (.lst xs)
theorem le_tup {es : List Expr} {da : DA} {x1} (h : LA X F0 H0 es da) : LE X F0 H0 (.Tuple es x1 pos) (dTup da) :=
  peW (pe_tup h) fun σ H Q ⟨F, ρ, fps, P, E, q, k⟩ => ⟨F, ρ, fps, _, E, q, fun xs hx F1 H1 vs e1 r1 =>
    ⟨by rw [r1.length]; exact hx.1, fun p hp => k _ hx.2 _ _ _ (e1.trans (.new e1.w hp)) (rep_newT e1.w hp r1 hx.1)⟩⟩
theorem le_lst {es : List Expr} {da : DA} (h : LA X F0 H0 es da) : LE X F0 H0 (.List es pos) (dLst da) :=
  peW (pe_lst h) fun σ H Q ⟨F, ρ, fps, P, E, q, k⟩ => ⟨F, ρ, fps, _, E, q, fun xs hx F1 H1 vs e1 r1 =>
    ⟨by rw [r1.length]; exact hx.1, fun p hp => k _ hx.2 _ _ _ (e1.trans (.new e1.w hp)) (rep_newL e1.w hp r1 hx.1)⟩⟩

def ixD {α : Type} (xs : List α) (i : Int) : Option α := if 0 ≤ i then xs[i.toNat]? else if -(xs.length : Int) ≤ i then xs[(i + xs.length).toNat]? else none
theorem atI_ixD {α : Type} (xs : List α) (i : Int) : atI xs i = ixD xs i := by
  unfold atI ixD ixN
  by_cases h : 0 ≤ i
  · rw [if_pos h, if_pos h]
    by_cases g : i < xs.length
    · rw [if_pos g]; rfl
    · rw [if_neg g]
      rw [List.getElem?_eq_none (by omega)]; rfl
  · rw [if_neg h, if_neg h]
    split <;> rfl
def dIx : DR2
  | .lst xs, .int i, P => match ixD xs i with | some d => P d | none => False
  | .tup xs, .int i, P => match ixD xs i with | some d => P d | none => False
  | .str xs, .int i, P => match ixD xs i with | some c => P (.str [c]) | none => False
  | _, _, _ => False
theorem RepL.ix {K : PySem.W.Frag} {F : Hp} {v : List V} {d : List D} {i : Int} {y : D} (r : RepL K F v d) (h : ixD d i = some y) : ∃ x, atI v i = some x ∧ Rep K F x y := by
  rw [atI_ixD]
  unfold ixD at h ⊢
  rw [r.length]
  split at h
  · rename_i c; rw [if_pos c]; exact r.getD h
  · rename_i c
    rw [if_neg c]
    split at h
    · rename_i c; rw [if_pos c]; exact r.getD h
    · cases h
theorem ixD_mem {α : Type} {xs : List α} {i : Int} {y : α} (h : ixD xs i = some y) : y ∈ xs := by
  unfold ixD at h
  split at h
  · exact List.mem_of_getElem? h
  · split at h
    · exact List.mem_of_getElem? h
    · cases h
theorem okTx_one {z : Tx} {c : Nat} (h : okTx z = true) (m : c ∈ z) : okTx [c] = true := by
  simp only [okTx, List.all_eq_true] at h
  simpa [okTx] using h c m
theorem low_ix {K : PySem.W.Frag} : LowR2 K (rIx K) dIx := by
  intro F H v w x y P Q e bx byy d k
  unfold dIx at d
  split at d
  · obtain ⟨p, vs, rfl, s, r, z⟩ := bx.lst e
    cases byy.int
    split at d
    · rename_i xs i q hq
      obtain ⟨u, h1, h2⟩ := r.ix hq
      exact .inl ⟨p, vs, _, u, rfl, rfl, s, h1, k _ d F H _ (.refl e) h2⟩
    · exact d.elim
  · obtain ⟨p, vs, rfl, s, r, z⟩ := bx.tup e
    cases byy.int
    split at d
    · rename_i xs i q hq
      obtain ⟨u, h1, h2⟩ := r.ix hq
      exact .inr (.inl ⟨p, vs, _, u, rfl, rfl, s, h1, k _ d F H _ (.refl e) h2⟩)
    · exact d.elim
  · obtain ⟨rfl, h1, h2⟩ := bx.str
    cases byy.int
    split at d
    · rename_i xs i c hq
      refine .inr (.inr ⟨_, _, _, rfl, rfl, by rw [strOf_len]; exact h1, ?_, k _ d F H _ (.refl e) (.str [c] (by show 1 ≤ sizeLine; decide) (okTx_one h2 (ixD_mem hq)))⟩)
      rw [atI_ixD]; exact hq
    · exact d.elim
  · exact d.elim
theorem le_ix {da db : DE} (ha : LB X F0 H0 a da) (hb : LB X F0 H0 b db) (hs : PlainIx b := by exact fun _ _ => rfl) : LE X F0 H0 (.Subscript a b pos) (dOp dIx da db) := peW (pe_ix ix_seq ha hb hs) (low_op low_ix)

abbrev DO := Rh → (Option Int → Prop) → Prop
def lowO (K : PySem.W.Frag) (F0 H0 : Hp) (d : DO) : TO := fun σ H Q => ∃ F ρ fps P, ERep K F0 H0 F H σ ρ fps ∧ d ρ P ∧ ∀ o, P o → ∀ F' H', Ext F H F' H' → Q o H'
abbrev LO (X : Cx) (F0 H0 : Hp) (e : Option Expr) (d : DO) : Prop := PO X e (lowO X.K F0 H0 d)
theorem poW {e : Option Expr} {t t' : TO} (h : PO X e t) (k : ∀ σ H Q, t' σ H Q → t σ H Q) : PO X e t' := ⟨fun pins s σ H Q I q => h.run pins s σ H Q I (k σ H Q q)⟩
def dNoPart : DO := fun _ P => P none
def dPart (da : DE) : DO := fun ρ P => da ρ fun x => match x with | .int i => P (some i) | _ => False
theorem lo_none : LO X F0 H0 none dNoPart := poW po_none fun σ H Q ⟨F, ρ, fps, P, E, q, k⟩ => k _ q F H (.refl E.x.w)
theorem lo_some {da : DE} (h : LE X F0 H0 e da) : LO X F0 H0 (some e) (dPart da) := poW (po_some h) fun σ H Q ⟨F, ρ, fps, P, E, q, k⟩ => ⟨F, ρ, fps, _, E, q, fun x hx F1 H1 v e1 r1 => by
    cases x with
    | int x => cases r1; exact ⟨x, rfl, k _ hx F1 H1 e1⟩
    | _ => exact hx.elim⟩
/-- a slice -/
def cut {α : Type} (xs : List α) (lo hi : Option Int) : List α := (xs.drop (HT.sIx xs.length 0 lo)).take (HT.sIx xs.length xs.length hi - HT.sIx xs.length 0 lo)
def dCut (lo hi : Option Int) : DR1
  | .lst xs, P => P (.lst (cut xs lo hi))
  | .str xs, P => P (.str (cut xs lo hi))
  | _, _ => False
theorem cut_length {α : Type} (xs : List α) (lo hi : Option Int) : (cut xs lo hi).length ≤ xs.length := by
  unfold cut; rw [List.length_take, List.length_drop]; omega
theorem cut_sub {α : Type} (xs : List α) (lo hi : Option Int) : ∀ x ∈ cut xs lo hi, x ∈ xs := fun x h => List.mem_of_mem_drop (List.mem_of_mem_take h)
theorem okTx_sub {x y : Tx} (h : okTx y = true) (s : ∀ c ∈ x, c ∈ y) : okTx x = true := by
  simp only [okTx, List.all_eq_true] at h ⊢
  exact fun c hc => h c (s c hc)
theorem RepL.cut {K : PySem.W.Frag} {F : Hp} {v : List V} {d : List D} (lo hi : Option Int) (r : RepL K F v d) : RepL K F (cutV v lo hi) (cut d lo hi) := by
  unfold cutV DL.cut
  rw [r.length]
  exact (r.drop _).take _
abbrev rSlAll (K : PySem.W.Frag) : V → Option Int → Option Int → Hp → VK → Prop := fun x lo hi H Q => rSlL K x lo hi H Q ∨ rSlS x lo hi H Q
theorem low_sl {K : PySem.W.Frag} (lo hi : Option Int) : LowR1 K (fun x H Q => rSlAll K x lo hi H Q) (dCut lo hi) := by
  intro F H v x P Q e bx d k
  unfold dCut at d
  split at d
  · obtain ⟨p, vs, rfl, s, r, z⟩ := bx.lst e
    exact .inl ⟨p, vs, rfl, s, fun p hp => k _ d _ _ _ (.new e hp) (rep_newL e hp (r.cut lo hi) (Nat.le_trans (cut_length _ _ _) z))⟩
  · obtain ⟨rfl, h1, h2⟩ := bx.str
    rename_i xs
    refine .inr ⟨_, rfl, by rw [strOf_len]; exact h1, k _ d F H _ (.refl e) ?_⟩
    have : cutS (strOf xs) lo hi = strOf (cut xs lo hi) := by
      unfold cutS cut
      rw [strOf_len]
      rfl
    rw [this]
    exact .str _ (Nat.le_trans (cut_length _ _ _) h1) (okTx_sub h2 (cut_sub _ _ _))
  · exact d.elim
def dSl (da : DE) (dl dh : DO) : DE := fun ρ P => da ρ fun x => dl ρ fun lo => dh ρ fun hi => dCut lo hi x P
theorem le_sl {da : DE} {dl dh : DO} {lo hi : Option Expr} {p2 : Pos} (ha : LB X F0 H0 a da) (hl : LO X F0 H0 lo dl) (hh : LO X F0 H0 hi dh) : LE X F0 H0 (.Subscript a (.Slice lo hi none p2) pos) (dSl da dl dh) :=
  peW (pe_slice (r := rSlAll X.K) (sl_list.or sl_str) ha hl hh) fun σ H Q ⟨F, ρ, fps, P, E, q, k⟩ => ⟨F, ρ, fps, _, E, q, fun x hx F1 H1 v e1 r1 =>
    ⟨F1, ρ, fps, _, E.ext e1, hx, fun o1 h1 F2 H2 e2 => ⟨F2, ρ, fps, _, (E.ext e1).ext e2, h1, fun o2 h2 F3 H3 e3 =>
      low_sl o1 o2 F3 H3 v x P Q e3.w ((r1.ext e2).ext e3) h2 fun z pz F4 H4 u e4 r4 => k z pz F4 H4 u (((e1.trans e2).trans e3).trans e4) r4⟩⟩⟩
end
end DL
end
section
namespace DL
open PySem L2

structure DEn where
  nx : Rh → Prop
  rt : D → Prop
  bk : Rh → Prop := fun _ => False
  ct : Rh → Prop := fun _ => False
  rn : D → Prop := fun _ => False
abbrev DS := DEn → Rh → Prop
abbrev DG := D → Rh → (Rh → Prop) → Prop
abbrev DI := Rh → (List D → Prop) → Prop

section
variable (K : PySem.W.Frag) (F0 H0 : Hp)
/-- from the data's ends to the hand layer's -/
structure EndOk (F : Hp) (E : DEn) (D : Ends) : Prop where
  nx : ∀ F' H' σ' ρ' fps', Same F F' → ERep K F0 H0 F' H' σ' ρ' fps' → E.nx ρ' → D.nx σ' H'
  bk : ∀ F' H' σ' ρ' fps', Same F F' → ERep K F0 H0 F' H' σ' ρ' fps' → E.bk ρ' → D.bk σ' H'
  ct : ∀ F' H' σ' ρ' fps', Same F F' → ERep K F0 H0 F' H' σ' ρ' fps' → E.ct ρ' → D.ct σ' H'
  rt : ∀ F' H' v x, Same F F' → Ext F0 H0 F' H' → Rep K F' v x → E.rt x → D.rt v H'
  rn : ∀ F' H' v x fp, Same F F' → Ext F0 H0 F' H' → Own K F' H' v x fp → fp.Nodup → (∀ a ∈ fp, H0 a = none) → E.rn x → D.rt v H'
def lowS (d : DS) : TS := fun D σ H => ∃ F ρ fps E, ERep K F0 H0 F H σ ρ fps ∧ d E ρ ∧ EndOk K F0 H0 F E D
end
theorem EndOk.mono {K : PySem.W.Frag} {F0 H0 F F1 : Hp} {E : DEn} {D : Ends} (h : EndOk K F0 H0 F E D) (s : Same F F1) : EndOk K F0 H0 F1 E D :=
  ⟨fun F' H' σ' ρ' fps' q => h.nx F' H' σ' ρ' fps' (s.trans q), fun F' H' σ' ρ' fps' q => h.bk F' H' σ' ρ' fps' (s.trans q), fun F' H' σ' ρ' fps' q => h.ct F' H' σ' ρ' fps' (s.trans q), fun F' H' v x q => h.rt F' H' v x (s.trans q), fun F' H' v x fp q => h.rn F' H' v x fp (s.trans q)⟩

section
variable {X : Cx} {F0 H0 : Hp} {e a b c : Expr} {pos : Pos}
abbrev LS (X : Cx) (F0 H0 : Hp) (st : Stmt) (d : DS) : Prop := PS X st (lowS X.K F0 H0 d)
abbrev LSs (X : Cx) (F0 H0 : Hp) (st : List Stmt) (d : DS) : Prop := PSs X st (lowS X.K F0 H0 d)

def dNext : DS := fun E ρ => E.nx ρ
def dSeq (d u : DS) : DS := fun E ρ => d { E with nx := u E } ρ
theorem lss_nil : LSs X F0 H0 [] dNext := pssW pss_nil fun D σ H ⟨F, ρ, fps, E, R, q, k⟩ => k.nx F H σ ρ fps (.refl F) R q
theorem lss_cons {st : Stmt} {rest : List Stmt} {d u : DS} (h1 : LS X F0 H0 st d) (h2 : LSs X F0 H0 rest u) : LSs X F0 H0 (st :: rest) (dSeq d u) :=
  pssW (pss_cons h1 h2) fun D σ H ⟨F, ρ, fps, E, R, q, k⟩ => ⟨F, ρ, fps, _, R, q, ⟨fun F' H' σ' ρ' fps' s R' q' => ⟨F', ρ', fps', E, R', q', k.mono s⟩, k.bk, k.ct, k.rt, k.rn⟩⟩
theorem lss_one {st : Stmt} {d : DS} (h1 : LS X F0 H0 st d) : LSs X F0 H0 [st] d := pss_one h1
def dBreak : DS := fun E ρ => E.bk ρ
def dCont : DS := fun E ρ => E.ct ρ
theorem ls_pass : LS X F0 H0 (.Pass pos) dNext := psW ps_pass fun D σ H ⟨F, ρ, fps, E, R, q, k⟩ => k.nx F H σ ρ fps (.refl F) R q
theorem ls_break : LS X F0 H0 (.Break pos) dBreak := psW ps_break fun D σ H ⟨F, ρ, fps, E, R, q, k⟩ => k.bk F H σ ρ fps (.refl F) R q
theorem ls_continue : LS X F0 H0 (.Continue pos) dCont := psW ps_continue fun D σ H ⟨F, ρ, fps, E, R, q, k⟩ => k.ct F H σ ρ fps (.refl F) R q
theorem ls_doc {x j pos pos'} : LS X F0 H0 (.Expr (.Constant (.str x) j pos) pos') dNext := psW ps_doc fun D σ H ⟨F, ρ, fps, E, R, q, k⟩ => k.nx F H σ ρ fps (.refl F) R q
def dDrop (da : DE) : DS := fun E ρ => da ρ fun _ => E.nx ρ
theorem ls_expr {da : DE} (h : LE X F0 H0 e da) (hs : swapsWith e none pos.line X.env = pure false := by rfl) : LS X F0 H0 (.Expr e pos) (dDrop da) :=
  psW (ps_expr h hs) fun D σ H ⟨F, ρ, fps, E, R, q, k⟩ => ⟨F, ρ, fps, _, R, q, fun x hx F1 H1 v e1 r1 => k.nx F1 H1 σ ρ fps e1.f (R.ext e1) hx⟩
def dRet (da : DE) : DS := fun E ρ => da ρ E.rt
theorem ls_ret {da : DE} (h : LE X F0 H0 e da) : LS X F0 H0 (.Return (some e) pos) (dRet da) :=
  psW (ps_ret h) fun D σ H ⟨F, ρ, fps, E, R, q, k⟩ => ⟨F, ρ, fps, _, R, q, fun x hx F1 H1 v e1 r1 => k.rt F1 H1 v x e1.f (R.x.trans e1) r1 hx⟩
def dRetN : DS := fun E _ => E.rt .non
theorem ls_retN : LS X F0 H0 (.Return none pos) dRetN := psW ps_retN fun D σ H ⟨F, ρ, fps, E, R, q, k⟩ => k.rt F H _ _ (.refl F) R.x .non q
def dIfS (dc : DT) (d u : DS) : DS := fun E ρ => dc ρ fun k => if k = true then d E ρ else u E ρ
theorem ls_if {x y : List Stmt} {dc : DT} {d u : DS} (hc : LT X F0 H0 c dc) (ha : LSs X F0 H0 x d) (hb : LSs X F0 H0 y u) : LS X F0 H0 (.If c x y pos) (dIfS dc d u) :=
  psW (ps_if hc ha hb) fun D σ H ⟨F, ρ, fps, E, R, q, k⟩ => ⟨F, ρ, fps, _, R, q, fun z hz F1 H1 e1 => by
    cases z with
    | true => exact ⟨F1, ρ, fps, E, R.ext e1, hz, k.mono e1.f⟩
    | false => exact ⟨F1, ρ, fps, E, R.ext e1, hz, k.mono e1.f⟩⟩
def dNever : DS := fun _ _ => False
theorem ls_never {st : Stmt} : LS X F0 H0 st dNever := psW ps_never fun D σ H ⟨F, ρ, fps, E, R, q, k⟩ => q
theorem lss_never {st : List Stmt} : LSs X F0 H0 st dNever := pssW pss_never fun D σ H ⟨F, ρ, fps, E, R, q, k⟩ => q

/-- two frames agree but at these slots -/
def Agr (is : List Nat) (σ σ' : L2.St) : Prop := σ'.length = σ.length ∧ ∀ j, j ∉ is → σ'[j]? = σ[j]?
theorem Agr.refl (is : List Nat) (σ : L2.St) : Agr is σ σ := ⟨rfl, fun _ _ => rfl⟩
theorem Agr.set {is : List Nat} {σ : L2.St} {i : Nat} {x : Option V} (h : i ∈ is) : Agr is σ (σ.set i x) := ⟨List.length_set .., fun j hj => List.getElem?_set_ne (fun e => hj (by rw [← e]; exact h))⟩
theorem Agr.trans {is js ks : List Nat} {a b c : L2.St} (h : Agr is a b) (k : Agr js b c) (hi : ∀ x ∈ is, x ∈ ks) (hj : ∀ x ∈ js, x ∈ ks) : Agr ks a c :=
  ⟨k.1.trans h.1, fun j n => (k.2 j fun z => n (hj j z)).trans (h.2 j fun z => n (hi j z))⟩
theorem Agr.wipe {is vs : List Nat} {σ σ' : L2.St} (h : Agr is σ σ') (s : ∀ i ∈ is, i ∈ vs) : L2.wipe σ' vs = L2.wipe σ vs := by
  refine List.ext_getElem? fun j => ?_
  by_cases hj : j ∈ vs
  · have q : ∀ (τ : L2.St) (ws : List Nat), j ∈ ws → (L2.wipe τ ws)[j]? = if j < τ.length then some none else none := by
      intro τ ws hw
      induction ws with
      | nil => cases hw
      | cons v ws ih =>
        unfold L2.wipe
        by_cases e : v = j
        · subst e
          by_cases l : v < τ.length
          · rw [List.getElem?_set_self (by rw [L2.wipe_length]; exact l), if_pos l]
          · rw [List.getElem?_eq_none (by rw [List.length_set, L2.wipe_length]; omega), if_neg l]
        · rw [List.getElem?_set_ne e]
          exact ih ((List.mem_cons.mp hw).resolve_left fun z => e z.symm)
    rw [q _ _ hj, q _ _ hj, h.1]
  · rw [L2.wipe_out hj, L2.wipe_out hj]
    exact h.2 j fun z => hj (s j z)
def LowG (K : PySem.W.Frag) (g : TG) (d : DG) (is : List Nat) : Prop := ∀ (F0 H0 F H : Hp) σ ρ fps v x (P : Rh → Prop) (Q : L2.St → Hp → Prop), ERep K F0 H0 F H σ ρ fps → Rep K F v x → d x ρ P → (∀ ρ', P ρ' → ∀ σ' fps', Agr is σ σ' → ERep K F0 H0 F H σ' ρ' fps' → Q σ' H) → g v σ H Q
theorem ERep.set {K : PySem.W.Frag} {F0 H0 F H : Hp} {σ : L2.St} {ρ : Rh} {fps : List (List Addr)} {v : V} {x : D} (R : ERep K F0 H0 F H σ ρ fps) (r : Rep K F v x) (i : Nat) : ERep K F0 H0 F H (σ.set i (some v)) (ρ.set i (.sh x)) (fps.set i []) :=
  ⟨R.x, R.s.set (.sh r) i, R.p.set_nil i⟩
def dgN (i : Nat) : DG := fun x ρ P => P (ρ.set i (.sh x))
theorem lg_n {K : PySem.W.Frag} {i : Nat} : LowG K (gName i) (dgN i) [i] := fun F0 H0 F H σ ρ fps v x P Q R r d k => k _ d _ _ (Agr.set (by simp)) (R.set r i)
abbrev DGs := List D → Rh → (Rh → Prop) → Prop
def LowGs (K : PySem.W.Frag) (g : TGs) (d : DGs) (is : List Nat) : Prop := ∀ (F0 H0 F H : Hp) σ ρ fps v x (P : Rh → Prop) (Q : L2.St → Hp → Prop), ERep K F0 H0 F H σ ρ fps → RepL K F v x → d x ρ P → (∀ ρ', P ρ' → ∀ σ' fps', Agr is σ σ' → ERep K F0 H0 F H σ' ρ' fps' → Q σ' H) → g v σ H Q
def dgNil : DGs := fun x ρ P => match x with | [] => P ρ | _ => False
def dgCons (d : DG) (u : DGs) : DGs := fun x ρ P => match x with | [] => False | y :: r => d y ρ fun ρ' => u r ρ' P
theorem lgs_nil {K : PySem.W.Frag} : LowGs K gNil dgNil [] := fun F0 H0 F H σ ρ fps v x P Q R r d k => by
  cases r with
  | nil => exact ⟨rfl, k _ d _ _ (.refl _ _) R⟩
  | cons => exact d.elim
theorem lgs_cons {K : PySem.W.Frag} {g : TG} {gs : TGs} {d : DG} {ds : DGs} {is js : List Nat} (h : LowG K g d is) (hs : LowGs K gs ds js) : LowGs K (gCons g gs) (dgCons d ds) (is ++ js) := fun F0 H0 F H σ ρ fps v x P Q R r d k => by
  cases r with
  | nil => exact d.elim
  | cons r rs => exact ⟨_, _, rfl, h F0 H0 F H σ ρ fps _ _ _ _ R r d fun ρ' p σ' fps' A R' => hs F0 H0 F H σ' ρ' fps' _ _ P Q R' rs p fun ρ2 p2 σ2 fps2 A2 R2 => k ρ2 p2 σ2 fps2 (A.trans A2 (by simp_all) (by simp_all)) R2⟩
def dgT (n : Nat) (u : DGs) : DG := fun x ρ P => match x with | .tup xs => xs.length = n ∧ u xs ρ P | _ => False
theorem lg_t {K : PySem.W.Frag} {n : Nat} {gs : TGs} {ds : DGs} {is : List Nat} (h : LowGs K gs ds is) : LowG K (gTup K n gs) (dgT n ds) is := fun F0 H0 F H σ ρ fps v x P Q R r d k => by
  unfold dgT at d
  cases x <;> first | exact d.elim | skip
  cases r with
  | tup s z r => exact ⟨_, _, rfl, L2same_seqT R.x.w s, by rw [r.length]; exact d.1, h F0 H0 F H σ ρ fps _ _ P Q R r d.2 k⟩

def dAsg (da : DE) (dg : DG) : DS := fun E ρ => da ρ fun x => dg x ρ E.nx
theorem low_asg {te : TE} {g : TG} {da : DE} {dg : DG} {is : List Nat} (hg : LowG X.K g dg is) (he : ∀ σ H Q, low X.K F0 H0 da σ H Q → te σ H Q) : ∀ D σ H, lowS X.K F0 H0 (dAsg da dg) D σ H → tAsg te g D σ H :=
  fun D σ H ⟨F, ρ, fps, E, R, q, k⟩ => he _ _ _ ⟨F, ρ, fps, _, R, q, fun x hx F1 H1 v e1 r1 => hg F0 H0 F1 H1 σ ρ fps v x _ _ (R.ext e1) r1 hx fun ρ' p σ' fps' _ R' => k.nx F1 H1 σ' ρ' fps' e1.f R' p⟩
theorem ls_asg {tg : Expr} {g : TG} {da : DE} {dg : DG} {is : List Nat} (h : ∀ te, PE X e te → PS X (.Assign [tg] e pos) (tAsg te g)) (hg : LowG X.K g dg is) (he : LE X F0 H0 e da) : LS X F0 H0 (.Assign [tg] e pos) (dAsg da dg) :=
  psW (h _ he) (low_asg hg fun _ _ _ q => q)

def forD (dg : DG) (db : DS) (E : DEn) : List D → Rh → Prop
  | [], ρ => E.nx ρ
  | x :: xs, ρ => dg x ρ fun ρ' => db { nx := forD dg db E xs, ct := forD dg db E xs, bk := E.nx, rt := E.rt, rn := E.rn } ρ'
def dFor (di : DI) (dg : DG) (db : DS) : DS := fun E ρ => di ρ fun xs => forD dg db E xs ρ
/-- an iterator that yields data -/
structure ItRep (K : PySem.W.Frag) (F : Hp) (J : It) (xs : List D) : Prop where
  go : ∀ H i, Same F H → i < xs.length → J.go i H
  stop : ∀ H, Same F H → J.stop xs.length H
  yld : ∀ F1 H i v H' x, Same F F1 → Same F1 H → J.yld i H v H' → xs[i]? = some x → ∃ F2, Ext F1 H F2 H' ∧ Rep K F2 v x
/-- an iterator that yields data as long as the entry's heap stands -/
structure ItRepB (K : PySem.W.Frag) (F H0 : Hp) (J : It) (xs : List D) : Prop where
  go : ∀ H i, Same F H → Same H0 H → i < xs.length → J.go i H
  stop : ∀ H, Same F H → Same H0 H → J.stop xs.length H
  yld : ∀ F1 H i v H' x, Same F F1 → Same F1 H → Same H0 H → J.yld i H v H' → xs[i]? = some x → ∃ F2, Ext F1 H F2 H' ∧ Rep K F2 v x
theorem ItRep.toB {K : PySem.W.Frag} {F H0 : Hp} {J : It} {xs : List D} (h : ItRep K F J xs) : ItRepB K F H0 J xs := ⟨fun H i e _ l => h.go H i e l, fun H e _ => h.stop H e, fun F1 H i v H' x e1 e2 _ y l => h.yld F1 H i v H' x e1 e2 y l⟩
def lowI (K : PySem.W.Frag) (F0 H0 : Hp) (d : DI) : TI := fun σ H R => ∃ F ρ fps P, ERep K F0 H0 F H σ ρ fps ∧ d ρ P ∧ ∀ xs, P xs → ∀ F' H' J, Ext F H F' H' → ItRepB K F' H0 J xs → R J H'
abbrev LI (X : Cx) (F0 H0 : Hp) (tg e : Expr) (d : DI) : Prop := PI X tg e (lowI X.K F0 H0 d)
theorem low_for {wi : TI} {g : TG} {tb : TS} {di : DI} {dg : DG} {db : DS} {is : List Nat} (hi : ∀ σ H R, lowI X.K F0 H0 di σ H R → wi σ H R) (hg : LowG X.K g dg is) (hb : ∀ D σ H, lowS X.K F0 H0 db D σ H → tb D σ H) :
    ∀ D σ H, lowS X.K F0 H0 (dFor di dg db) D σ H → tFor wi g tb D σ H := fun D σ H ⟨F, ρ, fps, E, R, q, k⟩ =>
  hi _ _ _ ⟨F, ρ, fps, _, R, q, fun xs hx F1 H1 J e1 it => by
    refine ⟨fun i m σ H => m = xs.length - i ∧ i ≤ xs.length ∧ ∃ F2 ρ2 fps2, Same F1 F2 ∧ ERep X.K F0 H0 F2 H σ ρ2 fps2 ∧ forD dg db E (xs.drop i) ρ2, ⟨_, rfl, Nat.zero_le _, F1, ρ, fps, .refl _, R.ext e1, hx⟩, ?_⟩
    rintro i m σ H ⟨rfl, hi, F2, ρ2, fps2, s2, R2, q2⟩
    by_cases hlt : i < xs.length
    · refine .inr ⟨it.go H i (s2.trans R2.x.w) R2.x.h hlt, fun σ' H' => ∃ F3 ρ3 fps3, Same F1 F3 ∧ ERep X.K F0 H0 F3 H' σ' ρ3 fps3 ∧ forD dg db E (xs.drop (i + 1)) ρ3, fun σ' H' n => ⟨_, by omega, rfl, hlt, n⟩, fun v H' y => ?_⟩
      have hx : xs[i]? = some xs[i] := by simp [hlt]
      obtain ⟨F3, e3, r3⟩ := it.yld F2 H i v H' _ s2 R2.x.w R2.x.h y hx
      have ed : xs.drop i = xs[i] :: xs.drop (i + 1) := by simp
      rw [ed] at q2
      unfold forD at q2
      refine hg F0 H0 F3 H' σ ρ2 fps2 v _ _ _ (R2.ext e3) r3 q2 fun ρ4 p4 σ4 fps4 _ R4 => ?_
      have s4 : Same F1 F3 := s2.trans e3.f
      refine hb _ _ _ ⟨F3, ρ4, fps4, _, R4, p4, ⟨?_, ?_, ?_, ?_, ?_⟩⟩
      · exact fun F5 H5 σ5 ρ5 fps5 s5 R5 q5 => ⟨F5, ρ5, fps5, s4.trans s5, R5, q5⟩
      · exact fun F5 H5 σ5 ρ5 fps5 s5 R5 q5 => k.nx F5 H5 σ5 ρ5 fps5 (e1.f.trans (s4.trans s5)) R5 q5
      · exact fun F5 H5 σ5 ρ5 fps5 s5 R5 q5 => ⟨F5, ρ5, fps5, s4.trans s5, R5, q5⟩
      · exact fun F5 H5 v x s5 e5 r5 q5 => k.rt F5 H5 v x (e1.f.trans (s4.trans s5)) e5 r5 q5
      · exact fun F5 H5 v x fp s5 e5 r5 n1 n2 q5 => k.rn F5 H5 v x fp (e1.f.trans (s4.trans s5)) e5 r5 n1 n2 q5
    · have e : i = xs.length := by omega
      subst e
      rw [List.drop_length] at q2
      exact .inl ⟨it.stop H (s2.trans R2.x.w) R2.x.h, k.nx F2 H σ ρ2 fps2 (e1.f.trans s2) R2 q2⟩⟩
theorem ls_for {tg : Expr} {g : TG} {di : DI} {dg : DG} {db : DS} {is : List Nat} {body : List Stmt} (hp : PassesOwn (model X.prog X.w) X.A X.env X.xe) (hc : X.calm = true) (hi : LI X F0 H0 tg e di) (pg : PG X tg g) (hg : LowG X.K g dg is) (hb : LSs X F0 H0 body db)
    (hs : ∀ x, foldedSetIterable e X.env x = pure x := by intro _; rfl) : LS X F0 H0 (.For tg e body [] pos) (dFor di dg db) :=
  psW (ps_for hp hc hi pg hb hs) (low_for (fun _ _ _ q => q) hg fun _ _ _ q => q)

def whileD (c : DT) (body : DS) (E : DEn) : Nat → Rh → Prop
  | 0, _ => False
  | n + 1, ρ => c ρ fun b => if b = true then body { nx := whileD c body E n, ct := whileD c body E n, bk := E.nx, rt := E.rt, rn := E.rn } ρ else E.nx ρ
def dWhile (c : DT) (body : DS) : DS := fun E ρ => ∃ n, whileD c body E n ρ
theorem ls_while {dc : DT} {db : DS} {body : List Stmt} (hp : PassesOwn (model X.prog X.w) X.A X.env X.xe) (hc : LT X F0 H0 c dc) (hb : LSs X F0 H0 body db) : LS X F0 H0 (.While c body [] pos) (dWhile dc db) :=
  psW (ps_while hp hc hb) fun D σ H ⟨F, ρ, fps, E, R, ⟨n, q⟩, k⟩ => by
    refine ⟨fun m σ H => ∃ F2 ρ2 fps2, Same F F2 ∧ ERep X.K F0 H0 F2 H σ ρ2 fps2 ∧ whileD dc db E m ρ2, ⟨n, F, ρ, fps, .refl _, R, q⟩, ?_⟩
    rintro m σ H ⟨F2, ρ2, fps2, s2, R2, q2⟩
    cases m with
    | zero => exact q2.elim
    | succ m =>
      unfold whileD at q2
      refine ⟨F2, ρ2, fps2, _, R2, q2, fun z hz F3 H3 e3 => ?_⟩
      cases z with
      | true =>
        rw [if_pos rfl] at hz ⊢
        refine ⟨fun σ' H' => ∃ F3 ρ3 fps3, Same F F3 ∧ ERep X.K F0 H0 F3 H' σ' ρ3 fps3 ∧ whileD dc db E m ρ3, fun σ' H' nn => ⟨m, Nat.lt_succ_self _, nn⟩, F3, ρ2, fps2, _, R2.ext e3, hz, ⟨?_, ?_, ?_, ?_, ?_⟩⟩
        · exact fun F5 H5 σ5 ρ5 fps5 s5 R5 q5 => ⟨F5, ρ5, fps5, s2.trans (e3.f.trans s5), R5, q5⟩
        · exact fun F5 H5 σ5 ρ5 fps5 s5 R5 q5 => k.nx F5 H5 σ5 ρ5 fps5 (s2.trans (e3.f.trans s5)) R5 q5
        · exact fun F5 H5 σ5 ρ5 fps5 s5 R5 q5 => ⟨F5, ρ5, fps5, s2.trans (e3.f.trans s5), R5, q5⟩
        · exact fun F5 H5 v x s5 e5 r5 q5 => k.rt F5 H5 v x (s2.trans (e3.f.trans s5)) e5 r5 q5
        · exact fun F5 H5 v x fp s5 e5 r5 n1 n2 q5 => k.rn F5 H5 v x fp (s2.trans (e3.f.trans s5)) e5 r5 n1 n2 q5
      | false =>
        rw [if_neg Bool.false_ne_true] at hz ⊢
        exact k.nx F3 H3 σ ρ2 fps2 (s2.trans e3.f) (R2.ext e3) hz
end
end DL
end
section
namespace DL
open PySem L2 PySem.Spec

inductive Src where
  | tx (x : Str) (t : Tok) | ls (a : Addr)
def Src.it : Src → Addr → Nat → Heap → Prop
  | .tx x t, a, i, h => h.IsStrIter a (strIterType x) x t i
  | .ls l, a, i, h => h.IsListIter a l i
def Src.has (K : PySem.W.Frag) (H : Hp) : Src → Nat → V → Prop
  | .tx x _, i, v => ∃ c, x.cps[i]? = some c ∧ v = .str ⟨#[c]⟩
  | .ls a, i, v => ∀ xs, SqL K H a xs → xs[i]? = some v
def Src.len (K : PySem.W.Frag) (H : Hp) : Src → Nat → Prop
  | .tx x _, n => n = x.cps.size
  | .ls a, n => ∃ xs, SqL K H a xs ∧ n = xs.length
theorem Src.it_obj {S : Src} {a : Addr} {i : Nat} {h : Heap} (q : S.it a i h) : ∃ o, h.get? a = some o ∧ ∀ v, o.data ≠ .cell v := by
  cases S with
  | tx x t => obtain ⟨o, h1, h2, h3⟩ := q; exact ⟨o, h1, fun v z => by rw [h3] at z; cases z⟩
  | ls l => obtain ⟨o, h1, h2, h3⟩ := q; exact ⟨o, h1, fun v z => by rw [h3] at z; cases z⟩
theorem Src.it_at {S : Src} {a : Addr} {i : Nat} {h h' : Heap} (q : S.it a i h) (k : ∀ o, h.get? a = some o → h'.get? a = some o) : S.it a i h' := by
  cases S with
  | tx x t => obtain ⟨o, h1, h2⟩ := q; exact ⟨o, k _ h1, h2⟩
  | ls l => obtain ⟨o, h1, h2⟩ := q; exact ⟨o, k _ h1, h2⟩
theorem Src.it_cls {S : Src} {a : Addr} {i : Nat} {h : Heap} (q : S.it a i h) : ∃ o, h.get? a = some o ∧ o.cls ≠ .type "list" := by
  cases S with
  | tx x t =>
    obtain ⟨o, h1, h2, h3⟩ := q
    refine ⟨o, h1, fun z => ?_⟩
    rw [h2] at z
    unfold strIterType at z
    split at z <;> exact absurd (Value.type.inj z) (by decide)
  | ls l => obtain ⟨o, h1, h2, h3⟩ := q; exact ⟨o, h1, fun z => by rw [h2] at z; exact absurd (Value.type.inj z) (by decide)⟩
theorem Src.draws {X : Cx} {pins : List (Addr × Obj)} {σ : L2.St} {H : Hp} {s : Shared} {i : Nat} (I : Inv X pins σ H s) (hc : X.calm = true) (S : Src) (n : Nat) (hn : S.len X.K H n) (it : Addr) (hit : S.it it i s.heap) :
    ∃ fp P St, Draws X.prog X.w X.A.in1 it fp n P St ∧ it ∈ fp ∧ (∀ b ∈ fp, b = it ∨ ∃ o, s.heap.get? b = some o ∧ o.cls = .type "list") ∧ St i s.heap ∧ (∀ i h, St i h → S.it it i h) ∧ (∀ i u, P i u → ∃ v, S.has X.K H i v ∧ RelV v u) := by
  have hh : X.A.in1.handled = none := I.ok.hd hc
  cases S with
  | tx x t =>
    cases hn
    exact ⟨_, _, _, Draws.text hh it x t, by simp, fun b hb => .inl (by simpa using hb), hit, fun i h q => q, fun i u ⟨c, t', h1, h2⟩ => ⟨_, ⟨c, h1, rfl⟩, t', h2⟩⟩
  | ls l =>
    obtain ⟨xs, hs, rfl⟩ := hn
    obtain ⟨its, rv, pl, hz⟩ := I.list hs
    have hl : ∃ o, s.heap.get? l = some o ∧ o.cls = .type "list" := let ⟨o, n, e, c, _⟩ := pl; ⟨o, e, c⟩
    have ne : l ≠ it := by
      intro z
      obtain ⟨o, h1, h2⟩ := hl
      obtain ⟨o', h3, h4⟩ := Src.it_cls hit
      rw [z, h3] at h1
      cases h1
      exact h4 h2
    have D := Draws.list (prog := X.prog) (w := X.w) (A := X.A.in1) hh it l ne its.toArray
    have e : its.toArray.size = xs.length := by rw [List.size_toArray, rv.length]
    rw [e] at D
    refine ⟨_, _, _, D, by simp, fun b hb => ?_, ⟨hit, pl.isList⟩, fun i h q => q.1, fun i u q => ?_⟩
    · have : b = it ∨ b = l := by simpa using hb
      rcases this with z | z
      · exact .inl z
      · subst z; exact .inr hl
    · have q : its[i]? = some u := by simpa using q
      have hi : i < xs.length := by
        have := (List.getElem?_eq_some_iff.mp q).1
        rw [← rv.length] at this; exact this
      obtain ⟨u', h1, h2⟩ := rv.get (i := i) (x := xs[i]) (by simp [hi])
      rw [q] at h1
      cases h1
      exact ⟨_, fun ys hy => by rw [I.list_inj hy hs]; simp [hi], h2⟩
def ItzG (K : PySem.W.Frag) (S1 S2 : Src) : It :=
  ⟨fun i H => ∃ n1 n2, S1.len K H n1 ∧ S2.len K H n2 ∧ i < n1 ∧ i < n2,
    fun i H v H' => ∃ T x y, v = .ref T ∧ H T = none ∧ H' = upd H T (.tup [x, y]) ∧ S1.has K H i x ∧ S2.has K H i y,
    fun i H => ∃ n1 n2, S1.len K H n1 ∧ S2.len K H n2 ∧ i ≤ n1 ∧ i ≤ n2 ∧ (i = n1 ∨ i = n2)⟩
structure ZAp (z TI TO i1 i2 : Addr) : Prop where
  a1 : TI ≠ z
  a2 : TO ≠ z
  a3 : TI ≠ TO
  a4 : TI ≠ i1
  a5 : TI ≠ i2
  a6 : z ≠ i1
  a7 : TO ≠ i1
  a8 : z ≠ i2
  a9 : TO ≠ i2
  a10 : i1 ≠ i2
theorem turn_zipG {P : Program} {w : World} {K : PySem.W.Frag} {elts : List Expr} {kk : Nat} {tpos : Pos} {S1 S2 : Src} {z TI TO i1 i2 : Addr} (D : ZAp z TI TO i1 i2) :
    Turn P w K (.Tuple elts kk tpos) (ItzG K S1 S2) [z, TI, TO, i1, i2] z (fun i h => IsZip h z TI TO .none ∧ IsTupOf2 h TI (.ref i1) (.ref i2) ∧ (∃ x y, IsTupOf2 h TO x y) ∧ S1.it i1 i h ∧ S2.it i2 i h) where
  mem := by simp
  obj := fun i h st c hc => by
    obtain ⟨hz, hTI, ⟨x, y, hTO⟩, h1, h2⟩ := st
    have e' : c = z ∨ c = TI ∨ c = TO ∨ c = i1 ∨ c = i2 := by simpa using hc
    rcases e' with q | q | q | q | q
    · rw [q]; exact ⟨_, hz, fun v q => nomatch q⟩
    · rw [q]; exact ⟨_, hTI, fun v q => nomatch q⟩
    · rw [q]; exact ⟨_, hTO, fun v q => nomatch q⟩
    · rw [q]; exact Src.it_obj h1
    · rw [q]; exact Src.it_obj h2
  keep := fun i h h' st k => by
    obtain ⟨hz, hTI, ⟨x, y, hTO⟩, h1, h2⟩ := st
    exact ⟨k z (by simp) _ hz, k TI (by simp) _ hTI, ⟨x, y, k TO (by simp) _ hTO⟩, Src.it_at h1 fun o q => k i1 (by simp) o q, Src.it_at h2 fun o q => k i2 (by simp) o q⟩
  item := by
    intro X hP hw hK hc i pins s σ H E I hf st hg
    subst hP hw hK
    obtain ⟨hz, hTI, ⟨x0, y0, hTO⟩, h1, h2⟩ := st
    obtain ⟨n1, n2, l1, l2, b1, b2⟩ := hg
    obtain ⟨fp1, P1, St1, D1, m1, f1, st1, k1, v1⟩ := Src.draws I hc S1 n1 l1 i1 h1
    obtain ⟨fp2, P2, St2, D2, m2, f2, st2, k2, v2⟩ := Src.draws I hc S2 n2 l2 i2 h2
    have nl : ∀ {b : Addr} {o : Obj} {fp : List Addr} {it : Addr}, s.heap.get? b = some o → o.cls ≠ .type "list" → b ≠ it → (∀ b ∈ fp, b = it ∨ ∃ o, s.heap.get? b = some o ∧ o.cls = .type "list") → b ∉ fp := fun e c n f hb => by
      rcases f _ hb with q | ⟨o', e', c'⟩
      · exact n q
      · rw [e] at e'; cases e'; exact c c'
    obtain ⟨o1, g1, c1⟩ := Src.it_cls h1
    obtain ⟨o2, g2, c2⟩ := Src.it_cls h2
    have sep : ZipSep2 z TI TO i1 i2 fp1 fp2 :=
      ⟨D.a1, D.a2, D.a3, D.a4, m1, nl hz (by intro q; exact absurd (Value.type.inj q) (by decide)) D.a6 f1, nl hTO (by intro q; exact absurd (Value.type.inj q) (by decide)) D.a7 f1, D.a5, m2, nl hz (by intro q; exact absurd (Value.type.inj q) (by decide)) D.a8 f2, nl hTO (by intro q; exact absurd (Value.type.inj q) (by decide)) D.a9 f2, nl g1 c1 D.a10 f2, nl g2 c2 D.a10.symm f1⟩
    have hzl : z < s.heap.objs.size := Heap.lt_size hz
    refine wpAny_pyNext_zipD2_item sep D1 D2 hz hTI hTO st1 st2 b1 b2 fun x1 x2 h' tk y1 y2 z' TO' d1 d2 hT hsz hk => ?_
    obtain ⟨u1, p1, r1⟩ := v1 _ _ y1
    obtain ⟨u2, p2, r2⟩ := v2 _ _ y2
    refine ⟨_, rfl, wpAny_letOwnedTupleGo_zip (s := { s with heap := h', toks := tk }) z' fun h'' z'' sb => ?_⟩
    have hT2 : h''.get? s.heap.objs.size = some { cls := .type "tuple", data := .seq #[x1, x2] } := (sb.2 _ (Nat.ne_of_gt hzl)).trans hT
    have new : ObjOk X.prog X.w (upd H s.heap.objs.size (.tup [u1, u2])) h'' s.heap.objs.size (.tup [u1, u2]) :=
      ⟨by show 2 ≤ sizeLine; decide, [x1, x2], .cons r1 (.cons r2 .nil), ⟨_, hT2, rfl, _, rfl⟩⟩
    have I1 : Inv X pins σ (upd H s.heap.objs.size (.tup [u1, u2])) { s with heap := h'', toks := tk } :=
      I.turnedNew (t' := tk) (ch := [z, TI, TO, i1, i2]) (fun c o hb q => (sb.2 c (fun q' => hb (by simp [q']))).trans (hk c o (fun q' => hb (by simp [q'])) (fun q' => hb (by simp [q'])) (fun q' => hb (by simp [q'])) (fun q' => hb (by simp [q'])) q)) hf (Nat.le_refl _) new
    refine ⟨.ref s.heap.objs.size, _, I1, rfl, ⟨_, u1, u2, rfl, I.hok.fresh (Nat.le_refl _), rfl, p1, p2⟩, ⟨z'', ?_, ⟨x1, x2, ?_⟩, ?_, ?_⟩, fun c hcm => ?_⟩
    · exact (sb.2 _ D.a1).trans (hk _ _ D.a1 D.a3 D.a4 D.a5 hTI)
    · exact (sb.2 _ D.a2).trans TO'
    · exact Src.it_at (k1 _ _ d1) fun o q => (sb.2 _ D.a6.symm).trans q
    · exact Src.it_at (k2 _ _ d2) fun o q => (sb.2 _ D.a8.symm).trans q
    · have hlt : c < s.heap.objs.size := by
        have e' : c = z ∨ c = TI ∨ c = TO ∨ c = i1 ∨ c = i2 := by simpa using hcm
        rcases e' with q | q | q | q | q
        · rw [q]; exact hzl
        · rw [q]; exact Heap.lt_size hTI
        · rw [q]; exact Heap.lt_size hTO
        · rw [q]; exact Heap.lt_size g1
        · rw [q]; exact Heap.lt_size g2
      rw [upd_ne (Nat.ne_of_lt hlt)]
      exact (hf c hcm).1
  done := by
    intro X hP hw hK hc i pins s σ H E I hf st hg
    subst hP hw hK
    obtain ⟨hz, hTI, ⟨x0, y0, hTO⟩, h1, h2⟩ := st
    obtain ⟨n1, n2, l1, l2, b1, b2, b3⟩ := hg
    obtain ⟨fp1, P1, St1, D1, m1, f1, st1, k1, v1⟩ := Src.draws I hc S1 n1 l1 i1 h1
    obtain ⟨fp2, P2, St2, D2, m2, f2, st2, k2, v2⟩ := Src.draws I hc S2 n2 l2 i2 h2
    have nl : ∀ {b : Addr} {o : Obj} {fp : List Addr} {it : Addr}, s.heap.get? b = some o → o.cls ≠ .type "list" → b ≠ it → (∀ b ∈ fp, b = it ∨ ∃ o, s.heap.get? b = some o ∧ o.cls = .type "list") → b ∉ fp := fun e c n f hb => by
      rcases f _ hb with q | ⟨o', e', c'⟩
      · exact n q
      · rw [e] at e'; cases e'; exact c c'
    obtain ⟨o1, g1, c1⟩ := Src.it_cls h1
    obtain ⟨o2, g2, c2⟩ := Src.it_cls h2
    have sep : ZipSep2 z TI TO i1 i2 fp1 fp2 :=
      ⟨D.a1, D.a2, D.a3, D.a4, m1, nl hz (by intro q; exact absurd (Value.type.inj q) (by decide)) D.a6 f1, nl hTO (by intro q; exact absurd (Value.type.inj q) (by decide)) D.a7 f1, D.a5, m2, nl hz (by intro q; exact absurd (Value.type.inj q) (by decide)) D.a8 f2, nl hTO (by intro q; exact absurd (Value.type.inj q) (by decide)) D.a9 f2, nl g1 c1 D.a10 f2, nl g2 c2 D.a10.symm f1⟩
    refine wpAny_pyNext_zipD2_end sep D1 D2 hz hTI hTO st1 st2 b1 b2 b3 fun h' tk hk => ⟨rfl, I.turnedL (t' := tk) (ch := [z, TI, TO, i1, i2]) (fun c o hb q =>
      hk c o (fun q' => hb (by simp [q'])) (fun q' => hb (by simp [q'])) (fun q' => hb (by simp [q'])) (fun q' => hb (by simp [q'])) q) hf⟩
  self := fun A i s Q E st h => wpAny_pyIter_zip st.1 h
/-- a thing that zip takes -/
inductive SrcOf (K : PySem.W.Frag) (H : Hp) : V → Src → Prop
  | tx (x : Str) (t : Tok) : SrcOf K H (.str x) (.tx x t)
  | ls {a : Addr} {xs : List V} : SqL K H a xs → SrcOf K H (.ref a) (.ls a)
def iZipG (K : PySem.W.Frag) (ta : TA) : TI := fun σ H R => ta σ H fun vs H1 => ∃ x y, vs = [x, y] ∧ ((∃ z, x = .str z) ∨ ∃ a xs, x = .ref a ∧ SqL K H1 a xs) ∧ ((∃ z, y = .str z) ∨ ∃ a xs, y = .ref a ∧ SqL K H1 a xs) ∧
  ∀ S1 S2, SrcOf K H1 x S1 → SrcOf K H1 y S2 → R (ItzG K S1 S2) H1
theorem begins_src {X : Cx} {pins : List (Addr × Obj)} {σ : L2.St} {H : Hp} {s : Shared} (I : Inv X pins σ H s) {v : V} {u : Value} (r : RelV v u) (h : (∃ z, v = .str z) ∨ ∃ a xs, v = .ref a ∧ SqL X.K H a xs) :
    ∃ S o G, SrcOf X.K H v S ∧ Begins u o G ∧ G s.heap ∧ (∀ (h' : Heap) a, h'.get? a = some o → S.it a 0 h') := by
  rcases h with ⟨z, rfl⟩ | ⟨a, xs, rfl, hs⟩
  · obtain ⟨t, rfl⟩ := r
    exact ⟨.tx z t, _, _, .tx z t, begins_text z t, trivial, fun h' a e => ⟨_, e, rfl, rfl⟩⟩
  · cases r
    obtain ⟨its, rv, pl, hz⟩ := I.list hs
    exact ⟨.ls a, _, _, .ls hs, begins_list a its.toArray, pl.isList, fun h' b e => ⟨_, e, rfl, rfl⟩⟩
theorem pi_zipG {X : Cx} {e e2 : Expr} {ta : TA} {p pos tpos : Pos} {elts : List Expr} {kk : Nat} (hg : Gl X "zip") (hm : X.mg "zip" = none) (ha : PA X [e, e2] ta)
    (hs : starEach [e, e2] X.env = (false, eval e X.env) :: starEach [e2] X.env := by rfl) (hpl : (backTo pos (starEach [e2] X.env)).any (·.1) = false := by rfl) :
    PI X (.Tuple elts kk tpos) (.Call (.Name "zip" p) [e, e2] [] pos) (iZipG X.K ta) := by
  refine ⟨fun pins s σ H R I h => ?_⟩
  refine PyProof.Rows.Call_ (ld_blt I hg hm PyProof.Rows.boot_zip (PyProof.Rows.callWith_type1 (thn (ha.run pos pins s σ H _ I h) fun us s1 ⟨vs, H1, I1, r1, q1⟩ => ?_) hs hpl))
  obtain ⟨x, y, rfl, hx, hy, q⟩ := q1
  cases r1 with
  | cons r rr =>
    cases rr with
    | cons r' rr =>
      cases rr
      obtain ⟨S1, o1, G1, so1, B1, g1, k1⟩ := begins_src I1 r hx
      obtain ⟨S2, o2, G2, so2, B2, g2, k2⟩ := begins_src I1 r' hy
      refine zip_begins2 B1 B2 g1 g2 fun h' hz hTI hTO h1 h2 hsz hk => wpAny_pyIter_zip hz ?_
      have I2 : Inv X pins σ H1 { s1 with heap := h' } := I1.kept (t' := s1.toks) hk
      refine ⟨s1.heap.objs.size + 4, [s1.heap.objs.size + 4, s1.heap.objs.size + 2, s1.heap.objs.size + 3, s1.heap.objs.size, s1.heap.objs.size + 1], _, _, H1, rfl, I2,
        turn_zipG ⟨?_, ?_, ?_, ?_, ?_, ?_, ?_, ?_, ?_, ?_⟩, ⟨hz, hTI, ⟨_, _, hTO⟩, k1 _ _ h1, k2 _ _ h2⟩, fun c hcm => ?_, q S1 S2 so1 so2⟩
      rotate_right
      · have e' : c = s1.heap.objs.size + 4 ∨ c = s1.heap.objs.size + 2 ∨ c = s1.heap.objs.size + 3 ∨ c = s1.heap.objs.size ∨ c = s1.heap.objs.size + 1 := by simpa using hcm
        have hle : s1.heap.objs.size ≤ c := by
          rcases e' with z | z | z | z | z
          · rw [z]; exact Nat.le_add_right _ _
          · rw [z]; exact Nat.le_add_right _ _
          · rw [z]; exact Nat.le_add_right _ _
          · rw [z]; exact Nat.le_refl _
          · rw [z]; exact Nat.le_add_right _ _
        exact I1.fpOk hle (I1.hok.fresh hle)
      all_goals (intro q; have q' : (_ : Nat) = _ := q; omega)
end DL
end
section
namespace DL
open PySem L2 PySem.Spec PyProof.Rows
section
variable {X : Cx} {F0 H0 : Hp} {e a b c k : Expr} {pos p2 : Pos}
def tRv (K : PySem.W.Frag) (te tk : TE) : TE := fun σ H Q => te σ H fun x H1 => tk σ H1 fun y H2 => y = .int (-1) ∧
  ((∃ z, x = .str z ∧ z.length ≤ sizeLine ∧ Q (.str ⟨z.cps.toList.reverse.toArray⟩) H2) ∨ ∃ a xs, x = .ref a ∧ SqL K H2 a xs ∧ ∀ p, H2 p = none → Q (.ref p) (upd H2 p (.lst xs.reverse)))
theorem str_rev (z : Str) : (Builtin.Str.strSliceIndices none none (-1) z.length).filterMap (z.cps[·]?) = z.cps.toList.reverse := by
  have h : Builtin.Str.strSliceIndices none none (-1) z.length = sliceRange ((z.length : Int) - 1) (-1) (-1) := rfl
  rw [h, PySem.W.krv_sliceRange, PySem.W.krv_range]
  have : z.length = z.cps.size := rfl
  rw [this, List.filterMap_reverse, PySem.W.krv_all]
theorem pe_rev {te tk : TE} (he : PE X e te) (hk : PE X k tk) : PE X (.Subscript e (.Slice none none (some k) p2) pos) (tRv X.K te tk) := by
  refine ⟨fun pins s σ H Q I h => ?_⟩
  refine Subscript_ (thn (he.run pins s σ H _ I h) fun v s1 ⟨x, H1, I1, r1, q1⟩ => ?_)
  refine wpAny_Slice ?_
  rw [evalPart_none]
  refine wpAny_pure ?_
  refine wpAny_pure ?_
  rw [evalPart_some]
  refine thn (hk.run pins s1 σ H1 _ I1 q1) fun vk s2 ⟨y, H2, I2, r2, ey, q2⟩ => ?_
  subst ey
  obtain ⟨t, rfl⟩ := r2
  have I4 : Inv X pins σ H2 { s2 with heap := s2.heap.push { cls := .type "slice", data := .fields #[.none, .none, .int (-1) t] } } := I2.kept (t' := s2.toks) fun b ob q => Heap.get?_push_of_some _ q
  have hsl : (s2.heap.push { cls := .type "slice", data := .fields #[.none, .none, .int (-1) t] }).IsSliceOf s2.heap.objs.size .none .none (.int (-1) t) := Heap.IsSliceOf.new ..
  show wpAny (model X.prog X.w) X.A (subscriptTail e (.Slice none none (some k) p2) v (.ref s2.heap.objs.size)) (EP X pins σ Q) X.xe _
  rcases q2 with ⟨z, rfl, hz, q⟩ | ⟨a, xs, rfl, hx, q⟩
  · obtain ⟨tz, rfl⟩ := r1
    refine tail_any (T := "str") (ops := [.str z tz, .ref s2.heap.objs.size]) (typeIs_str _ _ _) F.slot_str_getitem.lookup ?_ (by first | rfl | (unfold subscripted; rfl) | simp [subscripted])
    refine wpAny_getItem_str_slice (l := none) (u := none) (st := some (-1, t)) hsl rfl ?_
    have e : (sliceMade z tz none none (some (-1, t))) = .str ⟨z.cps.toList.reverse.toArray⟩ := by
      unfold sliceMade slicePicked
      rw [if_neg (by intro h; cases h)]
      show Made.str ⟨((Builtin.Str.strSliceIndices none none (-1) z.length).filterMap (z.cps[·]?)).toArray⟩ = _
      rw [str_rev]
    rw [e]
    refine ⟨?_, .str _, H2, I4.tok _, ⟨_, rfl⟩, q⟩
    have : (⟨z.cps.toList.reverse.toArray⟩ : Str).length = z.length := by simp [Str.length]
    rw [this]; exact hz
  · cases r1
    obtain ⟨its, r, ht, hz⟩ := I4.list hx
    have hlen := r.length
    refine tail_any (T := "list") (ops := [.ref a, .ref s2.heap.objs.size]) ht.isList.typeIs slot_list_getitem.lookup ?_ (by first | rfl | (unfold subscripted; rfl) | simp [subscripted])
    refine wpAny_getItem_list_slice ht.isList hsl .none .none (.int (-1) t) (by simp) ?_ (by rw [List.size_toArray]; omega)
    rw [PySem.W.krv_pick, show its.toArray.toList = its from rfl]
    have hr : Vals xs.reverse its.reverse := by
      clear hx hz ht hlen q
      induction r with
      | nil => exact .nil
      | cons r1 r2 ih => rw [List.reverse_cons, List.reverse_cons]; exact Vals.append ih (.cons r1 .nil)
    refine ⟨.ref _, _, I4.laid (t' := s2.toks) (o := .lst xs.reverse) (fun b ob q => Heap.get?_push_of_some _ q) (Nat.le_refl _) ?_, rfl, q _ (I4.hok.fresh (Nat.le_refl _))⟩
    exact ⟨by rw [List.length_reverse]; exact hz, its.reverse, 0, hr, Heap.get?_push_size _ rfl⟩
def dRev : DR1
  | .lst xs, P => P (.lst xs.reverse)
  | .str xs, P => P (.str xs.reverse)
  | _, _ => False
def dRv (da dk : DE) : DE := fun ρ P => da ρ fun x => dk ρ fun y => match y with | .int i => i = -1 ∧ dRev x P | _ => False
theorem RepL.rev {K : PySem.W.Frag} {F : Hp} : ∀ {v : List V} {d : List D}, RepL K F v d → RepL K F v.reverse d.reverse
  | _, _, .nil => .nil
  | _, _, .cons h r => by rw [List.reverse_cons, List.reverse_cons]; exact (RepL.rev r).append (.cons h .nil)
theorem le_rev {da dk : DE} (ha : LB X F0 H0 a da) (hk : LE X F0 H0 k dk) : LE X F0 H0 (.Subscript a (.Slice none none (some k) p2) pos) (dRv da dk) :=
  peW (pe_rev ha hk) fun σ H Q ⟨F, ρ, fps, P, E, q, kk⟩ => ⟨F, ρ, fps, _, E, q, fun x hx F1 H1 v e1 r1 => ⟨F1, ρ, fps, _, E.ext e1, hx, fun y hy F2 H2 w e2 r2 => by
    cases y <;> first | exact hy.elim | skip
    obtain ⟨rfl, hy⟩ := hy
    cases r2
    refine ⟨rfl, ?_⟩
    have r1 := r1.ext e2
    cases x with
    | str z =>
      obtain ⟨rfl, h1, h2⟩ := r1.str
      refine .inl ⟨_, rfl, by rw [strOf_len]; exact h1, kk _ hy F2 H2 _ (e1.trans e2) ?_⟩
      exact .str z.reverse (by rw [List.length_reverse]; exact h1) (okTx_sub h2 fun c h => by simpa using h)
    | lst z =>
      obtain ⟨p, vs, rfl, s, r, hz⟩ := r1.lst e2.w
      refine .inr ⟨_, vs, rfl, s, fun p hp => kk _ hy _ _ _ ((e1.trans e2).trans (.new e2.w hp)) (rep_newL e2.w hp r.rev (by rw [List.length_reverse]; exact hz))⟩
    | _ => exact hy.elim⟩⟩
end
end DL
end
section
namespace DL
open PySem L2 PySem.Spec PyProof.Rows
section
variable {X : Cx} {tg e : Expr}
def iAny (K : PySem.W.Frag) (te : TE) : TI := fun σ H R => te σ H fun x H1 => (∃ a, x = .ref a ∧ (∃ xs, SqL K H1 a xs) ∧ R (Itl K a) H1) ∨ ((∃ a, x = .ref a ∧ (∃ xs, SqT K H1 a xs) ∧ R (Itt K a) H1) ∨ ∃ z, x = .str z ∧ R (Its z) H1)
theorem pi_any {te : TE} (hl : PE X e te) : PI X tg e (iAny X.K te) := by
  refine ⟨fun pins s σ H R I h => ?_⟩
  refine thn (hl.run pins s σ H _ I h) fun v s1 ⟨x, H1, I1, r1, q1⟩ => ?_
  rcases q1 with ⟨a, e, ⟨xs, hq⟩, q⟩ | ⟨a, e, ⟨xs, hq⟩, q⟩ | ⟨z, e, q⟩
  · subst e
    cases r1
    obtain ⟨its, rv, p, hz⟩ := I1.list hq
    refine wpAny_pyIter_list p.isList ?_
    refine ⟨s1.heap.objs.size, [s1.heap.objs.size], _, _, H1, rfl, I1.kept (t' := s1.toks) fun b o e => Heap.get?_push_of_some _ e, turn_list a _, ⟨_, Heap.get?_push_size _ rfl, rfl, rfl⟩, fun b hb => ?_, q⟩
    have e : b = s1.heap.objs.size := by simpa using hb
    subst e
    exact I1.fpOk (Nat.le_refl _) (I1.hok.fresh (Nat.le_refl _))
  · subst e
    cases r1
    obtain ⟨its, rv, p, hz⟩ := I1.tuple hq
    refine wpAny_pyIter_tuple (show s1.heap.IsTuple a its.toArray from p) ?_
    refine ⟨s1.heap.objs.size, [s1.heap.objs.size], _, _, H1, rfl, I1.kept (t' := s1.toks) fun b o e => Heap.get?_push_of_some _ e, turn_tuple a _, ⟨_, Heap.get?_push_size _ rfl, rfl, rfl⟩, fun b hb => ?_, q⟩
    have e : b = s1.heap.objs.size := by simpa using hb
    subst e
    exact I1.fpOk (Nat.le_refl _) (I1.hok.fresh (Nat.le_refl _))
  · subst e
    obtain ⟨t, rfl⟩ := r1
    cases ha : z.cps.all (· < 128)
    · exact wpAny_pyIter_wide ha (pi_one (tk := s1.toks) I1 _ (turn_str _ z t "str_iterator" (.inr rfl)) ⟨_, Heap.get?_push_size _ rfl, rfl, rfl⟩ q)
    · exact wpAny_pyIter_ascii ha (pi_one (tk := s1.toks) I1 _ (turn_str _ z t "str_ascii_iterator" (.inl rfl)) ⟨_, Heap.get?_push_size _ rfl, rfl, rfl⟩ q)
end
end DL
namespace DL
open PySem L2
section
variable {X : Cx} {F0 H0 : Hp} {e a b c tg : Expr} {pos : Pos}
theorem it_list {K : PySem.W.Frag} {F : Hp} {a : Addr} {vs : List V} {xs : List D} (s : SqL K F a vs) (r : RepL K F vs xs) : ItRep K F (Itl K a) xs where
  go := fun H i e hi => by
    have hv : i < vs.length := by rw [r.length]; exact hi
    exact ⟨vs, vs[i], e.seq s, by simp [hv]⟩
  stop := fun H e => ⟨vs, e.seq s, by rw [r.length]; exact Nat.le_refl _⟩
  yld := fun F1 H i v H' x e1 e2 y hx => by
    obtain ⟨rfl, y⟩ := y
    obtain ⟨u, hu, ru⟩ := r.getD hx
    have := y vs (e2.seq (e1.seq s))
    rw [hu] at this
    cases this
    exact ⟨F1, .refl e2, ru.mono e1⟩
theorem it_tup {K : PySem.W.Frag} {F : Hp} {a : Addr} {vs : List V} {xs : List D} (s : SqT K F a vs) (r : RepL K F vs xs) : ItRep K F (Itt K a) xs where
  go := fun H i e hi => by
    have hv : i < vs.length := by rw [r.length]; exact hi
    exact ⟨vs, vs[i], L2same_seqT e s, by simp [hv]⟩
  stop := fun H e => ⟨vs, L2same_seqT e s, by rw [r.length]; exact Nat.le_refl _⟩
  yld := fun F1 H i v H' x e1 e2 y hx => by
    obtain ⟨rfl, y⟩ := y
    obtain ⟨u, hu, ru⟩ := r.getD hx
    have := y vs (L2same_seqT e2 (L2same_seqT e1 s))
    rw [hu] at this
    cases this
    exact ⟨F1, .refl e2, ru.mono e1⟩
def signs (z : Tx) : List D := z.map fun c => .str [c]
theorem it_str {K : PySem.W.Frag} {F : Hp} {z : Tx} (ok : okTx z = true) : ItRep K F (Its (strOf z)) (signs z) where
  go := fun H i e hi => by
    simp only [signs, List.length_map] at hi
    show i < (strOf z).cps.size
    simpa [strOf] using hi
  stop := fun H e => by
    show (strOf z).cps.size ≤ (signs z).length
    simp [strOf, signs]
  yld := fun F1 H i v H' x e1 e2 y hx => by
    obtain ⟨rfl, c, hc, rfl⟩ := y
    simp only [signs, List.getElem?_map] at hx
    have hz : z[i]? = some c := by simpa [strOf] using hc
    rw [hz] at hx
    cases hx
    exact ⟨F1, .refl e2, .str [c] (by show 1 ≤ sizeLine; decide) (okTx_one ok (List.mem_of_getElem? hz))⟩
/-- what a loop walks: a list, a tuple, a text -/
def itemsD : D → Option (List D)
  | .lst xs => some xs
  | .tup xs => some xs
  | .str z => some (signs z)
  | _ => none
def dIt (da : DE) : DI := fun ρ P => da ρ fun x => match itemsD x with | some xs => P xs | none => False
theorem li_any {da : DE} (ha : LE X F0 H0 e da) : LI X F0 H0 tg e (dIt da) :=
  piW (pi_any ha) fun σ H R ⟨F, ρ, fps, P, E, q, k⟩ => ⟨F, ρ, fps, _, E, q, fun x hx F1 H1 v e1 r1 => by
    cases r1 with
    | lst s z r => exact .inl ⟨_, rfl, ⟨_, e1.w.seq s⟩, k _ hx F1 H1 _ e1 (it_list s r).toB⟩
    | tup s z r => exact .inr (.inl ⟨_, rfl, ⟨_, L2same_seqT e1.w s⟩, k _ hx F1 H1 _ e1 (it_tup s r).toB⟩)
    | str z h1 h2 => exact .inr (.inr ⟨_, rfl, k _ hx F1 H1 _ e1 (it_str h2).toB⟩)
    | _ => exact False.elim hx⟩
/-- a borrowed list's items -/
def dItB (i : Nat) : DI := fun ρ P => match ρ[i]? with | some (.sh d) => (match itemsD d with | some xs => P xs | none => False) | some (.bo d) => (match itemsD d with | some xs => P xs | none => False) | _ => False
theorem li_bo {i : Nat} (ha : PE X e (tVar i)) : LI X F0 H0 tg e (dItB i) :=
  piW (pi_any ha) fun σ H R ⟨F, ρ, fps, P, E, q, k⟩ => by
    unfold dItB at q
    have go : ∀ v x, Rep X.K F v x → (match itemsD x with | some xs => P xs | none => False) → σ[i]? = some (some v) → iAny X.K (tVar i) σ H R := fun v x r1 hx hv => ⟨v, hv, by
      cases r1 with
      | lst s z r => exact .inl ⟨_, rfl, ⟨_, E.x.w.seq s⟩, k _ hx F H _ (.refl E.x.w) (it_list s r).toB⟩
      | tup s z r => exact .inr (.inl ⟨_, rfl, ⟨_, L2same_seqT E.x.w s⟩, k _ hx F H _ (.refl E.x.w) (it_tup s r).toB⟩)
      | str z h1 h2 => exact .inr (.inr ⟨_, rfl, k _ hx F H _ (.refl E.x.w) (it_str h2).toB⟩)
      | _ => exact False.elim hx⟩
    cases hs : ρ[i]? with
    | none => rw [hs] at q; exact q.elim
    | some sl =>
      rw [hs] at q
      obtain ⟨y, fp, h1, _, h3⟩ := E.s.get hs
      cases sl with
      | sh d =>
        cases h3 with
        | sh r => exact go _ _ r q h1
      | bo d =>
        cases h3 with
        | bo r =>
          rcases r with r | ⟨fp, o, nt⟩
          · exact go _ _ (r.mono E.x.f) q h1
          · cases o with
            | lst h r z n =>
              refine ⟨_, h1, .inl ⟨_, rfl, ⟨_, .of (E.x.h _ _ h)⟩, k _ q F H _ (.refl E.x.w) ⟨fun H' i _ e hi => ?_, fun H' _ e => ⟨_, .of (e _ _ h), by rw [r.length]; exact Nat.le_refl _⟩, fun F1 H' i v H2 x e1 e2 e y hx => ?_⟩⟩⟩
              · have hv : i < _ := r.length ▸ hi
                exact ⟨_, _, .of (e _ _ h), List.getElem?_eq_getElem hv⟩
              · obtain ⟨rfl, y⟩ := y
                obtain ⟨u, hu, ru⟩ := r.getD hx
                have := y _ (.of (e _ _ h))
                rw [hu] at this
                cases this
                exact ⟨F1, .refl e2, ru.mono (E.x.f.trans e1)⟩
            | obj => exact q.elim
            | tup => exact nt.elim
      | _ => exact q.elim
def rngD (lo : Int) (n : Nat) : List D := (List.range n).map fun i => .int (lo + (i : Nat))
theorem it_rng {K : PySem.W.Frag} {F : Hp} {lo : Int} {n : Nat} : ItRep K F (Itr lo n) (rngD lo n) where
  go := fun H i e hi => by have : i < n := by simpa [rngD] using hi
                           exact this
  stop := fun H e => by have : n ≤ (rngD lo n).length := by simp [rngD]
                        exact this
  yld := fun F1 H i v H' x e1 e2 y hx => by
    obtain ⟨rfl, rfl⟩ := y
    simp only [rngD, List.getElem?_map] at hx
    cases q : (List.range n)[i]? with
    | none => rw [q] at hx; cases hx
    | some j =>
      rw [q] at hx
      have hj : j = i := by
        obtain ⟨h1, h2⟩ := List.getElem?_eq_some_iff.mp q
        simpa using h2.symm
      subst hj
      cases hx
      exact ⟨F1, .refl e2, .int _⟩
def inLine (i : Int) : Prop := -(2 ^ 62) ≤ i ∧ i < 2 ^ 62
def dRng1 (da : DA) : DI := fun ρ P => da ρ fun xs => match xs with | [.int n] => inLine n ∧ P (rngD 0 n.toNat) | _ => False
theorem BRepL.int1 {K : PySem.W.Frag} {F H : Hp} {vs : List V} {n : Int} (r : BRepL K F H vs [.int n]) : vs = [.int n] := by
  cases r with
  | cons r rr => cases rr; rw [r.int]
theorem li_rng1 {da : DA} {p : Pos} (hg : Gl X "range") (hm : X.mg "range" = none) (ha : LAB X F0 H0 [a] da) (hs : starEach [a] X.env = [(false, eval a X.env)] := by rfl) : LI X F0 H0 tg (.Call (.Name "range" p) [a] [] pos) (dRng1 da) :=
  piW (pi_range1 hg hm ha hs) fun σ H R ⟨F, ρ, fps, P, E, q, k⟩ => ⟨F, ρ, fps, _, E, q, fun xs hx F1 H1 v e1 r1 => by
    split at hx
    · cases r1.int1
      exact ⟨_, rfl, hx.1.1, hx.1.2, k _ hx.2 F1 H1 _ e1 it_rng.toB⟩
    · exact False.elim hx⟩
def dRng2 (da : DA) : DI := fun ρ P => da ρ fun xs => match xs with | [.int m, .int n] => (inLine m ∧ inLine n) ∧ P (rngD m (n - m).toNat) | _ => False
theorem li_rng2 {da : DA} {p : Pos} (hg : Gl X "range") (hm : X.mg "range" = none) (ha : LAB X F0 H0 [a, b] da) (hs : starEach [a, b] X.env = [(false, eval a X.env), (false, eval b X.env)] := by rfl) (hs2 : starEach [b] X.env = [(false, eval b X.env)] := by rfl) : LI X F0 H0 tg (.Call (.Name "range" p) [a, b] [] pos) (dRng2 da) :=
  piW (pi_range2 hg hm ha hs hs2) fun σ H R ⟨F, ρ, fps, P, E, q, k⟩ => ⟨F, ρ, fps, _, E, q, fun xs hx F1 H1 v e1 r1 => by
    split at hx
    · cases r1 with
      | cons r rr =>
        cases rr.int1
        cases r.int
        exact ⟨_, _, rfl, ⟨hx.1.1.1, hx.1.1.2, hx.1.2.1, hx.1.2.2⟩, k _ hx.2 F1 H1 _ e1 it_rng.toB⟩
    · exact False.elim hx⟩
/-- zip of lists, texts -/
def zipItems : D → Option (List D)
  | .lst xs => some xs
  | .str z => some (signs z)
  | _ => none
def dZip (da : DA) : DI := fun ρ P => da ρ fun vs => match vs with
  | [x, y] => (match zipItems x, zipItems y with | some xs, some ys => P ((xs.zip ys).map fun p => .tup [p.1, p.2]) | _, _ => False)
  | _ => False
theorem src_has {K : PySem.W.Frag} {F H F1 : Hp} {v : V} {x : D} {xs : List D} {S : Src} (r : Rep K F v x) (e : Same F F1) (w : Same F1 H) (h : zipItems x = some xs) (so : ∃ G, SrcOf K G v S) :
    S.len K H xs.length ∧ ∀ i u y, S.has K H i u → xs[i]? = some y → Rep K F1 u y := by
  obtain ⟨G, so⟩ := so
  cases r with
  | lst s z r =>
    cases h
    cases so with
    | ls s' =>
      refine ⟨⟨_, w.seq (e.seq s), r.length.symm⟩, fun i u y q1 hy => ?_⟩
      obtain ⟨u', hu, ru⟩ := r.getD hy
      have := q1 _ (w.seq (e.seq s))
      rw [hu] at this
      cases this
      exact ru.mono e
  | str z h1 h2 =>
    cases h
    cases so with
    | tx _ t =>
      refine ⟨by simp [signs, Src.len, strOf], fun i u y ⟨c, q1, q2⟩ hy => ?_⟩
      subst q2
      have hz : z[i]? = some c := by simpa [strOf] using q1
      simp [signs, hz] at hy
      subst hy
      exact .str [c] (by show 1 ≤ sizeLine; decide) (okTx_one h2 (List.mem_of_getElem? hz))
  | _ => cases h
theorem it_zip {K : PySem.W.Frag} {F G : Hp} {v w : V} {x y : D} {xs ys : List D} {S1 S2 : Src} (r1 : Rep K F v x) (r2 : Rep K F w y) (h1 : zipItems x = some xs) (h2 : zipItems y = some ys) (s1 : SrcOf K G v S1) (s2 : SrcOf K G w S2) :
    ItRep K F (ItzG K S1 S2) ((xs.zip ys).map fun p => .tup [p.1, p.2]) where
  go := fun H i e hi => by
    have a1 := (src_has r1 (.refl F) e h1 ⟨G, s1⟩).1
    have a2 := (src_has r2 (.refl F) e h2 ⟨G, s2⟩).1
    simp at hi
    exact ⟨_, _, a1, a2, by omega, by omega⟩
  stop := fun H e => by
    have a1 := (src_has r1 (.refl F) e h1 ⟨G, s1⟩).1
    have a2 := (src_has r2 (.refl F) e h2 ⟨G, s2⟩).1
    refine ⟨_, _, a1, a2, ?_, ?_, ?_⟩ <;> simp <;> omega
  yld := fun F1 H i u H' z e1 e2 q hz => by
    have a1 := (src_has r1 e1 e2 h1 ⟨G, s1⟩).2
    have a2 := (src_has r2 e1 e2 h2 ⟨G, s2⟩).2
    obtain ⟨T, u1, u2, rfl, nT, rfl, p1, p2⟩ := q
    simp only [List.getElem?_map] at hz
    cases hq : (xs.zip ys)[i]? with
    | none => rw [hq] at hz; cases hz
    | some p =>
      rw [hq] at hz
      cases hz
      obtain ⟨g1, g2⟩ := List.getElem?_zip_eq_some.mp hq
      exact ⟨_, .new e2 nT, rep_newT e2 nT (.cons (a1 _ _ _ p1 g1) (.cons (a2 _ _ _ p2 g2) .nil)) (by show 2 ≤ sizeLine; decide)⟩
theorem rep_src {K : PySem.W.Frag} {F H : Hp} {v : V} {x : D} {xs : List D} (r : Rep K F v x) (e : Same F H) (h : zipItems x = some xs) : (∃ z, v = .str z) ∨ ∃ a vs, v = .ref a ∧ SqL K H a vs := by
  cases r with
  | lst s z r => exact .inr ⟨_, _, rfl, e.seq s⟩
  | str z h1 h2 => exact .inl ⟨_, rfl⟩
  | _ => cases h
theorem li_zip {da : DA} {p tpos : Pos} {elts : List Expr} {kk : Nat} (hg : Gl X "zip") (hm : X.mg "zip" = none) (ha : LA X F0 H0 [a, b] da)
    (hs : starEach [a, b] X.env = (false, eval a X.env) :: starEach [b] X.env := by rfl) (hpl : (backTo pos (starEach [b] X.env)).any (·.1) = false := by rfl) :
    LI X F0 H0 (.Tuple elts kk tpos) (.Call (.Name "zip" p) [a, b] [] pos) (dZip da) :=
  piW (pi_zipG hg hm ha hs hpl) fun σ H R ⟨F, ρ, fps, P, E, q, k⟩ => ⟨F, ρ, fps, _, E, q, fun vs hx F1 H1 us e1 r1 => by
    split at hx
    · cases r1 with
      | cons r rr =>
        cases rr with
        | cons r' rr =>
          cases rr
          split at hx
          · rename_i h1 h2
            exact ⟨_, _, rfl, rep_src r e1.w h1, rep_src r' e1.w h2, fun S1 S2 s1 s2 => k _ hx F1 H1 _ e1 (it_zip r r' h1 h2 s1 s2).toB⟩
          · exact False.elim hx
    · exact False.elim hx⟩
/-- enumerate(list) -/
def dEnum (da : DA) : DI := fun ρ P => da ρ fun vs => match vs with
  | [.lst xs] => P ((List.range xs.length).zip xs |>.map fun p => .tup [.int (p.1 : Nat), p.2])
  | _ => False
theorem it_enum {K : PySem.W.Frag} {F : Hp} {a : Addr} {vs : List V} {xs : List D} (s : SqL K F a vs) (r : RepL K F vs xs) : ItRep K F (Ite K a) ((List.range xs.length).zip xs |>.map fun p => .tup [.int (p.1 : Nat), p.2]) where
  go := fun H i e hi => by
    simp at hi
    have hv : i < vs.length := by rw [r.length]; exact hi
    exact ⟨vs, vs[i], e.seq s, by simp [hv]⟩
  stop := fun H e => ⟨vs, e.seq s, by rw [r.length]; simp⟩
  yld := fun F1 H i v H' x e1 e2 y hx => by
    obtain ⟨T, u, rfl, nT, rfl, y⟩ := y
    simp only [List.getElem?_map] at hx
    cases hq : ((List.range xs.length).zip xs)[i]? with
    | none => rw [hq] at hx; cases hx
    | some p =>
      rw [hq] at hx
      cases hx
      obtain ⟨g1, g2⟩ := List.getElem?_zip_eq_some.mp hq
      obtain ⟨u', hu, ru⟩ := r.getD g2
      have := y vs (e2.seq (e1.seq s))
      rw [hu] at this
      cases this
      have hp : p.1 = i := by
        obtain ⟨h1, h2⟩ := List.getElem?_eq_some_iff.mp g1
        simpa using h2.symm
      subst hp
      exact ⟨_, .new e2 nT, rep_newT e2 nT (.cons (.int _) (.cons (ru.mono e1) .nil)) (by show 2 ≤ sizeLine; decide)⟩
theorem li_enum {da : DA} {p tpos : Pos} {elts : List Expr} {kk : Nat} (hg : Gl X "enumerate") (hm : X.mg "enumerate" = none) (ha : LA X F0 H0 [a] da) (hs : starEach [a] X.env = [(false, eval a X.env)] := by rfl) :
    LI X F0 H0 (.Tuple elts kk tpos) (.Call (.Name "enumerate" p) [a] [] pos) (dEnum da) :=
  piW (pi_enum hg hm ha hs) fun σ H R ⟨F, ρ, fps, P, E, q, k⟩ => ⟨F, ρ, fps, _, E, q, fun vs hx F1 H1 us e1 r1 => by
    split at hx
    · cases r1 with
      | cons r rr =>
        cases rr
        cases r with
        | lst s z r => exact ⟨_, _, rfl, e1.w.seq s, k _ hx F1 H1 _ e1 (it_enum s r).toB⟩
    · exact False.elim hx⟩

def wipeR (ρ : Rh) : List Nat → Rh
  | [] => ρ
  | v :: vs => (wipeR ρ vs).set v .no
theorem ERep.wipe {K : PySem.W.Frag} {F0 H0 F H : Hp} {σ : L2.St} {ρ : Rh} {fps : List (List Addr)} (R : ERep K F0 H0 F H σ ρ fps) : ∀ vs : List Nat, ∃ fps', ERep K F0 H0 F H (L2.wipe σ vs) (wipeR ρ vs) fps'
  | [] => ⟨fps, R⟩
  | v :: vs => by
    obtain ⟨fps', R'⟩ := ERep.wipe R vs
    exact ⟨fps'.set v [], R'.x, R'.s.set .no v, R'.p.set_nil v⟩
theorem L2wipe_wipe (σ : L2.St) (vs : List Nat) : L2.wipe (L2.wipe σ vs) vs = L2.wipe σ vs :=
  Agr.wipe (is := vs) (vs := vs) ⟨L2.wipe_length σ vs, fun j h => L2.wipe_out h⟩ fun _ h => h
def lcD (vs : List Nat) (dg : DG) (dt : DT) (de : DE) (ρ : Rh) : List D → (List D → Prop) → Prop
  | [], P => P []
  | x :: xs, P => dg x (wipeR ρ vs) fun ρ' => dt ρ' fun b => if b = true then de ρ' fun y => lcD vs dg dt de ρ xs fun ys => P (y :: ys) else lcD vs dg dt de ρ xs P
def dLc (vs : List Nat) (di : DI) (dg : DG) (dt : DT) (de : DE) : DE := fun ρ P => di ρ fun xs => xs.length ≤ sizeLine ∧ lcD vs dg dt de ρ xs fun ys => P (.lst ys)
def dYes : DT := fun _ P => P true
theorem lts_nil : PTs X [] (lowT X.K F0 H0 dYes) := ⟨fun pins s σ H Q I ⟨F, ρ, fps, P, E, q, k⟩ => pts_nil.run pins s σ H Q I (k _ q F H (.refl E.x.w))⟩
theorem lts_one {dt : DT} (h : LT X F0 H0 c dt) : PTs X [c] (lowT X.K F0 H0 dt) := pts_one h
theorem low_lc {vs is : List Nat} {wi : TI} {g : TG} {tt : TT} {te : TE} {di : DI} {dg : DG} {dt : DT} {de : DE} (hi : ∀ σ H R, lowI X.K F0 H0 di σ H R → wi σ H R) (hg : LowG X.K g dg is) (his : ∀ i ∈ is, i ∈ vs)
    (ht : ∀ σ H Q, lowT X.K F0 H0 dt σ H Q → tt σ H Q) (he : ∀ σ H Q, low X.K F0 H0 de σ H Q → te σ H Q) : ∀ σ H Q, low X.K F0 H0 (dLc vs di dg dt de) σ H Q → tLc wi g tt te vs σ H Q := fun σ H Q ⟨F, ρ, fps, P, R, q, k⟩ =>
  hi _ _ _ ⟨F, ρ, fps, _, R, q, fun xs ⟨hz, hx⟩ F1 H1 J e1 it A nA => by
    have nF1 : F1 A = none := e1.w.free nA
    refine ⟨fun i m H2 => m = xs.length - i ∧ i ≤ xs.length ∧ ∃ F2 acc done, Ext F1 H1 F2 H2 ∧ F2 A = none ∧ H2 A = some (.lst acc) ∧ RepL X.K F2 acc done ∧ done.length ≤ i ∧
      lcD vs dg dt de ρ (xs.drop i) fun ys => P (.lst (done ++ ys)), ⟨_, rfl, Nat.zero_le _, F1, [], [], ⟨.refl _, L2same_upd_new nA, e1.w.trans (L2same_upd_new nA), fun _ _ => rfl⟩, nF1, upd_same, .nil, Nat.le_refl _, hx⟩, ?_⟩
    rintro i m H2 ⟨rfl, hi, F2, acc, done, e2, nF2, hA, ra, hl, q2⟩
    by_cases hlt : i < xs.length
    · refine .inr ⟨it.go H2 i (e2.f.trans e2.w) (((R.ext e1).ext e2).x.h) hlt, fun H' => ∃ F2 acc done, Ext F1 H1 F2 H' ∧ F2 A = none ∧ H' A = some (.lst acc) ∧ RepL X.K F2 acc done ∧ done.length ≤ i + 1 ∧
        lcD vs dg dt de ρ (xs.drop (i + 1)) fun ys => P (.lst (done ++ ys)), fun H' n => ⟨_, by omega, rfl, hlt, n⟩, fun v H3 y => ?_⟩
      have hx : xs[i]? = some xs[i] := by simp [hlt]
      obtain ⟨F3, e3, r3⟩ := it.yld F2 H2 i v H3 _ e2.f e2.w (((R.ext e1).ext e2).x.h) y hx
      have ed : xs.drop i = xs[i] :: xs.drop (i + 1) := by simp
      rw [ed] at q2
      unfold lcD at q2
      have up : ∀ {F4 H4 : Hp}, Ext F2 H2 F4 H4 → F4 A = none ∧ H4 A = some (.lst acc) := fun e => ⟨by rw [e.o A (by rw [hA]; simp)]; exact nF2, e.h _ _ hA⟩
      obtain ⟨fpw, Rw⟩ := (((R.ext e1).ext e2).ext e3).wipe vs
      refine hg F0 H0 F3 H3 _ _ fpw v _ _ _ Rw r3 q2 fun ρ4 p4 σ4 fps4 ag R4 => ⟨?_, ?_⟩
      · have := ag.wipe his
        rw [this]
        exact L2wipe_wipe σ vs
      · refine ht _ _ _ ⟨F3, ρ4, fps4, _, R4, p4, fun b hb F4 H4 e4 => ?_⟩
        cases b with
        | true =>
          rw [if_pos rfl] at hb ⊢
          refine he _ _ _ ⟨F4, ρ4, fps4, _, R4.ext e4, hb, fun z hzz F5 H5 u e5 r5 => ?_⟩
          obtain ⟨n5, h5⟩ := up ((e3.trans e4).trans e5)
          have e25 := (e3.trans e4).trans e5
          refine ⟨acc, h5, by rw [ra.length]; omega, F5, acc ++ [u], done ++ [z], ?_, n5, upd_same, (ra.mono e25.f).append (.cons r5 .nil), by simp; omega, ?_⟩
          · have e15 := e2.trans e25
            refine ⟨e15.f, fun b o h => ?_, fun b o h => ?_, e15.o⟩
            · rw [upd_ne (ne_of_none h nA)]; exact e15.h _ _ h
            · rw [upd_ne (ne_of_none h n5)]; exact e15.w _ _ h
          · have : (fun ys => P (.lst (done ++ [z] ++ ys))) = fun ys => P (.lst (done ++ z :: ys)) := by funext ys; simp
            rw [this]; exact hzz
        | false =>
          rw [if_neg Bool.false_ne_true] at hb ⊢
          have e24 := e3.trans e4
          obtain ⟨n4, h4⟩ := up e24
          exact ⟨F4, acc, done, e2.trans e24, n4, h4, ra.mono e24.f, by omega, hb⟩
    · have e : i = xs.length := by omega
      subst e
      rw [List.drop_length] at q2
      refine .inl ⟨it.stop H2 (e2.f.trans e2.w) (((R.ext e1).ext e2).x.h), ?_⟩
      unfold lcD at q2
      rw [List.append_nil] at q2
      have s2 : Same F2 (upd F2 A (.lst acc)) := L2same_upd_new nF2
      refine k _ q2 (upd F2 A (.lst acc)) H2 _ (e1.trans ⟨e2.f.trans s2, e2.h, fun b o h => ?_, fun a n => ?_⟩) (.lst (.of upd_same) (by omega) (ra.mono s2))
      · by_cases hb : b = A
        · subst hb; rw [upd_same] at h; cases h; exact hA
        · rw [upd_ne hb] at h; exact e2.w _ _ h
      · have : a ≠ A := fun z => n (by rw [z]; exact nA)
        rw [upd_ne this]; exact e2.o a n⟩
end
end DL
end
section
namespace DL
open PySem L2
section
variable {X : Cx} {F0 H0 : Hp} {e a b c tg o : Expr} {es : List Expr} {pos p apos : Pos} {x m : Str}

theorem le_lc {elt iter : Expr} {ifs : List Expr} {scope : Scope} {own : List (Str × Nat)} {is : List Nat} {g : TG} {di : DI} {dg : DG} {dt : DT} {de : DE} (hc : X.calm = true) (hN : X.N.Nodup) (hi : LI X F0 H0 tg iter di) (ok : BlkOk X.N X.env.scope scope own)
    (pg : ∀ (s : Shared) (H : Hp) (C : Addr) (cl : List (Str × Addr)) (fp : List Addr), PG (X.blk s H scope (compEnvC scope cl C X.env) fp) tg g) (hg : LowG X.K g dg is) (his : (is.all fun i => (own.map (·.2)).contains i) = true)
    (ht : ∀ (s : Shared) (H : Hp) (C : Addr) (cl : List (Str × Addr)) (fp : List Addr), PTs (X.blk s H scope (compEnvC scope cl C X.env) fp) ifs (lowT X.K F0 H0 dt))
    (he : ∀ (s : Shared) (H : Hp) (C : Addr) (cl : List (Str × Addr)) (fp : List Addr), LE (X.blk s H scope (compEnvC scope cl C X.env) fp) F0 H0 elt de) (hs : ∀ x, foldedSetIterable iter X.env x = pure x := by intro _; rfl) :
    LE X F0 H0 (.ListComp elt [⟨tg, iter, ifs, 0⟩] scope pos) (dLc (own.map (·.2)) di dg dt de) :=
  peW (pe_lc hc hN hi ok pg ht he hs) (low_lc (fun _ _ _ q => q) hg (fun i hi => by simpa using List.all_eq_true.mp his i hi) (fun _ _ _ q => q) fun _ _ _ q => q)
theorem ls_setLc {i : Nat} {y : Str} {py spos : Pos} {elt iter : Expr} {ifs : List Expr} {scope : Scope} {own : List (Str × Nat)} {is : List Nat} {g : TG} {di : DI} {dg : DG} {dt : DT} {de : DE} (hc : X.calm = true) (hN : X.N.Nodup) (hy : X.N[i]? = some y) (hyl : X.env.scope.names.lookup y = some .local)
    (hsw : swapsWith (.ListComp elt [⟨tg, iter, ifs, 0⟩] scope pos) (some (.Name y py)) spos.line X.env = pure true) (hi : LI X F0 H0 tg iter di) (ok : BlkOk X.N X.env.scope scope own)
    (pg : ∀ (s : Shared) (H : Hp) (C : Addr) (cl : List (Str × Addr)) (fp : List Addr), PG (X.blk s H scope (compEnvC scope cl C X.env) fp) tg g) (hg : LowG X.K g dg is) (his : (is.all fun i => (own.map (·.2)).contains i) = true)
    (ht : ∀ (s : Shared) (H : Hp) (C : Addr) (cl : List (Str × Addr)) (fp : List Addr), PTs (X.blk s H scope (compEnvC scope cl C X.env) fp) ifs (lowT X.K F0 H0 dt))
    (he : ∀ (s : Shared) (H : Hp) (C : Addr) (cl : List (Str × Addr)) (fp : List Addr), LE (X.blk s H scope (compEnvC scope cl C X.env) fp) F0 H0 elt de) (hs : ∀ x, foldedSetIterable iter X.env x = pure x := by intro _; rfl) :
    LS X F0 H0 (.Assign [.Name y py] (.ListComp elt [⟨tg, iter, ifs, 0⟩] scope pos) spos) (dAsg (dLc (own.map (·.2)) di dg dt de) (dgN i)) :=
  psW (ps_setLc hc hN hy hyl hsw hi ok pg ht he hs) (low_asg lg_n (low_lc (fun _ _ _ q => q) hg (fun i hi => by simpa using List.all_eq_true.mp his i hi) (fun _ _ _ q => q) fun _ _ _ q => q))

abbrev DSpec := List D → (D → Prop) → Prop
def lowSp (K : PySem.W.Frag) (S : DSpec) : Sp := fun vs H Q _ => ∃ F ds P, Same F H ∧ RepL K F vs ds ∧ S ds P ∧ ∀ x, P x → ∀ F' H' v, Ext F H F' H' → Rep K F' v x → Q v H'
def dCall (S : DSpec) (da : DA) : DE := fun ρ P => da ρ fun xs => S xs P
section
variable {CX : CXT} {k : Nat} {f C : Addr} {fd : FuncData} {ps : List Str} {S : DSpec} {E : XK}
theorem le_call {da : DA} (F : FnOk X.prog X.w X.K X.mg X.base CX k f fd ps (lowSp X.K S)) (hr : Room k X.A) (hg : Gl X x) (hm : X.mg x = some (.ref f)) (hk : PySem.W.keepIn X.K (.ref f) = true) (hb : Binds X.K fd ps []) (hx : Passes CX X E)
    (ha : LA X F0 H0 (e :: es) da) (hdb : (x == ("__debug__" : Str)) = false := by decide) (he : starEach (e :: es) X.env = (false, eval e X.env) :: starEach es X.env := by rfl) (hpl : (backTo pos (starEach es X.env)).any (·.1) = false := by rfl) :
    LE X F0 H0 (.Call (.Name x p) (e :: es) [] pos) (dCall S da) :=
  peW (pe_call F hr hg hm hk hb .nil hx ha hdb he hpl) fun σ H Q ⟨F, ρ, fps, P, E, q, k⟩ => ⟨F, ρ, fps, _, E, q, fun xs hx F1 H1 vs e1 r1 =>
    ⟨F1, xs, P, e1.w, by rw [List.append_nil]; exact r1, hx, fun z pz F2 H2 u e2 r2 => k z pz F2 H2 u (e1.trans e2) r2⟩⟩
theorem le_call0 (F : FnOk X.prog X.w X.K X.mg X.base CX k f fd ps (lowSp X.K S)) (hr : Room k X.A) (hg : Gl X x) (hm : X.mg x = some (.ref f)) (hk : PySem.W.keepIn X.K (.ref f) = true) (hb : Binds X.K fd ps []) (hx : Passes CX X E)
    (hdb : (x == ("__debug__" : Str)) = false := by decide) : LE X F0 H0 (.Call (.Name x p) [] [] pos) (dCall S dNil) :=
  peW (pe_call0 F hr hg hm hk hb .nil hx hdb) fun σ H Q ⟨F, ρ, fps, P, E, q, k⟩ => ⟨F, [], P, E.x.w, .nil, q, fun z pz F2 H2 u e2 r2 => k z pz F2 H2 u e2 r2⟩
end
/-- methods: M tells for each class the spec -/
abbrev MTab := Addr → DSpec → Prop
structure MethOk (P : Program) (w : World) (K : PySem.W.Frag) (mg : Str → Option Value) (base : Heap) (CX : CXT) (k : Nat) (m : Str) (C : Addr) (S : DSpec) : Prop where
  cl : Cls K C
  ex : ∃ f fd ps, Meth K C m f ∧ FnOk P w K mg base CX k f fd ps (lowSp K S) ∧ Binds K fd ps []
def dMeth (M : MTab) (m : Str) (da : DE) (dr : DA) : DE := fun ρ P => da ρ fun x => match x with | .obj C gs => gs.lookup m = none ∧ ∃ S, M C S ∧ dr ρ fun xs => S (.obj C gs :: xs) P | _ => False
section
variable {CX : CXT} {k : Nat} {E : XK} {M : MTab}
theorem le_meth {pl : Sem Bool} {da : DE} {dr : DA} (ho : LE X F0 H0 o da) (hM : ∀ C S, M C S → MethOk X.prog X.w X.K X.mg X.base CX k m C S) (hr : Room k X.A) (hx : Passes CX X E) (ha : LA X F0 H0 (e :: es) dr)
    (hst : starEach (e :: es) X.env = (false, eval e X.env) :: starEach es X.env := by rfl) (hpl : (backTo pos (starEach es X.env)).any (·.1) = false := by rfl)
    (ht : eval (.Call (.Attribute o m apos) (e :: es) [] pos) X.env = (do
      let ov ← eval o X.env
      standAt apos.atName
      let (f, first) ← holding [ov] (getMethod ov m pl)
      callWith pos f first (backTo pos (starEach (e :: es) X.env)) (backToKw pos (keywordEach [] X.env))) := by rfl) :
    LE X F0 H0 (.Call (.Attribute o m apos) (e :: es) [] pos) (dMeth M m da dr) := by
  refine ⟨fun pins s σ H Q I ⟨F, ρ, fps, P, R, q, kk⟩ => ?_⟩
  refine PySem.W.methodCall_KW (pl := pl) (thn (ho.run pins s σ H (fun v H1 => ∃ F1 x, Ext F H F1 H1 ∧ Rep X.K F1 v x ∧ (match x with | .obj C gs => gs.lookup m = none ∧ ∃ S, M C S ∧ dr ρ fun xs => S (.obj C gs :: xs) P | _ => False)) I
    ⟨F, ρ, fps, _, R, q, fun x hx F1 H1 v e1 r1 => ⟨F1, x, e1, r1, hx⟩⟩) fun u s1 ⟨v, H1, I1, rx, F1, x, e1, r1, hxx⟩ => ?_) ht
  cases r1 with
  | obj h1 rf =>
    obtain ⟨hl, S, hS, q2⟩ := hxx
    obtain ⟨c, f, fd, ps, hm, FF, hb⟩ := hM _ _ hS
    cases rx
    refine getmeth_ok I1 (e1.w _ _ h1) c hm (rf.look_none hl) ?_
    refine PySem.W.callWith_K (first := [.ref _]) (h₀ := X.base) I.ok.mod.kin hm.kp (thn (ha.run pos pins s1 σ H1 (fun vs H2 => lowSp X.K S (.ref _ :: vs) H2 Q E) I1 ⟨F1, ρ, fps, _, R.ext e1, q2, fun xs hxs F2 H2 vs e2 r2 =>
      ⟨F2, _, P, e2.w, .cons (.obj (e2.f _ _ h1) (rf.mono e2.f)) r2, hxs, fun z pz F3 H3 u e3 r3 => kk z pz F3 H3 u ((e1.trans e2).trans e3) r3⟩⟩) fun us s2 ⟨vs, H2, I2, r, q2⟩ => ⟨I2.kIn, ?_⟩) hst hpl
    exact run_fn (us := .ref _ :: us) (vs := .ref _ :: vs) (dvs := []) FF hr hb .nil hx I2 (.cons rfl r) (by rw [List.append_nil]; exact q2)
  | _ => exact False.elim hxx
theorem le_meth0 {pl : Sem Bool} {da : DE} (ho : LE X F0 H0 o da) (hM : ∀ C S, M C S → MethOk X.prog X.w X.K X.mg X.base CX k m C S) (hr : Room k X.A) (hx : Passes CX X E)
    (ht : eval (.Call (.Attribute o m apos) [] [] pos) X.env = (do
      let ov ← eval o X.env
      standAt apos.atName
      let (f, first) ← holding [ov] (getMethod ov m pl)
      callWith pos f first (backTo pos (starEach [] X.env)) (backToKw pos (keywordEach [] X.env))) := by rfl) :
    LE X F0 H0 (.Call (.Attribute o m apos) [] [] pos) (dMeth M m da dNil) := by
  refine ⟨fun pins s σ H Q I ⟨F, ρ, fps, P, R, q, kk⟩ => ?_⟩
  refine PySem.W.methodCall_KW (pl := pl) (thn (ho.run pins s σ H (fun v H1 => ∃ F1 x, Ext F H F1 H1 ∧ Rep X.K F1 v x ∧ (match x with | .obj C gs => gs.lookup m = none ∧ ∃ S, M C S ∧ S [.obj C gs] P | _ => False)) I
    ⟨F, ρ, fps, _, R, q, fun x hx F1 H1 v e1 r1 => ⟨F1, x, e1, r1, hx⟩⟩) fun u s1 ⟨v, H1, I1, rx, F1, x, e1, r1, hxx⟩ => ?_) ht
  cases r1 with
  | obj h1 rf =>
    obtain ⟨hl, S, hS, q2⟩ := hxx
    obtain ⟨c, f, fd, ps, hm, FF, hb⟩ := hM _ _ hS
    cases rx
    refine getmeth_ok I1 (e1.w _ _ h1) c hm (rf.look_none hl) ?_
    exact PySem.W.callWith_K0 (first := [.ref _]) I1.kIn hm.kp (run_fn (us := [.ref _]) (vs := [.ref _]) (dvs := []) FF hr hb .nil hx I1 (.cons rfl .nil)
      ⟨F1, _, P, e1.w, .cons (.obj h1 rf) .nil, q2, fun z pz F3 H3 u e3 r3 => kk z pz F3 H3 u (e1.trans e3) r3⟩)
  | _ => exact False.elim hxx
end

/-- a field of an instance of one of some classes -/
def dFldC (T : Addr → Prop) (da : DE) (f : Str) : DE := fun ρ P => da ρ fun x => match x with | .obj C gs => T C ∧ (match gs.lookup f with | some d => P d | none => False) | _ => False
theorem le_fldC {T : Addr → Prop} {da : DE} {f : Str} (h : LB X F0 H0 e da) (hC : ∀ C, T C → Cls X.K C ∧ NoAttr X.K C f) (hb : attributeBase e f X.env (eval e X.env) = eval e X.env := by rfl) : LE X F0 H0 (.Attribute e f pos) (dFldC T da f) :=
  peW (pe_fld h hb) fun σ H Q ⟨F, ρ, fps, P, E, q, k⟩ => ⟨F, ρ, fps, _, E, q, fun x hx F1 H1 v e1 r1 => by
    cases x with
    | obj C gs =>
      obtain ⟨hT, hx⟩ := hx
      obtain ⟨c, n⟩ := hC C hT
      obtain ⟨a, dx, fs, rfl, h1, rf⟩ : ∃ a dx fs, v = .ref a ∧ H1 a = some (.ins C dx fs) ∧ RepF X.K F1 fs gs := by
        rcases r1 with r1 | ⟨fp, r1, nt⟩
        · cases r1 with | obj h r => exact ⟨_, _, _, rfl, e1.w _ _ h, r⟩
        · cases r1 with | obj h r n => exact ⟨_, _, _, rfl, h, r⟩
      cases hl : gs.lookup f with
      | none => rw [hl] at hx; exact False.elim hx
      | some d =>
        rw [hl] at hx
        obtain ⟨u, h2, h3⟩ := rf.look hl
        exact ⟨a, C, dx, fs, u, rfl, h1, c, n, h2, k _ hx F1 H1 u e1 h3⟩
    | _ => exact False.elim hx⟩
end
end DL
end
section
namespace DL
open PySem L2
section
variable {X : Cx} {F0 H0 : Hp} {e a b c tg o : Expr} {es : List Expr} {pos p apos : Pos} {x m : Str}

theorem mem_set_flatten {fps : List (List Addr)} {i : Nat} {l : List Addr} {a : Addr} (h : a ∈ (fps.set i l).flatten) : a ∈ fps.flatten ∨ a ∈ l := by
  rw [List.mem_flatten] at h
  obtain ⟨g, h1, h2⟩ := h
  rcases List.mem_or_eq_of_mem_set h1 with q | q
  · exact .inl (List.mem_flatten.mpr ⟨g, q, h2⟩)
  · subst q; exact .inr h2
theorem nodup_set_flatten {fps : List (List Addr)} {i : Nat} {l : List Addr} (h : fps.flatten.Nodup) (hl : l.Nodup) (d : ∀ a ∈ l, a ∉ fps.flatten) : (fps.set i l).flatten.Nodup := by
  induction fps generalizing i with
  | nil => simpa using h
  | cons g r ih =>
    rw [List.flatten_cons, List.nodup_append] at h
    obtain ⟨h1, h2, h3⟩ := h
    cases i with
    | zero =>
      rw [List.set_cons_zero, List.flatten_cons, List.nodup_append]
      exact ⟨hl, h2, fun a ha b hb e => d a ha (by rw [List.flatten_cons, List.mem_append]; subst e; exact .inr hb)⟩
    | succ i =>
      rw [List.set_cons_succ, List.flatten_cons, List.nodup_append]
      refine ⟨h1, ih h2 fun a ha hm => d a ha (by rw [List.flatten_cons, List.mem_append]; exact .inr hm), fun a ha b hb e => ?_⟩
      subst e
      rcases mem_set_flatten hb with q | q
      · exact h3 a ha a q rfl
      · exact d a q (by rw [List.flatten_cons, List.mem_append]; exact .inl ha)
theorem fps_there {K : PySem.W.Frag} {F0 H0 : Hp} {F H : Hp} : ∀ {σ : L2.St} {ρ : Rh} {fps : List (List Addr)}, SlsRep K F0 H0 F H σ ρ fps → ∀ a ∈ fps.flatten, F a = none ∧ H a ≠ none
  | _, _, _, .nil, a, h => by simp at h
  | _, _, _, .cons q r, a, h => by
    rw [List.flatten_cons, List.mem_append] at h
    rcases h with h | h
    · cases q with
      | no => simp at h
      | sh => simp at h
      | bo => simp at h
      | dk h1 r1 n1 =>
        simp at h
        subst h
        exact ⟨n1, by rw [h1]; simp⟩
      | nl h1 q1 z1 n1 =>
        rcases List.mem_cons.mp h with e | e
        · subst e; exact ⟨n1, by rw [h1]; simp⟩
        · exact q1.none a e
      | ow o => exact o.none a h
    · exact fps_there r a h
/-- a slot gets a new own thing, whose addresses were free -/
theorem ERep.setOwn {K : PySem.W.Frag} {F0 H0 F H F' H' : Hp} {σ : L2.St} {ρ : Rh} {fps : List (List Addr)} {v : V} {x : D} {fp : List Addr} (R : ERep K F0 H0 F H σ ρ fps) (e : Ext F H F' H') (o : Own K F' H' v x fp) (nd : fp.Nodup) (nf : ∀ a ∈ fp, H a = none) (i : Nat) :
    ERep K F0 H0 F' H' (σ.set i (some v)) (ρ.set i (.ow x)) (fps.set i fp) := by
  have R' := R.ext e
  refine ⟨R'.x, R'.s.set (.ow o) i, nodup_set_flatten R.p.nd nd fun a ha hm => (fps_there R.s a hm).2 (nf a ha), fun a ha => ?_⟩
  rcases mem_set_flatten ha with q | q
  · exact R.p.new a q
  · exact R.x.h.free (nf a q)
/-- expressions whose value is new -/
def lowN (K : PySem.W.Frag) (F0 H0 : Hp) (d : DE) : TE := fun σ H Q => ∃ F ρ fps P, ERep K F0 H0 F H σ ρ fps ∧ d ρ P ∧ ∀ x, P x → ∀ F' H' v fp, Ext F H F' H' → Own K F' H' v x fp → fp.Nodup → (∀ a ∈ fp, H a = none) → Q v H'
abbrev LN (X : Cx) (F0 H0 : Hp) (e : Expr) (d : DE) : Prop := PE X e (lowN X.K F0 H0 d)
theorem ln_lst {es : List Expr} {da : DA} (h : LA X F0 H0 es da) : LN X F0 H0 (.List es pos) (dLst da) :=
  peW (pe_lst h) fun σ H Q ⟨F, ρ, fps, P, E, q, k⟩ => ⟨F, ρ, fps, _, E, q, fun xs hx F1 H1 vs e1 r1 =>
    ⟨by rw [r1.length]; exact hx.1, fun p hp => by
      have nF := e1.w.free hp
      refine k _ hx.2 F1 _ _ [p] (e1.trans ⟨.refl _, L2same_upd_new hp, e1.w.trans (L2same_upd_new hp), fun _ _ => rfl⟩) (.lst upd_same r1 hx.1 nF) (by simp) fun a ha => ?_
      simp at ha; subst ha
      exact e1.h.free hp⟩⟩
/-- a name of a new, own thing -/
def dSetN (i : Nat) (da : DE) : DS := fun E ρ => da ρ fun x => E.nx (ρ.set i (.ow x))
theorem ls_setN {i : Nat} {da : DE} (h : ∀ te, PE X e te → PS X (.Assign [tg] e pos) (tAsg te (gName i))) (he : LN X F0 H0 e da) : LS X F0 H0 (.Assign [tg] e pos) (dSetN i da) :=
  psW (h _ he) fun D σ H ⟨F, ρ, fps, E, R, q, k⟩ => ⟨F, ρ, fps, _, R, q, fun x hx F1 H1 v fp e1 o nd nf => k.nx F1 H1 _ _ _ e1.f (R.setOwn e1 o nd nf i) hx⟩
/-- x.append(e), x an own list -/
def dApp (i : Nat) (da : DE) : DS := fun E ρ => match ρ[i]? with | some (.ow (.lst xs)) => da ρ fun y => xs.length < sizeLine ∧ E.nx (ρ.set i (.ow (.lst (xs ++ [y])))) | _ => False
theorem SlsRep.upd_at {K : PySem.W.Frag} {F0 H0 : Hp} {F H : Hp} {a : Addr} {u : HO} : ∀ {σ : L2.St} {ρ : Rh} {fps : List (List Addr)} {i : Nat} {v : V} {x y : D}, SlsRep K F0 H0 F H σ ρ fps → fps.flatten.Nodup → fps[i]? = some [a] → σ[i]? = some (some v) → Own K F (upd H a u) v y [a] →
    SlsRep K F0 H0 F (upd H a u) σ (ρ.set i (.ow y)) fps := by
  have keep : ∀ {σ : L2.St} {ρ : Rh} {fps : List (List Addr)}, SlsRep K F0 H0 F H σ ρ fps → a ∉ fps.flatten → SlsRep K F0 H0 F (upd H a u) σ ρ fps := by
    intro σ ρ fps h
    induction h with
    | nil => intro _; exact .nil
    | cons q r ih =>
      intro n
      rw [List.flatten_cons, List.mem_append, not_or] at n
      refine .cons ?_ (ih n.2)
      cases q with
      | no => exact .no
      | sh r => exact .sh r
      | bo r => exact .bo r
      | dk h r f => exact .dk (by rw [upd_ne (fun e => n.1 (by simp [e]))]; exact h) r f
      | nl h q z f =>
        have m := n.1
        rw [List.mem_cons, not_or] at m
        exact .nl (by rw [upd_ne (fun e => m.1 e.symm)]; exact h) (q.updH m.2) z f
      | ow o =>
        exact .ow (o.updH n.1)
  intro σ ρ fps i v x y h
  induction h generalizing i with
  | nil => intro _ h; simp at h
  | cons q r ih =>
    intro nd h1 h2 o
    rw [List.flatten_cons, List.nodup_append] at nd
    cases i with
    | zero =>
      simp at h1 h2
      subst h1
      rw [h2]
      exact .cons (.ow o) (keep r fun hm => nd.2.2 a (by simp) a hm rfl)
    | succ i =>
      simp at h1 h2
      refine .cons ?_ (ih nd.2.1 h1 h2 o)
      have n : a ∉ _ := fun hm => nd.2.2 a hm a (List.mem_flatten.mpr ⟨_, List.mem_of_getElem? h1, by simp⟩) rfl
      cases q with
      | no => exact .no
      | sh r => exact .sh r
      | bo r => exact .bo r
      | dk h r f => exact .dk (by rw [upd_ne (fun e => n (by simp [e]))]; exact h) r f
      | nl h q z f =>
        have m := n
        rw [List.mem_cons, not_or] at m
        exact .nl (by rw [upd_ne (fun e => m.1 e.symm)]; exact h) (q.updH m.2) z f
      | ow o =>
        exact .ow (o.updH n)
theorem ERep.updOwn {K : PySem.W.Frag} {F0 H0 F H : Hp} {σ : L2.St} {ρ : Rh} {fps : List (List Addr)} {i : Nat} {a : Addr} {v : V} {y : D} {u : HO} (R : ERep K F0 H0 F H σ ρ fps) (h1 : fps[i]? = some [a]) (h2 : σ[i]? = some (some v)) (o : Own K F (upd H a u) v y [a]) :
    ERep K F0 H0 F (upd H a u) σ (ρ.set i (.ow y)) fps := by
  have ha : a ∈ fps.flatten := List.mem_flatten.mpr ⟨_, List.mem_of_getElem? h1, by simp⟩
  refine ⟨⟨R.x.f, fun b w hb => ?_, fun b w hb => ?_, R.x.o⟩, R.s.upd_at (x := y) R.p.nd h1 h2 o, R.p⟩
  · rw [upd_ne (ne_of_none hb (R.p.new a ha))]; exact R.x.h _ _ hb
  · rw [upd_ne (ne_of_none hb (fps_there R.s a ha).1)]; exact R.x.w _ _ hb
theorem ls_app {i : Nat} {o : Expr} {da : DE} (ho : PE X o (tVar i)) (ha : LE X F0 H0 a da) (h : ∀ te, PE X a te → PE X (.Call (.Attribute o "append" apos) [a] [] p) (tBM X.K "list" rAppend (tVar i) (tCons te tNil)))
    (hs : swapsWith (.Call (.Attribute o "append" apos) [a] [] p) none pos.line X.env = pure false := by rfl) : LS X F0 H0 (.Expr (.Call (.Attribute o "append" apos) [a] [] p) pos) (dApp i da) :=
  psW (ps_expr (h _ ha) hs) fun D σ H ⟨F, ρ, fps, E, R, q, k⟩ => by
    -- the own list as it stands ahead of the argument
    have look : ∀ xs, ρ[i]? = some (.ow (.lst xs)) → ∃ l vs, σ[i]? = some (some (.ref l)) ∧ fps[i]? = some [l] ∧ H l = some (.lst vs) ∧ RepL X.K F vs xs := fun xs h => by
      obtain ⟨x, fp, h1, h2, h3⟩ := R.s.get h
      cases h3 with
      | ow o => cases o with | lst g r z n => exact ⟨_, _, h1, h2, g, r⟩
    unfold dApp at q
    split at q
    · rename_i xs hr
      obtain ⟨l, vs, h1, h2, h3, h4⟩ := look xs hr
      refine ⟨_, h1, .inl ⟨rfl, vs, .of h3⟩, F, ρ, fps, _, R, q, fun y hy F1 H1 v e1 r1 => ?_⟩
      have R1 := R.ext e1
      have g1 := e1.h _ _ h3
      refine ⟨l, vs, v, rfl, rfl, g1, by rw [h4.length]; exact hy.1, k.nx F1 _ _ _ _ e1.f (R1.updOwn h2 h1 (.lst upd_same ((h4.mono e1.f).append (.cons r1 .nil)) (by have := hy.1; simp; omega) ?_)) hy.2⟩
      rw [e1.o l (by rw [h3]; simp)]
      exact (fps_there R.s l (List.mem_flatten.mpr ⟨_, List.mem_of_getElem? h2, by simp⟩)).1
    · exact q.elim
/-- an own thing is shared from here on -/
def dFrz (i : Nat) (d : DS) : DS := fun E ρ => match ρ[i]? with | some (.ow x) => notT x ∧ d E (ρ.set i (.sh x)) | _ => False
theorem SlRep.frz {K : PySem.W.Frag} {F0 H0 : Hp} {F H : Hp} {a : Addr} {u : HO} {x : Option V} {s : Sl} {fp : List Addr} (nF : F a = none) (h : SlRep K F0 H0 F H x s fp) (n : a ∉ fp) : SlRep K F0 H0 (upd F a u) H x s fp := by
  have sm : Same F (upd F a u) := L2same_upd_new nF
  cases h with
  | no => exact .no
  | sh r => exact .sh (r.mono sm)
  | bo r => exact .bo r
  | dk h r f => exact .dk h (r.mono sm) (by rw [upd_ne (fun e => n (by simp [e]))]; exact f)
  | nl h q z f =>
    rw [List.mem_cons, not_or] at n
    exact .nl h (q.updF nF n.2) z (by rw [upd_ne (fun e => n.1 e.symm)]; exact f)
  | ow o =>
    exact .ow (o.updF nF n)
theorem SlsRep.frz {K : PySem.W.Frag} {F0 H0 : Hp} {F H : Hp} {a : Addr} {u : HO} (nF : F a = none) : ∀ {σ : L2.St} {ρ : Rh} {fps : List (List Addr)}, SlsRep K F0 H0 F H σ ρ fps → a ∉ fps.flatten → SlsRep K F0 H0 (upd F a u) H σ ρ fps
  | _, _, _, .nil, _ => .nil
  | _, _, _, .cons q r, n => by
    rw [List.flatten_cons, List.mem_append, not_or] at n
    exact .cons (q.frz nF n.1) (r.frz nF n.2)
theorem SlsRep.frz_at {K : PySem.W.Frag} {F0 H0 : Hp} {F H : Hp} {a : Addr} {u : HO} (nF : F a = none) : ∀ {σ : L2.St} {ρ : Rh} {fps : List (List Addr)} {i : Nat} {v : V} {y : D}, SlsRep K F0 H0 F H σ ρ fps → fps.flatten.Nodup → fps[i]? = some [a] → σ[i]? = some (some v) → Rep K (upd F a u) v y →
    SlsRep K F0 H0 (upd F a u) H σ (ρ.set i (.sh y)) (fps.set i []) := by
  intro σ ρ fps i v y h
  induction h generalizing i with
  | nil => intro _ h; simp at h
  | cons q r ih =>
    intro nd h1 h2 o
    rw [List.flatten_cons, List.nodup_append] at nd
    cases i with
    | zero =>
      simp at h1 h2
      subst h1
      rw [h2]
      exact .cons (.sh o) (r.frz nF fun hm => nd.2.2 a (by simp) a hm rfl)
    | succ i =>
      simp at h1 h2
      exact .cons (q.frz nF fun hm => nd.2.2 a hm a (List.mem_flatten.mpr ⟨_, List.mem_of_getElem? h1, by simp⟩) rfl) (ih nd.2.1 h1 h2 o)
theorem ERep.frz {K : PySem.W.Frag} {F0 H0 F H : Hp} {σ : L2.St} {ρ : Rh} {fps : List (List Addr)} {i : Nat} {x : D} (R : ERep K F0 H0 F H σ ρ fps) (nt : notT x) (h : ρ[i]? = some (.ow x)) :
    ∃ F', Same F F' ∧ ERep K F0 H0 F' H σ (ρ.set i (.sh x)) (fps.set i []) := by
  obtain ⟨y, fp, h1, h2, h3⟩ := R.s.get h
  have fin : ∀ (a : Addr) (u : HO) (v : V), H a = some u → F a = none → y = some v → fp = [a] → Rep K (upd F a u) v x → ∃ F', Same F F' ∧ ERep K F0 H0 F' H σ (ρ.set i (.sh x)) (fps.set i []) := fun a u v g nF hy hf r => by
    subst hy hf
    have ha : a ∈ fps.flatten := List.mem_flatten.mpr ⟨_, List.mem_of_getElem? h2, by simp⟩
    refine ⟨upd F a u, L2same_upd_new nF, ⟨R.x.f.trans (L2same_upd_new nF), R.x.h, fun b w hb => ?_, fun b hb => ?_⟩, R.s.frz_at nF R.p.nd h2 h1 r, R.p.set_nil i⟩
    · by_cases e : b = a
      · subst e; rw [upd_same] at hb; cases hb; exact g
      · rw [upd_ne e] at hb; exact R.x.w _ _ hb
    · rw [upd_ne (fun e => hb (by rw [e]; exact R.p.new a ha))]; exact R.x.o b hb
  cases h3 with
  | ow o =>
    cases o with
    | lst g r z n => exact fin _ _ _ g n rfl rfl (.lst (.of upd_same) z (r.mono (L2same_upd_new n)))
    | obj g r n => exact fin _ _ _ g n rfl rfl (.obj upd_same (r.mono (L2same_upd_new n)))
    | tup => exact nt.elim
theorem lss_frz {i : Nat} {st : List Stmt} {d : DS} (h : LSs X F0 H0 st d) : LSs X F0 H0 st (dFrz i d) :=
  pssW h fun D σ H ⟨F, ρ, fps, E, R, q, k⟩ => by
    unfold dFrz at q
    split at q
    · rename_i x hr
      obtain ⟨F', s, R'⟩ := R.frz q.1 hr
      exact ⟨F', _, _, E, R', q.2, k.mono s⟩
    · exact q.elim
/-- making an instance: S tells the fields that __init__ leaves, from the arguments -/
abbrev DISpec := List D → (List (Str × D) → Prop) → Prop
def lowInit (K : PySem.W.Frag) (C : Addr) (S : DISpec) : Sp := fun vs H Q _ => ∃ F H1 x dx vs' ds P, vs = .ref x :: vs' ∧ H = upd (upd H1 dx (.own x)) x (.ins C dx []) ∧ H1 x = none ∧ H1 dx = none ∧ dx ≠ x ∧ Same F H1 ∧ RepL K F vs' ds ∧ S ds P ∧
  ∀ gs, P gs → ∀ F' H', Ext F H1 F' H' → Rep K F' (.ref x) (.obj C gs) → Q .non H'
def dMake (C : Addr) (S : DISpec) (da : DA) : DE := fun ρ P => da ρ fun xs => S xs fun gs => P (.obj C gs)
section
variable {CX : CXT} {k : Nat} {f C : Addr} {fd : FuncData} {ps : List Str} {S : DISpec} {E : XK}
theorem le_make {da : DA} (M : Mk X.K C f) (F : FnOk X.prog X.w X.K X.mg X.base CX k f fd ps (lowInit X.K C S)) (hr : Room (k + 1) X.A) (hg : Gl X x) (hm : X.mg x = some (.ref C)) (hb : Binds X.K fd ps []) (hx : Passes CX X E)
    (ha : LA X F0 H0 (e :: es) da) (hdb : (x == ("__debug__" : Str)) = false := by decide) (he : starEach (e :: es) X.env = (false, eval e X.env) :: starEach es X.env := by rfl) (hpl : (backTo pos (starEach es X.env)).any (·.1) = false := by rfl) :
    LE X F0 H0 (.Call (.Name x p) (e :: es) [] pos) (dMake C S da) :=
  peW (pe_make M F hr hg hm hb .nil hx ha hdb he hpl) fun σ H Q ⟨F, ρ, fps, P, R, q, kk⟩ => ⟨F, ρ, fps, _, R, q, fun xs hxs F1 H1 vs e1 r1 x dx nx ndx ne =>
    ⟨F1, H1, x, dx, vs, xs, _, by rw [List.append_nil], rfl, nx, ndx, ne, e1.w, r1, hxs, fun gs hgs F2 H2 e2 r2 => ⟨rfl, kk _ hgs F2 H2 _ (e1.trans e2) r2⟩⟩⟩
theorem le_make0 (M : Mk X.K C f) (F : FnOk X.prog X.w X.K X.mg X.base CX k f fd ps (lowInit X.K C S)) (hr : Room (k + 1) X.A) (hg : Gl X x) (hm : X.mg x = some (.ref C)) (hb : Binds X.K fd ps []) (hx : Passes CX X E)
    (hdb : (x == ("__debug__" : Str)) = false := by decide) : LE X F0 H0 (.Call (.Name x p) [] [] pos) (dMake C S dNil) :=
  peW (pe_make0 M F hr hg hm hb .nil hx hdb) fun σ H Q ⟨F, ρ, fps, P, R, q, kk⟩ x dx nx ndx ne =>
    ⟨F, H, x, dx, [], [], _, rfl, rfl, nx, ndx, ne, R.x.w, .nil, q, fun gs hgs F2 H2 e2 r2 => ⟨rfl, kk _ hgs F2 H2 _ e2 r2⟩⟩
end
/-- self.f = e, self an own instance in slot i -/
def dPutF (T : Addr → Prop) (i : Nat) (f : Str) (da : DE) : DS := fun E ρ => da ρ fun y => match ρ[i]? with | some (.ow (.obj C gs)) => T C ∧ gs.length < 1000 ∧ E.nx (ρ.set i (.ow (.obj C (putD f y gs)))) | _ => False
theorem RepF.put {K : PySem.W.Frag} {F : Hp} {f : Str} {v : V} {d : D} (r : Rep K F v d) : ∀ {fs : List (Str × V)} {gs : List (Str × D)}, RepF K F fs gs → RepF K F (putF f v fs) (putD f d gs)
  | _, _, .nil => .cons r .nil
  | _, _, .cons (f := g) h q => by
    unfold putF putD
    split
    · exact .cons r q
    · exact .cons h (RepF.put r q)
theorem ls_putF {T : Addr → Prop} {i : Nat} {f : Str} {da : DE} {pos' : Pos} (ho : PE X o (tVar i)) (ha : LE X F0 H0 a da) (hT : ∀ C, T C → Cls X.K C ∧ NoAttr X.K C f) (hs : swapsWith a (some (.Attribute o f pos')) pos.line X.env = pure false := by rfl) :
    LS X F0 H0 (.Assign [.Attribute o f pos'] a pos) (dPutF T i f da) :=
  psW (ps_fld ho ha hs) fun D σ H ⟨F, ρ, fps, E, R, q, k⟩ => ⟨F, ρ, fps, _, R, q, fun y hy F1 H1 v e1 r1 => by
    split at hy
    · rename_i C gs hr
      obtain ⟨hC, hl, hy⟩ := hy
      obtain ⟨c, n⟩ := hT C hC
      have R1 := R.ext e1
      obtain ⟨x, fp, h1, h2, h3⟩ := R1.s.get hr
      cases h3 with
      | ow o =>
        cases o with
        | obj g r nn =>
          exact ⟨_, h1, _, C, _, _, rfl, g, c, n, by rw [r.length]; exact hl, k.nx F1 _ _ _ _ e1.f (R1.updOwn h2 h1 (.obj upd_same (r.put r1) nn)) hy⟩
    · exact False.elim hy⟩
end
end DL
end
section
namespace DL
open PySem L2
def startR (N : List Str) (ds : List D) : Rh := ds.map Sl.sh ++ List.replicate (N.length - ds.length) Sl.no
theorem start_rep {K : PySem.W.Frag} {F0 H0 F H : Hp} : ∀ {vs : List V} {ds : List D} (n : Nat), RepL K F vs ds → SlsRep K F0 H0 F H (vs.map some ++ List.replicate n none) (ds.map Sl.sh ++ List.replicate n Sl.no) (ds.map (fun _ => []) ++ List.replicate n [])
  | _, _, 0, .nil => .nil
  | _, _, n + 1, .nil => .cons .no (start_rep n .nil)
  | _, _, n, .cons h r => .cons (.sh h) (start_rep n r)
theorem flat_nil (l : List D) (n : Nat) : ((l.map fun _ => ([] : List Addr)) ++ List.replicate n []).flatten = [] := by
  induction l with
  | nil => induction n with
    | zero => rfl
    | succ n ih => simpa [List.replicate_succ] using ih
  | cons x l ih => simpa using ih
theorem SlsRep.noown {K : PySem.W.Frag} {F0 H0 : Hp} {F H H' : Hp} : ∀ {σ : L2.St} {ρ : Rh} {fps : List (List Addr)}, SlsRep K F0 H0 F H σ ρ fps → fps.flatten = [] → SlsRep K F0 H0 F H' σ ρ fps
  | _, _, _, .nil, _ => .nil
  | _, _, _, .cons q r, hf => by
    rw [List.flatten_cons] at hf
    obtain ⟨ha, hb⟩ := List.append_eq_nil_iff.mp hf
    refine .cons ?_ (r.noown hb)
    cases q with
    | no => exact .no
    | sh r => exact .sh r
    | bo r => exact .bo r
    | ow o => cases o <;> simp at ha
    | dk h r f => simp at ha
    | nl h q z f => simp at ha
section
variable {P : Program} {w : World} {K : PySem.W.Frag} {mg : Str → Option Value} {base : Heap}
theorem fn_ok {x qual : Str} {st : Stmt} {f : Addr} {fd : FuncData} {N ps : List Str} {k : Nat} {S : DSpec} {d : DS} (F : Fun K x qual st f fd) (Sc : FnScope N ps (defScope st)) (hlen : ∀ ds P, S ds P → ds.length = ps.length)
    (body : ∀ (cdv : Value) (A : Around) (outer : List Env) (s : Shared) (H : Hp) (E : XK) (F0 : Hp), Room k (A.deeper (PyProof.Rows.envOfC qual (defScope st) s.heap.objs.size f cdv)) → LSs (cxOf CX0 P w K mg base N qual (defScope st) f cdv A outer s H E).nox F0 H (defBody st) d)
    (sem : ∀ ds Q, S ds Q → d { nx := fun _ => Q .non, rt := Q } (startR N ds)) : FnOk P w K mg base CX0 (k + 1) f fd ps (lowSp K S) := by
  refine F.ok Sc (fun vs H Q E ⟨F, ds, P, e, r, h, _⟩ => by rw [r.length]; exact hlen _ _ h) fun cdv A outer s H vs Q E hr ⟨F0, ds, P, e, r, h, kk⟩ => ?_
  refine ⟨_, body cdv A outer s H E F0 hr, F0, startR N ds, (ds.map fun _ => ([] : List Addr)) ++ List.replicate (N.length - ds.length) [], { nx := fun _ => P .non, rt := P }, ⟨.refl e, ?_, ?_⟩, sem ds P h, ⟨?_, ?_, ?_, ?_, ?_⟩⟩
  · unfold L2.start startR
    rw [r.length]
    exact start_rep _ r
  · exact ⟨by rw [flat_nil]; exact List.nodup_nil, fun a ha => by rw [flat_nil] at ha; cases ha⟩
  · exact fun F' H' σ' ρ' fps' s R q => kk _ q F' H' _ R.x .non
  · exact fun F' H' σ' ρ' fps' s R q => False.elim q
  · exact fun F' H' σ' ρ' fps' s R q => False.elim q
  · exact fun F' H' v x s e' r' q => kk _ q F' H' v e' r'
  · exact fun F' H' v x fp s e' r' n1 n2 q => False.elim q
end

/-- fields put, one after the other -/
abbrev DIn := Rh → List (Str × D) → (List (Str × D) → Prop) → Prop
def lowIn (K : PySem.W.Frag) (C x dx : Addr) (F0 H0 : Hp) (d : DIn) : TS := fun D σ H => ∃ F ρ gs fs P, Ext F0 H0 F H ∧ F x = none ∧ H0 x = none ∧ σ[0]? = some (some (.ref x)) ∧ H x = some (.ins C dx fs) ∧ RepF K F fs gs ∧ (∃ fps, SlsRep K F0 H0 F H σ (.no :: ρ) fps ∧ fps.flatten = []) ∧ d (.no :: ρ) gs P ∧
  ∀ gs' , P gs' → ∀ F' H' fs', Ext F0 H0 F' H' → F' x = none → H' x = some (.ins C dx fs') → RepF K F' fs' gs' → (∃ fps, SlsRep K F0 H0 F' H' σ (.no :: ρ) fps ∧ fps.flatten = []) → D.nx σ H'
def dInOne (f : Str) (da : DE) : DIn := fun ρ gs P => da ρ fun y => gs.length < 1000 ∧ P (putD f y gs)
def dInCons (d u : DIn) : DIn := fun ρ gs P => d ρ gs fun gs' => u ρ gs' P
section
variable {X : Cx} {F0 H0 : Hp} {C x dx : Addr} {e o : Expr} {pos pos' : Pos}
abbrev LIn (X : Cx) (C x dx : Addr) (F0 H0 : Hp) (st : Stmt) (d : DIn) : Prop := PS X st (lowIn X.K C x dx F0 H0 d)
abbrev LIns (X : Cx) (C x dx : Addr) (F0 H0 : Hp) (st : List Stmt) (d : DIn) : Prop := PSs X st (lowIn X.K C x dx F0 H0 d)
theorem lin_fld {f : Str} {da : DE} (ho : PE X o (tVar 0)) (ha : LE X F0 H0 e da) (hc : Cls X.K C) (hn : NoAttr X.K C f) (hs : swapsWith e (some (.Attribute o f pos')) pos.line X.env = pure false := by rfl) :
    LIn X C x dx F0 H0 (.Assign [.Attribute o f pos'] e pos) (dInOne f da) :=
  psW (ps_fld ho ha hs) fun D σ H ⟨F, ρ, gs, fs, P, ex, nF, nH, h0, hx, rf, ⟨fps, sl, hf⟩, q, kk⟩ => ⟨F, _, fps, _, ⟨ex, sl, ⟨by rw [hf]; exact List.nodup_nil, fun a ha => by rw [hf] at ha; cases ha⟩⟩, q, fun y hy F1 H1 v e1 r1 => by
    have nF1 : F1 x = none := by rw [e1.o x (by rw [hx]; simp)]; exact nF
    have h1 := e1.h _ _ hx
    refine ⟨_, h0, x, C, dx, fs, rfl, h1, hc, hn, by rw [rf.length]; exact hy.1, ?_⟩
    have e2 := ex.trans e1
    have ex' : Ext F0 H0 F1 (upd H1 x (.ins C dx (putF f v fs))) := ⟨e2.f, fun b u hb => by rw [upd_ne (ne_of_none hb nH)]; exact e2.h _ _ hb, fun b u hb => by rw [upd_ne (ne_of_none hb nF1)]; exact e2.w _ _ hb, e2.o⟩
    refine kk _ hy.2 F1 _ _ ex' nF1 upd_same ((rf.mono e1.f).put r1) ⟨fps, ?_, hf⟩
    exact (sl.ext e1).noown hf⟩
theorem lin_cons {st : Stmt} {rest : List Stmt} {d u : DIn} (h1 : LIn X C x dx F0 H0 st d) (h2 : LIns X C x dx F0 H0 rest u) : LIns X C x dx F0 H0 (st :: rest) (dInCons d u) :=
  pssW (pss_cons h1 h2) fun D σ H ⟨F, ρ, gs, fs, P, ex, nF, nH, h0, hx, rf, sl, q, kk⟩ => ⟨F, ρ, gs, fs, _, ex, nF, nH, h0, hx, rf, sl, q, fun gs' hg F' H' fs' ex' nF' hx' rf' sl' => ⟨F', ρ, gs', fs', P, ex', nF', nH, h0, hx', rf', sl', hg, kk⟩⟩
theorem lin_one {st : Stmt} {d : DIn} (h1 : LIn X C x dx F0 H0 st d) : LIns X C x dx F0 H0 [st] d := pss_one h1
theorem lin_doc {y j} : LIn X C x dx F0 H0 (.Expr (.Constant (.str y) j pos) pos') (fun _ gs P => P gs) :=
  psW ps_doc fun D σ H ⟨F, ρ, gs, fs, P, ex, nF, nH, h0, hx, rf, sl, q, kk⟩ => kk _ q F H fs ex nF hx rf sl
end
section
variable {P : Program} {w : World} {K : PySem.W.Frag} {mg : Str → Option Value} {base : Heap}
theorem init_ok {y qual : Str} {st : Stmt} {f C : Addr} {fd : FuncData} {N ps : List Str} {k : Nat} {S : DISpec} {d : DIn} (F : Fun K y qual st f fd) (Sc : FnScope N ps (defScope st)) (hlen : ∀ ds P, S ds P → ds.length + 1 = ps.length)
    (body : ∀ (cdv : Value) (A : Around) (outer : List Env) (s : Shared) (H : Hp) (E : XK) (F0 H0 : Hp) (x dx : Addr), Room k (A.deeper (PyProof.Rows.envOfC qual (defScope st) s.heap.objs.size f cdv)) → LIns (cxOf CX0 P w K mg base N qual (defScope st) f cdv A outer s H E).nox C x dx F0 H0 (defBody st) d)
    (sem : ∀ ds Q, S ds Q → d (.no :: (ds.map Sl.sh ++ List.replicate (N.length - (ds.length + 1)) Sl.no)) [] Q) : FnOk P w K mg base CX0 (k + 1) f fd ps (lowInit K C S) := by
  refine F.ok Sc (fun vs H Q E ⟨F, H1, x, dx, vs', ds, P, e, _, _, _, _, _, r, h, _⟩ => by rw [e, List.length_cons, r.length]; exact hlen _ _ h) fun cdv A outer s H vs Q E hr ⟨F0, H1, x, dx, vs', ds, P, e, eH, nx, ndx, ne, sm, r, h, kk⟩ => ?_
  subst e
  have nF0 := sm.free nx
  have w0 : Same F0 H := fun b u hb => by
    rw [eH, upd_ne (ne_of_none hb nF0), upd_ne (ne_of_none hb (sm.free ndx))]; exact sm _ _ hb
  have w1 : Same H1 H := fun b u hb => by
    rw [eH, upd_ne (ne_of_none hb nx), upd_ne (ne_of_none hb ndx)]; exact hb
  refine ⟨_, body cdv A outer s H E F0 H1 x dx hr, F0, _, [], [], P, ⟨.refl _, w1, w0, fun _ _ => rfl⟩, nF0, nx, ?_, by rw [eH]; exact upd_same, .nil, ⟨[] :: ((ds.map fun _ => []) ++ List.replicate (N.length - (ds.length + 1)) []), ?_, ?_⟩, sem ds P h, fun gs hg F' H' fs ex nF hx rf sl => ?_⟩
  · rfl
  · unfold L2.start
    rw [List.length_cons, r.length]
    exact .cons .no (start_rep _ r)
  · rw [List.flatten_cons, List.nil_append]; exact flat_nil ds _
  · refine kk gs hg (upd F' x (.ins C dx fs)) H' ⟨ex.f.trans (L2same_upd_new nF), ex.h, fun b u hb => ?_, fun b hb => ?_⟩ (.obj upd_same (rf.mono (L2same_upd_new nF)))
    · by_cases q : b = x
      · subst q; rw [upd_same] at hb; cases hb; exact hx
      · rw [upd_ne q] at hb; exact ex.w _ _ hb
    · rw [upd_ne (fun q => hb (by rw [q]; exact nx))]; exact ex.o b hb
end
end DL
end
section
namespace DL
open PySem L2
section
variable {X : Cx} {F0 H0 : Hp} {e a b c tg o : Expr} {es : List Expr} {pos p apos : Pos} {x m : Str}

section
variable {da db : DE}
theorem le_add (ha : LB X F0 H0 a da) (hb : LB X F0 H0 b db) : LE X F0 H0 (.BinOp a .Add b pos) (dOp dAdd da db) := le_op low_add op_addAll ha hb
theorem le_sub (ha : LB X F0 H0 a da) (hb : LB X F0 H0 b db) : LE X F0 H0 (.BinOp a .Sub b pos) (dOp dSub da db) := le_op low_sub op_sub ha hb
theorem le_mul (ha : LB X F0 H0 a da) (hb : LB X F0 H0 b db) : LE X F0 H0 (.BinOp a .Mult b pos) (dOp dMul da db) := le_op low_mul op_mul ha hb
theorem le_mod (ha : LB X F0 H0 a da) (hb : LB X F0 H0 b db) : LE X F0 H0 (.BinOp a .Mod b pos) (dOp dMod da db) := le_op low_mod op_mod ha hb
theorem le_fdiv (ha : LB X F0 H0 a da) (hb : LB X F0 H0 b db) : LE X F0 H0 (.BinOp a .FloorDiv b pos) (dOp dFdiv da db) := le_op low_fdiv op_fdiv ha hb
theorem le_pow (ha : LB X F0 H0 a da) (hb : LB X F0 H0 b db) : LE X F0 H0 (.BinOp a .Pow b pos) (dOp dPow da db) := le_op low_pow op_pow ha hb
structure CmpR (X : Cx) (op : CmpOp) (d : DR2) : Prop where
  ex : ∃ r, LowR2 X.K r d ∧ OpR X (compareOp op) r
theorem c_eq (hu : X.A.units + 64 < cLine) : CmpR X .Eq dEq := ⟨_, low_eq, op_eqAll hu⟩
theorem c_ne (hu : X.A.units + 64 < cLine) : CmpR X .NotEq dNe := ⟨_, low_ne, op_neAll hu⟩
theorem c_lt : CmpR X .Lt dLt := ⟨_, low_ic, op_lt⟩
theorem c_le : CmpR X .LtE dLe := ⟨_, low_ic, op_le⟩
theorem c_gt : CmpR X .Gt dGt := ⟨_, low_ic, op_gt⟩
theorem c_ge : CmpR X .GtE dGe := ⟨_, low_ic, op_ge⟩
theorem c_is : CmpR X .Is (dIsN false) := ⟨_, low_isN, op_isN⟩
theorem c_isnot : CmpR X .IsNot (dIsN true) := ⟨_, low_notN, op_notN⟩
theorem le_c1 {op : CmpOp} {d : DR2} (h : CmpR X op d) (ha : LB X F0 H0 a da) (hb : LB X F0 H0 b db) (hm : behindInMarks op b = false := by first | exact nomark _ | rfl) : LE X F0 H0 (.Compare a [op] [b] pos) (dOp d da db) := by
  obtain ⟨r, h1, h2⟩ := h
  exact le_cmp h1 h2 ha hb hm
theorem lt_c1 {op : CmpOp} {d : DR2} (h : CmpR X op d) (ha : LB X F0 H0 a da) (hb : LB X F0 H0 b db) (hm : behindInMarks op b = false := by first | exact nomark _ | rfl) : LT X F0 H0 (.Compare a [op] [b] pos) (dTst (dOp d da db)) := by
  obtain ⟨r, h1, h2⟩ := h
  exact lt_cmp h1 h2 ha hb hm
end

mutual
def flatD : D → Bool
  | .non => true
  | .int _ => true
  | .str _ => true
  | _ => false
end
theorem flat_rep {K : PySem.W.Frag} {F : Hp} {v : V} {d : D} (r : Rep K F v d) (h : flatD d = true) : flatV v = true := by
  cases r <;> first | rfl | simp [flatD] at h
theorem eqV_flat {K : PySem.W.Frag} {F G : Hp} {v w : V} {x y : D} (r : Rep K F v x) (q : Rep K G w y) (h : flatD x = true) (g : flatD y = true) : eqV v w = eqD x y := by
  cases r <;> first | (simp [flatD] at h; done) | skip
  all_goals (cases q <;> first | (simp [flatD] at g; done) | skip)
  all_goals first | (simp [eqV, eqD]; done) | skip
  · rename_i i j
    by_cases e : i = j <;> simp [eqV, eqD, e]
  · rename_i i _ _ j _ _
    by_cases e : i = j
    · subst e; simp [eqV, eqD]
    · have : strOf i ≠ strOf j := fun z => e (strOf_inj z)
      simp [eqV, eqD, e, this]
theorem inV_flat {K : PySem.W.Frag} {F G : Hp} {v : V} {x : D} (q : Rep K G v x) (g : flatD x = true) : ∀ {vs : List V} {xs : List D}, RepL K F vs xs → xs.all flatD = true → inV v vs = xs.any (fun y => eqD y x) ∧ vs.all flatV = true
  | _, _, .nil, _ => by simp [inV]
  | _, _, .cons h r, f => by
    simp only [List.all_cons, Bool.and_eq_true] at f
    obtain ⟨h1, h2⟩ := inV_flat q g r f.2
    unfold inV at h1 ⊢
    rw [List.any_cons, List.any_cons, h1, eqV_flat h q f.1 g, List.all_cons, h2, flat_rep h f.1]
    simp
/-- x in y -/
def dIn (neg : Bool) : DR2
  | .str [c], .str z, P => P (.bl (if neg then !decide (c ∈ z) else decide (c ∈ z)))
  | x, .lst xs, P => (flatD x = true ∧ xs.all flatD = true) ∧ P (.bl (if neg then !xs.any (fun y => eqD y x) else xs.any (fun y => eqD y x)))
  | x, .tup xs, P => (flatD x = true ∧ xs.all flatD = true) ∧ P (.bl (if neg then !xs.any (fun y => eqD y x) else xs.any (fun y => eqD y x)))
  | _, _, _ => False
abbrev rInS (neg : Bool) : R2 := fun x y H Q => ∃ (c : Nat) (z : Str), x = .str ⟨#[c]⟩ ∧ y = .str z ∧ Q (.bl (if neg then !decide (c ∈ z.cps.toList) else decide (c ∈ z.cps.toList))) H
abbrev rInAll (K : PySem.W.Frag) (neg : Bool) : R2 := fun x y H Q => rInS neg x y H Q ∨ rIn K neg x y H Q
theorem brep_flat {K : PySem.W.Frag} {F H : Hp} {v : V} {x : D} (b : BRep K F H v x) (h : flatD x = true) : Rep K F v x := by
  rcases b with b | ⟨fp, b, nt⟩
  · exact b
  · cases b <;> simp [flatD] at h
theorem low_in {K : PySem.W.Frag} {neg : Bool} : LowR2 K (rInAll K neg) (dIn neg) := by
  intro F H v w x y P Q e bx byy d k
  unfold dIn at d
  split at d
  · rename_i c z
    obtain ⟨rfl, h1, h2⟩ := bx.str
    obtain ⟨rfl, h3, h4⟩ := byy.str
    exact .inl ⟨c, _, rfl, rfl, k _ d F H _ (.refl e) (.bl _)⟩
  · rename_i xs _
    obtain ⟨p, vs, rfl, s, r, z⟩ := byy.lst e
    have rx := brep_flat bx d.1.1
    obtain ⟨h1, h2⟩ := inV_flat rx d.1.1 r d.1.2
    refine .inr ⟨p, vs, rfl, .inl s, flat_rep rx d.1.1, h2, ?_⟩
    rw [h1]
    exact k _ d.2 F H _ (.refl e) (.bl _)
  · rename_i xs _
    obtain ⟨p, vs, rfl, s, r, z⟩ := byy.tup e
    have rx := brep_flat bx d.1.1
    obtain ⟨h1, h2⟩ := inV_flat rx d.1.1 r d.1.2
    refine .inr ⟨p, vs, rfl, .inr s, flat_rep rx d.1.1, h2, ?_⟩
    rw [h1]
    exact k _ d.2 F H _ (.refl e) (.bl _)
  · exact d.elim
theorem c_in : CmpR X .In (dIn false) := ⟨_, low_in, OpR.or op_in_sign op_in_seq⟩
theorem c_notin : CmpR X .NotIn (dIn true) := ⟨_, low_in, OpR.or op_notIn_sign op_notIn_seq⟩

def LowC (K : PySem.W.Frag) (r : List V → Hp → VK → Prop) (d : List D → (D → Prop) → Prop) : Prop := ∀ (F H : Hp) vs xs (P : D → Prop) (Q : VK), Same F H → BRepL K F H vs xs → d xs P → (∀ z, P z → ∀ F' H' u, Ext F H F' H' → Rep K F' u z → Q u H') → r vs H Q
def dArgs (d : List D → (D → Prop) → Prop) (da : DA) : DE := fun ρ P => da ρ fun xs => d xs P
theorem low_cb {r : List V → Hp → VK → Prop} {d : List D → (D → Prop) → Prop} {da : DA} (hr : LowC X.K r d) : ∀ σ H Q, low X.K F0 H0 (dArgs d da) σ H Q → tCB r (lowAB X.K F0 H0 da) σ H Q := fun σ H Q ⟨F, ρ, fps, P, E, q, k⟩ =>
  ⟨F, ρ, fps, _, E, q, fun xs hx F1 H1 vs e1 r1 => hr F1 H1 vs xs P Q e1.w r1 hx fun z pz F2 H2 u e2 r2 => k z pz F2 H2 u (e1.trans e2) r2⟩
structure BltR (X : Cx) (f : Value) (d : List D → (D → Prop) → Prop) : Prop where
  ex : ∃ r, LowC X.K r d ∧ CallR X f r
theorem le_blt {id : String} {d : List D → (D → Prop) → Prop} {da : DA} (h : BltR X (.builtin id) d) (hg : Gl X x) (hm : X.mg x = none) (hv : bootBuiltins x = some (.builtin id)) (ha : LAB X F0 H0 (e :: es) da) (hn : x ≠ "__name__" := by decide) (hdb : (x == ("__debug__" : Str)) = false := by decide)
    (he : starEach (e :: es) X.env = (false, eval e X.env) :: starEach es X.env := by rfl) (hpl : (backTo pos (starEach es X.env)).any (·.1) = false := by rfl) : LE X F0 H0 (.Call (.Name x p) (e :: es) [] pos) (dArgs d da) := by
  obtain ⟨r, h1, h2⟩ := h
  exact peW (pe_callB h2 hg hm hv ha hn hdb he hpl) (low_cb h1)
theorem le_bty {T : String} {d : List D → (D → Prop) → Prop} {da : DA} (h : BltR X (.type T) d) (hg : Gl X x) (hm : X.mg x = none) (hv : bootBuiltins x = some (.type T)) (ha : LAB X F0 H0 (e :: es) da) (hn : x ≠ "__name__" := by decide) (hdb : (x == ("__debug__" : Str)) = false := by decide)
    (he : starEach (e :: es) X.env = (false, eval e X.env) :: starEach es X.env := by rfl) (hpl : (backTo pos (starEach es X.env)).any (·.1) = false := by rfl) : LE X F0 H0 (.Call (.Name x p) (e :: es) [] pos) (dArgs d da) := by
  obtain ⟨r, h1, h2⟩ := h
  exact peW (pe_callTy h2 hg hm hv ha hn hdb he hpl) (low_cb h1)
theorem BRepL.one {K : PySem.W.Frag} {F H : Hp} {vs : List V} {x : D} (r : BRepL K F H vs [x]) : ∃ v, vs = [v] ∧ BRep K F H v x := by
  cases r with
  | cons r rr => cases rr; exact ⟨_, rfl, r⟩
theorem BRepL.two {K : PySem.W.Frag} {F H : Hp} {vs : List V} {x y : D} (r : BRepL K F H vs [x, y]) : ∃ v w, vs = [v, w] ∧ BRep K F H v x ∧ BRep K F H w y := by
  cases r with
  | cons r rr =>
    obtain ⟨w, rfl, r2⟩ := rr.one
    exact ⟨_, w, rfl, r, r2⟩
def lenD : D → Option Nat
  | .str z => some z.length
  | .lst z => some z.length
  | .tup z => some z.length
  | _ => none
def dLen : List D → (D → Prop) → Prop
  | [x], P => (match lenD x with | some n => P (.int n) | none => False)
  | _, _ => False
theorem b_len : BltR X (.builtin "len") dLen := ⟨_, fun F H vs xs P Q e r d k => by
  unfold dLen at d
  split at d
  · obtain ⟨v, rfl, r1⟩ := r.one
    split at d
    · rename_i x _ n hn
      refine ⟨v, n, rfl, ?_, k _ d F H _ (.refl e) (.int _)⟩
      cases x <;> simp only [lenD, Option.some.injEq, reduceCtorEq] at hn
      · obtain ⟨rfl, h1, h2⟩ := r1.str
        exact ⟨by rw [strOf_len]; exact h1, by rw [strOf_len]; exact hn.symm⟩
      · obtain ⟨p, vs, rfl, s, r, z⟩ := r1.lst e
        exact .inl ⟨vs, s, by rw [r.length]; exact hn.symm⟩
      · obtain ⟨p, vs, rfl, s, r, z⟩ := r1.tup e
        exact .inr ⟨vs, s, by rw [r.length]; exact hn.symm⟩
    · exact d.elim
  · exact d.elim, call_len⟩
def intsD : List D → Option (List Int)
  | [] => some []
  | .int i :: r => (intsD r).map (i :: ·)
  | _ => none
theorem intsD_map (ns : List Int) : intsD (ns.map D.int) = some ns := by
  induction ns with
  | nil => rfl
  | cons n ns ih => simp [intsD, ih]
theorem intsD_eq : ∀ {xs : List D} {ns : List Int}, intsD xs = some ns → xs = ns.map D.int
  | [], _, h => by simp [intsD] at h; subst h; rfl
  | .int i :: r, ns, h => by
    simp only [intsD] at h
    cases q : intsD r with
    | none => rw [q] at h; cases h
    | some ms => rw [q] at h; simp at h; subst h; rw [intsD_eq q]; rfl
  | .non :: _, _, h => by simp [intsD] at h
  | .bl _ :: _, _, h => by simp [intsD] at h
  | .str _ :: _, _, h => by simp [intsD] at h
  | .ty _ :: _, _, h => by simp [intsD] at h
  | .fn _ :: _, _, h => by simp [intsD] at h
  | .lst _ :: _, _, h => by simp [intsD] at h
  | .tup _ :: _, _, h => by simp [intsD] at h
  | .obj _ _ :: _, _, h => by simp [intsD] at h
def strsD : List D → Option (List Tx)
  | [] => some []
  | .str i :: r => (strsD r).map (i :: ·)
  | _ => none
theorem strsD_map (ns : List Tx) : strsD (ns.map D.str) = some ns := by
  induction ns with
  | nil => rfl
  | cons n ns ih => simp [strsD, ih]
theorem strsD_eq : ∀ {xs : List D} {ns : List Tx}, strsD xs = some ns → xs = ns.map D.str
  | [], _, h => by simp [strsD] at h; subst h; rfl
  | .str i :: r, ns, h => by
    simp only [strsD] at h
    cases q : strsD r with
    | none => rw [q] at h; cases h
    | some ms => rw [q] at h; simp at h; subst h; rw [strsD_eq q]; rfl
  | .non :: _, _, h => by simp [strsD] at h
  | .bl _ :: _, _, h => by simp [strsD] at h
  | .int _ :: _, _, h => by simp [strsD] at h
  | .ty _ :: _, _, h => by simp [strsD] at h
  | .fn _ :: _, _, h => by simp [strsD] at h
  | .lst _ :: _, _, h => by simp [strsD] at h
  | .tup _ :: _, _, h => by simp [strsD] at h
  | .obj _ _ :: _, _, h => by simp [strsD] at h
def blsD : List D → Option (List Bool)
  | [] => some []
  | .bl i :: r => (blsD r).map (i :: ·)
  | _ => none
theorem blsD_map (ns : List Bool) : blsD (ns.map D.bl) = some ns := by
  induction ns with
  | nil => rfl
  | cons n ns ih => simp [blsD, ih]
theorem blsD_eq : ∀ {xs : List D} {ns : List Bool}, blsD xs = some ns → xs = ns.map D.bl
  | [], _, h => by simp [blsD] at h; subst h; rfl
  | .bl i :: r, ns, h => by
    simp only [blsD] at h
    cases q : blsD r with
    | none => rw [q] at h; cases h
    | some ms => rw [q] at h; simp at h; subst h; rw [blsD_eq q]; rfl
  | .non :: _, _, h => by simp [blsD] at h
  | .str _ :: _, _, h => by simp [blsD] at h
  | .int _ :: _, _, h => by simp [blsD] at h
  | .ty _ :: _, _, h => by simp [blsD] at h
  | .fn _ :: _, _, h => by simp [blsD] at h
  | .lst _ :: _, _, h => by simp [blsD] at h
  | .tup _ :: _, _, h => by simp [blsD] at h
  | .obj _ _ :: _, _, h => by simp [blsD] at h
def dSum : List D → (D → Prop) → Prop
  | [.lst xs], P => (match intsD xs with | some ns => P (.int ns.sum) | none => False)
  | _, _ => False
theorem b_sum (hc : X.calm = true) : BltR X (.builtin "sum") dSum := ⟨_, fun F H vs xs P Q e r d k => by
  unfold dSum at d
  split at d
  · obtain ⟨v, rfl, r1⟩ := r.one
    split at d
    · rename_i xs ns hn
      obtain ⟨p, vs, rfl, s, r, z⟩ := r1.lst e
      rw [intsD_eq hn] at r
      rw [r.ints] at s
      exact ⟨p, ns, rfl, s, k _ d F H _ (.refl e) (.int _)⟩
    · exact d.elim
  · exact d.elim, cr_sum hc⟩
def dAll : List D → (D → Prop) → Prop
  | [.lst xs], P => (match blsD xs with | some ns => P (.bl (ns.all id)) | none => False)
  | _, _ => False
theorem b_all (hc : X.calm = true) : BltR X (.builtin "all") dAll := ⟨_, fun F H vs xs P Q e r d k => by
  unfold dAll at d
  split at d
  · obtain ⟨v, rfl, r1⟩ := r.one
    split at d
    · rename_i xs ns hn
      obtain ⟨p, vs, rfl, s, r, z⟩ := r1.lst e
      rw [blsD_eq hn] at r
      rw [r.bls] at s
      exact ⟨p, ns, rfl, s, k _ d F H _ (.refl e) (.bl _)⟩
    · exact d.elim
  · exact d.elim, cr_all hc⟩
def dAny : List D → (D → Prop) → Prop
  | [.lst xs], P => (match blsD xs with | some ns => P (.bl (ns.any id)) | none => False)
  | _, _ => False
theorem b_any (hc : X.calm = true) : BltR X (.builtin "any") dAny := ⟨_, fun F H vs xs P Q e r d k => by
  unfold dAny at d
  split at d
  · obtain ⟨v, rfl, r1⟩ := r.one
    split at d
    · rename_i xs ns hn
      obtain ⟨p, vs, rfl, s, r, z⟩ := r1.lst e
      rw [blsD_eq hn] at r
      rw [r.bls] at s
      exact ⟨p, ns, rfl, s, k _ d F H _ (.refl e) (.bl _)⟩
    · exact d.elim
  · exact d.elim, cr_any hc⟩
def dMax2 : List D → (D → Prop) → Prop
  | [.int i, .int j], P => P (.int (if j > i then j else i))
  | _, _ => False
theorem b_max2 (hc : X.calm = true) : BltR X (.builtin "max") dMax2 := ⟨_, fun F H vs xs P Q e r d k => by
  unfold dMax2 at d
  split at d
  · obtain ⟨v, w, rfl, r1, r2⟩ := r.two
    exact ⟨_, _, by rw [r1.int, r2.int], k _ d F H _ (.refl e) (.int _)⟩
  · exact d.elim, call_max2 hc⟩
def dMin2 : List D → (D → Prop) → Prop
  | [.int i, .int j], P => P (.int (if j < i then j else i))
  | _, _ => False
theorem b_min2 (hc : X.calm = true) : BltR X (.builtin "min") dMin2 := ⟨_, fun F H vs xs P Q e r d k => by
  unfold dMin2 at d
  split at d
  · obtain ⟨v, w, rfl, r1, r2⟩ := r.two
    exact ⟨_, _, by rw [r1.int, r2.int], k _ d F H _ (.refl e) (.int _)⟩
  · exact d.elim, call_min2 hc⟩
def dAbs : List D → (D → Prop) → Prop
  | [.int i], P => P (.int (if i < 0 then -i else i))
  | _, _ => False
theorem b_abs : BltR X (.builtin "abs") dAbs := ⟨_, fun F H vs xs P Q e r d k => by
  unfold dAbs at d
  split at d
  · obtain ⟨v, rfl, r1⟩ := r.one
    exact ⟨_, by rw [r1.int], k _ d F H _ (.refl e) (.int _)⟩
  · exact d.elim, call_abs⟩
/-- list(x) -/
def dListOf : List D → (D → Prop) → Prop
  | [.lst xs], P => P (.lst xs)
  | [.tup xs], P => P (.lst xs)
  | _, _ => False
theorem b_list : BltR X (.type "list") dListOf := ⟨_, fun F H vs xs P Q e r d k => by
  unfold dListOf at d
  split at d
  · obtain ⟨v, rfl, r1⟩ := r.one
    obtain ⟨p, vs, rfl, s, r, z⟩ := r1.lst e
    exact ⟨p, vs, rfl, .inl s, fun l hl => k _ d _ _ _ (.new e hl) (rep_newL e hl r z)⟩
  · obtain ⟨v, rfl, r1⟩ := r.one
    obtain ⟨p, vs, rfl, s, r, z⟩ := r1.tup e
    exact ⟨p, vs, rfl, .inr s, fun l hl => k _ d _ _ _ (.new e hl) (rep_newL e hl r z)⟩
  · exact d.elim, call_list_of⟩
/-- isinstance(x, T) -/
def tyD : D → Option String
  | .non => some "NoneType"
  | .bl _ => some "bool"
  | .int _ => some "int"
  | .str _ => some "str"
  | .lst _ => some "list"
  | .tup _ => some "tuple"
  | _ => none
theorem sql_ty {K : PySem.W.Frag} {H : Hp} {a : Addr} {xs : List V} (s : SqL K H a xs) : TyX K H (.ref a) (.type "list") := by
  rcases s with (s | ⟨o, s⟩) | ⟨o, _, _, h, c, _⟩
  · exact .base (.lst s)
  · exact .base (.frz s)
  · exact .kList h c
theorem sqt_ty {K : PySem.W.Frag} {H : Hp} {a : Addr} {xs : List V} (s : SqT K H a xs) : TyX K H (.ref a) (.type "tuple") := by
  rcases s with (s | ⟨o, s⟩) | ⟨o, _, _, h, c, _⟩
  · exact .base (.tup s)
  · exact .fTuple s
  · exact .kTuple h c
theorem brep_ty {K : PySem.W.Frag} {F H : Hp} {v : V} {x : D} {t : String} (e : Same F H) (r : BRep K F H v x) (h : tyD x = some t) : TyX K H v (.type t) := by
  cases x <;> simp only [tyD, Option.some.injEq, reduceCtorEq] at h <;> subst h
  · rw [r.non]; exact .base .non
  · rw [r.bl]; exact .base (.bl _)
  · rw [r.int]; exact .base (.int _)
  · rw [r.str.1]; exact .base (.str _)
  · obtain ⟨p, vs, rfl, s, _⟩ := r.lst e; exact sql_ty s
  · obtain ⟨p, vs, rfl, s, _⟩ := r.tup e; exact sqt_ty s
def dIsi : List D → (D → Prop) → Prop
  | [x, .ty n], P => (match tyD x with | some t => (match kitB t n with | some b => P (.bl b) | none => False) | none => False)
  | _, _ => False
theorem b_isi : BltR X (.builtin "isinstance") dIsi := ⟨_, fun F H vs xs P Q e r d k => by
  unfold dIsi at d
  split at d
  · obtain ⟨v, w, rfl, r1, r2⟩ := r.two
    split at d
    · rename_i t ht
      split at d
      · rename_i b hb
        rename_i x n _ _
        have : w = .ty n := by rcases r2 with r2 | ⟨fp, r2, nt⟩ <;> cases r2; rfl
        subst this
        exact ⟨v, .ty n, .type t, .type n, b, rfl, .ty _, brep_ty e r1 ht, kit_ty hb, k _ d F H _ (.refl e) (.bl _)⟩
      · exact d.elim
    · exact d.elim
  · exact d.elim, call_isi⟩
theorem kb1 : kitB "bool" "bool" = some true := by decide +kernel
theorem kb2 : kitB "bool" "int" = some true := by decide +kernel
theorem kb3 : kitB "int" "bool" = some false := by decide +kernel
theorem kb4 : kitB "int" "int" = some true := by decide +kernel
theorem kb5 : kitB "str" "str" = some true := by decide +kernel
theorem kb6 : kitB "list" "list" = some true := by decide +kernel
theorem kb7 : kitB "tuple" "tuple" = some true := by decide +kernel
theorem kb8 : kitB "str" "int" = some false := by decide +kernel
theorem kb9 : kitB "str" "bool" = some false := by decide +kernel
theorem kb10 : kitB "NoneType" "str" = some false := by decide +kernel
theorem kb11 : kitB "NoneType" "int" = some false := by decide +kernel
theorem kb12 : kitB "NoneType" "bool" = some false := by decide +kernel
theorem le_btv {n : String} (hg : Gl X x) (hm : X.mg x = none) (hv : bootBuiltins x = some (.type n)) (hn : x ≠ "__name__" := by decide) (hd : (x == ("__debug__" : Str)) = false := by decide) : LE X F0 H0 (.Name x pos) (dC (.ty n)) :=
  le_c (pe_bltn hg hm hv (v := .ty n) rfl hn hd) fun _ => .ty n
def joinT (sep : Tx) (xs : List Tx) : Tx := TL.joinL sep xs
def dJoinV (sep : Tx) (x : D) (P : D → Prop) : Prop := match x with
  | .lst xs => (match strsD xs with | some ts => (ts.map (·.length)).sum + ts.length * sep.length ≤ 16777216 ∧ P (.str (joinT sep ts)) | none => False)
  | _ => False
def dJoin (do_ da : DE) : DE := fun ρ P => do_ ρ fun s => match s with
  | .str sep => da ρ fun x => dJoinV sep x P
  | _ => False
theorem okTx_join {sep : Tx} (hs : okTx sep = true) : ∀ {ts : List Tx}, (∀ t ∈ ts, okTx t = true) → okTx (joinT sep ts) = true
  | [], _ => rfl
  | [p], h => h p (by simp)
  | p :: q :: r, h => by
    show okTx (p ++ (sep ++ TL.joinL sep (q :: r))) = true
    rw [okTx_app, okTx_app, h p (by simp), hs, show okTx (TL.joinL sep (q :: r)) = true from okTx_join hs fun t ht => h t (by simp [ht])]
    rfl
theorem join_len {sep : Tx} : ∀ {ts : List Tx}, (joinT sep ts).length ≤ (ts.map (·.length)).sum + ts.length * sep.length
  | [] => by simp [joinT, TL.joinL]
  | [p] => by simp [joinT, TL.joinL]
  | p :: q :: r => by
    have := join_len (sep := sep) (ts := q :: r)
    show (p ++ (sep ++ TL.joinL sep (q :: r))).length ≤ _
    rw [List.length_append, List.length_append]
    unfold joinT at this
    simp only [List.map_cons, List.sum_cons, List.length_cons] at this ⊢
    have e : (r.length + 1 + 1) * sep.length = (r.length + 1) * sep.length + sep.length := by rw [Nat.succ_mul]
    omega
theorem RepL.strs_ok {K : PySem.W.Frag} {F : Hp} : ∀ {ts : List Tx} {vs : List V}, RepL K F vs (ts.map D.str) → ∀ t ∈ ts, okTx t = true
  | [], _, _, _, h => by cases h
  | t :: ts, _, r, u, h => by
    cases r with
    | cons r rr =>
      rcases List.mem_cons.mp h with q | q
      · subst q; cases r with | str _ _ g => exact g
      · exact RepL.strs_ok rr u q
theorem le_join {do_ da : DE} (ho : LE X F0 H0 o do_) (ha : LB X F0 H0 e da) (hs : starEach [e] X.env = [(false, eval e X.env)] := by rfl) (hbase : attributeBase o "join" X.env (eval o X.env) = eval o X.env := by rfl) (hline : (apos.endLine == pos.line) = true := by rfl) :
    LE X F0 H0 (.Call (.Attribute o "join" apos) [e] [] pos) (dJoin do_ da) :=
  peW (pe_join ho ha hs hbase hline) fun σ H Q ⟨F, ρ, fps, P, E, q, k⟩ => ⟨F, ρ, fps, _, E, q, fun s hs F1 H1 v e1 r1 => by
    cases s <;> first | exact False.elim hs | skip
    rename_i sep
    cases r1 with
    | str _ z1 g1 =>
    refine ⟨⟨_, rfl⟩, F1, ρ, fps, _, E.ext e1, hs, fun x hx F2 H2 u e2 r2 => ?_⟩
    unfold dJoinV at hx
    split at hx
    · split at hx
      · rename_i xs ts ht
        obtain ⟨p, vs, rfl, s, r, z⟩ := r2.lst e2.w
        rw [strsD_eq ht] at r
        have hok := r.strs_ok
        rw [r.strs] at s
        refine ⟨_, p, ts.map strOf, rfl, rfl, .inl s, ?_, ?_⟩
        · rw [List.map_map, List.length_map, strOf_len]
          have : (ts.map ((fun x => x.length) ∘ strOf)) = ts.map (·.length) := List.map_congr_left fun t _ => strOf_len t
          rw [this]; exact hx.1
        · have : Txt.join (strOf sep) (ts.map strOf) = strOf (joinT sep ts) := by
            refine TL.ext_tl ?_
            rw [TL.join_eq, TL.tl_join, List.map_map]
            have : ts.map (TL.tl ∘ strOf) = ts := by simp [Function.comp_def, strOf]
            rw [this]; rfl
          rw [this]
          exact k _ hx.2 F2 H2 _ (e1.trans e2) (.str _ (Nat.le_trans join_len (by rw [sizeLine_eq]; exact hx.1)) (okTx_join g1 hok))
      · exact False.elim hx
    · exact False.elim hx⟩
structure FnG (P : Program) (w : World) (K : PySem.W.Frag) (mg : Str → Option Value) (base : Heap) (x : Str) (k : Nat) (S : DSpec) : Prop where
  ex : ∃ f fd ps, FnOk P w K mg base CX0 k f fd ps (lowSp K S) ∧ mg x = some (.ref f) ∧ PySem.W.keepIn K (.ref f) = true ∧ Binds K fd ps []
structure MkG (P : Program) (w : World) (K : PySem.W.Frag) (mg : Str → Option Value) (base : Heap) (x : Str) (C : Addr) (k : Nat) (S : DISpec) : Prop where
  ex : ∃ f fd ps, Mk K C f ∧ FnOk P w K mg base CX0 k f fd ps (lowInit K C S) ∧ mg x = some (.ref C) ∧ Binds K fd ps []
theorem le_callG {k : Nat} {S : DSpec} {E : XK} {da : DA} (h : FnG X.prog X.w X.K X.mg X.base x k S) (hr : Room k X.A) (hg : Gl X x) (hx : Passes CX0 X E)
    (ha : LA X F0 H0 (e :: es) da) (hdb : (x == ("__debug__" : Str)) = false := by decide) (he : starEach (e :: es) X.env = (false, eval e X.env) :: starEach es X.env := by rfl) (hpl : (backTo pos (starEach es X.env)).any (·.1) = false := by rfl) :
    LE X F0 H0 (.Call (.Name x p) (e :: es) [] pos) (dCall S da) := by
  obtain ⟨f, fd, ps, F, hm, hk, hb⟩ := h
  exact le_call F hr hg hm hk hb hx ha hdb he hpl
theorem le_callG0 {k : Nat} {S : DSpec} {E : XK} (h : FnG X.prog X.w X.K X.mg X.base x k S) (hr : Room k X.A) (hg : Gl X x) (hx : Passes CX0 X E)
    (hdb : (x == ("__debug__" : Str)) = false := by decide) : LE X F0 H0 (.Call (.Name x p) [] [] pos) (dCall S dNil) := by
  obtain ⟨f, fd, ps, F, hm, hk, hb⟩ := h
  exact le_call0 F hr hg hm hk hb hx hdb
theorem le_makeG {k : Nat} {C : Addr} {S : DISpec} {E : XK} {da : DA} (h : MkG X.prog X.w X.K X.mg X.base x C k S) (hr : Room (k + 1) X.A) (hg : Gl X x) (hx : Passes CX0 X E)
    (ha : LA X F0 H0 (e :: es) da) (hdb : (x == ("__debug__" : Str)) = false := by decide) (he : starEach (e :: es) X.env = (false, eval e X.env) :: starEach es X.env := by rfl) (hpl : (backTo pos (starEach es X.env)).any (·.1) = false := by rfl) :
    LE X F0 H0 (.Call (.Name x p) (e :: es) [] pos) (dMake C S da) := by
  obtain ⟨f, fd, ps, M, F, hm, hb⟩ := h
  exact le_make M F hr hg hm hb hx ha hdb he hpl
theorem le_makeG0 {k : Nat} {C : Addr} {S : DISpec} {E : XK} (h : MkG X.prog X.w X.K X.mg X.base x C k S) (hr : Room (k + 1) X.A) (hg : Gl X x) (hx : Passes CX0 X E)
    (hdb : (x == ("__debug__" : Str)) = false := by decide) : LE X F0 H0 (.Call (.Name x p) [] [] pos) (dMake C S dNil) := by
  obtain ⟨f, fd, ps, M, F, hm, hb⟩ := h
  exact le_make0 M F hr hg hm hb hx hdb
/-- a class of the program as a value -/
theorem le_cls {C : Addr} (hm : X.mg x = some (.ref C)) (hg : Gl X x) (hd : (x == ("__debug__" : Str)) = false := by decide) : LE X F0 H0 (.Name x pos) (dC (.fn C)) :=
  le_c (pe_glob hg hm (v := .ref C) rfl hd) fun _ => .fn C
theorem le_gint {i : Int} (hg : Gl X x) (hm : ∃ t, X.mg x = some (.int i t)) (hd : (x == ("__debug__" : Str)) = false := by decide) : LE X F0 H0 (.Name x pos) (dC (.int i)) := by
  obtain ⟨t, hm⟩ := hm
  exact le_c (pe_glob hg hm (v := .int i) ⟨t, rfl⟩ hd) fun _ => .int i
theorem le_gstr {z : Str} {l : Tx} (hg : Gl X x) (hm : ∃ t, X.mg x = some (.str z t)) (h : txOf z = l) (hl : (decide (l.length ≤ 1000) && okTx l) = true) (hd : (x == ("__debug__" : Str)) = false := by decide) : LE X F0 H0 (.Name x pos) (dC (.str l)) := by
  obtain ⟨t, hm⟩ := hm
  exact le_c (pe_glob hg hm (v := .str z) ⟨t, rfl⟩ hd) fun _ => by
    simp only [Bool.and_eq_true, decide_eq_true_eq] at hl
    exact rep_str h (Nat.le_trans hl.1 (by decide)) hl.2
end
/-- the law: a list of at most 63 ints is handed in, True comes out -/
def spLaw (K : PySem.W.Frag) : Sp := fun vs H Q _ => ∃ (a : Addr) (ns : List Int), vs = [.ref a] ∧ SqL K H a (ns.map V.int) ∧ ns.length ≤ 63 ∧ ∀ H', Q (.bl true) H'
def S_theLaw : DSpec := fun ds P => match ds with | [.lst xs] => (match intsD xs with | some ns => ns.length ≤ 63 ∧ P (.bl true) | none => False) | _ => False
theorem law_imp {K : PySem.W.Frag} : ∀ vs H Q E, spLaw K vs H Q E → lowSp K S_theLaw vs H Q E := fun vs H Q E ⟨a, ns, e, s, hl, k⟩ => by
  subst e
  have hz : ns.length ≤ sizeLine := Nat.le_trans hl (by decide)
  refine ⟨H, [.lst (ns.map D.int)], fun d => d = .bl true, .refl H, .cons (.lst s (by simpa using hz) (RepL.of_ints ns)) .nil, ?_, fun x hx F' H' v _ r => ?_⟩
  · show (match intsD (ns.map D.int) with | some ns => ns.length ≤ 63 ∧ (D.bl true : D) = .bl true | none => False)
    rw [intsD_map]
    exact ⟨hl, rfl⟩
  · subst hx
    cases r
    exact k H'
end DL
end
section
namespace DL
open PySem L2
section
variable {X : Cx} {F0 H0 : Hp} {e a b c tg o : Expr} {es : List Expr} {pos p apos : Pos} {x m : Str}
theorem RepL.setAt {K : PySem.W.Frag} {F : Hp} {v : V} {d : D} (r : Rep K F v d) : ∀ {vs : List V} {ds : List D}, RepL K F vs ds → ∀ j, RepL K F (vs.set j v) (ds.set j d)
  | _, _, .nil, _ => .nil
  | _, _, .cons h q, 0 => .cons r q
  | _, _, .cons h q, j + 1 => .cons h (RepL.setAt r q j)
/-- xs[k] = e, xs an own list in slot i -/
def dStI (i : Nat) (di de : DE) : DS := fun E ρ => de ρ fun y => match ρ[i]? with | some (.ow (.lst xs)) => di ρ fun k => (match k with | .int k => (0 ≤ k ∧ k < xs.length) ∧ E.nx (ρ.set i (.ow (.lst (xs.set k.toNat y)))) | _ => False) | _ => False
theorem ls_stI {i : Nat} {o ix : Expr} {di de : DE} (ho : PE X o (tVar i)) (hi : LB X F0 H0 ix di) (he : LE X F0 H0 e de)
    (ha : ∀ v, assign (.Subscript o ix p) X.env v = (do
      let ov ← holding [v] (eval o X.env)
      let iv ← holding [v, ov] (eval ix X.env)
      standAt p
      holding [v, ov, iv] (setItem ov iv v)
      release [v, ov, iv] []) := by intro _; rfl)
    (hs : swapsWithSole [.Subscript o ix p] e pos.line X.env = pure false := by rfl) (hw : swappedStores [.Subscript o ix p] e X.env = pure none := by rfl)
    (h1 : (assignEach [.Subscript o ix p] X.env).map (·.2) = [assign (.Subscript o ix p) X.env] := by rfl) : LS X F0 H0 (.Assign [.Subscript o ix p] e pos) (dStI i di de) :=
  psW (ps_asg he (pg_sub ho hi set_list ha) hs hw h1) fun D σ H ⟨F, ρ, fps, E, R, q, k⟩ => ⟨F, ρ, fps, _, R, q, fun y hy F1 H1 v e1 r1 => by
    have R1 := R.ext e1
    split at hy
    · rename_i xs hr
      obtain ⟨w, fp, g1, g2, g3⟩ := R1.s.get hr
      cases g3 with
      | ow o1 =>
        cases o1 with
        | lst g r z n =>
          refine ⟨_, g1, F1, ρ, fps, _, R1, hy, fun y2 hy2 F2 H2 u e2 r2 => ?_⟩
          have R2 := R1.ext e2
          cases y2 with
          | int j =>
            have : u = .int j := by
              rcases r2 with r2 | ⟨fp, r2, nt⟩ <;> cases r2; rfl
            subst this
            obtain ⟨⟨h0, h9⟩, hy2⟩ := hy2
            have g' := e2.h _ _ g
            have hl := r.length
            refine ⟨_, _, j, j.toNat, rfl, rfl, g', ?_, ?_⟩
            · unfold ixN; rw [if_pos h0, if_pos (by rw [hl]; exact h9)]
            · refine k.nx F2 _ _ _ _ (e1.f.trans e2.f) (R2.updOwn g2 g1 (.lst upd_same ((r.mono e2.f).setAt (r1.mono e2.f) _) (by rw [List.length_set]; exact z) ?_)) hy2
              rw [e2.o _ (by rw [g]; simp)]
              exact n
          | _ => exact hy2.elim
    · exact hy.elim⟩
theorem low_lcN {vs is : List Nat} {wi : TI} {g : TG} {tt : TT} {te : TE} {di : DI} {dg : DG} {dt : DT} {de : DE} (hi : ∀ σ H R, lowI X.K F0 H0 di σ H R → wi σ H R) (hg : LowG X.K g dg is) (his : ∀ i ∈ is, i ∈ vs)
    (ht : ∀ σ H Q, lowT X.K F0 H0 dt σ H Q → tt σ H Q) (he : ∀ σ H Q, low X.K F0 H0 de σ H Q → te σ H Q) : ∀ σ H Q, lowN X.K F0 H0 (dLc vs di dg dt de) σ H Q → tLc wi g tt te vs σ H Q := fun σ H Q ⟨F, ρ, fps, P, R, q, k⟩ =>
  hi _ _ _ ⟨F, ρ, fps, _, R, q, fun xs ⟨hz, hx⟩ F1 H1 J e1 it A nA => by
    have nF1 : F1 A = none := e1.w.free nA
    refine ⟨fun i m H2 => m = xs.length - i ∧ i ≤ xs.length ∧ ∃ F2 acc done, Ext F1 H1 F2 H2 ∧ F2 A = none ∧ H2 A = some (.lst acc) ∧ RepL X.K F2 acc done ∧ done.length ≤ i ∧
      lcD vs dg dt de ρ (xs.drop i) fun ys => P (.lst (done ++ ys)), ⟨_, rfl, Nat.zero_le _, F1, [], [], ⟨.refl _, L2same_upd_new nA, e1.w.trans (L2same_upd_new nA), fun _ _ => rfl⟩, nF1, upd_same, .nil, Nat.le_refl _, hx⟩, ?_⟩
    rintro i m H2 ⟨rfl, hi, F2, acc, done, e2, nF2, hA, ra, hl, q2⟩
    by_cases hlt : i < xs.length
    · refine .inr ⟨it.go H2 i (e2.f.trans e2.w) (((R.ext e1).ext e2).x.h) hlt, fun H' => ∃ F2 acc done, Ext F1 H1 F2 H' ∧ F2 A = none ∧ H' A = some (.lst acc) ∧ RepL X.K F2 acc done ∧ done.length ≤ i + 1 ∧
        lcD vs dg dt de ρ (xs.drop (i + 1)) fun ys => P (.lst (done ++ ys)), fun H' n => ⟨_, by omega, rfl, hlt, n⟩, fun v H3 y => ?_⟩
      have hx : xs[i]? = some xs[i] := by simp [hlt]
      obtain ⟨F3, e3, r3⟩ := it.yld F2 H2 i v H3 _ e2.f e2.w (((R.ext e1).ext e2).x.h) y hx
      have ed : xs.drop i = xs[i] :: xs.drop (i + 1) := by simp
      rw [ed] at q2
      unfold lcD at q2
      have up : ∀ {F4 H4 : Hp}, Ext F2 H2 F4 H4 → F4 A = none ∧ H4 A = some (.lst acc) := fun e => ⟨by rw [e.o A (by rw [hA]; simp)]; exact nF2, e.h _ _ hA⟩
      obtain ⟨fpw, Rw⟩ := (((R.ext e1).ext e2).ext e3).wipe vs
      refine hg F0 H0 F3 H3 _ _ fpw v _ _ _ Rw r3 q2 fun ρ4 p4 σ4 fps4 ag R4 => ⟨?_, ?_⟩
      · have := ag.wipe his
        rw [this]
        exact L2wipe_wipe σ vs
      · refine ht _ _ _ ⟨F3, ρ4, fps4, _, R4, p4, fun b hb F4 H4 e4 => ?_⟩
        cases b with
        | true =>
          rw [if_pos rfl] at hb ⊢
          refine he _ _ _ ⟨F4, ρ4, fps4, _, R4.ext e4, hb, fun z hzz F5 H5 u e5 r5 => ?_⟩
          obtain ⟨n5, h5⟩ := up ((e3.trans e4).trans e5)
          have e25 := (e3.trans e4).trans e5
          refine ⟨acc, h5, by rw [ra.length]; omega, F5, acc ++ [u], done ++ [z], ?_, n5, upd_same, (ra.mono e25.f).append (.cons r5 .nil), by simp; omega, ?_⟩
          · have e15 := e2.trans e25
            refine ⟨e15.f, fun b o h => ?_, fun b o h => ?_, e15.o⟩
            · rw [upd_ne (ne_of_none h nA)]; exact e15.h _ _ h
            · rw [upd_ne (ne_of_none h n5)]; exact e15.w _ _ h
          · have : (fun ys => P (.lst (done ++ [z] ++ ys))) = fun ys => P (.lst (done ++ z :: ys)) := by funext ys; simp
            rw [this]; exact hzz
        | false =>
          rw [if_neg Bool.false_ne_true] at hb ⊢
          have e24 := e3.trans e4
          obtain ⟨n4, h4⟩ := up e24
          exact ⟨F4, acc, done, e2.trans e24, n4, h4, ra.mono e24.f, by omega, hb⟩
    · have e : i = xs.length := by omega
      subst e
      rw [List.drop_length] at q2
      refine .inl ⟨it.stop H2 (e2.f.trans e2.w) (((R.ext e1).ext e2).x.h), ?_⟩
      unfold lcD at q2
      rw [List.append_nil] at q2
      refine k _ q2 F2 H2 _ [A] (e1.trans e2) (.lst hA ra (by omega) nF2) (by simp) fun a ha => ?_
      simp at ha; subst ha
      exact e1.h.free nA⟩
theorem ls_setLcN {i : Nat} {y : Str} {py spos : Pos} {elt iter : Expr} {ifs : List Expr} {scope : Scope} {own : List (Str × Nat)} {is : List Nat} {g : TG} {di : DI} {dg : DG} {dt : DT} {de : DE} (hc : X.calm = true) (hN : X.N.Nodup) (hy : X.N[i]? = some y) (hyl : X.env.scope.names.lookup y = some .local)
    (hsw : swapsWith (.ListComp elt [⟨tg, iter, ifs, 0⟩] scope pos) (some (.Name y py)) spos.line X.env = pure true) (hi : LI X F0 H0 tg iter di) (ok : BlkOk X.N X.env.scope scope own)
    (pg : ∀ (s : Shared) (H : Hp) (C : Addr) (cl : List (Str × Addr)) (fp : List Addr), PG (X.blk s H scope (compEnvC scope cl C X.env) fp) tg g) (hg : LowG X.K g dg is) (his : (is.all fun i => (own.map (·.2)).contains i) = true)
    (ht : ∀ (s : Shared) (H : Hp) (C : Addr) (cl : List (Str × Addr)) (fp : List Addr), PTs (X.blk s H scope (compEnvC scope cl C X.env) fp) ifs (lowT X.K F0 H0 dt))
    (he : ∀ (s : Shared) (H : Hp) (C : Addr) (cl : List (Str × Addr)) (fp : List Addr), LE (X.blk s H scope (compEnvC scope cl C X.env) fp) F0 H0 elt de) (hs : ∀ x, foldedSetIterable iter X.env x = pure x := by intro _; rfl) :
    LS X F0 H0 (.Assign [.Name y py] (.ListComp elt [⟨tg, iter, ifs, 0⟩] scope pos) spos) (dSetN i (dLc (own.map (·.2)) di dg dt de)) :=
  psW (ps_setLc hc hN hy hyl hsw hi ok pg ht he hs) fun D σ H ⟨F, ρ, fps, E, R, q, k⟩ => low_lcN (fun _ _ _ q => q) hg (fun i hi => by simpa using List.all_eq_true.mp his i hi) (fun _ _ _ q => q) (fun _ _ _ q => q) σ H _ ⟨F, ρ, fps, _, R, q, fun x hx F1 H1 v fp e1 o nd nf => k.nx F1 H1 _ _ _ e1.f (R.setOwn e1 o nd nf i) hx⟩
def dBitAnd : DR2
  | .int i, .int j, P => P (.int (Builtin.bitAnd i j))
  | _, _, _ => False
theorem low_bitAnd {K : PySem.W.Frag} : LowR2 K (rI0 fun i j => .int (Builtin.bitAnd i j)) dBitAnd := by
  intro F H v w x y P Q e bx byy d k
  unfold dBitAnd at d
  split at d
  · rename_i i j
    exact ⟨i, j, bx.int, byy.int, k _ d F H _ (.refl e) (.int _)⟩
  · exact d.elim
def dShr : DR2
  | .int i, .int j, P => 0 ≤ j ∧ P (.int (i / 2 ^ j.toNat))
  | _, _, _ => False
theorem low_shr {K : PySem.W.Frag} : LowR2 K (rI (fun _ j => 0 ≤ j) fun i j => .int (i / 2 ^ j.toNat)) dShr := by
  intro F H v w x y P Q e bx byy d k
  unfold dShr at d
  split at d
  · rename_i i j
    exact ⟨i, j, bx.int, byy.int, d.1, k _ d.2 F H _ (.refl e) (.int _)⟩
  · exact d.elim
theorem le_bitAnd {da db : DE} (ha : LB X F0 H0 a da) (hb : LB X F0 H0 b db) : LE X F0 H0 (.BinOp a .BitAnd b pos) (dOp dBitAnd da db) := le_op low_bitAnd op_and ha hb
theorem le_shr {da db : DE} (ha : LB X F0 H0 a da) (hb : LB X F0 H0 b db) : LE X F0 H0 (.BinOp a .RShift b pos) (dOp dShr da db) := le_op low_shr op_shr ha hb
/-- list(e), a new own list -/
theorem ln_list {da : DA} (hg : Gl X x) (hm : X.mg x = none) (hv : bootBuiltins x = some (.type "list")) (ha : LAB X F0 H0 (e :: es) da) (hn : x ≠ "__name__" := by decide) (hdb : (x == ("__debug__" : Str)) = false := by decide)
    (he : starEach (e :: es) X.env = (false, eval e X.env) :: starEach es X.env := by rfl) (hpl : (backTo pos (starEach es X.env)).any (·.1) = false := by rfl) : LN X F0 H0 (.Call (.Name x p) (e :: es) [] pos) (dArgs dListOf da) :=
  peW (pe_callTy call_list_of hg hm hv ha hn hdb he hpl) fun σ H Q ⟨F, ρ, fps, P, R, q, k⟩ => ⟨F, ρ, fps, _, R, q, fun xs hx F1 H1 vs e1 r1 => by
    have fin : ∀ (l : Addr) (us : List V) (ds : List D), H1 l = none → RepL X.K F1 us ds → ds.length ≤ sizeLine → P (.lst ds) → Q (.ref l) (upd H1 l (.lst us)) := fun l us ds hl r z d =>
      k _ d F1 _ _ [l] (e1.trans ⟨.refl _, L2same_upd_new hl, e1.w.trans (L2same_upd_new hl), fun _ _ => rfl⟩) (.lst upd_same r z (e1.w.free hl)) (by simp) fun a ha => by
        simp at ha; subst ha
        exact e1.h.free hl
    unfold dListOf at hx
    split at hx
    · obtain ⟨v, rfl, b1⟩ := r1.one
      obtain ⟨p, vs, rfl, s, r, z⟩ := b1.lst e1.w
      exact ⟨p, vs, rfl, .inl s, fun l hl => fin l _ _ hl r z hx⟩
    · obtain ⟨v, rfl, b1⟩ := r1.one
      obtain ⟨p, vs, rfl, s, r, z⟩ := b1.tup e1.w
      exact ⟨p, vs, rfl, .inr s, fun l hl => fin l _ _ hl r z hx⟩
    · exact hx.elim⟩
/-- x is True -/
def dIsB (neg : Bool) : DR2
  | .bl k, .bl l, P => P (.bl (if neg then !decide (k = l) else decide (k = l)))
  | _, _, _ => False
theorem low_isB {K : PySem.W.Frag} : LowR2 K (fun x y H Q => ∃ a b, x = .bl a ∧ y = .bl b ∧ Q (.bl (decide (a = b))) H) (dIsB false) := by
  intro F H v w x y P Q e bx byy d k
  unfold dIsB at d
  split at d
  · exact ⟨_, _, bx.bl, byy.bl, k _ d F H _ (.refl e) (.bl _)⟩
  · exact d.elim
theorem low_isntB {K : PySem.W.Frag} : LowR2 K (fun x y H Q => ∃ a b, x = .bl a ∧ y = .bl b ∧ Q (.bl (!decide (a = b))) H) (dIsB true) := by
  intro F H v w x y P Q e bx byy d k
  unfold dIsB at d
  split at d
  · exact ⟨_, _, bx.bl, byy.bl, k _ d F H _ (.refl e) (.bl _)⟩
  · exact d.elim
theorem c_isB : CmpR X .Is (dIsB false) := ⟨_, low_isB, op_is_bl⟩
theorem c_isntB : CmpR X .IsNot (dIsB true) := ⟨_, low_isntB, op_isnot_bl⟩
theorem any_toPy {x : D} (hx : plainD x = true) : ∀ xs : List D, plainDL xs = true → ((toPyL xs).any fun z => PyData.eqv z (toPy x)) = xs.any fun y => eqD y x
  | [], _ => rfl
  | y :: xs, h => by
    simp only [plainDL, Bool.and_eq_true] at h
    simp only [toPyL, List.any_cons]
    rw [eqv_toPy _ _ h.1 hx, any_toPy hx xs h.2]
def dInT (neg : Bool) : DR2
  | x, .lst xs, P => (plainD x = true ∧ deep x ≤ 60) ∧ (plainD (.lst xs) = true ∧ deep (.lst xs) ≤ 60) ∧ P (.bl (if neg then !(xs.any fun y => eqD y x) else xs.any fun y => eqD y x))
  | _, _, _ => False
theorem low_inT {K : PySem.W.Frag} : LowR2 K (rInD K) (dInT false) := by
  intro F H v w x y P Q e bx byy d k
  unfold dInT at d
  split at d
  · rename_i xs
    have h1 := brep_dp e bx d.1.1 d.1.2
    have h2 := brep_dp e byy d.2.1.1 d.2.1.2
    refine ⟨_, toPyL xs, h1.1, h2.1, h1.2, h2.2, k _ d.2.2 F H _ (.refl e) ?_⟩
    rw [any_toPy d.1.1 xs (by simpa [plainD] using d.2.1.1)]
    exact .bl _
  · exact d.elim
theorem low_notInT {K : PySem.W.Frag} : LowR2 K (rNotInD K) (dInT true) := by
  intro F H v w x y P Q e bx byy d k
  unfold dInT at d
  split at d
  · rename_i xs
    have h1 := brep_dp e bx d.1.1 d.1.2
    have h2 := brep_dp e byy d.2.1.1 d.2.1.2
    refine ⟨_, toPyL xs, h1.1, h2.1, h1.2, h2.2, k _ d.2.2 F H _ (.refl e) ?_⟩
    rw [any_toPy d.1.1 xs (by simpa [plainD] using d.2.1.1)]
    exact .bl _
  · exact d.elim
theorem c_inT (hu : X.A.units + 65 < cLine) : CmpR X .In (dInT false) := ⟨_, low_inT, op_inD hu⟩
theorem c_notInT (hu : X.A.units + 65 < cLine) : CmpR X .NotIn (dInT true) := ⟨_, low_notInT, op_notInD hu⟩
theorem room1 {k : Nat} {A : Around} (r : Room k A) : A.units + 65 < cLine := by have := r.un; omega
def dChain (f f' : DR2) (da db dc : DE) : DE := fun ρ P => da ρ fun x => db ρ fun y => f x y fun z => match z with | .bl k => (if k = true then dc ρ fun w => f' y w P else P (.bl false)) | _ => False
theorem low_chain {r r' : R2} {f f' : DR2} {da db dc : DE} (hr : LowR2 X.K r f) (hr' : LowR2 X.K r' f') : ∀ σ H Q, low X.K F0 H0 (dChain f f' da db dc) σ H Q → tChain r r' (lowB X.K F0 H0 da) (lowB X.K F0 H0 db) (lowB X.K F0 H0 dc) σ H Q := fun σ H Q ⟨F, ρ, fps, P, E, q, k⟩ =>
  ⟨F, ρ, fps, _, E, q, fun x hx F1 H1 v e1 r1 => ⟨F1, ρ, fps, _, E.ext e1, hx, fun y hy F2 H2 w e2 r2 => hr F2 H2 v w x y _ _ e2.w (r1.ext e2) r2 hy fun z pz F3 H3 u e3 r3 => by
    cases z with
    | bl kb =>
      cases r3
      refine ⟨kb, rfl, ?_⟩
      cases kb with
      | true => exact ⟨F3, ρ, fps, _, ((E.ext e1).ext e2).ext e3, pz, fun w' hw F4 H4 u' e4 r4 => hr' F4 H4 w u' y w' P Q e4.w ((r2.ext e3).ext e4) r4 hw fun z2 pz2 F5 H5 u5 e5 r5 => k z2 pz2 F5 H5 u5 ((((e1.trans e2).trans e3).trans e4).trans e5) r5⟩
      | false => exact k _ pz F3 H3 _ ((e1.trans e2).trans e3) (.bl _)
    | _ => exact pz.elim⟩⟩
theorem le_chain {op op' : CmpOp} {f f' : DR2} {da db dc : DE} (h : CmpR X op f) (h' : CmpR X op' f') (ha : LB X F0 H0 a da) (hb : LB X F0 H0 b db) (hc : LB X F0 H0 c dc) (hm : lastMarks [op, op'] [b, c] = false := by with_unfolding_all rfl) :
    LE X F0 H0 (.Compare a [op, op'] [b, c] pos) (dChain f f' da db dc) := by
  obtain ⟨r, h1, h2⟩ := h
  obtain ⟨r', h1', h2'⟩ := h'
  exact peW (pe_chain h2 h2' ha hb hc hm) (low_chain h1 h1')
theorem lt_chain {op op' : CmpOp} {f f' : DR2} {da db dc : DE} (h : CmpR X op f) (h' : CmpR X op' f') (ha : LB X F0 H0 a da) (hb : LB X F0 H0 b db) (hc : LB X F0 H0 c dc) (hm : lastMarks [op, op'] [b, c] = false := by with_unfolding_all rfl) :
    LT X F0 H0 (.Compare a [op, op'] [b, c] pos) (dTst (dChain f f' da db dc)) := by
  obtain ⟨r, h1, h2⟩ := h
  obtain ⟨r', h1', h2'⟩ := h'
  exact ptW (pt_chain h2 h2' ha hb hc hm) (low_tst (low_chain h1 h1'))
end
end DL
end
section
namespace DL
open PySem L2
inductive MRepL (K : PySem.W.Frag) (F H : Hp) : List Bool → List V → List D → Prop
  | nil : MRepL K F H [] [] []
  | sh {ms : List Bool} {v : V} {d : D} {vs : List V} {ds : List D} : Rep K F v d → MRepL K F H ms vs ds → MRepL K F H (false :: ms) (v :: vs) (d :: ds)
  | bo {ms : List Bool} {v : V} {d : D} {vs : List V} {ds : List D} : BRep K F H v d → MRepL K F H ms vs ds → MRepL K F H (true :: ms) (v :: vs) (d :: ds)
theorem MRepL.length {K : PySem.W.Frag} {F H : Hp} : ∀ {ms : List Bool} {vs : List V} {ds : List D}, MRepL K F H ms vs ds → vs.length = ds.length
  | _, _, _, .nil => rfl
  | _, _, _, .sh _ r => by simp [r.length]
  | _, _, _, .bo _ r => by simp [r.length]
def slM : List Bool → List D → List Sl
  | true :: ms, d :: ds => .bo d :: slM ms ds
  | _ :: ms, d :: ds => .sh d :: slM ms ds
  | _, _ => []
def startRM (N : List Str) (ms : List Bool) (ds : List D) : Rh := slM ms ds ++ List.replicate (N.length - ds.length) Sl.no
theorem start_repM {K : PySem.W.Frag} {F H H' : Hp} : ∀ {ms : List Bool} {vs : List V} {ds : List D} (n : Nat), MRepL K F H ms vs ds → SlsRep K F H F H' (vs.map some ++ List.replicate n none) (slM ms ds ++ List.replicate n Sl.no) (ds.map (fun _ => []) ++ List.replicate n [])
  | _, _, _, 0, .nil => .nil
  | _, _, _, n + 1, .nil => .cons .no (start_repM n .nil)
  | _, _, _, n, .sh h r => .cons (.sh h) (start_repM n r)
  | _, _, _, n, .bo h r => .cons (.bo h) (start_repM n r)
def lowSpM (K : PySem.W.Frag) (ms : List Bool) (S : DSpec) : Sp := fun vs H Q _ => ∃ F ds P, Same F H ∧ MRepL K F H ms vs ds ∧ S ds P ∧ ∀ x, P x → ∀ F' H' v, Ext F H F' H' → Rep K F' v x → Q v H'
section
variable {P : Program} {w : World} {K : PySem.W.Frag} {mg : Str → Option Value} {base : Heap}
theorem fn_okM {x qual : Str} {st : Stmt} {f : Addr} {fd : FuncData} {N ps : List Str} {k : Nat} {ms : List Bool} {S : DSpec} {d : DS} (F : Fun K x qual st f fd) (Sc : FnScope N ps (defScope st)) (hlen : ∀ ds P, S ds P → ds.length = ps.length)
    (body : ∀ (cdv : Value) (A : Around) (outer : List Env) (s : Shared) (H : Hp) (E : XK) (F0 : Hp), Room k (A.deeper (PyProof.Rows.envOfC qual (defScope st) s.heap.objs.size f cdv)) → LSs (cxOf CX0 P w K mg base N qual (defScope st) f cdv A outer s H E).nox F0 H (defBody st) d)
    (sem : ∀ ds Q, S ds Q → d { nx := fun _ => Q .non, rt := Q } (startRM N ms ds)) : FnOk P w K mg base CX0 (k + 1) f fd ps (lowSpM K ms S) := by
  refine F.ok Sc (fun vs H Q E ⟨F, ds, P, e, r, h, _⟩ => by rw [r.length]; exact hlen _ _ h) fun cdv A outer s H vs Q E hr ⟨F0, ds, P, e, r, h, kk⟩ => ?_
  refine ⟨_, body cdv A outer s H E F0 hr, F0, startRM N ms ds, (ds.map fun _ => ([] : List Addr)) ++ List.replicate (N.length - ds.length) [], { nx := fun _ => P .non, rt := P }, ⟨.refl e, ?_, ?_⟩, sem ds P h, ⟨?_, ?_, ?_, ?_, ?_⟩⟩
  · unfold L2.start startRM
    rw [r.length]
    exact start_repM _ r
  · exact ⟨by rw [flat_nil]; exact List.nodup_nil, fun a ha => by rw [flat_nil] at ha; cases ha⟩
  · exact fun F' H' σ' ρ' fps' s R q => kk _ q F' H' _ R.x .non
  · exact fun F' H' σ' ρ' fps' s R q => False.elim q
  · exact fun F' H' σ' ρ' fps' s R q => False.elim q
  · exact fun F' H' v x s e' r' q => kk _ q F' H' v e' r'
  · exact fun F' H' v x fp s e' r' n1 n2 q => False.elim q
end
structure FnGM (P : Program) (w : World) (K : PySem.W.Frag) (mg : Str → Option Value) (base : Heap) (x : Str) (k : Nat) (ms : List Bool) (S : DSpec) : Prop where
  ex : ∃ f fd ps, FnOk P w K mg base CX0 k f fd ps (lowSpM K ms S) ∧ mg x = some (.ref f) ∧ PySem.W.keepIn K (.ref f) = true ∧ Binds K fd ps []
section
variable {X : Cx} {F0 H0 : Hp} {e a b c : Expr} {es : List Expr} {pos p : Pos} {x : Str}
def lowAM (K : PySem.W.Frag) (F0 H0 : Hp) (ms : List Bool) (d : DA) : TA := fun σ H Q => ∃ F ρ fps P, ERep K F0 H0 F H σ ρ fps ∧ d ρ P ∧ ∀ xs, P xs → ∀ F' H' vs, Ext F H F' H' → MRepL K F' H' ms vs xs → Q vs H'
abbrev LAM (X : Cx) (F0 H0 : Hp) (ms : List Bool) (es : List Expr) (d : DA) : Prop := PA X es (lowAM X.K F0 H0 ms d)
theorem lam_nil : LAM X F0 H0 [] [] dNil := paW pa_nil fun σ H Q ⟨F, ρ, fps, P, E, q, k⟩ => k _ q F H _ (.refl E.x.w) .nil
theorem lam_sh {ms : List Bool} {da : DE} {dr : DA} (ha : LE X F0 H0 e da) (hr : LAM X F0 H0 ms es dr) (hs : starEach (e :: es) X.env = (false, eval e X.env) :: starEach es X.env := by rfl) : LAM X F0 H0 (false :: ms) (e :: es) (dCons da dr) :=
  paW (pa_cons ha hr hs) fun σ H Q ⟨F, ρ, fps, P, E, q, k⟩ => ⟨F, ρ, fps, _, E, q, fun x hx F1 H1 v e1 r1 =>
    ⟨F1, ρ, fps, _, E.ext e1, hx, fun y hy F2 H2 w e2 r2 => k _ hy F2 H2 _ (e1.trans e2) (.sh (r1.mono e2.f) r2)⟩⟩
theorem lam_bo {ms : List Bool} {da : DE} {dr : DA} (ha : LB X F0 H0 e da) (hr : LAM X F0 H0 ms es dr) (hs : starEach (e :: es) X.env = (false, eval e X.env) :: starEach es X.env := by rfl) : LAM X F0 H0 (true :: ms) (e :: es) (dCons da dr) :=
  paW (pa_cons ha hr hs) fun σ H Q ⟨F, ρ, fps, P, E, q, k⟩ => ⟨F, ρ, fps, _, E, q, fun x hx F1 H1 v e1 r1 =>
    ⟨F1, ρ, fps, _, E.ext e1, hx, fun y hy F2 H2 w e2 r2 => k _ hy F2 H2 _ (e1.trans e2) (.bo (r1.ext e2) r2)⟩⟩
theorem le_callGM {k : Nat} {ms : List Bool} {S : DSpec} {E : XK} {da : DA} (h : FnGM X.prog X.w X.K X.mg X.base x k ms S) (hr : Room k X.A) (hg : Gl X x) (hx : Passes CX0 X E)
    (ha : LAM X F0 H0 ms (e :: es) da) (hdb : (x == ("__debug__" : Str)) = false := by decide) (he : starEach (e :: es) X.env = (false, eval e X.env) :: starEach es X.env := by rfl) (hpl : (backTo pos (starEach es X.env)).any (·.1) = false := by rfl) :
    LE X F0 H0 (.Call (.Name x p) (e :: es) [] pos) (dCall S da) := by
  obtain ⟨f, fd, ps, F, hm, hk, hb⟩ := h
  exact peW (pe_call F hr hg hm hk hb .nil hx ha hdb he hpl) fun σ H Q ⟨F, ρ, fps, P, E, q, k⟩ => ⟨F, ρ, fps, _, E, q, fun xs hx F1 H1 vs e1 r1 =>
    ⟨F1, xs, P, e1.w, by rw [List.append_nil]; exact r1, hx, fun z pz F2 H2 u e2 r2 => k z pz F2 H2 u (e1.trans e2) r2⟩⟩
end
def lowInitM (K : PySem.W.Frag) (C : Addr) (ms : List Bool) (S : DISpec) : Sp := fun vs H Q _ => ∃ F H1 x dx vs' ds P, vs = .ref x :: vs' ∧ H = upd (upd H1 dx (.own x)) x (.ins C dx []) ∧ H1 x = none ∧ H1 dx = none ∧ dx ≠ x ∧ Same F H1 ∧ MRepL K F H1 ms vs' ds ∧ S ds P ∧
  ∀ gs, P gs → ∀ F' H', Ext F H1 F' H' → Rep K F' (.ref x) (.obj C gs) → Q .non H'
section
variable {P : Program} {w : World} {K : PySem.W.Frag} {mg : Str → Option Value} {base : Heap}
theorem init_okM {ms : List Bool} {y qual : Str} {st : Stmt} {f C : Addr} {fd : FuncData} {N ps : List Str} {k : Nat} {S : DISpec} {d : DIn} (F : Fun K y qual st f fd) (Sc : FnScope N ps (defScope st)) (hlen : ∀ ds P, S ds P → ds.length + 1 = ps.length)
    (body : ∀ (cdv : Value) (A : Around) (outer : List Env) (s : Shared) (H : Hp) (E : XK) (F0 H0 : Hp) (x dx : Addr), Room k (A.deeper (PyProof.Rows.envOfC qual (defScope st) s.heap.objs.size f cdv)) → LIns (cxOf CX0 P w K mg base N qual (defScope st) f cdv A outer s H E).nox C x dx F0 H0 (defBody st) d)
    (sem : ∀ ds Q, S ds Q → d (.no :: (slM ms ds ++ List.replicate (N.length - (ds.length + 1)) Sl.no)) [] Q) : FnOk P w K mg base CX0 (k + 1) f fd ps (lowInitM K C ms S) := by
  refine F.ok Sc (fun vs H Q E ⟨F, H1, x, dx, vs', ds, P, e, _, _, _, _, _, r, h, _⟩ => by rw [e, List.length_cons, r.length]; exact hlen _ _ h) fun cdv A outer s H vs Q E hr ⟨F0, H1, x, dx, vs', ds, P, e, eH, nx, ndx, ne, sm, r, h, kk⟩ => ?_
  subst e
  have nF0 := sm.free nx
  have w0 : Same F0 H := fun b u hb => by
    rw [eH, upd_ne (ne_of_none hb nF0), upd_ne (ne_of_none hb (sm.free ndx))]; exact sm _ _ hb
  have w1 : Same H1 H := fun b u hb => by
    rw [eH, upd_ne (ne_of_none hb nx), upd_ne (ne_of_none hb ndx)]; exact hb
  refine ⟨_, body cdv A outer s H E F0 H1 x dx hr, F0, _, [], [], P, ⟨.refl _, w1, w0, fun _ _ => rfl⟩, nF0, nx, ?_, by rw [eH]; exact upd_same, .nil, ⟨[] :: ((ds.map fun _ => []) ++ List.replicate (N.length - (ds.length + 1)) []), ?_, ?_⟩, sem ds P h, fun gs hg F' H' fs ex nF hx rf sl => ?_⟩
  · rfl
  · unfold L2.start
    rw [List.length_cons, r.length]
    exact .cons .no (start_repM _ r)
  · rw [List.flatten_cons, List.nil_append]; exact flat_nil ds _
  · refine kk gs hg (upd F' x (.ins C dx fs)) H' ⟨ex.f.trans (L2same_upd_new nF), ex.h, fun b u hb => ?_, fun b hb => ?_⟩ (.obj upd_same (rf.mono (L2same_upd_new nF)))
    · by_cases q : b = x
      · subst q; rw [upd_same] at hb; cases hb; exact hx
      · rw [upd_ne q] at hb; exact ex.w _ _ hb
    · rw [upd_ne (fun q => hb (by rw [q]; exact nx))]; exact ex.o b hb
end
structure MkGM (P : Program) (w : World) (K : PySem.W.Frag) (mg : Str → Option Value) (base : Heap) (x : Str) (C : Addr) (k : Nat) (ms : List Bool) (S : DISpec) : Prop where
  ex : ∃ f fd ps, Mk K C f ∧ FnOk P w K mg base CX0 k f fd ps (lowInitM K C ms S) ∧ mg x = some (.ref C) ∧ Binds K fd ps []
section
variable {X : Cx} {F0 H0 : Hp} {e a b c : Expr} {es : List Expr} {pos p : Pos} {x : Str}
theorem le_makeGM {k : Nat} {C : Addr} {ms : List Bool} {S : DISpec} {E : XK} {da : DA} (h : MkGM X.prog X.w X.K X.mg X.base x C k ms S) (hr : Room (k + 1) X.A) (hg : Gl X x) (hx : Passes CX0 X E)
    (ha : LAM X F0 H0 ms (e :: es) da) (hdb : (x == ("__debug__" : Str)) = false := by decide) (he : starEach (e :: es) X.env = (false, eval e X.env) :: starEach es X.env := by rfl) (hpl : (backTo pos (starEach es X.env)).any (·.1) = false := by rfl) :
    LE X F0 H0 (.Call (.Name x p) (e :: es) [] pos) (dMake C S da) := by
  obtain ⟨f, fd, ps, M, F, hm, hb⟩ := h
  exact peW (pe_make M F hr hg hm hb .nil hx ha hdb he hpl) fun σ H Q ⟨F, ρ, fps, P, R, q, kk⟩ => ⟨F, ρ, fps, _, R, q, fun xs hxs F1 H1 vs e1 r1 x dx nx ndx ne =>
    ⟨F1, H1, x, dx, vs, xs, _, by rw [List.append_nil], rfl, nx, ndx, ne, e1.w, r1, hxs, fun gs hgs F2 H2 e2 r2 => ⟨rfl, kk _ hgs F2 H2 _ (e1.trans e2) r2⟩⟩⟩
end
end DL
end
section
namespace DL
open PySem L2
section
variable {X : Cx} {F0 H0 : Hp} {e a b c o : Expr} {pos p apos : Pos}
/-- x.clear(), x an own list -/
def dClr (i : Nat) : DS := fun E ρ => match ρ[i]? with | some (.ow (.lst _)) => E.nx (ρ.set i (.ow (.lst []))) | _ => False
theorem ls_clr {i : Nat} (h : PE X (.Call (.Attribute o "clear" apos) [] [] p) (tBM0 X.K "list" rClear (tVar i)))
    (hs : swapsWith (.Call (.Attribute o "clear" apos) [] [] p) none pos.line X.env = pure false := by rfl) : LS X F0 H0 (.Expr (.Call (.Attribute o "clear" apos) [] [] p) pos) (dClr i) :=
  psW (ps_expr h hs) fun D σ H ⟨F, ρ, fps, E, R, q, k⟩ => by
    unfold dClr at q
    split at q
    · rename_i xs hr
      obtain ⟨x, fp, h1, h2, h3⟩ := R.s.get hr
      cases h3 with
      | ow o =>
        cases o with
        | lst g r z n =>
          exact ⟨_, h1, .inl ⟨rfl, _, .of g⟩, _, _, rfl, rfl, g, k.nx F _ _ _ _ (.refl F) (R.updOwn h2 h1 (.lst upd_same .nil (by simp) n)) q⟩
    · exact q.elim
end
end DL
end
section
namespace DL
open PySem L2
def relS (o i : Scope) : Scope := { i with names := i.names.map fun (n, k) => if (k == NameKind.free && o.kind == .function && o.names.lookup n == some .cell) then (n, NameKind.cell) else (n, k) }
theorem blkOk_in {N : List Str} {X : Cx} {s : Shared} {H : Hp} {C : Addr} {cl : List (Str × Addr)} {fp : List Addr} {scI scope o : Scope} {own : List (Str × Nat)} (e : X.env.scope = o) (h : blkC N (relS o scI) scope own = true) : BlkOk N (X.blk s H scI (compEnvC scI cl C X.env) fp).env.scope scope own := by
  subst e
  exact blkOk_by h
def lowSpN (K : PySem.W.Frag) (ms : List Bool) (S : DSpec) : Sp := fun vs H Q _ => ∃ F ds P, Same F H ∧ MRepL K F H ms vs ds ∧ S ds P ∧ ∀ x, P x → ∀ F' H' v fp, Ext F H F' H' → Own K F' H' v x fp → fp.Nodup → (∀ a ∈ fp, H a = none) → Q v H'
section
variable {P : Program} {w : World} {K : PySem.W.Frag} {mg : Str → Option Value} {base : Heap}
theorem fn_okN {x qual : Str} {st : Stmt} {f : Addr} {fd : FuncData} {N ps : List Str} {k : Nat} {ms : List Bool} {S : DSpec} {d : DS} (F : Fun K x qual st f fd) (Sc : FnScope N ps (defScope st)) (hlen : ∀ ds P, S ds P → ds.length = ps.length)
    (body : ∀ (cdv : Value) (A : Around) (outer : List Env) (s : Shared) (H : Hp) (E : XK) (F0 : Hp), Room k (A.deeper (PyProof.Rows.envOfC qual (defScope st) s.heap.objs.size f cdv)) → LSs (cxOf CX0 P w K mg base N qual (defScope st) f cdv A outer s H E).nox F0 H (defBody st) d)
    (sem : ∀ ds Q, S ds Q → d { nx := fun _ => False, rt := fun _ => False, rn := Q } (startRM N ms ds)) : FnOk P w K mg base CX0 (k + 1) f fd ps (lowSpN K ms S) := by
  refine F.ok Sc (fun vs H Q E ⟨F, ds, P, e, r, h, _⟩ => by rw [r.length]; exact hlen _ _ h) fun cdv A outer s H vs Q E hr ⟨F0, ds, P, e, r, h, kk⟩ => ?_
  refine ⟨_, body cdv A outer s H E F0 hr, F0, startRM N ms ds, (ds.map fun _ => ([] : List Addr)) ++ List.replicate (N.length - ds.length) [], { nx := fun _ => False, rt := fun _ => False, rn := P }, ⟨.refl e, ?_, ?_⟩, sem ds P h, ⟨?_, ?_, ?_, ?_, ?_⟩⟩
  · unfold L2.start startRM
    rw [r.length]
    exact start_repM _ r
  · exact ⟨by rw [flat_nil]; exact List.nodup_nil, fun a ha => by rw [flat_nil] at ha; cases ha⟩
  · exact fun F' H' σ' ρ' fps' s R q => False.elim q
  · exact fun F' H' σ' ρ' fps' s R q => False.elim q
  · exact fun F' H' σ' ρ' fps' s R q => False.elim q
  · exact fun F' H' v x s e' r' q => False.elim q
  · exact fun F' H' v x fp s e' o n1 n2 q => kk _ q F' H' v fp e' o n1 n2
end
structure FnGN (P : Program) (w : World) (K : PySem.W.Frag) (mg : Str → Option Value) (base : Heap) (x : Str) (k : Nat) (ms : List Bool) (S : DSpec) : Prop where
  ex : ∃ f fd ps, FnOk P w K mg base CX0 k f fd ps (lowSpN K ms S) ∧ mg x = some (.ref f) ∧ PySem.W.keepIn K (.ref f) = true ∧ Binds K fd ps []
theorem OwnP.frz {K : PySem.W.Frag} {F H F' H' : Hp} (e : Ext F H F' H') : ∀ {vs : List V} {ds : List D} {fp : List Addr}, OwnP K F' H' vs ds fp → fp.Nodup → (∀ a ∈ fp, H a = Option.none) → ∃ F2, Ext F H F2 H' ∧ Same F' F2 ∧ RepL K F2 vs ds ∧ ∀ b, b ∉ fp → F2 b = F' b
  | _, _, _, .nil, _, _ => ⟨F', e, fun _ _ h => h, .nil, fun _ _ => rfl⟩
  | _, _, _, .sh r _ q, nd, nf => by
    obtain ⟨F2, e2, s2, r2, k2⟩ := q.frz e nd nf
    exact ⟨F2, e2, s2, .cons (r.mono s2) r2, k2⟩
  | _, _, _, .ow (a := a) (ws := ws) h r z n q, nd, nf => by
    rw [List.nodup_cons] at nd
    obtain ⟨F2, e2, s2, r2, k2⟩ := q.frz e nd.2 fun b hb => nf b (List.mem_cons_of_mem _ hb)
    have n2 : F2 a = Option.none := by rw [k2 a nd.1]; exact n
    have sm := L2same_upd_new (o := .lst ws) n2
    refine ⟨L2.upd F2 a (.lst ws), ⟨e2.f.trans sm, e2.h, fun b w hb => ?_, fun b hb => ?_⟩, s2.trans sm, .cons (.lst (.of upd_same) z (r.mono (s2.trans sm))) (r2.mono sm), fun b hb => ?_⟩
    · by_cases g : b = a
      · subst g; rw [upd_same] at hb; cases hb; exact h
      · rw [upd_ne g] at hb; exact e2.w _ _ hb
    · rw [upd_ne (fun g => hb (by rw [g]; exact nf a (by simp)))]; exact e2.o b hb
    · rw [List.mem_cons, not_or] at hb
      rw [upd_ne hb.1]; exact k2 b hb.2
theorem Own.frz {K : PySem.W.Frag} {F H F' H' : Hp} {v : V} {x : D} {fp : List Addr} (e : Ext F H F' H') (o : Own K F' H' v x fp) (nd : fp.Nodup) (nf : ∀ a ∈ fp, H a = Option.none) : ∃ F2, Ext F H F2 H' ∧ Rep K F2 v x := by
  have fin : ∀ (a : Addr) (u : HO), H' a = some u → F' a = Option.none → H a = Option.none → Ext F H (upd F' a u) H' := fun a u g n z =>
    ⟨e.f.trans (L2same_upd_new n), e.h, fun b w hb => by
      by_cases q : b = a
      · subst q; rw [upd_same] at hb; cases hb; exact g
      · rw [upd_ne q] at hb; exact e.w _ _ hb, fun b hb => by rw [upd_ne (fun q => hb (by rw [q]; exact z))]; exact e.o b hb⟩
  cases o with
  | lst g r z n => exact ⟨_, fin _ _ g n (nf _ (by simp)), .lst (.of upd_same) z (r.mono (L2same_upd_new n))⟩
  | obj g r n => exact ⟨_, fin _ _ g n (nf _ (by simp)), .obj upd_same (r.mono (L2same_upd_new n))⟩
  | tup h q z n =>
    rename_i a vs xs fp
    rw [List.nodup_cons] at nd
    obtain ⟨F2, e2, s2, r2, k2⟩ := q.frz e nd.2 fun b hb => nf b (List.mem_cons_of_mem _ hb)
    have n2 : F2 a = Option.none := by rw [k2 a nd.1]; exact n
    have sm := L2same_upd_new (o := .tup vs) n2
    refine ⟨upd F2 a (.tup vs), ⟨e2.f.trans sm, e2.h, fun b w hb => ?_, fun b hb => ?_⟩, .tup (.of upd_same) z (r2.mono sm)⟩
    · by_cases g : b = a
      · subst g; rw [upd_same] at hb; cases hb; exact h
      · rw [upd_ne g] at hb; exact e2.w _ _ hb
    · rw [upd_ne (fun g => hb (by rw [g]; exact nf a (by simp)))]; exact e2.o b hb
section
variable {X : Cx} {F0 H0 : Hp} {e a b c o : Expr} {es : List Expr} {pos p apos : Pos} {x : Str}
theorem le_frz {d : DE} (h : LN X F0 H0 e d) : LE X F0 H0 e d := peW h fun σ H Q ⟨F, ρ, fps, P, E, q, k⟩ => ⟨F, ρ, fps, P, E, q, fun x hx F' H' v fp ex o nd nf => by
  obtain ⟨F2, e2, r2⟩ := o.frz ex nd nf
  exact k x hx F2 H' v e2 r2⟩
theorem ln_callGN {k : Nat} {ms : List Bool} {S : DSpec} {E : XK} {da : DA} (h : FnGN X.prog X.w X.K X.mg X.base x k ms S) (hr : Room k X.A) (hg : Gl X x) (hx : Passes CX0 X E)
    (ha : LAM X F0 H0 ms (e :: es) da) (hdb : (x == ("__debug__" : Str)) = false := by decide) (he : starEach (e :: es) X.env = (false, eval e X.env) :: starEach es X.env := by rfl) (hpl : (backTo pos (starEach es X.env)).any (·.1) = false := by rfl) :
    LN X F0 H0 (.Call (.Name x p) (e :: es) [] pos) (dCall S da) := by
  obtain ⟨f, fd, ps, F, hm, hk, hb⟩ := h
  exact peW (pe_call F hr hg hm hk hb .nil hx ha hdb he hpl) fun σ H Q ⟨F, ρ, fps, P, E, q, k⟩ => ⟨F, ρ, fps, _, E, q, fun xs hx F1 H1 vs e1 r1 =>
    ⟨F1, xs, P, e1.w, by rw [List.append_nil]; exact r1, hx, fun z pz F2 H2 u fp e2 o n1 n2 => k z pz F2 H2 u fp (e1.trans e2) o n1 fun a ha => e1.h.free (n2 a ha)⟩⟩
theorem le_callGN {k : Nat} {ms : List Bool} {S : DSpec} {E : XK} {da : DA} (h : FnGN X.prog X.w X.K X.mg X.base x k ms S) (hr : Room k X.A) (hg : Gl X x) (hx : Passes CX0 X E)
    (ha : LAM X F0 H0 ms (e :: es) da) (hdb : (x == ("__debug__" : Str)) = false := by decide) (he : starEach (e :: es) X.env = (false, eval e X.env) :: starEach es X.env := by rfl) (hpl : (backTo pos (starEach es X.env)).any (·.1) = false := by rfl) :
    LE X F0 H0 (.Call (.Name x p) (e :: es) [] pos) (dCall S da) := le_frz (ln_callGN h hr hg hx ha hdb he hpl)
/-- return x, x own -/
def dRetO (i : Nat) : DS := fun E ρ => match ρ[i]? with | some (.ow x) => E.rn x | _ => False
theorem ls_retO {i : Nat} (h : PE X e (tVar i)) : LS X F0 H0 (.Return (some e) pos) (dRetO i) :=
  psW (ps_ret h) fun D σ H ⟨F, ρ, fps, E, R, q, k⟩ => by
    unfold dRetO at q
    split at q
    · rename_i x hr
      obtain ⟨y, fp, h1, h2, h3⟩ := R.s.get hr
      have hm : ∀ a ∈ fp, a ∈ fps.flatten := fun a ha => List.mem_flatten.mpr ⟨_, List.mem_of_getElem? h2, ha⟩
      cases h3 with
      | ow o => exact ⟨_, h1, k.rn F H _ _ fp (.refl F) R.x o (R.p.nd.sublist (List.sublist_flatten_of_mem (List.mem_of_getElem? h2))) (fun a ha => R.p.new a (hm a ha)) q⟩
    · exact q.elim
/-- return of what is new -/
def dRetL (da : DE) : DS := fun E ρ => da ρ E.rn
theorem ls_retL {da : DE} (h : LN X F0 H0 e da) : LS X F0 H0 (.Return (some e) pos) (dRetL da) :=
  psW (ps_ret h) fun D σ H ⟨F, ρ, fps, E, R, q, k⟩ => ⟨F, ρ, fps, _, R, q, fun x hx F1 H1 v fp e1 o nd nf => k.rn F1 H1 v x fp e1.f (R.x.trans e1) o nd (fun a ha => R.x.h.free (nf a ha)) hx⟩
theorem ln_lc {elt iter tg : Expr} {ifs : List Expr} {scope : Scope} {own : List (Str × Nat)} {is : List Nat} {g : TG} {di : DI} {dg : DG} {dt : DT} {de : DE} (hc : X.calm = true) (hN : X.N.Nodup) (hi : LI X F0 H0 tg iter di) (ok : BlkOk X.N X.env.scope scope own)
    (pg : ∀ (s : Shared) (H : Hp) (C : Addr) (cl : List (Str × Addr)) (fp : List Addr), PG (X.blk s H scope (compEnvC scope cl C X.env) fp) tg g) (hg : LowG X.K g dg is) (his : (is.all fun i => (own.map (·.2)).contains i) = true)
    (ht : ∀ (s : Shared) (H : Hp) (C : Addr) (cl : List (Str × Addr)) (fp : List Addr), PTs (X.blk s H scope (compEnvC scope cl C X.env) fp) ifs (lowT X.K F0 H0 dt))
    (he : ∀ (s : Shared) (H : Hp) (C : Addr) (cl : List (Str × Addr)) (fp : List Addr), LE (X.blk s H scope (compEnvC scope cl C X.env) fp) F0 H0 elt de) (hs : ∀ x, foldedSetIterable iter X.env x = pure x := by intro _; rfl) :
    LN X F0 H0 (.ListComp elt [⟨tg, iter, ifs, 0⟩] scope pos) (dLc (own.map (·.2)) di dg dt de) :=
  peW (pe_lc hc hN hi ok pg ht he hs) (low_lcN (fun _ _ _ q => q) hg (fun i hi => by simpa using List.all_eq_true.mp his i hi) (fun _ _ _ q => q) fun _ _ _ q => q)
theorem SlsRep.keep {K : PySem.W.Frag} {F0 H0 : Hp} {F H : Hp} {a : Addr} {u : HO} : ∀ {σ : L2.St} {ρ : Rh} {fps : List (List Addr)}, SlsRep K F0 H0 F H σ ρ fps → a ∉ fps.flatten → SlsRep K F0 H0 F (upd H a u) σ ρ fps := by
  intro σ ρ fps h
  induction h with
  | nil => intro _; exact .nil
  | cons q r ih =>
    intro n
    rw [List.flatten_cons, List.mem_append, not_or] at n
    refine .cons ?_ (ih n.2)
    cases q with
    | no => exact .no
    | sh r => exact .sh r
    | bo r => exact .bo r
    | dk h r f => exact .dk (by rw [upd_ne (fun e => n.1 (by simp [e]))]; exact h) r f
    | nl h q z f =>
      have m := n.1
      rw [List.mem_cons, not_or] at m
      exact .nl (by rw [upd_ne (fun e => m.1 e.symm)]; exact h) (q.updH m.2) z f
    | ow o =>
      exact .ow (o.updH n.1)
theorem ERep.aside {K : PySem.W.Frag} {F0 H0 F H F' H' : Hp} {σ : L2.St} {ρ : Rh} {fps : List (List Addr)} {a : Addr} {u : HO} (R : ERep K F0 H0 F H σ ρ fps) (e : Ext F H F' H') (na : H a = none) (nF : F' a = none) : ERep K F0 H0 F' (upd H' a u) σ ρ fps := by
  have R1 := R.ext e
  refine ⟨⟨R1.x.f, fun b w hb => ?_, fun b w hb => ?_, R1.x.o⟩, R1.s.keep fun hm => (fps_there R.s a hm).2 na, R1.p⟩
  · have h0 : H0 a = none := R.x.h.free na
    rw [upd_ne (fun q => by rw [q, h0] at hb; cases hb)]; exact R1.x.h _ _ hb
  · rw [upd_ne (fun q => by rw [q, nF] at hb; cases hb)]; exact R1.x.w _ _ hb
/-- f(..).append(e): what is new is changed and dropped -/
def dAppN (da db : DE) : DS := fun E ρ => da ρ fun x => match x with | .lst xs => db ρ fun _ => xs.length < sizeLine ∧ E.nx ρ | _ => False
theorem ls_appN {da db : DE} (ho : LN X F0 H0 o da) (ha : LE X F0 H0 a db) (h : ∀ to te, PE X o to → PE X a te → PE X (.Call (.Attribute o "append" apos) [a] [] p) (tBM X.K "list" rAppend to (tCons te tNil)))
    (hs : swapsWith (.Call (.Attribute o "append" apos) [a] [] p) none pos.line X.env = pure false := by rfl) : LS X F0 H0 (.Expr (.Call (.Attribute o "append" apos) [a] [] p) pos) (dAppN da db) :=
  psW (ps_expr (h _ _ ho ha) hs) fun D σ H ⟨F, ρ, fps, E, R, q, k⟩ => ⟨F, ρ, fps, _, R, q, fun x hx F1 H1 v fp e1 o nd nf => by
    cases x with
    | lst xs =>
      cases o with
      | lst g r z n =>
        refine ⟨.inl ⟨rfl, _, .of g⟩, F1, ρ, fps, _, R.ext e1, hx, fun y hy F2 H2 w e2 r2 => ?_⟩
        have g2 := e2.h _ _ g
        refine ⟨_, _, w, rfl, rfl, g2, by rw [r.length]; exact hy.1, k.nx F2 _ _ _ _ (e1.f.trans e2.f) (R.aside (e1.trans e2) (nf _ (by simp)) ?_) hy.2⟩
        rw [e2.o _ (by rw [g]; simp)]; exact n
    | _ => exact hx.elim⟩
def dClrN (da : DE) : DS := fun E ρ => da ρ fun x => match x with | .lst _ => E.nx ρ | _ => False
theorem ls_clrN {da : DE} (ho : LN X F0 H0 o da) (h : ∀ to, PE X o to → PE X (.Call (.Attribute o "clear" apos) [] [] p) (tBM0 X.K "list" rClear to))
    (hs : swapsWith (.Call (.Attribute o "clear" apos) [] [] p) none pos.line X.env = pure false := by rfl) : LS X F0 H0 (.Expr (.Call (.Attribute o "clear" apos) [] [] p) pos) (dClrN da) :=
  psW (ps_expr (h _ ho) hs) fun D σ H ⟨F, ρ, fps, E, R, q, k⟩ => ⟨F, ρ, fps, _, R, q, fun x hx F1 H1 v fp e1 o nd nf => by
    cases x with
    | lst xs =>
      cases o with
      | lst g r z n => exact ⟨.inl ⟨rfl, _, .of g⟩, _, _, rfl, rfl, g, k.nx F1 _ _ _ _ e1.f (R.aside e1 (nf _ (by simp)) n) hx⟩
    | _ => exact hx.elim⟩
/-- a + b, two lists: a new own list -/
def dAddL : DR2
  | .lst a, .lst b, P => a.length + b.length ≤ sizeLine ∧ P (.lst (a ++ b))
  | _, _, _ => False
theorem ln_addL {da db : DE} (ha : LB X F0 H0 a da) (hb : LB X F0 H0 b db) : LN X F0 H0 (.BinOp a .Add b pos) (dOp dAddL da db) :=
  peW (pe_op op_catS ha hb) fun σ H Q ⟨F, ρ, fps, P, E, q, k⟩ => ⟨F, ρ, fps, _, E, q, fun x hx F1 H1 v e1 r1 => ⟨F1, ρ, fps, _, E.ext e1, hx, fun y hy F2 H2 w e2 r2 => by
    have d : dAddL x y P := hy
    unfold dAddL at d
    split at d
    · obtain ⟨l, vs, rfl, h1, r1, z1⟩ := (r1.ext e2).lst e2.w
      obtain ⟨m, ws, rfl, h2, r2, z2⟩ := r2.lst e2.w
      refine ⟨_, _, vs, ws, rfl, rfl, h1, h2, by rw [r1.length, r2.length]; exact d.1, fun p hp => ?_⟩
      have e12 := e1.trans e2
      exact k _ d.2 F2 _ _ [p] (e12.trans ⟨.refl _, L2same_upd_new hp, e2.w.trans (L2same_upd_new hp), fun _ _ => rfl⟩) (.lst upd_same (r1.append r2) (by rw [List.length_append]; exact d.1) (e2.w.free hp)) (by simp) fun a ha => by
        simp at ha; subst ha
        exact e12.h.free hp
    · exact d.elim⟩⟩
/-- a[lo:hi], a list: a new own list -/
def dCutL (lo hi : Option Int) : DR1
  | .lst xs, P => P (.lst (cut xs lo hi))
  | _, _ => False
def dSlL (da : DE) (dl dh : DO) : DE := fun ρ P => da ρ fun x => dl ρ fun lo => dh ρ fun hi => dCutL lo hi x P
theorem ln_slL {da : DE} {dl dh : DO} {lo hi : Option Expr} {p2 : Pos} (ha : LB X F0 H0 a da) (hl : LO X F0 H0 lo dl) (hh : LO X F0 H0 hi dh) : LN X F0 H0 (.Subscript a (.Slice lo hi none p2) pos) (dSlL da dl dh) :=
  peW (pe_slice (r := rSlL X.K) sl_list ha hl hh) fun σ H Q ⟨F, ρ, fps, P, E, q, k⟩ => ⟨F, ρ, fps, _, E, q, fun x hx F1 H1 v e1 r1 =>
    ⟨F1, ρ, fps, _, E.ext e1, hx, fun o1 h1 F2 H2 e2 => ⟨F2, ρ, fps, _, (E.ext e1).ext e2, h1, fun o2 h2 F3 H3 e3 => by
      have d : dCutL o1 o2 x P := h2
      unfold dCutL at d
      split at d
      · obtain ⟨p, vs, rfl, s, r, z⟩ := ((r1.ext e2).ext e3).lst e3.w
        refine ⟨p, vs, rfl, s, fun l hl => ?_⟩
        have e13 := (e1.trans e2).trans e3
        exact k _ d F3 _ _ [l] (e13.trans ⟨.refl _, L2same_upd_new hl, e3.w.trans (L2same_upd_new hl), fun _ _ => rfl⟩) (.lst upd_same (r.cut o1 o2) (Nat.le_trans (cut_length _ _ _) z) (e3.w.free hl)) (by simp) fun a ha => by
          simp at ha; subst ha
          exact e13.h.free hl
      · exact d.elim⟩⟩⟩
end
end DL
end
section
namespace DL
open PySem L2
def onBl (x : D) (P : Bool → Prop) : Prop := match x with | .bl k => P k | _ => False
def onInt (x : D) (P : Int → Prop) : Prop := match x with | .int k => P k | _ => False
def onStr (x : D) (P : Tx → Prop) : Prop := match x with | .str k => P k | _ => False
def onOpt {α : Type} (x : Option α) (P : α → Prop) : Prop := match x with | some k => P k | none => False
def ifB (k : Bool) (t f : Unit → Prop) : Prop := if k = true then t () else f ()
def ap (S : DSpec) (xs : List D) (P : D → Prop) : Prop := S xs P
def apI (S : DISpec) (xs : List D) (P : List (Str × D) → Prop) : Prop := S xs P
def onFld (x : D) (T : Addr → Prop) (f : Str) (P : D → Prop) : Prop := match x with | .obj C gs => T C ∧ onOpt (gs.lookup f) P | _ => False
def methAp (M : MTab) (m : Str) (C : Addr) (gs : List (Str × D)) (dr : DA) (ρ : Rh) (P : D → Prop) : Prop := gs.lookup m = none ∧ ∃ S, M C S ∧ dr ρ fun xs => ap S (.obj C gs :: xs) P
def onMeth (x : D) (M : MTab) (m : Str) (dr : DA) (ρ : Rh) (P : D → Prop) : Prop := match x with | .obj C gs => methAp M m C gs dr ρ P | _ => False
def rng1A (xs : List D) (PL : List D → Prop) : Prop := match xs with | [.int n] => inLine n ∧ PL (rngD 0 n.toNat) | _ => False
def rng2A (xs : List D) (PL : List D → Prop) : Prop := match xs with | [.int m, .int n] => (inLine m ∧ inLine n) ∧ PL (rngD m (n - m).toNat) | _ => False
def zipA (vs : List D) (PL : List D → Prop) : Prop := match vs with
  | [x, y] => (match zipItems x, zipItems y with | some xs, some ys => PL ((xs.zip ys).map fun p => .tup [p.1, p.2]) | _, _ => False)
  | _ => False
def enumA (vs : List D) (PL : List D → Prop) : Prop := match vs with
  | [.lst xs] => PL ((List.range xs.length).zip xs |>.map fun p => .tup [.int (p.1 : Nat), p.2])
  | _ => False
/-- a slot put, an own slot's thing -/
def putS (i : Nat) (s : Sl) (ρ : Rh) (P : Rh → Prop) : Prop := P (ρ.set i s)
def getO (i : Nat) (ρ : Rh) (P : D → Prop) : Prop := match ρ[i]? with | some (.ow x) => P x | _ => False
def appD (x : D) (i : Nat) (da : DE) (E : DEn) (ρ : Rh) : Prop := match x with | .lst xs => da ρ fun y => xs.length < sizeLine ∧ putS i (.ow (.lst (xs ++ [y]))) ρ E.nx | _ => False
theorem eqD_str (a b : Tx) : eqD (.str a) (.str b) = decide (a = b) := eqD_prop (by simp)
theorem eqD_int (a b : Int) : eqD (.int a) (.int b) = decide (a = b) := eqD_prop (by simp)

def opK1 (f : DR2) (db : DE) (ρ : Rh) (P : D → Prop) (x : D) : Prop := db ρ fun y => f x y P
def opK2 (f : DR2) (x : D) (P : D → Prop) (y : D) : Prop := f x y P
def unK (f : DR1) (P : D → Prop) (x : D) : Prop := f x P
def tstK (PB : Bool → Prop) (x : D) : Prop := onBl x PB
def truK (PB : Bool → Prop) (x : D) : Prop := onOpt (truD x) PB
def teT (dt : DT) (ρ : Rh) (PB : Bool → Prop) (_z : Unit) : Prop := dt ρ PB
def bT (PB : Bool → Prop) (k : Bool) (_z : Unit) : Prop := PB k
def andK (db : DT) (ρ : Rh) (PB : Bool → Prop) (k : Bool) : Prop := ifB k (teT db ρ PB) (bT PB false)
def orK (db : DT) (ρ : Rh) (PB : Bool → Prop) (k : Bool) : Prop := ifB k (bT PB true) (teT db ρ PB)
def notK (PB : Bool → Prop) (k : Bool) : Prop := PB (!k)
def veT (da : DE) (ρ : Rh) (P : D → Prop) (_z : Unit) : Prop := da ρ P
def cT (P : D → Prop) (k : Bool) (_z : Unit) : Prop := P (.bl k)
def andVK1 (db : DE) (ρ : Rh) (P : D → Prop) (k : Bool) : Prop := ifB k (veT db ρ P) (cT P false)
def andVK (db : DE) (ρ : Rh) (P : D → Prop) (x : D) : Prop := onBl x (andVK1 db ρ P)
def orVK1 (db : DE) (ρ : Rh) (P : D → Prop) (k : Bool) : Prop := ifB k (cT P true) (veT db ρ P)
def orVK (db : DE) (ρ : Rh) (P : D → Prop) (x : D) : Prop := onBl x (orVK1 db ρ P)
def notVK1 (P : D → Prop) (k : Bool) : Prop := P (.bl !k)
def notVK (P : D → Prop) (x : D) : Prop := onBl x (notVK1 P)
def ifEK (da db : DE) (ρ : Rh) (P : D → Prop) (k : Bool) : Prop := ifB k (veT da ρ P) (veT db ρ P)
def stT (d : DS) (E : DEn) (ρ : Rh) (_z : Unit) : Prop := d E ρ
def ifSK (d1 d2 : DS) (E : DEn) (ρ : Rh) (k : Bool) : Prop := ifB k (stT d1 E ρ) (stT d2 E ρ)
def consK1 (dr : DA) (ρ : Rh) (PL : List D → Prop) (x : D) : Prop := dr ρ fun xs => PL (x :: xs)
def consK2 (x : D) (PL : List D → Prop) (xs : List D) : Prop := PL (x :: xs)
def tupK (P : D → Prop) (xs : List D) : Prop := xs.length ≤ sizeLine ∧ P (.tup xs)
def lstK0 (P : D → Prop) (xs : List D) : Prop := xs.length ≤ sizeLine ∧ P (.lst xs)
def sgnK (P : D → Prop) (c : Nat) : Prop := P (.str [c])
def someK (PO : Option Int → Prop) (a : Int) : Prop := PO (some a)
def partK (PO : Option Int → Prop) (x : D) : Prop := onInt x (someK PO)
def slK1 (dl dh : DO) (ρ : Rh) (P : D → Prop) (x : D) : Prop := dl ρ fun lo => dh ρ fun hi => dCut lo hi x P
def slK2 (x : D) (dh : DO) (ρ : Rh) (P : D → Prop) (lo : Option Int) : Prop := dh ρ fun hi => dCut lo hi x P
def slK3 (x : D) (lo : Option Int) (P : D → Prop) (hi : Option Int) : Prop := dCut lo hi x P
def rvK3 (x : D) (P : D → Prop) (a : Int) : Prop := a = -1 ∧ dRev x P
def rvK2 (x : D) (P : D → Prop) (y : D) : Prop := onInt y (rvK3 x P)
def rvK1 (dk : DE) (ρ : Rh) (P : D → Prop) (x : D) : Prop := dk ρ (rvK2 x P)
def dropK (E : DEn) (ρ : Rh) (_x : D) : Prop := E.nx ρ
def gNK (s : Sl) (PR : Rh → Prop) (r : Rh) : Prop := PR (s :: r)
def gCK (u : DGs) (xs : List D) (PR : Rh → Prop) (ρ : Rh) : Prop := u xs ρ PR
def asgK (dg : DG) (ρ : Rh) (E : DEn) (x : D) : Prop := dg x ρ E.nx
def setNK (i : Nat) (ρ : Rh) (E : DEn) (x : D) : Prop := putS i (.ow x) ρ E.nx
def appK2 (xs : List D) (i : Nat) (E : DEn) (ρ : Rh) (y : D) : Prop := xs.length < sizeLine ∧ putS i (.ow (.lst (xs ++ [y]))) ρ E.nx
def appK1 (i : Nat) (da : DE) (E : DEn) (ρ : Rh) (x : D) : Prop := appD x i da E ρ
def frzK (i : Nat) (d1 : DS) (E : DEn) (ρ : Rh) (x : D) : Prop := notT x ∧ putS i (.sh x) ρ (d1 E)
def apK (S : DSpec) (P : D → Prop) (xs : List D) : Prop := ap S xs P
def objK (C : Addr) (P : D → Prop) (gs : List (Str × D)) : Prop := P (.obj C gs)
def mkK (C : Addr) (S : DISpec) (P : D → Prop) (xs : List D) : Prop := apI S xs (objK C P)
def argK (f : List D → (D → Prop) → Prop) (P : D → Prop) (xs : List D) : Prop := f xs P
def itK (PL : List D → Prop) (x : D) : Prop := onOpt (itemsD x) PL
def rngK1 (PL : List D → Prop) (xs : List D) : Prop := rng1A xs PL
def rngK2 (PL : List D → Prop) (xs : List D) : Prop := rng2A xs PL
def zipK3 (xs : List D) (PL : List D → Prop) (ys : List D) : Prop := PL ((xs.zip ys).map fun p => .tup [p.1, p.2])
def zipK2 (y : D) (PL : List D → Prop) (xs : List D) : Prop := onOpt (zipItems y) (zipK3 xs PL)
def zipK1 (PL : List D → Prop) (vs : List D) : Prop := zipA vs PL
def enumK (PL : List D → Prop) (vs : List D) : Prop := enumA vs PL
def forK (dg : DG) (db : DS) (E : DEn) (ρ : Rh) (xs : List D) : Prop := forD dg db E xs ρ
def lstK (P : D → Prop) (xs : List D) : Prop := P (.lst xs)
def lcK (vs : List Nat) (dg : DG) (dt : DT) (de : DE) (ρ : Rh) (P : D → Prop) (xs : List D) : Prop := xs.length ≤ sizeLine ∧ lcD vs dg dt de ρ xs (lstK P)
def fldK (T : Addr → Prop) (f : Str) (P : D → Prop) (x : D) : Prop := onFld x T f P
def methK (M : MTab) (m : Str) (dr : DA) (ρ : Rh) (P : D → Prop) (x : D) : Prop := onMeth x M m dr ρ P
def methK2 (S : DSpec) (x : D) (P : D → Prop) (xs : List D) : Prop := ap S (x :: xs) P
def sumK (P : D → Prop) (ns : List Int) : Prop := P (.int ns.sum)
def allK (P : D → Prop) (ns : List Bool) : Prop := P (.bl (ns.all id))
def anyK (P : D → Prop) (ns : List Bool) : Prop := P (.bl (ns.any id))
def blK (P : D → Prop) (k : Bool) : Prop := P (.bl k)
def isiK (n : String) (P : D → Prop) (t : String) : Prop := onOpt (kitB t n) (blK P)
def joinK4 (u : Tx) (P : D → Prop) (ts : List Tx) : Prop := (ts.map (·.length)).sum + ts.length * u.length ≤ 16777216 ∧ P (.str (joinT u ts))
def joinK3 (u : Tx) (P : D → Prop) (x : D) : Prop := dJoinV u x P
def joinK2 (da : DE) (ρ : Rh) (P : D → Prop) (u : Tx) : Prop := da ρ (joinK3 u P)
def joinK1 (da : DE) (ρ : Rh) (P : D → Prop) (x : D) : Prop := onStr x (joinK2 da ρ P)
def inK (f : Str) (gs : List (Str × D)) (PG : List (Str × D) → Prop) (y : D) : Prop := gs.length < 1000 ∧ PG (putD f y gs)
def inCK (u : DIn) (ρ : Rh) (PG : List (Str × D) → Prop) (gs : List (Str × D)) : Prop := u ρ gs PG
def stIK3 (xs : List D) (i : Nat) (y : D) (E : DEn) (ρ : Rh) (a : Int) : Prop := (0 ≤ a ∧ a < xs.length) ∧ putS i (.ow (.lst (xs.set a.toNat y))) ρ E.nx
def stIK2 (xs : List D) (i : Nat) (y : D) (E : DEn) (ρ : Rh) (z : D) : Prop := onInt z (stIK3 xs i y E ρ)
def stID (i : Nat) (y : D) (di : DE) (E : DEn) (ρ : Rh) (x : D) : Prop := match x with | .lst xs => di ρ (stIK2 xs i y E ρ) | _ => False
def stIK1 (i : Nat) (di : DE) (E : DEn) (ρ : Rh) (y : D) : Prop := getO i ρ (stID i y di E ρ)
def chT (f : DR2) (y : D) (dc : DE) (ρ : Rh) (P : D → Prop) (_z : Unit) : Prop := dc ρ (opK2 f y P)
def chK4 (f : DR2) (y : D) (dc : DE) (ρ : Rh) (P : D → Prop) (k : Bool) : Prop := ifB k (chT f y dc ρ P) (cT P false)
def chK3 (f : DR2) (y : D) (dc : DE) (ρ : Rh) (P : D → Prop) (z : D) : Prop := onBl z (chK4 f y dc ρ P)
def chK2 (f : DR2) (g : DR2) (x : D) (dc : DE) (ρ : Rh) (P : D → Prop) (y : D) : Prop := f x y (chK3 g y dc ρ P)
def chK1 (f : DR2) (g : DR2) (db dc : DE) (ρ : Rh) (P : D → Prop) (x : D) : Prop := db ρ (chK2 f g x dc ρ P)
def clrK (i : Nat) (E : DEn) (ρ : Rh) (x : D) : Prop := match x with | .lst _ => putS i (.ow (.lst [])) ρ E.nx | _ => False
def retOK (E : DEn) (x : D) : Prop := E.rn x
def appNK2 (xs : List D) (E : DEn) (ρ : Rh) (_y : D) : Prop := xs.length < sizeLine ∧ E.nx ρ
def appNK1 (db : DE) (E : DEn) (ρ : Rh) (x : D) : Prop := match x with | .lst xs => db ρ (appNK2 xs E ρ) | _ => False
def clrNK (E : DEn) (ρ : Rh) (x : D) : Prop := match x with | .lst _ => E.nx ρ | _ => False
def slLK1 (dl dh : DO) (ρ : Rh) (P : D → Prop) (x : D) : Prop := dl ρ fun lo => dh ρ fun hi => dCutL lo hi x P
def slLK2 (x : D) (dh : DO) (ρ : Rh) (P : D → Prop) (lo : Option Int) : Prop := dh ρ fun hi => dCutL lo hi x P
def slLK3 (x : D) (lo : Option Int) (P : D → Prop) (hi : Option Int) : Prop := dCutL lo hi x P
section
variable {i j : Nat} {s t : Sl} {d x y : D} {ρ : Rh} {P : D → Prop} {PR : Rh → Prop} {PB : Bool → Prop} {PL : List D → Prop} {PO : Option Int → Prop} {E : DEn} {a b : Int} {k l : Bool} {u v : Tx} {xs ys : List D} {f : DR2} {f1 : DR1} {da db dk do_ : DE} {dr : DA} {dt dc : DT} {dl dh : DO} {di : DI} {dg : DG} {dgs : DGs} {d1 d2 : DS} {i1 i2 : DIn} {C : Addr} {gs : List (Str × D)} {PG : List (Str × D) → Prop} {S : DSpec} {SI : DISpec} {M : MTab} {m fl : Str} {n : Bool} {lo hi : Option Int} {f2 : DR2} {dz : DE} {F : List D → (D → Prop) → Prop} {vs : List Nat} {T : Addr → Prop} {ns : List Int} {bs : List Bool} {ts : List Tx} {n1 t1 : String}
theorem q_var0 : (dVar 0 (.sh d :: ρ) P) = (P d) := id rfl
theorem q_varS : (dVar (i + 1) (s :: ρ) P) = (dVar i ρ P) := id rfl
theorem q_varB0 : (dVarB 0 (.sh d :: ρ) P) = (P d) := id rfl
theorem q_varB0o : (dVarB 0 (.ow d :: ρ) P) = (notT d ∧ P d) := id rfl
theorem q_noL : (notT (.lst xs)) = (True) := id rfl
theorem q_noO : (notT (.obj C gs)) = (True) := id rfl
theorem q_varBS : (dVarB (i + 1) (s :: ρ) P) = (dVarB i ρ P) := id rfl
theorem q_c : (dC d ρ P) = (P d) := id rfl
theorem q_op : (dOp f da db ρ P) = (da ρ (opK1 f db ρ P)) := id rfl
theorem q_opK1 : (opK1 f db ρ P x) = (db ρ (opK2 f x P)) := id rfl
theorem q_opK2 : (opK2 f x P y) = (f x y P) := id rfl
theorem q_un : (dUn f1 da ρ P) = (da ρ (unK f1 P)) := id rfl
theorem q_unK : (unK f1 P x) = (f1 x P) := id rfl
theorem q_add_ii : (dAdd (.int a) (.int b) P) = (P (.int (a + b))) := id rfl
theorem q_add_ss : (dAdd (.str u) (.str v) P) = ((u.length + v.length ≤ sizeLine ∧ P (.str (u ++ v)))) := id rfl
theorem q_add_ll : (dAdd (.lst xs) (.lst ys) P) = ((xs.length + ys.length ≤ sizeLine ∧ P (.lst (xs ++ ys)))) := id rfl
theorem q_sub : (dSub (.int a) (.int b) P) = (P (.int (a - b))) := id rfl
theorem q_mul : (dMul (.int a) (.int b) P) = (((a.natAbs < 18446744073709551616 ∨ b.natAbs < 18446744073709551616) ∧ P (.int (a * b)))) := id rfl
theorem q_mod : (dMod (.int a) (.int b) P) = ((0 < b ∧ P (.int (a % b)))) := id rfl
theorem q_fdiv : (dFdiv (.int a) (.int b) P) = (((0 < b ∧ b < 1073741824) ∧ P (.int (a / b)))) := id rfl
theorem q_pow : (dPow (.int a) (.int b) P) = (((0 ≤ b ∧ b ≤ 1000000 ∧ a.natAbs < 2 ^ 64) ∧ P (.int (a ^ b.toNat)))) := id rfl
theorem q_neg : (dNeg (.int a) P) = (P (.int (-a))) := id rfl
theorem q_eq_bb : (dEq (.bl k) (.bl l) P) = (P (.bl ((k == l)))) := id rfl
theorem q_eq_ii : (dEq (.int a) (.int b) P) = (P (.bl (decide (a = b)))) := by simp [dEq, plainD, deep, eqD_int]
theorem q_eq_ss : (dEq (.str u) (.str v) P) = (P (.bl (decide (u = v)))) := by simp [dEq, plainD, deep, eqD_str]
theorem q_eq_lst : (dEq (.lst xs) (.lst ys) P) = (((plainD (.lst xs) = true ∧ deep (.lst xs) ≤ 60) ∧ (plainD (.lst ys) = true ∧ deep (.lst ys) ≤ 60) ∧ P (.bl (eqD (.lst xs) (.lst ys))))) := id rfl
theorem q_eq_tup : (dEq (.tup xs) (.tup ys) P) = (((plainD (.tup xs) = true ∧ deep (.tup xs) ≤ 60) ∧ (plainD (.tup ys) = true ∧ deep (.tup ys) ≤ 60) ∧ P (.bl (eqD (.tup xs) (.tup ys))))) := id rfl
theorem q_ne_bb : (dNe (.bl k) (.bl l) P) = (P (.bl (!(k == l)))) := id rfl
theorem q_ne_ii : (dNe (.int a) (.int b) P) = (P (.bl (!decide (a = b)))) := by simp [dNe, plainD, deep, eqD_int]
theorem q_ne_ss : (dNe (.str u) (.str v) P) = (P (.bl (!decide (u = v)))) := by simp [dNe, plainD, deep, eqD_str]
theorem q_ne_lst : (dNe (.lst xs) (.lst ys) P) = (((plainD (.lst xs) = true ∧ deep (.lst xs) ≤ 60) ∧ (plainD (.lst ys) = true ∧ deep (.lst ys) ≤ 60) ∧ P (.bl (!eqD (.lst xs) (.lst ys))))) := id rfl
theorem q_ne_tup : (dNe (.tup xs) (.tup ys) P) = (((plainD (.tup xs) = true ∧ deep (.tup xs) ≤ 60) ∧ (plainD (.tup ys) = true ∧ deep (.tup ys) ≤ 60) ∧ P (.bl (!eqD (.tup xs) (.tup ys))))) := id rfl
theorem q_lt : (dLt (.int a) (.int b) P) = (P (.bl (decide (a < b)))) := id rfl
theorem q_le : (dLe (.int a) (.int b) P) = (P (.bl (decide (a ≤ b)))) := id rfl
theorem q_gt : (dGt (.int a) (.int b) P) = (P (.bl (decide (b < a)))) := id rfl
theorem q_ge : (dGe (.int a) (.int b) P) = (P (.bl (decide (b ≤ a)))) := id rfl
theorem q_isN : (dIsN n x .non P) = (P (.bl (if n then !isNon x else isNon x))) := id rfl
theorem q_in_s : (dIn n (.str [j]) (.str v) P) = (P (.bl (if n then !decide (j ∈ v) else decide (j ∈ v)))) := id rfl
theorem q_in_int_lst : (dIn n (.int a) (.lst xs) P) = (((true = true ∧ xs.all flatD = true) ∧ P (.bl (if n then !xs.any (fun y => eqD y (.int a)) else xs.any (fun y => eqD y (.int a)))))) := id rfl
theorem q_in_int_tup : (dIn n (.int a) (.tup xs) P) = (((true = true ∧ xs.all flatD = true) ∧ P (.bl (if n then !xs.any (fun y => eqD y (.int a)) else xs.any (fun y => eqD y (.int a)))))) := id rfl
theorem q_in_str_lst : (dIn n (.str u) (.lst xs) P) = (((true = true ∧ xs.all flatD = true) ∧ P (.bl (if n then !xs.any (fun y => eqD y (.str u)) else xs.any (fun y => eqD y (.str u)))))) := by
  cases u with
  | nil => rfl
  | cons c r => cases r <;> rfl
theorem q_in_str_tup : (dIn n (.str u) (.tup xs) P) = (((true = true ∧ xs.all flatD = true) ∧ P (.bl (if n then !xs.any (fun y => eqD y (.str u)) else xs.any (fun y => eqD y (.str u)))))) := by
  cases u with
  | nil => rfl
  | cons c r => cases r <;> rfl
theorem q_tst : (dTst da ρ PB) = (da ρ (tstK PB)) := id rfl
theorem q_tstK : (tstK PB x) = (onBl x PB) := id rfl
theorem q_tru : (dTru da ρ PB) = (da ρ (truK PB)) := by
  unfold dTru
  congr 1
  funext x
  unfold truK onOpt
  cases truD x <;> rfl
theorem q_truK : (truK PB x) = (onOpt (truD x) PB) := id rfl
theorem q_teT : (teT dt ρ PB ()) = (dt ρ PB) := id rfl
theorem q_bT : (bT PB k ()) = (PB k) := id rfl
theorem q_andT : (dAndT dt dc ρ PB) = (dt ρ (andK dc ρ PB)) := id rfl
theorem q_andK : (andK dt ρ PB k) = (ifB k (teT dt ρ PB) (bT PB false)) := id rfl
theorem q_orT : (dOrT dt dc ρ PB) = (dt ρ (orK dc ρ PB)) := id rfl
theorem q_orK : (orK dt ρ PB k) = (ifB k (bT PB true) (teT dt ρ PB)) := id rfl
theorem q_notT : (dNotT dt ρ PB) = (dt ρ (notK PB)) := id rfl
theorem q_notK : (notK PB k) = (PB (!k)) := id rfl
theorem q_veT : (veT da ρ P ()) = (da ρ P) := id rfl
theorem q_cT : (cT P k ()) = (P (.bl k)) := id rfl
theorem q_andVK1 : (andVK1 db ρ P k) = (ifB k (veT db ρ P) (cT P false)) := id rfl
theorem q_andVK : (andVK db ρ P x) = (onBl x (andVK1 db ρ P)) := id rfl
theorem q_andV : (dAndV da db ρ P) = (da ρ (andVK db ρ P)) := by
  unfold dAndV
  congr 1
  funext x
  cases x <;> first | rfl | (rename_i k; cases k <;> rfl)
theorem q_orVK1 : (orVK1 db ρ P k) = (ifB k (cT P true) (veT db ρ P)) := id rfl
theorem q_orVK : (orVK db ρ P x) = (onBl x (orVK1 db ρ P)) := id rfl
theorem q_orV : (dOrV da db ρ P) = (da ρ (orVK db ρ P)) := by
  unfold dOrV
  congr 1
  funext x
  cases x <;> first | rfl | (rename_i k; cases k <;> rfl)
theorem q_notVK1 : (notVK1 P k) = (P (.bl !k)) := id rfl
theorem q_notVK : (notVK P x) = (onBl x (notVK1 P)) := id rfl
theorem q_notV : (dNotV da ρ P) = (da ρ (notVK P)) := id rfl
theorem q_ifEK : (ifEK da db ρ P k) = (ifB k (veT da ρ P) (veT db ρ P)) := id rfl
theorem q_if : (dIf dc da db ρ P) = (dc ρ (ifEK da db ρ P)) := id rfl
theorem q_stT : (stT d1 E ρ ()) = (d1 E ρ) := id rfl
theorem q_ifSK : (ifSK d1 d2 E ρ k) = (ifB k (stT d1 E ρ) (stT d2 E ρ)) := id rfl
theorem q_ifS : (dIfS dc d1 d2 E ρ) = (dc ρ (ifSK d1 d2 E ρ)) := id rfl
theorem q_nil : (dNil ρ PL) = (PL []) := id rfl
theorem q_cons : (dCons da dr ρ PL) = (da ρ (consK1 dr ρ PL)) := id rfl
theorem q_consK1 : (consK1 dr ρ PL x) = (dr ρ (consK2 x PL)) := id rfl
theorem q_consK2 : (consK2 x PL xs) = (PL (x :: xs)) := id rfl
theorem q_tup : (dTup dr ρ P) = (dr ρ (tupK P)) := id rfl
theorem q_tupK : (tupK P xs) = ((xs.length ≤ sizeLine ∧ P (.tup xs))) := id rfl
theorem q_lst : (dLst dr ρ P) = (dr ρ (lstK0 P)) := id rfl
theorem q_lstK0 : (lstK0 P xs) = ((xs.length ≤ sizeLine ∧ P (.lst xs))) := id rfl
theorem q_sgnK : (sgnK P j) = (P (.str [j])) := id rfl
theorem q_ix_l : (dIx (.lst xs) (.int a) P) = (onOpt (ixD xs a) P) := by
  simp only [dIx, onOpt] <;> (cases ixD xs a <;> rfl)
theorem q_ix_t : (dIx (.tup xs) (.int a) P) = (onOpt (ixD xs a) P) := by
  simp only [dIx, onOpt] <;> (cases ixD xs a <;> rfl)
theorem q_ix_s : (dIx (.str u) (.int a) P) = (onOpt (ixD u a) (sgnK P)) := by
  simp only [dIx, onOpt] <;> (cases ixD u a <;> rfl)
theorem q_noPart : (dNoPart ρ PO) = (PO none) := id rfl
theorem q_someK : (someK PO a) = (PO (some a)) := id rfl
theorem q_partK : (partK PO x) = (onInt x (someK PO)) := id rfl
theorem q_part : (dPart da ρ PO) = (da ρ (partK PO)) := id rfl
theorem q_sl : (dSl da dl dh ρ P) = (da ρ (slK1 dl dh ρ P)) := id rfl
theorem q_slK1 : (slK1 dl dh ρ P x) = (dl ρ (slK2 x dh ρ P)) := id rfl
theorem q_slK2 : (slK2 x dh ρ P lo) = (dh ρ (slK3 x lo P)) := id rfl
theorem q_slK3 : (slK3 x lo P hi) = (dCut lo hi x P) := id rfl
theorem q_cut_l : (dCut lo hi (.lst xs) P) = (P (.lst (cut xs lo hi))) := id rfl
theorem q_cut_s : (dCut lo hi (.str u) P) = (P (.str (cut u lo hi))) := id rfl
theorem q_rvK3 : (rvK3 x P a) = ((a = -1 ∧ dRev x P)) := id rfl
theorem q_rvK2 : (rvK2 x P y) = (onInt y (rvK3 x P)) := id rfl
theorem q_rvK1 : (rvK1 dk ρ P x) = (dk ρ (rvK2 x P)) := id rfl
theorem q_rv : (dRv da dk ρ P) = (da ρ (rvK1 dk ρ P)) := id rfl
theorem q_rev_l : (dRev (.lst xs) P) = (P (.lst xs.reverse)) := id rfl
theorem q_rev_s : (dRev (.str u) P) = (P (.str u.reverse)) := id rfl
theorem q_seq : (dSeq d1 d2 E ρ) = (d1 { E with nx := d2 E } ρ) := id rfl
theorem q_next : (dNext E ρ) = (E.nx ρ) := id rfl
theorem q_brk : (dBreak E ρ) = (E.bk ρ) := id rfl
theorem q_cont : (dCont E ρ) = (E.ct ρ) := id rfl
theorem q_dropK : (dropK E ρ x) = (E.nx ρ) := id rfl
theorem q_drop : (dDrop da E ρ) = (da ρ (dropK E ρ)) := id rfl
theorem q_ret : (dRet da E ρ) = (da ρ E.rt) := id rfl
theorem q_retN : (dRetN E ρ) = (E.rt .non) := id rfl
theorem q_gNK : (gNK s PR ρ) = (PR (s :: ρ)) := id rfl
theorem q_gN0 : (dgN 0 x (s :: ρ) PR) = (PR (.sh x :: ρ)) := id rfl
theorem q_gNS : (dgN (i + 1) x (s :: ρ) PR) = (dgN i x ρ (gNK s PR)) := id rfl
theorem q_gNil : (dgNil [] ρ PR) = (PR ρ) := id rfl
theorem q_gCK : (gCK dgs xs PR ρ) = (dgs xs ρ PR) := id rfl
theorem q_gCons : (dgCons dg dgs (x :: xs) ρ PR) = (dg x ρ (gCK dgs xs PR)) := id rfl
theorem q_gT : (dgT i dgs (.tup xs) ρ PR) = ((xs.length = i ∧ dgs xs ρ PR)) := id rfl
theorem q_asgK : (asgK dg ρ E x) = (dg x ρ E.nx) := id rfl
theorem q_asg : (dAsg da dg E ρ) = (da ρ (asgK dg ρ E)) := id rfl
theorem q_putS0 : (putS 0 t (s :: ρ) PR) = (PR (t :: ρ)) := id rfl
theorem q_putSS : (putS (i + 1) t (s :: ρ) PR) = (putS i t ρ (gNK s PR)) := id rfl
theorem q_setNK : (setNK i ρ E x) = (putS i (.ow x) ρ E.nx) := id rfl
theorem q_setN : (dSetN i da E ρ) = (da ρ (setNK i ρ E)) := id rfl
theorem q_getO0 : (getO 0 (.ow x :: ρ) P) = (P x) := id rfl
theorem q_getOS : (getO (i + 1) (s :: ρ) P) = (getO i ρ P) := id rfl
theorem q_appK2 : (appK2 xs i E ρ y) = ((xs.length < sizeLine ∧ putS i (.ow (.lst (xs ++ [y]))) ρ E.nx)) := id rfl
theorem q_appK1 : (appK1 i da E ρ x) = (appD x i da E ρ) := id rfl
theorem q_appD : (appD (.lst xs) i da E ρ) = (da ρ (appK2 xs i E ρ)) := id rfl
theorem q_app : (dApp i da E ρ) = (getO i ρ (appK1 i da E ρ)) := by
  unfold dApp getO
  cases ρ[i]? with
  | none => rfl
  | some s =>
    cases s with
    | ow x => cases x <;> rfl
    | _ => rfl
theorem q_frzK : (frzK i d1 E ρ x) = (notT x ∧ putS i (.sh x) ρ (d1 E)) := id rfl
theorem q_frz : (dFrz i d1 E ρ) = (getO i ρ (frzK i d1 E ρ)) := by
  unfold dFrz getO
  cases ρ[i]? with
  | none => rfl
  | some s => cases s <;> rfl
theorem q_apK : (apK S P xs) = (ap S xs P) := id rfl
theorem q_call : (dCall S dr ρ P) = (dr ρ (apK S P)) := id rfl
theorem q_objK : (objK C P gs) = (P (.obj C gs)) := id rfl
theorem q_mkK : (mkK C SI P xs) = (apI SI xs (objK C P)) := id rfl
theorem q_make : (dMake C SI dr ρ P) = (dr ρ (mkK C SI P)) := id rfl
theorem q_argK : (argK F P xs) = (F xs P) := id rfl
theorem q_args : (dArgs F dr ρ P) = (dr ρ (argK F P)) := id rfl
theorem q_itK : (itK PL x) = (onOpt (itemsD x) PL) := id rfl
theorem q_it : (dIt da ρ PL) = (da ρ (itK PL)) := by
  unfold dIt
  congr 1
  funext x
  unfold itK onOpt
  cases itemsD x <;> rfl
theorem q_it_lst : (itemsD (.lst xs)) = (some xs) := id rfl
theorem q_it_tup : (itemsD (.tup xs)) = (some xs) := id rfl
theorem q_it_s : (itemsD (.str u)) = (some (signs u)) := id rfl
theorem q_zi_l : (zipItems (.lst xs)) = (some xs) := id rfl
theorem q_zi_s : (zipItems (.str u)) = (some (signs u)) := id rfl
theorem q_rngK1 : (rngK1 PL xs) = (rng1A xs PL) := id rfl
theorem q_rng1 : (dRng1 dr ρ PL) = (dr ρ (rngK1 PL)) := id rfl
theorem q_rng1A : (rng1A [.int a] PL) = ((inLine a ∧ PL (rngD 0 a.toNat))) := id rfl
theorem q_rngK2 : (rngK2 PL xs) = (rng2A xs PL) := id rfl
theorem q_rng2 : (dRng2 dr ρ PL) = (dr ρ (rngK2 PL)) := id rfl
theorem q_rng2A : (rng2A [.int a, .int b] PL) = (((inLine a ∧ inLine b) ∧ PL (rngD a (b - a).toNat))) := id rfl
theorem q_zipK3 : (zipK3 xs PL ys) = (PL ((xs.zip ys).map fun p => .tup [p.1, p.2])) := id rfl
theorem q_zipK2 : (zipK2 y PL xs) = (onOpt (zipItems y) (zipK3 xs PL)) := id rfl
theorem q_zipK1 : (zipK1 PL xs) = (zipA xs PL) := id rfl
theorem q_zip : (dZip dr ρ PL) = (dr ρ (zipK1 PL)) := id rfl
theorem q_zipA : (zipA [x, y] PL) = (onOpt (zipItems x) (zipK2 y PL)) := by
  unfold zipA
  cases h1 : zipItems x <;> cases h2 : zipItems y <;> simp [onOpt, zipK2, zipK3, h1, h2]
theorem q_enumK : (enumK PL xs) = (enumA xs PL) := id rfl
theorem q_enum : (dEnum dr ρ PL) = (dr ρ (enumK PL)) := id rfl
theorem q_enumA : (enumA [.lst xs] PL) = (PL ((List.range xs.length).zip xs |>.map fun p => .tup [.int (p.1 : Nat), p.2])) := id rfl
theorem q_forK : (forK dg d1 E ρ xs) = (forD dg d1 E xs ρ) := id rfl
theorem q_for : (dFor di dg d1 E ρ) = (di ρ (forK dg d1 E ρ)) := id rfl
theorem q_lstK : (lstK P xs) = (P (.lst xs)) := id rfl
theorem q_lcK : (lcK vs dg dt da ρ P xs) = ((xs.length ≤ sizeLine ∧ lcD vs dg dt da ρ xs (lstK P))) := id rfl
theorem q_lc : (dLc vs di dg dt da ρ P) = (di ρ (lcK vs dg dt da ρ P)) := id rfl
theorem q_yes : (dYes ρ PB) = (PB true) := id rfl
theorem q_fldK : (fldK T fl P x) = (onFld x T fl P) := id rfl
theorem q_fldC : (dFldC T da fl ρ P) = (da ρ (fldK T fl P)) := by
  unfold dFldC
  congr 1
  funext x
  cases x <;> first | rfl | (rename_i C fs; simp only [fldK, onFld, onOpt] <;> (cases List.lookup fl fs <;> rfl))
theorem q_onFld : (onFld (.obj C gs) T fl P) = ((T C ∧ onOpt (gs.lookup fl) P)) := id rfl
theorem q_methK : (methK M m dr ρ P x) = (onMeth x M m dr ρ P) := id rfl
theorem q_meth : (dMeth M m da dr ρ P) = (da ρ (methK M m dr ρ P)) := id rfl
theorem q_onMeth : (onMeth (.obj C gs) M m dr ρ P) = (methAp M m C gs dr ρ P) := id rfl
theorem q_methK2 : (methK2 S x P xs) = (ap S (x :: xs) P) := id rfl
theorem q_len_s : (dLen [.str u] P) = (P (.int u.length)) := id rfl
theorem q_len_l : (dLen [.lst xs] P) = (P (.int xs.length)) := id rfl
theorem q_len_t : (dLen [.tup xs] P) = (P (.int xs.length)) := id rfl
theorem q_sumK : (sumK P ns) = (P (.int ns.sum)) := id rfl
theorem q_sum : (dSum [.lst xs] P) = (onOpt (intsD xs) (sumK P)) := by
  simp only [dSum, onOpt] <;> (cases intsD xs <;> rfl)
theorem q_allK : (allK P bs) = (P (.bl (bs.all id))) := id rfl
theorem q_all : (dAll [.lst xs] P) = (onOpt (blsD xs) (allK P)) := by
  simp only [dAll, onOpt] <;> (cases blsD xs <;> rfl)
theorem q_anyK : (anyK P bs) = (P (.bl (bs.any id))) := id rfl
theorem q_any : (dAny [.lst xs] P) = (onOpt (blsD xs) (anyK P)) := by
  simp only [dAny, onOpt] <;> (cases blsD xs <;> rfl)
theorem q_max2 : (dMax2 [.int a, .int b] P) = (P (.int (if b > a then b else a))) := id rfl
theorem q_min2 : (dMin2 [.int a, .int b] P) = (P (.int (if b < a then b else a))) := id rfl
theorem q_abs : (dAbs [.int a] P) = (P (.int (if a < 0 then -a else a))) := id rfl
theorem q_list_l : (dListOf [.lst xs] P) = (P (.lst xs)) := id rfl
theorem q_list_t : (dListOf [.tup xs] P) = (P (.lst xs)) := id rfl
theorem q_blK : (blK P k) = (P (.bl k)) := id rfl
theorem q_isiK : (isiK n1 P t1) = (onOpt (kitB t1 n1) (blK P)) := id rfl
theorem q_isi : (dIsi [x, .ty n1] P) = (onOpt (tyD x) (isiK n1 P)) := by
  unfold dIsi onOpt
  cases h : tyD x with
  | none => simp [h]
  | some t => simp only [h, isiK, onOpt]; cases kitB t n1 <;> rfl
theorem q_joinK4 : (joinK4 u P ts) = (((ts.map (·.length)).sum + ts.length * u.length ≤ 16777216 ∧ P (.str (joinT u ts)))) := id rfl
theorem q_joinK3 : (joinK3 u P x) = (dJoinV u x P) := id rfl
theorem q_joinK2 : (joinK2 da ρ P u) = (da ρ (joinK3 u P)) := id rfl
theorem q_joinK1 : (joinK1 da ρ P x) = (onStr x (joinK2 da ρ P)) := id rfl
theorem q_join : (dJoin do_ da ρ P) = (do_ ρ (joinK1 da ρ P)) := id rfl
theorem q_joinV : (dJoinV u (.lst xs) P) = (onOpt (strsD xs) (joinK4 u P)) := by
  simp only [dJoinV, onOpt] <;> (cases strsD xs <;> rfl)
theorem q_inK : (inK fl gs PG y) = ((gs.length < 1000 ∧ PG (putD fl y gs))) := id rfl
theorem q_inOne : (dInOne fl da ρ gs PG) = (da ρ (inK fl gs PG)) := id rfl
theorem q_inCK : (inCK i1 ρ PG gs) = (i1 ρ gs PG) := id rfl
theorem q_inCons : (dInCons i1 i2 ρ gs PG) = (i1 ρ gs (inCK i2 ρ PG)) := id rfl
theorem q_bitAnd : (dBitAnd (.int a) (.int b) P) = (P (.int (Builtin.bitAnd a b))) := id rfl
theorem q_shr : (dShr (.int a) (.int b) P) = ((0 ≤ b ∧ P (.int (a / 2 ^ b.toNat)))) := id rfl
theorem q_stI : (dStI i dz da E ρ) = (da ρ (stIK1 i dz E ρ)) := by
  show da ρ _ = da ρ _
  congr 1; funext y
  unfold stIK1 getO
  cases ρ[i]? with
  | none => rfl
  | some s =>
    cases s with
    | ow x =>
      cases x <;> first | rfl | (show dz ρ _ = dz ρ _; congr 1; funext z; cases z <;> rfl)
    | _ => rfl
theorem q_stIK1 : (stIK1 i dz E ρ y) = (getO i ρ (stID i y dz E ρ)) := id rfl
theorem q_stID : (stID i y dz E ρ (.lst xs)) = (dz ρ (stIK2 xs i y E ρ)) := id rfl
theorem q_stIK2 : (stIK2 xs i y E ρ x) = (onInt x (stIK3 xs i y E ρ)) := id rfl
theorem q_stIK3 : (stIK3 xs i y E ρ a) = (((0 ≤ a ∧ a < xs.length) ∧ putS i (.ow (.lst (xs.set a.toNat y))) ρ E.nx)) := id rfl
theorem q_chain : (dChain f f2 da db dz ρ P) = (da ρ (chK1 f f2 db dz ρ P)) := id rfl
theorem q_chK1 : (chK1 f f2 db dz ρ P x) = (db ρ (chK2 f f2 x dz ρ P)) := id rfl
theorem q_chK2 : (chK2 f f2 x dz ρ P y) = (f x y (chK3 f2 y dz ρ P)) := id rfl
theorem q_chK3 : (chK3 f2 y dz ρ P x) = (onBl x (chK4 f2 y dz ρ P)) := id rfl
theorem q_chK4 : (chK4 f2 y dz ρ P k) = (ifB k (chT f2 y dz ρ P) (cT P false)) := id rfl
theorem q_chT : (chT f2 y dz ρ P ()) = (dz ρ (opK2 f2 y P)) := id rfl
theorem q_isB : (dIsB n (.bl k) (.bl l) P) = (P (.bl (if n then !decide (k = l) else decide (k = l)))) := id rfl
theorem q_inT : (dInT n x (.lst xs) P) = (((plainD x = true ∧ deep x ≤ 60) ∧ (plainD (.lst xs) = true ∧ deep (.lst xs) ≤ 60) ∧ P (.bl (if n then !(xs.any fun y => eqD y x) else xs.any fun y => eqD y x)))) := id rfl
theorem q_varB0b : (dVarB 0 (.bo d :: ρ) P) = (P d) := id rfl
theorem q_clr : (dClr i E ρ) = (getO i ρ (clrK i E ρ)) := by
  unfold dClr getO
  cases ρ[i]? with
  | none => rfl
  | some s =>
    cases s with
    | ow x => cases x <;> rfl
    | _ => rfl
theorem q_clrK : (clrK i E ρ (.lst xs)) = (putS i (.ow (.lst [])) ρ E.nx) := id rfl
theorem q_retOK : (retOK E x) = (E.rn x) := id rfl
theorem q_retO : (dRetO i E ρ) = (getO i ρ (retOK E)) := by
  unfold dRetO getO
  cases ρ[i]? with
  | none => rfl
  | some s => cases s <;> rfl
theorem q_retL : (dRetL da E ρ) = (da ρ E.rn) := id rfl
theorem q_appN : (dAppN da db E ρ) = (da ρ (appNK1 db E ρ)) := id rfl
theorem q_appNK1 : (appNK1 db E ρ (.lst xs)) = (db ρ (appNK2 xs E ρ)) := id rfl
theorem q_appNK2 : (appNK2 xs E ρ y) = ((xs.length < sizeLine ∧ E.nx ρ)) := id rfl
theorem q_clrN : (dClrN da E ρ) = (da ρ (clrNK E ρ)) := id rfl
theorem q_clrNK : (clrNK E ρ (.lst xs)) = (E.nx ρ) := id rfl
theorem q_addL : (dAddL (.lst xs) (.lst ys) P) = ((xs.length + ys.length ≤ sizeLine ∧ P (.lst (xs ++ ys)))) := id rfl
theorem q_slL : (dSlL da dl dh ρ P) = (da ρ (slLK1 dl dh ρ P)) := id rfl
theorem q_slLK1 : (slLK1 dl dh ρ P x) = (dl ρ (slLK2 x dh ρ P)) := id rfl
theorem q_slLK2 : (slLK2 x dh ρ P lo) = (dh ρ (slLK3 x lo P)) := id rfl
theorem q_slLK3 : (slLK3 x lo P hi) = (dCutL lo hi x P) := id rfl
theorem q_cutL : (dCutL lo hi (.lst xs) P) = (P (.lst (cut xs lo hi))) := id rfl
theorem onBl_bl : onBl (.bl k) PB = PB k := id rfl
theorem onInt_int {P : Int → Prop} : onInt (.int a) P = P a := id rfl
theorem onStr_str {P : Tx → Prop} : onStr (.str u) P = P u := id rfl
theorem onOpt_some {α : Type} {z : α} {P : α → Prop} : onOpt (some z) P = P z := id rfl
theorem ifB_true {t f : Unit → Prop} : ifB true t f = t () := id rfl
theorem ifB_false {t f : Unit → Prop} : ifB false t f = f () := id rfl
theorem tyD_bl : tyD (.bl k) = some "bool" := rfl
theorem tyD_int : tyD (.int a) = some "int" := rfl
theorem tyD_str : tyD (.str u) = some "str" := rfl
theorem tyD_lst : tyD (.lst xs) = some "list" := rfl
theorem tyD_tup : tyD (.tup xs) = some "tuple" := rfl
theorem tyD_non : tyD .non = some "NoneType" := rfl
theorem truD_bl : truD (.bl k) = some k := rfl
theorem truD_int : truD (.int a) = some (a != 0) := rfl
theorem truD_str : truD (.str u) = some (!u.isEmpty) := rfl
theorem truD_lst : truD (.lst xs) = some (!xs.isEmpty) := rfl
end
theorem methAp_intro {M : MTab} {m : Str} {C : Addr} {gs : List (Str × D)} {dr : DA} {ρ : Rh} {P : D → Prop} {S : DSpec} (h1 : gs.lookup m = none) (h2 : M C S) (h3 : dr ρ (methK2 S (.obj C gs) P)) : methAp M m C gs dr ρ P := ⟨h1, S, h2, h3⟩
theorem ifB_intro {k : Bool} {t f : Unit → Prop} (h1 : k = true → t ()) (h2 : k = false → f ()) : ifB k t f := by
  unfold ifB
  cases k with
  | true => exact h1 rfl
  | false => exact h2 rfl
/-- a test over a proposition -/
theorem ifB_dec {p : Prop} [Decidable p] {t f : Unit → Prop} (h1 : p → t ()) (h2 : ¬ p → f ()) : ifB (decide p) t f :=
  ifB_intro (fun h => h1 (by simpa using h)) fun h => h2 (by simpa using h)
theorem ifB_ndec {p : Prop} [Decidable p] {t f : Unit → Prop} (h1 : ¬ p → t ()) (h2 : p → f ()) : ifB (!decide p) t f :=
  ifB_intro (fun h => h1 (by simpa using h)) fun h => h2 (by simpa using h)
/-- a loop over items, by a state: the turn brings st i to st (i + 1) -/
theorem forD_ind {dg : DG} {db : DS} {E : DEn} {xs : List D} {ρ : Rh} (Pv : Nat → Rh → Prop) (h0 : Pv 0 ρ) (hs : ∀ i x ρ, xs[i]? = some x → Pv i ρ → dg x ρ fun ρ' => ∀ (nx : Rh → Prop), (∀ r, Pv (i + 1) r → nx r) → db { nx := nx, ct := nx, bk := E.nx, rt := E.rt, rn := E.rn } ρ')
    (mono : ∀ x ρ (A B : Rh → Prop), (∀ r, A r → B r) → dg x ρ A → dg x ρ B) (hd : ∀ ρ, Pv xs.length ρ → E.nx ρ) : forD dg db E xs ρ := by
  have main : ∀ (l : List D) (i : Nat) (ρ : Rh), xs.drop i = l → i + l.length = xs.length → Pv i ρ → forD dg db E l ρ := by
    intro l
    induction l with
    | nil =>
      intro i ρ e hl p
      unfold forD
      simp at hl
      subst hl
      exact hd ρ p
    | cons x l ih =>
      intro i ρ e hl p
      unfold forD
      have hx : xs[i]? = some x := by
        have := congrArg List.head? e
        simpa using this
      have e2 : xs.drop (i + 1) = l := by
        have := congrArg List.tail e
        simpa using this
      refine mono x ρ _ _ (fun r hr => hr _ fun r' pr => ih (i + 1) r' e2 (by simp at hl; omega) pr) (hs i x ρ hx p)
  exact main xs 0 ρ rfl (by simp) h0
theorem dgN_mono {i : Nat} : ∀ x ρ (A B : Rh → Prop), (∀ r, A r → B r) → dgN i x ρ A → dgN i x ρ B := fun x ρ A B h q => h _ q
/-- a comprehension whose step hands back f -/
theorem lcD_map {vs : List Nat} {dg : DG} {dt : DT} {de : DE} {ρ : Rh} (f : D → D) : ∀ {xs : List D} {P : List D → Prop}, (∀ x ∈ xs, ∀ Q : D → Prop, Q (f x) → dg x (wipeR ρ vs) fun ρ' => dt ρ' fun b => b = true ∧ de ρ' Q) →
    (∀ x ρ (A B : Rh → Prop), (∀ r, A r → B r) → dg x ρ A → dg x ρ B) → (∀ ρ (A B : Bool → Prop), (∀ r, A r → B r) → dt ρ A → dt ρ B) → P (xs.map f) → lcD vs dg dt de ρ xs P
  | [], P, _, _, _, h => h
  | x :: xs, P, hs, m1, m2, h => by
    unfold lcD
    refine m1 x _ _ _ (fun r hr => m2 r _ _ (fun b ⟨hb, q⟩ => ?_) hr) (hs x (by simp) (fun y => lcD vs dg dt de ρ xs fun ys => P (y :: ys)) (lcD_map f (fun y hy => hs y (by simp [hy])) m1 m2 h))
    rw [if_pos hb]
    exact q
theorem dYes_mono : ∀ ρ (A B : Bool → Prop), (∀ r, A r → B r) → dYes ρ A → dYes ρ B := fun ρ A B h q => h _ q
end DL
end
section
namespace DL
open PySem L2
theorem cut_none {α : Type} (z : List α) : cut z none none = z := by
  unfold cut; simp [HT.sIx]
theorem cut_from {α : Type} (z : List α) {a : Int} (h : 0 ≤ a) : cut z (some a) none = z.drop a.toNat := by
  unfold cut
  simp only [HT.sIx, if_neg (show ¬ a < 0 by omega)]
  rw [List.take_of_length_le (by rw [List.length_drop]; omega)]
  by_cases g : a.toNat ≤ z.length
  · rw [Nat.min_eq_left g]
  · rw [Nat.min_eq_right (by omega), List.drop_length, List.drop_eq_nil_of_le (by omega)]
theorem cut_to {α : Type} (z : List α) {b : Int} (h : 0 ≤ b) : cut z none (some b) = z.take b.toNat := by
  unfold cut
  simp only [HT.sIx, if_neg (show ¬ b < 0 by omega), List.drop_zero, Nat.sub_zero]
  by_cases g : b.toNat ≤ z.length
  · rw [Nat.min_eq_left g]
  · rw [Nat.min_eq_right (by omega), List.take_length, List.take_of_length_le (by omega)]
theorem cut_both {α : Type} (z : List α) {a b : Int} (h : 0 ≤ a) (g : 0 ≤ b) : cut z (some a) (some b) = (z.take b.toNat).drop a.toNat := by
  unfold cut
  simp only [HT.sIx, if_neg (show ¬ a < 0 by omega), if_neg (show ¬ b < 0 by omega)]
  rw [List.drop_take]
  by_cases ga : a.toNat ≤ z.length
  · rw [Nat.min_eq_left ga]
    by_cases gb : b.toNat ≤ z.length
    · rw [Nat.min_eq_left gb]
    · rw [Nat.min_eq_right (by omega), List.take_of_length_le (by rw [List.length_drop]; omega), List.take_of_length_le (by rw [List.length_drop]; omega)]
  · rw [Nat.min_eq_right (show z.length ≤ a.toNat by omega), List.drop_length, List.drop_eq_nil_of_le (show z.length ≤ a.toNat by omega)]
    simp
theorem ixD_nat {α : Type} (z : List α) {a : Int} (h : 0 ≤ a) : ixD z a = z[a.toNat]? := by
  unfold ixD; rw [if_pos h]
theorem ixD_ofNat {α : Type} (z : List α) (a : Nat) : ixD z (a : Int) = z[a]? := by
  rw [ixD_nat z (by omega)]; simp
theorem ixD_some {α : Type} {z : List α} {a : Int} (h : 0 ≤ a) (g : a < z.length) : ixD z a = some (z[a.toNat]'(by omega)) := by
  rw [ixD_nat z h]; simp [show a.toNat < z.length by omega]
theorem szl : sizeLine = 16777216 := sizeLine_eq
theorem intsD_len {xs : List D} {ns : List Int} (h : intsD xs = some ns) : xs.length = ns.length := by rw [intsD_eq h]; simp
/-- a comprehension whose step hands back anything of a kind -/
theorem lcD_rel {vs : List Nat} {dg : DG} {dt : DT} {de : DE} {ρ : Rh} (R : D → D → Prop) : ∀ {xs : List D} {P : List D → Prop}, (∀ x ∈ xs, ∀ Q : D → Prop, (∀ y, R x y → Q y) → dg x (wipeR ρ vs) fun ρ' => dt ρ' fun b => b = true ∧ de ρ' Q) →
    (∀ x ρ (A B : Rh → Prop), (∀ r, A r → B r) → dg x ρ A → dg x ρ B) → (∀ ρ (A B : Bool → Prop), (∀ r, A r → B r) → dt ρ A → dt ρ B) →
    (∀ ys, Paired R xs ys → P ys) → lcD vs dg dt de ρ xs P
  | [], P, _, _, _, h => h [] .nil
  | x :: xs, P, hs, m1, m2, h => by
    unfold lcD
    refine m1 x _ _ _ (fun r hr => m2 r _ _ (fun b ⟨hb, q⟩ => ?_) hr) (hs x (by simp) (fun y => lcD vs dg dt de ρ xs fun ys => P (y :: ys)) (fun y hy => lcD_rel R (fun z hz => hs z (by simp [hz])) m1 m2 fun ys hp => h _ (.cons hy hp)))
    rw [if_pos hb]
    exact q
/-- texts of one sign each -/
theorem signs_of {xs : List D} {n : Nat} : ∀ {l : List D}, Paired (fun (_ : D) y => ∃ c, y = D.str [c]) l xs → ∃ t : Tx, xs = (t.map fun c => [c]).map D.str ∧ t.length = l.length
  | _, .nil => ⟨[], rfl, rfl⟩
  | _, .cons (a := a) (b := b) ⟨c, h⟩ r => by
    obtain ⟨t, h1, h2⟩ := signs_of (n := n) r
    exact ⟨c :: t, by rw [h, h1]; rfl, by simp [h2]⟩
theorem joinT_nil_signs (t : Tx) : joinT [] (t.map fun c => [c]) = t := by
  induction t with
  | nil => rfl
  | cons c t ih =>
    cases t with
    | nil => rfl
    | cons d r =>
      show [c] ++ ([] ++ TL.joinL [] ((d :: r).map fun c => [c])) = _
      unfold joinT at ih
      rw [ih]; rfl
theorem sum_ones (t : Tx) : ((t.map fun c => [c]).map (fun x : Tx => x.length)).sum = t.length := by
  induction t with
  | nil => rfl
  | cons c t ih => simp only [List.map_cons, List.sum_cons, ih, List.length_cons, List.length_nil]; omega
/-- a loop that hands back v at the first item whose test fails -/
theorem forD_all {dg : DG} {db : DS} {E : DEn} (t : D → Bool) (Pv : Rh → Prop) (v : D) (mono : ∀ x ρ (A B : Rh → Prop), (∀ r, A r → B r) → dg x ρ A → dg x ρ B) : ∀ {xs : List D} {ρ : Rh}, Pv ρ →
    (∀ x ∈ xs, ∀ ρ, Pv ρ → dg x ρ fun ρ' => ∀ nx : Rh → Prop, (t x = true → ∀ r, Pv r → nx r) → (t x = false → E.rt v) → db { nx := nx, ct := nx, bk := E.nx, rt := E.rt, rn := E.rn } ρ') →
    (xs.all t = true → ∀ ρ, Pv ρ → E.nx ρ) → (xs.all t = false → E.rt v) → forD dg db E xs ρ
  | [], ρ, p, _, h1, _ => h1 rfl ρ p
  | x :: xs, ρ, p, hs, h1, h2 => by
    unfold forD
    refine mono x ρ _ _ (fun r hr => hr _ (fun tx r' pr => ?_) fun tx => h2 (by rw [List.all_cons, tx]; rfl)) (hs x (by simp) ρ p)
    exact forD_all t Pv v mono pr (fun y hy => hs y (by simp [hy])) (fun a => h1 (by rw [List.all_cons, tx, a]; rfl)) fun a => h2 (by rw [List.all_cons, tx, a]; rfl)
theorem dgT_mono {n : Nat} {g : DGs} (h : ∀ xs ρ (A B : Rh → Prop), (∀ r, A r → B r) → g xs ρ A → g xs ρ B) : ∀ x ρ (A B : Rh → Prop), (∀ r, A r → B r) → dgT n g x ρ A → dgT n g x ρ B := fun x ρ A B k q => by
  unfold dgT at q ⊢
  cases x <;> first | exact q | exact ⟨q.1, h _ ρ A B k q.2⟩
theorem dgNil_mono : ∀ xs ρ (A B : Rh → Prop), (∀ r, A r → B r) → dgNil xs ρ A → dgNil xs ρ B := fun xs ρ A B k q => by
  unfold dgNil at q ⊢
  cases xs with
  | nil => exact k _ q
  | cons => exact q
theorem dgCons_mono {d : DG} {g : DGs} (h1 : ∀ x ρ (A B : Rh → Prop), (∀ r, A r → B r) → d x ρ A → d x ρ B) (h : ∀ xs ρ (A B : Rh → Prop), (∀ r, A r → B r) → g xs ρ A → g xs ρ B) : ∀ xs ρ (A B : Rh → Prop), (∀ r, A r → B r) → dgCons d g xs ρ A → dgCons d g xs ρ B := fun xs ρ A B k q => by
  unfold dgCons at q ⊢
  cases xs with
  | nil => exact q
  | cons x r => exact h1 x ρ _ _ (fun ρ' z => h r ρ' A B k z) q
theorem rngD_get {lo : Int} {n i : Nat} {x : D} (h : (rngD lo n)[i]? = some x) : x = .int (lo + i) ∧ i < n := by
  have hi : i < n := by
    have := (List.getElem?_eq_some_iff.mp h).1
    simpa [rngD] using this
  refine ⟨?_, hi⟩
  simp only [rngD, List.getElem?_map, List.getElem?_range hi, Option.map_some, Option.some.injEq] at h
  exact h.symm
theorem rngD_mem {lo : Int} {n : Nat} {x : D} (h : x ∈ rngD lo n) : ∃ i : Nat, x = .int (lo + i) ∧ i < n := by
  obtain ⟨i, hi⟩ := List.mem_iff_getElem?.mp h
  obtain ⟨h1, h2⟩ := rngD_get hi
  exact ⟨i, h1, h2⟩
theorem rngD_len (lo : Int) (n : Nat) : (rngD lo n).length = n := by simp [rngD]
theorem signs_mem {z : Tx} {x : D} (h : x ∈ signs z) : ∃ c ∈ z, x = .str [c] := by
  simp only [signs, List.mem_map] at h
  obtain ⟨c, h1, h2⟩ := h
  exact ⟨c, h1, h2.symm⟩
/-- a loop by a measure -/
theorem whileD_ind {c : DT} {body : DS} {E : DEn} (Pv : Nat → Rh → Prop)
    (hs : ∀ m ρ, Pv m ρ → ∀ T : Rh → Prop, (∀ k, k < m → ∀ r, Pv k r → T r) → c ρ fun b => ifB b (stT body { nx := T, ct := T, bk := E.nx, rt := E.rt, rn := E.rn } ρ) (fun _ => E.nx ρ)) :
    ∀ N m ρ, m ≤ N → Pv m ρ → whileD c body E (N + 1) ρ
  | 0, m, ρ, h, p => hs m ρ p _ fun k hk r pr => absurd hk (by omega)
  | N + 1, m, ρ, h, p => hs m ρ p (whileD c body E (N + 1)) fun k hk r pr => whileD_ind Pv hs N k r (by omega) pr
theorem while_ind {c : DT} {body : DS} {E : DEn} {ρ : Rh} (Pv : Nat → Rh → Prop) (m : Nat) (p : Pv m ρ)
    (hs : ∀ m ρ, Pv m ρ → ∀ T : Rh → Prop, (∀ k, k < m → ∀ r, Pv k r → T r) → c ρ fun b => ifB b (stT body { nx := T, ct := T, bk := E.nx, rt := E.rt, rn := E.rn } ρ) (fun _ => E.nx ρ)) :
    dWhile c body E ρ := ⟨m + 1, whileD_ind Pv hs m m ρ (Nat.le_refl _) p⟩
/-- a comprehension with a test -/
theorem lcD_ft {vs : List Nat} {dg : DG} {dt : DT} {de : DE} {ρ : Rh} (t : D → Bool) (f : D → D) : ∀ {xs : List D} {P : List D → Prop}, (∀ x ∈ xs, ∀ (Y : D → Prop) (N : Prop), (t x = true → Y (f x)) → (t x = false → N) → dg x (wipeR ρ vs) fun ρ' => dt ρ' fun b => ifB b (veT de ρ' Y) (fun _ => N)) →
    P ((xs.filter t).map f) → lcD vs dg dt de ρ xs P
  | [], P, _, h => h
  | x :: xs, P, hs, h => by
    unfold lcD
    have ih : ∀ P : List D → Prop, P ((xs.filter t).map f) → lcD vs dg dt de ρ xs P := fun P h => lcD_ft t f (fun y hy => hs y (by simp [hy])) h
    refine hs x (by simp) (fun y => lcD vs dg dt de ρ xs fun ys => P (y :: ys)) _ (fun g => ih _ ?_) fun g => ih _ ?_
    · rw [List.filter_cons_of_pos g] at h
      exact h
    · rw [List.filter_cons_of_neg (by simp [g])] at h
      exact h
/-- a comprehension of which only the kind of its items is told -/
theorem lcD_any {vs : List Nat} {dg : DG} {dt : DT} {de : DE} {ρ : Rh} (R : D → Prop) : ∀ {xs : List D} {P : List D → Prop}, (∀ x ∈ xs, ∀ (Y : D → Prop) (N : Prop), (∀ y, R y → Y y) → N → dg x (wipeR ρ vs) fun ρ' => dt ρ' fun b => ifB b (veT de ρ' Y) (fun _ => N)) →
    (∀ ys, (∀ y ∈ ys, R y) → ys.length ≤ xs.length → P ys) → lcD vs dg dt de ρ xs P
  | [], P, _, h => h [] (by simp) (Nat.le_refl _)
  | x :: xs, P, hs, h => by
    unfold lcD
    refine hs x (by simp) (fun y => lcD vs dg dt de ρ xs fun ys => P (y :: ys)) _ (fun y hy => lcD_any R (fun z hz => hs z (by simp [hz])) fun ys p l => h _ ?_ (by simp; omega)) (lcD_any R (fun z hz => hs z (by simp [hz])) fun ys p l => h _ p (by simp; omega))
    intro z hz
    rcases List.mem_cons.mp hz with q | q
    · subst q; exact hy
    · exact p z q
theorem signs_all : ∀ {xs : List D}, (∀ y ∈ xs, ∃ c, y = D.str [c]) → ∃ t : Tx, xs = (t.map fun c => [c]).map D.str ∧ t.length = xs.length
  | [], _ => ⟨[], rfl, rfl⟩
  | x :: xs, h => by
    obtain ⟨c, h1⟩ := h x (by simp)
    obtain ⟨t, h2, h3⟩ := signs_all (xs := xs) fun y hy => h y (by simp [hy])
    exact ⟨c :: t, by rw [h1, h2]; rfl, by simp [h3]⟩
/-- a loop that hands back something of the first item that is sought -/
theorem forD_find {dg : DG} {db : DS} {E : DEn} (t : D → Bool) (v : D → D) (Pv : Rh → Prop) (mono : ∀ x ρ (A B : Rh → Prop), (∀ r, A r → B r) → dg x ρ A → dg x ρ B) : ∀ {xs : List D} {ρ : Rh}, Pv ρ →
    (∀ x ∈ xs, ∀ ρ, Pv ρ → dg x ρ fun ρ' => ∀ nx : Rh → Prop, (t x = false → ∀ r, Pv r → nx r) → (t x = true → E.rt (v x)) → db { nx := nx, ct := nx, bk := E.nx, rt := E.rt, rn := E.rn } ρ') →
    (xs.find? t = none → ∀ ρ, Pv ρ → E.nx ρ) → (∀ x, xs.find? t = some x → E.rt (v x)) → forD dg db E xs ρ
  | [], ρ, p, _, h1, _ => h1 rfl ρ p
  | x :: xs, ρ, p, hs, h1, h2 => by
    unfold forD
    refine mono x ρ _ _ (fun r hr => hr _ (fun tx r' pr => ?_) fun tx => h2 x (by rw [List.find?_cons, tx])) (hs x (by simp) ρ p)
    exact forD_find t v Pv mono pr (fun y hy => hs y (by simp [hy])) (fun a => h1 (by rw [List.find?_cons, tx]; exact a)) fun y a => h2 y (by rw [List.find?_cons, tx]; exact a)
end DL
end
section
namespace DL
open PySem L2
theorem fn_arcs_costs : (("arcs" : Str) == "costs") = false := by decide +kernel
theorem fe_arcs_costs : (("arcs" : Str) = "costs") = False := eq_false (by decide +kernel)
theorem fn_arcs_house : (("arcs" : Str) == "house") = false := by decide +kernel
theorem fe_arcs_house : (("arcs" : Str) = "house") = False := eq_false (by decide +kernel)
theorem fn_arcs_many : (("arcs" : Str) == "many") = false := by decide +kernel
theorem fe_arcs_many : (("arcs" : Str) = "many") = False := eq_false (by decide +kernel)
theorem fn_arcs_marks : (("arcs" : Str) == "marks") = false := by decide +kernel
theorem fe_arcs_marks : (("arcs" : Str) = "marks") = False := eq_false (by decide +kernel)
theorem fn_arcs_needs : (("arcs" : Str) == "needs") = false := by decide +kernel
theorem fe_arcs_needs : (("arcs" : Str) = "needs") = False := eq_false (by decide +kernel)
theorem fn_arcs_whole : (("arcs" : Str) == "whole") = false := by decide +kernel
theorem fe_arcs_whole : (("arcs" : Str) = "whole") = False := eq_false (by decide +kernel)
theorem fn_begin_kept : (("begin" : Str) == "kept") = false := by decide +kernel
theorem fe_begin_kept : (("begin" : Str) = "kept") = False := eq_false (by decide +kernel)
theorem fn_begin_most : (("begin" : Str) == "most") = false := by decide +kernel
theorem fe_begin_most : (("begin" : Str) = "most") = False := eq_false (by decide +kernel)
theorem fn_begin_rules : (("begin" : Str) == "rules") = false := by decide +kernel
theorem fe_begin_rules : (("begin" : Str) = "rules") = False := eq_false (by decide +kernel)
theorem fn_carried_level : (("carried" : Str) == "level") = false := by decide +kernel
theorem fe_carried_level : (("carried" : Str) = "level") = False := eq_false (by decide +kernel)
theorem fn_carried_most : (("carried" : Str) == "most") = false := by decide +kernel
theorem fe_carried_most : (("carried" : Str) = "most") = False := eq_false (by decide +kernel)
theorem fn_carried_name : (("carried" : Str) == "name") = false := by decide +kernel
theorem fe_carried_name : (("carried" : Str) = "name") = False := eq_false (by decide +kernel)
theorem fn_carried_past : (("carried" : Str) == "past") = false := by decide +kernel
theorem fe_carried_past : (("carried" : Str) = "past") = False := eq_false (by decide +kernel)
theorem fn_carried_skills : (("carried" : Str) == "skills") = false := by decide +kernel
theorem fe_carried_skills : (("carried" : Str) = "skills") = False := eq_false (by decide +kernel)
theorem fn_carried_weight : (("carried" : Str) == "weight") = false := by decide +kernel
theorem fe_carried_weight : (("carried" : Str) = "weight") = False := eq_false (by decide +kernel)
theorem fn_carried_wishes : (("carried" : Str) == "wishes") = false := by decide +kernel
theorem fe_carried_wishes : (("carried" : Str) = "wishes") = False := eq_false (by decide +kernel)
theorem fn_costs_arcs : (("costs" : Str) == "arcs") = false := by decide +kernel
theorem fe_costs_arcs : (("costs" : Str) = "arcs") = False := eq_false (by decide +kernel)
theorem fn_costs_house : (("costs" : Str) == "house") = false := by decide +kernel
theorem fe_costs_house : (("costs" : Str) = "house") = False := eq_false (by decide +kernel)
theorem fn_costs_many : (("costs" : Str) == "many") = false := by decide +kernel
theorem fe_costs_many : (("costs" : Str) = "many") = False := eq_false (by decide +kernel)
theorem fn_costs_marks : (("costs" : Str) == "marks") = false := by decide +kernel
theorem fe_costs_marks : (("costs" : Str) = "marks") = False := eq_false (by decide +kernel)
theorem fn_costs_needs : (("costs" : Str) == "needs") = false := by decide +kernel
theorem fe_costs_needs : (("costs" : Str) = "needs") = False := eq_false (by decide +kernel)
theorem fn_costs_whole : (("costs" : Str) == "whole") = false := by decide +kernel
theorem fe_costs_whole : (("costs" : Str) = "whole") = False := eq_false (by decide +kernel)
theorem fn_days_kinds : (("days" : Str) == "kinds") = false := by decide +kernel
theorem fe_days_kinds : (("days" : Str) = "kinds") = False := eq_false (by decide +kernel)
theorem fn_days_leave : (("days" : Str) == "leave") = false := by decide +kernel
theorem fe_days_leave : (("days" : Str) = "leave") = False := eq_false (by decide +kernel)
theorem fn_days_many : (("days" : Str) == "many") = false := by decide +kernel
theorem fe_days_many : (("days" : Str) = "many") = False := eq_false (by decide +kernel)
theorem fn_days_marks : (("days" : Str) == "marks") = false := by decide +kernel
theorem fe_days_marks : (("days" : Str) = "marks") = False := eq_false (by decide +kernel)
theorem fn_days_needs : (("days" : Str) == "needs") = false := by decide +kernel
theorem fe_days_needs : (("days" : Str) = "needs") = False := eq_false (by decide +kernel)
theorem fn_days_pairs : (("days" : Str) == "pairs") = false := by decide +kernel
theorem fe_days_pairs : (("days" : Str) = "pairs") = False := eq_false (by decide +kernel)
theorem fn_days_persons : (("days" : Str) == "persons") = false := by decide +kernel
theorem fe_days_persons : (("days" : Str) = "persons") = False := eq_false (by decide +kernel)
theorem fn_days_rules : (("days" : Str) == "rules") = false := by decide +kernel
theorem fe_days_rules : (("days" : Str) = "rules") = False := eq_false (by decide +kernel)
theorem fn_days_wishes : (("days" : Str) == "wishes") = false := by decide +kernel
theorem fe_days_wishes : (("days" : Str) = "wishes") = False := eq_false (by decide +kernel)
theorem fn_flows_net : (("flows" : Str) == "net") = false := by decide +kernel
theorem fe_flows_net : (("flows" : Str) = "net") = False := eq_false (by decide +kernel)
theorem fn_flows_prices : (("flows" : Str) == "prices") = false := by decide +kernel
theorem fe_flows_prices : (("flows" : Str) = "prices") = False := eq_false (by decide +kernel)
theorem fn_flows_spare : (("flows" : Str) == "spare") = false := by decide +kernel
theorem fe_flows_spare : (("flows" : Str) = "spare") = False := eq_false (by decide +kernel)
theorem fn_flows_touching : (("flows" : Str) == "touching") = false := by decide +kernel
theorem fe_flows_touching : (("flows" : Str) = "touching") = False := eq_false (by decide +kernel)
theorem fn_house_arcs : (("house" : Str) == "arcs") = false := by decide +kernel
theorem fe_house_arcs : (("house" : Str) = "arcs") = False := eq_false (by decide +kernel)
theorem fn_house_costs : (("house" : Str) == "costs") = false := by decide +kernel
theorem fe_house_costs : (("house" : Str) = "costs") = False := eq_false (by decide +kernel)
theorem fn_house_many : (("house" : Str) == "many") = false := by decide +kernel
theorem fe_house_many : (("house" : Str) = "many") = False := eq_false (by decide +kernel)
theorem fn_house_marks : (("house" : Str) == "marks") = false := by decide +kernel
theorem fe_house_marks : (("house" : Str) = "marks") = False := eq_false (by decide +kernel)
theorem fn_house_needs : (("house" : Str) == "needs") = false := by decide +kernel
theorem fe_house_needs : (("house" : Str) = "needs") = False := eq_false (by decide +kernel)
theorem fn_house_whole : (("house" : Str) == "whole") = false := by decide +kernel
theorem fe_house_whole : (("house" : Str) = "whole") = False := eq_false (by decide +kernel)
theorem fn_kept_begin : (("kept" : Str) == "begin") = false := by decide +kernel
theorem fe_kept_begin : (("kept" : Str) = "begin") = False := eq_false (by decide +kernel)
theorem fn_kept_most : (("kept" : Str) == "most") = false := by decide +kernel
theorem fe_kept_most : (("kept" : Str) = "most") = False := eq_false (by decide +kernel)
theorem fn_kept_rules : (("kept" : Str) == "rules") = false := by decide +kernel
theorem fe_kept_rules : (("kept" : Str) = "rules") = False := eq_false (by decide +kernel)
theorem fn_kinds_days : (("kinds" : Str) == "days") = false := by decide +kernel
theorem fe_kinds_days : (("kinds" : Str) = "days") = False := eq_false (by decide +kernel)
theorem fn_kinds_leave : (("kinds" : Str) == "leave") = false := by decide +kernel
theorem fe_kinds_leave : (("kinds" : Str) = "leave") = False := eq_false (by decide +kernel)
theorem fn_kinds_needs : (("kinds" : Str) == "needs") = false := by decide +kernel
theorem fe_kinds_needs : (("kinds" : Str) = "needs") = False := eq_false (by decide +kernel)
theorem fn_kinds_pairs : (("kinds" : Str) == "pairs") = false := by decide +kernel
theorem fe_kinds_pairs : (("kinds" : Str) = "pairs") = False := eq_false (by decide +kernel)
theorem fn_kinds_persons : (("kinds" : Str) == "persons") = false := by decide +kernel
theorem fe_kinds_persons : (("kinds" : Str) = "persons") = False := eq_false (by decide +kernel)
theorem fn_kinds_rules : (("kinds" : Str) == "rules") = false := by decide +kernel
theorem fe_kinds_rules : (("kinds" : Str) = "rules") = False := eq_false (by decide +kernel)
theorem fn_kinds_wishes : (("kinds" : Str) == "wishes") = false := by decide +kernel
theorem fe_kinds_wishes : (("kinds" : Str) = "wishes") = False := eq_false (by decide +kernel)
theorem fn_leave_days : (("leave" : Str) == "days") = false := by decide +kernel
theorem fe_leave_days : (("leave" : Str) = "days") = False := eq_false (by decide +kernel)
theorem fn_leave_kinds : (("leave" : Str) == "kinds") = false := by decide +kernel
theorem fe_leave_kinds : (("leave" : Str) = "kinds") = False := eq_false (by decide +kernel)
theorem fn_leave_needs : (("leave" : Str) == "needs") = false := by decide +kernel
theorem fe_leave_needs : (("leave" : Str) = "needs") = False := eq_false (by decide +kernel)
theorem fn_leave_pairs : (("leave" : Str) == "pairs") = false := by decide +kernel
theorem fe_leave_pairs : (("leave" : Str) = "pairs") = False := eq_false (by decide +kernel)
theorem fn_leave_persons : (("leave" : Str) == "persons") = false := by decide +kernel
theorem fe_leave_persons : (("leave" : Str) = "persons") = False := eq_false (by decide +kernel)
theorem fn_leave_rules : (("leave" : Str) == "rules") = false := by decide +kernel
theorem fe_leave_rules : (("leave" : Str) = "rules") = False := eq_false (by decide +kernel)
theorem fn_leave_wishes : (("leave" : Str) == "wishes") = false := by decide +kernel
theorem fe_leave_wishes : (("leave" : Str) = "wishes") = False := eq_false (by decide +kernel)
theorem fn_left_right : (("left" : Str) == "right") = false := by decide +kernel
theorem fe_left_right : (("left" : Str) = "right") = False := eq_false (by decide +kernel)
theorem fn_level_carried : (("level" : Str) == "carried") = false := by decide +kernel
theorem fe_level_carried : (("level" : Str) = "carried") = False := eq_false (by decide +kernel)
theorem fn_many_arcs : (("many" : Str) == "arcs") = false := by decide +kernel
theorem fe_many_arcs : (("many" : Str) = "arcs") = False := eq_false (by decide +kernel)
theorem fn_many_costs : (("many" : Str) == "costs") = false := by decide +kernel
theorem fe_many_costs : (("many" : Str) = "costs") = False := eq_false (by decide +kernel)
theorem fn_many_days : (("many" : Str) == "days") = false := by decide +kernel
theorem fe_many_days : (("many" : Str) = "days") = False := eq_false (by decide +kernel)
theorem fn_many_house : (("many" : Str) == "house") = false := by decide +kernel
theorem fe_many_house : (("many" : Str) = "house") = False := eq_false (by decide +kernel)
theorem fn_many_marks : (("many" : Str) == "marks") = false := by decide +kernel
theorem fe_many_marks : (("many" : Str) = "marks") = False := eq_false (by decide +kernel)
theorem fn_many_needs : (("many" : Str) == "needs") = false := by decide +kernel
theorem fe_many_needs : (("many" : Str) = "needs") = False := eq_false (by decide +kernel)
theorem fn_many_whole : (("many" : Str) == "whole") = false := by decide +kernel
theorem fe_many_whole : (("many" : Str) = "whole") = False := eq_false (by decide +kernel)
theorem fn_marks_arcs : (("marks" : Str) == "arcs") = false := by decide +kernel
theorem fe_marks_arcs : (("marks" : Str) = "arcs") = False := eq_false (by decide +kernel)
theorem fn_marks_costs : (("marks" : Str) == "costs") = false := by decide +kernel
theorem fe_marks_costs : (("marks" : Str) = "costs") = False := eq_false (by decide +kernel)
theorem fn_marks_days : (("marks" : Str) == "days") = false := by decide +kernel
theorem fe_marks_days : (("marks" : Str) = "days") = False := eq_false (by decide +kernel)
theorem fn_marks_house : (("marks" : Str) == "house") = false := by decide +kernel
theorem fe_marks_house : (("marks" : Str) = "house") = False := eq_false (by decide +kernel)
theorem fn_marks_many : (("marks" : Str) == "many") = false := by decide +kernel
theorem fe_marks_many : (("marks" : Str) = "many") = False := eq_false (by decide +kernel)
theorem fn_marks_needs : (("marks" : Str) == "needs") = false := by decide +kernel
theorem fe_marks_needs : (("marks" : Str) = "needs") = False := eq_false (by decide +kernel)
theorem fn_marks_whole : (("marks" : Str) == "whole") = false := by decide +kernel
theorem fe_marks_whole : (("marks" : Str) = "whole") = False := eq_false (by decide +kernel)
theorem fn_most_begin : (("most" : Str) == "begin") = false := by decide +kernel
theorem fe_most_begin : (("most" : Str) = "begin") = False := eq_false (by decide +kernel)
theorem fn_most_carried : (("most" : Str) == "carried") = false := by decide +kernel
theorem fe_most_carried : (("most" : Str) = "carried") = False := eq_false (by decide +kernel)
theorem fn_most_kept : (("most" : Str) == "kept") = false := by decide +kernel
theorem fe_most_kept : (("most" : Str) = "kept") = False := eq_false (by decide +kernel)
theorem fn_most_name : (("most" : Str) == "name") = false := by decide +kernel
theorem fe_most_name : (("most" : Str) = "name") = False := eq_false (by decide +kernel)
theorem fn_most_past : (("most" : Str) == "past") = false := by decide +kernel
theorem fe_most_past : (("most" : Str) = "past") = False := eq_false (by decide +kernel)
theorem fn_most_rules : (("most" : Str) == "rules") = false := by decide +kernel
theorem fe_most_rules : (("most" : Str) = "rules") = False := eq_false (by decide +kernel)
theorem fn_most_skills : (("most" : Str) == "skills") = false := by decide +kernel
theorem fe_most_skills : (("most" : Str) = "skills") = False := eq_false (by decide +kernel)
theorem fn_name_carried : (("name" : Str) == "carried") = false := by decide +kernel
theorem fe_name_carried : (("name" : Str) = "carried") = False := eq_false (by decide +kernel)
theorem fn_name_most : (("name" : Str) == "most") = false := by decide +kernel
theorem fe_name_most : (("name" : Str) = "most") = False := eq_false (by decide +kernel)
theorem fn_name_past : (("name" : Str) == "past") = false := by decide +kernel
theorem fe_name_past : (("name" : Str) = "past") = False := eq_false (by decide +kernel)
theorem fn_name_skills : (("name" : Str) == "skills") = false := by decide +kernel
theorem fe_name_skills : (("name" : Str) = "skills") = False := eq_false (by decide +kernel)
theorem fn_needs_arcs : (("needs" : Str) == "arcs") = false := by decide +kernel
theorem fe_needs_arcs : (("needs" : Str) = "arcs") = False := eq_false (by decide +kernel)
theorem fn_needs_costs : (("needs" : Str) == "costs") = false := by decide +kernel
theorem fe_needs_costs : (("needs" : Str) = "costs") = False := eq_false (by decide +kernel)
theorem fn_needs_days : (("needs" : Str) == "days") = false := by decide +kernel
theorem fe_needs_days : (("needs" : Str) = "days") = False := eq_false (by decide +kernel)
theorem fn_needs_house : (("needs" : Str) == "house") = false := by decide +kernel
theorem fe_needs_house : (("needs" : Str) = "house") = False := eq_false (by decide +kernel)
theorem fn_needs_kinds : (("needs" : Str) == "kinds") = false := by decide +kernel
theorem fe_needs_kinds : (("needs" : Str) = "kinds") = False := eq_false (by decide +kernel)
theorem fn_needs_leave : (("needs" : Str) == "leave") = false := by decide +kernel
theorem fe_needs_leave : (("needs" : Str) = "leave") = False := eq_false (by decide +kernel)
theorem fn_needs_many : (("needs" : Str) == "many") = false := by decide +kernel
theorem fe_needs_many : (("needs" : Str) = "many") = False := eq_false (by decide +kernel)
theorem fn_needs_marks : (("needs" : Str) == "marks") = false := by decide +kernel
theorem fe_needs_marks : (("needs" : Str) = "marks") = False := eq_false (by decide +kernel)
theorem fn_needs_pairs : (("needs" : Str) == "pairs") = false := by decide +kernel
theorem fe_needs_pairs : (("needs" : Str) = "pairs") = False := eq_false (by decide +kernel)
theorem fn_needs_persons : (("needs" : Str) == "persons") = false := by decide +kernel
theorem fe_needs_persons : (("needs" : Str) = "persons") = False := eq_false (by decide +kernel)
theorem fn_needs_rules : (("needs" : Str) == "rules") = false := by decide +kernel
theorem fe_needs_rules : (("needs" : Str) = "rules") = False := eq_false (by decide +kernel)
theorem fn_needs_whole : (("needs" : Str) == "whole") = false := by decide +kernel
theorem fe_needs_whole : (("needs" : Str) = "whole") = False := eq_false (by decide +kernel)
theorem fn_needs_wishes : (("needs" : Str) == "wishes") = false := by decide +kernel
theorem fe_needs_wishes : (("needs" : Str) = "wishes") = False := eq_false (by decide +kernel)
theorem fn_net_flows : (("net" : Str) == "flows") = false := by decide +kernel
theorem fe_net_flows : (("net" : Str) = "flows") = False := eq_false (by decide +kernel)
theorem fn_net_prices : (("net" : Str) == "prices") = false := by decide +kernel
theorem fe_net_prices : (("net" : Str) = "prices") = False := eq_false (by decide +kernel)
theorem fn_net_spare : (("net" : Str) == "spare") = false := by decide +kernel
theorem fe_net_spare : (("net" : Str) = "spare") = False := eq_false (by decide +kernel)
theorem fn_net_touching : (("net" : Str) == "touching") = false := by decide +kernel
theorem fe_net_touching : (("net" : Str) = "touching") = False := eq_false (by decide +kernel)
theorem fn_pairs_days : (("pairs" : Str) == "days") = false := by decide +kernel
theorem fe_pairs_days : (("pairs" : Str) = "days") = False := eq_false (by decide +kernel)
theorem fn_pairs_kinds : (("pairs" : Str) == "kinds") = false := by decide +kernel
theorem fe_pairs_kinds : (("pairs" : Str) = "kinds") = False := eq_false (by decide +kernel)
theorem fn_pairs_leave : (("pairs" : Str) == "leave") = false := by decide +kernel
theorem fe_pairs_leave : (("pairs" : Str) = "leave") = False := eq_false (by decide +kernel)
theorem fn_pairs_needs : (("pairs" : Str) == "needs") = false := by decide +kernel
theorem fe_pairs_needs : (("pairs" : Str) = "needs") = False := eq_false (by decide +kernel)
theorem fn_pairs_persons : (("pairs" : Str) == "persons") = false := by decide +kernel
theorem fe_pairs_persons : (("pairs" : Str) = "persons") = False := eq_false (by decide +kernel)
theorem fn_pairs_rules : (("pairs" : Str) == "rules") = false := by decide +kernel
theorem fe_pairs_rules : (("pairs" : Str) = "rules") = False := eq_false (by decide +kernel)
theorem fn_pairs_wishes : (("pairs" : Str) == "wishes") = false := by decide +kernel
theorem fe_pairs_wishes : (("pairs" : Str) = "wishes") = False := eq_false (by decide +kernel)
theorem fn_paper_rota : (("paper" : Str) == "rota") = false := by decide +kernel
theorem fe_paper_rota : (("paper" : Str) = "rota") = False := eq_false (by decide +kernel)
theorem fn_paper_total : (("paper" : Str) == "total") = false := by decide +kernel
theorem fe_paper_total : (("paper" : Str) = "total") = False := eq_false (by decide +kernel)
theorem fn_past_carried : (("past" : Str) == "carried") = false := by decide +kernel
theorem fe_past_carried : (("past" : Str) = "carried") = False := eq_false (by decide +kernel)
theorem fn_past_most : (("past" : Str) == "most") = false := by decide +kernel
theorem fe_past_most : (("past" : Str) = "most") = False := eq_false (by decide +kernel)
theorem fn_past_name : (("past" : Str) == "name") = false := by decide +kernel
theorem fe_past_name : (("past" : Str) = "name") = False := eq_false (by decide +kernel)
theorem fn_past_skills : (("past" : Str) == "skills") = false := by decide +kernel
theorem fe_past_skills : (("past" : Str) = "skills") = False := eq_false (by decide +kernel)
theorem fn_persons_days : (("persons" : Str) == "days") = false := by decide +kernel
theorem fe_persons_days : (("persons" : Str) = "days") = False := eq_false (by decide +kernel)
theorem fn_persons_kinds : (("persons" : Str) == "kinds") = false := by decide +kernel
theorem fe_persons_kinds : (("persons" : Str) = "kinds") = False := eq_false (by decide +kernel)
theorem fn_persons_leave : (("persons" : Str) == "leave") = false := by decide +kernel
theorem fe_persons_leave : (("persons" : Str) = "leave") = False := eq_false (by decide +kernel)
theorem fn_persons_needs : (("persons" : Str) == "needs") = false := by decide +kernel
theorem fe_persons_needs : (("persons" : Str) = "needs") = False := eq_false (by decide +kernel)
theorem fn_persons_pairs : (("persons" : Str) == "pairs") = false := by decide +kernel
theorem fe_persons_pairs : (("persons" : Str) = "pairs") = False := eq_false (by decide +kernel)
theorem fn_persons_rules : (("persons" : Str) == "rules") = false := by decide +kernel
theorem fe_persons_rules : (("persons" : Str) = "rules") = False := eq_false (by decide +kernel)
theorem fn_persons_wishes : (("persons" : Str) == "wishes") = false := by decide +kernel
theorem fe_persons_wishes : (("persons" : Str) = "wishes") = False := eq_false (by decide +kernel)
theorem fn_prices_flows : (("prices" : Str) == "flows") = false := by decide +kernel
theorem fe_prices_flows : (("prices" : Str) = "flows") = False := eq_false (by decide +kernel)
theorem fn_prices_net : (("prices" : Str) == "net") = false := by decide +kernel
theorem fe_prices_net : (("prices" : Str) = "net") = False := eq_false (by decide +kernel)
theorem fn_prices_spare : (("prices" : Str) == "spare") = false := by decide +kernel
theorem fe_prices_spare : (("prices" : Str) = "spare") = False := eq_false (by decide +kernel)
theorem fn_prices_touching : (("prices" : Str) == "touching") = false := by decide +kernel
theorem fe_prices_touching : (("prices" : Str) = "touching") = False := eq_false (by decide +kernel)
theorem fn_right_left : (("right" : Str) == "left") = false := by decide +kernel
theorem fe_right_left : (("right" : Str) = "left") = False := eq_false (by decide +kernel)
theorem fn_rota_paper : (("rota" : Str) == "paper") = false := by decide +kernel
theorem fe_rota_paper : (("rota" : Str) = "paper") = False := eq_false (by decide +kernel)
theorem fn_rota_total : (("rota" : Str) == "total") = false := by decide +kernel
theorem fe_rota_total : (("rota" : Str) = "total") = False := eq_false (by decide +kernel)
theorem fn_rules_begin : (("rules" : Str) == "begin") = false := by decide +kernel
theorem fe_rules_begin : (("rules" : Str) = "begin") = False := eq_false (by decide +kernel)
theorem fn_rules_days : (("rules" : Str) == "days") = false := by decide +kernel
theorem fe_rules_days : (("rules" : Str) = "days") = False := eq_false (by decide +kernel)
theorem fn_rules_kept : (("rules" : Str) == "kept") = false := by decide +kernel
theorem fe_rules_kept : (("rules" : Str) = "kept") = False := eq_false (by decide +kernel)
theorem fn_rules_kinds : (("rules" : Str) == "kinds") = false := by decide +kernel
theorem fe_rules_kinds : (("rules" : Str) = "kinds") = False := eq_false (by decide +kernel)
theorem fn_rules_leave : (("rules" : Str) == "leave") = false := by decide +kernel
theorem fe_rules_leave : (("rules" : Str) = "leave") = False := eq_false (by decide +kernel)
theorem fn_rules_most : (("rules" : Str) == "most") = false := by decide +kernel
theorem fe_rules_most : (("rules" : Str) = "most") = False := eq_false (by decide +kernel)
theorem fn_rules_needs : (("rules" : Str) == "needs") = false := by decide +kernel
theorem fe_rules_needs : (("rules" : Str) = "needs") = False := eq_false (by decide +kernel)
theorem fn_rules_pairs : (("rules" : Str) == "pairs") = false := by decide +kernel
theorem fe_rules_pairs : (("rules" : Str) = "pairs") = False := eq_false (by decide +kernel)
theorem fn_rules_persons : (("rules" : Str) == "persons") = false := by decide +kernel
theorem fe_rules_persons : (("rules" : Str) = "persons") = False := eq_false (by decide +kernel)
theorem fn_rules_wishes : (("rules" : Str) == "wishes") = false := by decide +kernel
theorem fe_rules_wishes : (("rules" : Str) = "wishes") = False := eq_false (by decide +kernel)
theorem fn_skills_carried : (("skills" : Str) == "carried") = false := by decide +kernel
theorem fe_skills_carried : (("skills" : Str) = "carried") = False := eq_false (by decide +kernel)
theorem fn_skills_most : (("skills" : Str) == "most") = false := by decide +kernel
theorem fe_skills_most : (("skills" : Str) = "most") = False := eq_false (by decide +kernel)
theorem fn_skills_name : (("skills" : Str) == "name") = false := by decide +kernel
theorem fe_skills_name : (("skills" : Str) = "name") = False := eq_false (by decide +kernel)
theorem fn_skills_past : (("skills" : Str) == "past") = false := by decide +kernel
theorem fe_skills_past : (("skills" : Str) = "past") = False := eq_false (by decide +kernel)
theorem fn_spare_flows : (("spare" : Str) == "flows") = false := by decide +kernel
theorem fe_spare_flows : (("spare" : Str) = "flows") = False := eq_false (by decide +kernel)
theorem fn_spare_net : (("spare" : Str) == "net") = false := by decide +kernel
theorem fe_spare_net : (("spare" : Str) = "net") = False := eq_false (by decide +kernel)
theorem fn_spare_prices : (("spare" : Str) == "prices") = false := by decide +kernel
theorem fe_spare_prices : (("spare" : Str) = "prices") = False := eq_false (by decide +kernel)
theorem fn_spare_touching : (("spare" : Str) == "touching") = false := by decide +kernel
theorem fe_spare_touching : (("spare" : Str) = "touching") = False := eq_false (by decide +kernel)
theorem fn_total_paper : (("total" : Str) == "paper") = false := by decide +kernel
theorem fe_total_paper : (("total" : Str) = "paper") = False := eq_false (by decide +kernel)
theorem fn_total_rota : (("total" : Str) == "rota") = false := by decide +kernel
theorem fe_total_rota : (("total" : Str) = "rota") = False := eq_false (by decide +kernel)
theorem fn_touching_flows : (("touching" : Str) == "flows") = false := by decide +kernel
theorem fe_touching_flows : (("touching" : Str) = "flows") = False := eq_false (by decide +kernel)
theorem fn_touching_net : (("touching" : Str) == "net") = false := by decide +kernel
theorem fe_touching_net : (("touching" : Str) = "net") = False := eq_false (by decide +kernel)
theorem fn_touching_prices : (("touching" : Str) == "prices") = false := by decide +kernel
theorem fe_touching_prices : (("touching" : Str) = "prices") = False := eq_false (by decide +kernel)
theorem fn_touching_spare : (("touching" : Str) == "spare") = false := by decide +kernel
theorem fe_touching_spare : (("touching" : Str) = "spare") = False := eq_false (by decide +kernel)
theorem fn_weight_carried : (("weight" : Str) == "carried") = false := by decide +kernel
theorem fe_weight_carried : (("weight" : Str) = "carried") = False := eq_false (by decide +kernel)
theorem fn_weight_wishes : (("weight" : Str) == "wishes") = false := by decide +kernel
theorem fe_weight_wishes : (("weight" : Str) = "wishes") = False := eq_false (by decide +kernel)
theorem fn_whole_arcs : (("whole" : Str) == "arcs") = false := by decide +kernel
theorem fe_whole_arcs : (("whole" : Str) = "arcs") = False := eq_false (by decide +kernel)
theorem fn_whole_costs : (("whole" : Str) == "costs") = false := by decide +kernel
theorem fe_whole_costs : (("whole" : Str) = "costs") = False := eq_false (by decide +kernel)
theorem fn_whole_house : (("whole" : Str) == "house") = false := by decide +kernel
theorem fe_whole_house : (("whole" : Str) = "house") = False := eq_false (by decide +kernel)
theorem fn_whole_many : (("whole" : Str) == "many") = false := by decide +kernel
theorem fe_whole_many : (("whole" : Str) = "many") = False := eq_false (by decide +kernel)
theorem fn_whole_marks : (("whole" : Str) == "marks") = false := by decide +kernel
theorem fe_whole_marks : (("whole" : Str) = "marks") = False := eq_false (by decide +kernel)
theorem fn_whole_needs : (("whole" : Str) == "needs") = false := by decide +kernel
theorem fe_whole_needs : (("whole" : Str) = "needs") = False := eq_false (by decide +kernel)
theorem fn_wishes_carried : (("wishes" : Str) == "carried") = false := by decide +kernel
theorem fe_wishes_carried : (("wishes" : Str) = "carried") = False := eq_false (by decide +kernel)
theorem fn_wishes_days : (("wishes" : Str) == "days") = false := by decide +kernel
theorem fe_wishes_days : (("wishes" : Str) = "days") = False := eq_false (by decide +kernel)
theorem fn_wishes_kinds : (("wishes" : Str) == "kinds") = false := by decide +kernel
theorem fe_wishes_kinds : (("wishes" : Str) = "kinds") = False := eq_false (by decide +kernel)
theorem fn_wishes_leave : (("wishes" : Str) == "leave") = false := by decide +kernel
theorem fe_wishes_leave : (("wishes" : Str) = "leave") = False := eq_false (by decide +kernel)
theorem fn_wishes_needs : (("wishes" : Str) == "needs") = false := by decide +kernel
theorem fe_wishes_needs : (("wishes" : Str) = "needs") = False := eq_false (by decide +kernel)
theorem fn_wishes_pairs : (("wishes" : Str) == "pairs") = false := by decide +kernel
theorem fe_wishes_pairs : (("wishes" : Str) = "pairs") = False := eq_false (by decide +kernel)
theorem fn_wishes_persons : (("wishes" : Str) == "persons") = false := by decide +kernel
theorem fe_wishes_persons : (("wishes" : Str) = "persons") = False := eq_false (by decide +kernel)
theorem fn_wishes_rules : (("wishes" : Str) == "rules") = false := by decide +kernel
theorem fe_wishes_rules : (("wishes" : Str) = "rules") = False := eq_false (by decide +kernel)
theorem fn_wishes_weight : (("wishes" : Str) == "weight") = false := by decide +kernel
theorem fe_wishes_weight : (("wishes" : Str) = "weight") = False := eq_false (by decide +kernel)
theorem fm_bad_arcs : (("bad" : Str) == "arcs") = false := by decide +kernel
theorem fm_bad_begin : (("bad" : Str) == "begin") = false := by decide +kernel
theorem fm_bad_carried : (("bad" : Str) == "carried") = false := by decide +kernel
theorem fm_bad_costs : (("bad" : Str) == "costs") = false := by decide +kernel
theorem fm_bad_days : (("bad" : Str) == "days") = false := by decide +kernel
theorem fm_bad_flows : (("bad" : Str) == "flows") = false := by decide +kernel
theorem fm_bad_house : (("bad" : Str) == "house") = false := by decide +kernel
theorem fm_bad_inner : (("bad" : Str) == "inner") = false := by decide +kernel
theorem fm_bad_kept : (("bad" : Str) == "kept") = false := by decide +kernel
theorem fm_bad_kinds : (("bad" : Str) == "kinds") = false := by decide +kernel
theorem fm_bad_leave : (("bad" : Str) == "leave") = false := by decide +kernel
theorem fm_bad_left : (("bad" : Str) == "left") = false := by decide +kernel
theorem fm_bad_level : (("bad" : Str) == "level") = false := by decide +kernel
theorem fm_bad_many : (("bad" : Str) == "many") = false := by decide +kernel
theorem fm_bad_marks : (("bad" : Str) == "marks") = false := by decide +kernel
theorem fm_bad_most : (("bad" : Str) == "most") = false := by decide +kernel
theorem fm_bad_name : (("bad" : Str) == "name") = false := by decide +kernel
theorem fm_bad_needs : (("bad" : Str) == "needs") = false := by decide +kernel
theorem fm_bad_net : (("bad" : Str) == "net") = false := by decide +kernel
theorem fm_bad_pages : (("bad" : Str) == "pages") = false := by decide +kernel
theorem fm_bad_pairs : (("bad" : Str) == "pairs") = false := by decide +kernel
theorem fm_bad_paper : (("bad" : Str) == "paper") = false := by decide +kernel
theorem fm_bad_past : (("bad" : Str) == "past") = false := by decide +kernel
theorem fm_bad_persons : (("bad" : Str) == "persons") = false := by decide +kernel
theorem fm_bad_places : (("bad" : Str) == "places") = false := by decide +kernel
theorem fm_bad_prices : (("bad" : Str) == "prices") = false := by decide +kernel
theorem fm_bad_right : (("bad" : Str) == "right") = false := by decide +kernel
theorem fm_bad_rota : (("bad" : Str) == "rota") = false := by decide +kernel
theorem fm_bad_rules : (("bad" : Str) == "rules") = false := by decide +kernel
theorem fm_bad_skills : (("bad" : Str) == "skills") = false := by decide +kernel
theorem fm_bad_spare : (("bad" : Str) == "spare") = false := by decide +kernel
theorem fm_bad_total : (("bad" : Str) == "total") = false := by decide +kernel
theorem fm_bad_touching : (("bad" : Str) == "touching") = false := by decide +kernel
theorem fm_bad_weight : (("bad" : Str) == "weight") = false := by decide +kernel
theorem fm_bad_whole : (("bad" : Str) == "whole") = false := by decide +kernel
theorem fm_bad_wishes : (("bad" : Str) == "wishes") = false := by decide +kernel
theorem fm_bad_word : (("bad" : Str) == "word") = false := by decide +kernel
theorem fm_reach_arcs : (("reach" : Str) == "arcs") = false := by decide +kernel
theorem fm_reach_begin : (("reach" : Str) == "begin") = false := by decide +kernel
theorem fm_reach_carried : (("reach" : Str) == "carried") = false := by decide +kernel
theorem fm_reach_costs : (("reach" : Str) == "costs") = false := by decide +kernel
theorem fm_reach_days : (("reach" : Str) == "days") = false := by decide +kernel
theorem fm_reach_flows : (("reach" : Str) == "flows") = false := by decide +kernel
theorem fm_reach_house : (("reach" : Str) == "house") = false := by decide +kernel
theorem fm_reach_inner : (("reach" : Str) == "inner") = false := by decide +kernel
theorem fm_reach_kept : (("reach" : Str) == "kept") = false := by decide +kernel
theorem fm_reach_kinds : (("reach" : Str) == "kinds") = false := by decide +kernel
theorem fm_reach_leave : (("reach" : Str) == "leave") = false := by decide +kernel
theorem fm_reach_left : (("reach" : Str) == "left") = false := by decide +kernel
theorem fm_reach_level : (("reach" : Str) == "level") = false := by decide +kernel
theorem fm_reach_many : (("reach" : Str) == "many") = false := by decide +kernel
theorem fm_reach_marks : (("reach" : Str) == "marks") = false := by decide +kernel
theorem fm_reach_most : (("reach" : Str) == "most") = false := by decide +kernel
theorem fm_reach_name : (("reach" : Str) == "name") = false := by decide +kernel
theorem fm_reach_needs : (("reach" : Str) == "needs") = false := by decide +kernel
theorem fm_reach_net : (("reach" : Str) == "net") = false := by decide +kernel
theorem fm_reach_pages : (("reach" : Str) == "pages") = false := by decide +kernel
theorem fm_reach_pairs : (("reach" : Str) == "pairs") = false := by decide +kernel
theorem fm_reach_paper : (("reach" : Str) == "paper") = false := by decide +kernel
theorem fm_reach_past : (("reach" : Str) == "past") = false := by decide +kernel
theorem fm_reach_persons : (("reach" : Str) == "persons") = false := by decide +kernel
theorem fm_reach_places : (("reach" : Str) == "places") = false := by decide +kernel
theorem fm_reach_prices : (("reach" : Str) == "prices") = false := by decide +kernel
theorem fm_reach_right : (("reach" : Str) == "right") = false := by decide +kernel
theorem fm_reach_rota : (("reach" : Str) == "rota") = false := by decide +kernel
theorem fm_reach_rules : (("reach" : Str) == "rules") = false := by decide +kernel
theorem fm_reach_skills : (("reach" : Str) == "skills") = false := by decide +kernel
theorem fm_reach_spare : (("reach" : Str) == "spare") = false := by decide +kernel
theorem fm_reach_total : (("reach" : Str) == "total") = false := by decide +kernel
theorem fm_reach_touching : (("reach" : Str) == "touching") = false := by decide +kernel
theorem fm_reach_weight : (("reach" : Str) == "weight") = false := by decide +kernel
theorem fm_reach_whole : (("reach" : Str) == "whole") = false := by decide +kernel
theorem fm_reach_wishes : (("reach" : Str) == "wishes") = false := by decide +kernel
theorem fm_reach_word : (("reach" : Str) == "word") = false := by decide +kernel
theorem fm_text_arcs : (("text" : Str) == "arcs") = false := by decide +kernel
theorem fm_text_begin : (("text" : Str) == "begin") = false := by decide +kernel
theorem fm_text_carried : (("text" : Str) == "carried") = false := by decide +kernel
theorem fm_text_costs : (("text" : Str) == "costs") = false := by decide +kernel
theorem fm_text_days : (("text" : Str) == "days") = false := by decide +kernel
theorem fm_text_flows : (("text" : Str) == "flows") = false := by decide +kernel
theorem fm_text_house : (("text" : Str) == "house") = false := by decide +kernel
theorem fm_text_inner : (("text" : Str) == "inner") = false := by decide +kernel
theorem fm_text_kept : (("text" : Str) == "kept") = false := by decide +kernel
theorem fm_text_kinds : (("text" : Str) == "kinds") = false := by decide +kernel
theorem fm_text_leave : (("text" : Str) == "leave") = false := by decide +kernel
theorem fm_text_left : (("text" : Str) == "left") = false := by decide +kernel
theorem fm_text_level : (("text" : Str) == "level") = false := by decide +kernel
theorem fm_text_many : (("text" : Str) == "many") = false := by decide +kernel
theorem fm_text_marks : (("text" : Str) == "marks") = false := by decide +kernel
theorem fm_text_most : (("text" : Str) == "most") = false := by decide +kernel
theorem fm_text_name : (("text" : Str) == "name") = false := by decide +kernel
theorem fm_text_needs : (("text" : Str) == "needs") = false := by decide +kernel
theorem fm_text_net : (("text" : Str) == "net") = false := by decide +kernel
theorem fm_text_pages : (("text" : Str) == "pages") = false := by decide +kernel
theorem fm_text_pairs : (("text" : Str) == "pairs") = false := by decide +kernel
theorem fm_text_paper : (("text" : Str) == "paper") = false := by decide +kernel
theorem fm_text_past : (("text" : Str) == "past") = false := by decide +kernel
theorem fm_text_persons : (("text" : Str) == "persons") = false := by decide +kernel
theorem fm_text_places : (("text" : Str) == "places") = false := by decide +kernel
theorem fm_text_prices : (("text" : Str) == "prices") = false := by decide +kernel
theorem fm_text_right : (("text" : Str) == "right") = false := by decide +kernel
theorem fm_text_rota : (("text" : Str) == "rota") = false := by decide +kernel
theorem fm_text_rules : (("text" : Str) == "rules") = false := by decide +kernel
theorem fm_text_skills : (("text" : Str) == "skills") = false := by decide +kernel
theorem fm_text_spare : (("text" : Str) == "spare") = false := by decide +kernel
theorem fm_text_total : (("text" : Str) == "total") = false := by decide +kernel
theorem fm_text_touching : (("text" : Str) == "touching") = false := by decide +kernel
theorem fm_text_weight : (("text" : Str) == "weight") = false := by decide +kernel
theorem fm_text_whole : (("text" : Str) == "whole") = false := by decide +kernel
theorem fm_text_wishes : (("text" : Str) == "wishes") = false := by decide +kernel
theorem fm_text_word : (("text" : Str) == "word") = false := by decide +kernel
theorem fm_height_arcs : (("height" : Str) == "arcs") = false := by decide +kernel
theorem fm_height_begin : (("height" : Str) == "begin") = false := by decide +kernel
theorem fm_height_carried : (("height" : Str) == "carried") = false := by decide +kernel
theorem fm_height_costs : (("height" : Str) == "costs") = false := by decide +kernel
theorem fm_height_days : (("height" : Str) == "days") = false := by decide +kernel
theorem fm_height_flows : (("height" : Str) == "flows") = false := by decide +kernel
theorem fm_height_house : (("height" : Str) == "house") = false := by decide +kernel
theorem fm_height_inner : (("height" : Str) == "inner") = false := by decide +kernel
theorem fm_height_kept : (("height" : Str) == "kept") = false := by decide +kernel
theorem fm_height_kinds : (("height" : Str) == "kinds") = false := by decide +kernel
theorem fm_height_leave : (("height" : Str) == "leave") = false := by decide +kernel
theorem fm_height_left : (("height" : Str) == "left") = false := by decide +kernel
theorem fm_height_level : (("height" : Str) == "level") = false := by decide +kernel
theorem fm_height_many : (("height" : Str) == "many") = false := by decide +kernel
theorem fm_height_marks : (("height" : Str) == "marks") = false := by decide +kernel
theorem fm_height_most : (("height" : Str) == "most") = false := by decide +kernel
theorem fm_height_name : (("height" : Str) == "name") = false := by decide +kernel
theorem fm_height_needs : (("height" : Str) == "needs") = false := by decide +kernel
theorem fm_height_net : (("height" : Str) == "net") = false := by decide +kernel
theorem fm_height_pages : (("height" : Str) == "pages") = false := by decide +kernel
theorem fm_height_pairs : (("height" : Str) == "pairs") = false := by decide +kernel
theorem fm_height_paper : (("height" : Str) == "paper") = false := by decide +kernel
theorem fm_height_past : (("height" : Str) == "past") = false := by decide +kernel
theorem fm_height_persons : (("height" : Str) == "persons") = false := by decide +kernel
theorem fm_height_places : (("height" : Str) == "places") = false := by decide +kernel
theorem fm_height_prices : (("height" : Str) == "prices") = false := by decide +kernel
theorem fm_height_right : (("height" : Str) == "right") = false := by decide +kernel
theorem fm_height_rota : (("height" : Str) == "rota") = false := by decide +kernel
theorem fm_height_rules : (("height" : Str) == "rules") = false := by decide +kernel
theorem fm_height_skills : (("height" : Str) == "skills") = false := by decide +kernel
theorem fm_height_spare : (("height" : Str) == "spare") = false := by decide +kernel
theorem fm_height_total : (("height" : Str) == "total") = false := by decide +kernel
theorem fm_height_touching : (("height" : Str) == "touching") = false := by decide +kernel
theorem fm_height_weight : (("height" : Str) == "weight") = false := by decide +kernel
theorem fm_height_whole : (("height" : Str) == "whole") = false := by decide +kernel
theorem fm_height_wishes : (("height" : Str) == "wishes") = false := by decide +kernel
theorem fm_height_word : (("height" : Str) == "word") = false := by decide +kernel
theorem fm_joint_arcs : (("joint" : Str) == "arcs") = false := by decide +kernel
theorem fm_joint_begin : (("joint" : Str) == "begin") = false := by decide +kernel
theorem fm_joint_carried : (("joint" : Str) == "carried") = false := by decide +kernel
theorem fm_joint_costs : (("joint" : Str) == "costs") = false := by decide +kernel
theorem fm_joint_days : (("joint" : Str) == "days") = false := by decide +kernel
theorem fm_joint_flows : (("joint" : Str) == "flows") = false := by decide +kernel
theorem fm_joint_house : (("joint" : Str) == "house") = false := by decide +kernel
theorem fm_joint_inner : (("joint" : Str) == "inner") = false := by decide +kernel
theorem fm_joint_kept : (("joint" : Str) == "kept") = false := by decide +kernel
theorem fm_joint_kinds : (("joint" : Str) == "kinds") = false := by decide +kernel
theorem fm_joint_leave : (("joint" : Str) == "leave") = false := by decide +kernel
theorem fm_joint_left : (("joint" : Str) == "left") = false := by decide +kernel
theorem fm_joint_level : (("joint" : Str) == "level") = false := by decide +kernel
theorem fm_joint_many : (("joint" : Str) == "many") = false := by decide +kernel
theorem fm_joint_marks : (("joint" : Str) == "marks") = false := by decide +kernel
theorem fm_joint_most : (("joint" : Str) == "most") = false := by decide +kernel
theorem fm_joint_name : (("joint" : Str) == "name") = false := by decide +kernel
theorem fm_joint_needs : (("joint" : Str) == "needs") = false := by decide +kernel
theorem fm_joint_net : (("joint" : Str) == "net") = false := by decide +kernel
theorem fm_joint_pages : (("joint" : Str) == "pages") = false := by decide +kernel
theorem fm_joint_pairs : (("joint" : Str) == "pairs") = false := by decide +kernel
theorem fm_joint_paper : (("joint" : Str) == "paper") = false := by decide +kernel
theorem fm_joint_past : (("joint" : Str) == "past") = false := by decide +kernel
theorem fm_joint_persons : (("joint" : Str) == "persons") = false := by decide +kernel
theorem fm_joint_places : (("joint" : Str) == "places") = false := by decide +kernel
theorem fm_joint_prices : (("joint" : Str) == "prices") = false := by decide +kernel
theorem fm_joint_right : (("joint" : Str) == "right") = false := by decide +kernel
theorem fm_joint_rota : (("joint" : Str) == "rota") = false := by decide +kernel
theorem fm_joint_rules : (("joint" : Str) == "rules") = false := by decide +kernel
theorem fm_joint_skills : (("joint" : Str) == "skills") = false := by decide +kernel
theorem fm_joint_spare : (("joint" : Str) == "spare") = false := by decide +kernel
theorem fm_joint_total : (("joint" : Str) == "total") = false := by decide +kernel
theorem fm_joint_touching : (("joint" : Str) == "touching") = false := by decide +kernel
theorem fm_joint_weight : (("joint" : Str) == "weight") = false := by decide +kernel
theorem fm_joint_whole : (("joint" : Str) == "whole") = false := by decide +kernel
theorem fm_joint_wishes : (("joint" : Str) == "wishes") = false := by decide +kernel
theorem fm_joint_word : (("joint" : Str) == "word") = false := by decide +kernel
theorem fm_counted_arcs : (("counted" : Str) == "arcs") = false := by decide +kernel
theorem fm_counted_begin : (("counted" : Str) == "begin") = false := by decide +kernel
theorem fm_counted_carried : (("counted" : Str) == "carried") = false := by decide +kernel
theorem fm_counted_costs : (("counted" : Str) == "costs") = false := by decide +kernel
theorem fm_counted_days : (("counted" : Str) == "days") = false := by decide +kernel
theorem fm_counted_flows : (("counted" : Str) == "flows") = false := by decide +kernel
theorem fm_counted_house : (("counted" : Str) == "house") = false := by decide +kernel
theorem fm_counted_inner : (("counted" : Str) == "inner") = false := by decide +kernel
theorem fm_counted_kept : (("counted" : Str) == "kept") = false := by decide +kernel
theorem fm_counted_kinds : (("counted" : Str) == "kinds") = false := by decide +kernel
theorem fm_counted_leave : (("counted" : Str) == "leave") = false := by decide +kernel
theorem fm_counted_left : (("counted" : Str) == "left") = false := by decide +kernel
theorem fm_counted_level : (("counted" : Str) == "level") = false := by decide +kernel
theorem fm_counted_many : (("counted" : Str) == "many") = false := by decide +kernel
theorem fm_counted_marks : (("counted" : Str) == "marks") = false := by decide +kernel
theorem fm_counted_most : (("counted" : Str) == "most") = false := by decide +kernel
theorem fm_counted_name : (("counted" : Str) == "name") = false := by decide +kernel
theorem fm_counted_needs : (("counted" : Str) == "needs") = false := by decide +kernel
theorem fm_counted_net : (("counted" : Str) == "net") = false := by decide +kernel
theorem fm_counted_pages : (("counted" : Str) == "pages") = false := by decide +kernel
theorem fm_counted_pairs : (("counted" : Str) == "pairs") = false := by decide +kernel
theorem fm_counted_paper : (("counted" : Str) == "paper") = false := by decide +kernel
theorem fm_counted_past : (("counted" : Str) == "past") = false := by decide +kernel
theorem fm_counted_persons : (("counted" : Str) == "persons") = false := by decide +kernel
theorem fm_counted_places : (("counted" : Str) == "places") = false := by decide +kernel
theorem fm_counted_prices : (("counted" : Str) == "prices") = false := by decide +kernel
theorem fm_counted_right : (("counted" : Str) == "right") = false := by decide +kernel
theorem fm_counted_rota : (("counted" : Str) == "rota") = false := by decide +kernel
theorem fm_counted_rules : (("counted" : Str) == "rules") = false := by decide +kernel
theorem fm_counted_skills : (("counted" : Str) == "skills") = false := by decide +kernel
theorem fm_counted_spare : (("counted" : Str) == "spare") = false := by decide +kernel
theorem fm_counted_total : (("counted" : Str) == "total") = false := by decide +kernel
theorem fm_counted_touching : (("counted" : Str) == "touching") = false := by decide +kernel
theorem fm_counted_weight : (("counted" : Str) == "weight") = false := by decide +kernel
theorem fm_counted_whole : (("counted" : Str) == "whole") = false := by decide +kernel
theorem fm_counted_wishes : (("counted" : Str) == "wishes") = false := by decide +kernel
theorem fm_counted_word : (("counted" : Str) == "word") = false := by decide +kernel
theorem fm_shown_arcs : (("shown" : Str) == "arcs") = false := by decide +kernel
theorem fm_shown_begin : (("shown" : Str) == "begin") = false := by decide +kernel
theorem fm_shown_carried : (("shown" : Str) == "carried") = false := by decide +kernel
theorem fm_shown_costs : (("shown" : Str) == "costs") = false := by decide +kernel
theorem fm_shown_days : (("shown" : Str) == "days") = false := by decide +kernel
theorem fm_shown_flows : (("shown" : Str) == "flows") = false := by decide +kernel
theorem fm_shown_house : (("shown" : Str) == "house") = false := by decide +kernel
theorem fm_shown_inner : (("shown" : Str) == "inner") = false := by decide +kernel
theorem fm_shown_kept : (("shown" : Str) == "kept") = false := by decide +kernel
theorem fm_shown_kinds : (("shown" : Str) == "kinds") = false := by decide +kernel
theorem fm_shown_leave : (("shown" : Str) == "leave") = false := by decide +kernel
theorem fm_shown_left : (("shown" : Str) == "left") = false := by decide +kernel
theorem fm_shown_level : (("shown" : Str) == "level") = false := by decide +kernel
theorem fm_shown_many : (("shown" : Str) == "many") = false := by decide +kernel
theorem fm_shown_marks : (("shown" : Str) == "marks") = false := by decide +kernel
theorem fm_shown_most : (("shown" : Str) == "most") = false := by decide +kernel
theorem fm_shown_name : (("shown" : Str) == "name") = false := by decide +kernel
theorem fm_shown_needs : (("shown" : Str) == "needs") = false := by decide +kernel
theorem fm_shown_net : (("shown" : Str) == "net") = false := by decide +kernel
theorem fm_shown_pages : (("shown" : Str) == "pages") = false := by decide +kernel
theorem fm_shown_pairs : (("shown" : Str) == "pairs") = false := by decide +kernel
theorem fm_shown_paper : (("shown" : Str) == "paper") = false := by decide +kernel
theorem fm_shown_past : (("shown" : Str) == "past") = false := by decide +kernel
theorem fm_shown_persons : (("shown" : Str) == "persons") = false := by decide +kernel
theorem fm_shown_places : (("shown" : Str) == "places") = false := by decide +kernel
theorem fm_shown_prices : (("shown" : Str) == "prices") = false := by decide +kernel
theorem fm_shown_right : (("shown" : Str) == "right") = false := by decide +kernel
theorem fm_shown_rota : (("shown" : Str) == "rota") = false := by decide +kernel
theorem fm_shown_rules : (("shown" : Str) == "rules") = false := by decide +kernel
theorem fm_shown_skills : (("shown" : Str) == "skills") = false := by decide +kernel
theorem fm_shown_spare : (("shown" : Str) == "spare") = false := by decide +kernel
theorem fm_shown_total : (("shown" : Str) == "total") = false := by decide +kernel
theorem fm_shown_touching : (("shown" : Str) == "touching") = false := by decide +kernel
theorem fm_shown_weight : (("shown" : Str) == "weight") = false := by decide +kernel
theorem fm_shown_whole : (("shown" : Str) == "whole") = false := by decide +kernel
theorem fm_shown_wishes : (("shown" : Str) == "wishes") = false := by decide +kernel
theorem fm_shown_word : (("shown" : Str) == "word") = false := by decide +kernel
theorem fm_need_arcs : (("need" : Str) == "arcs") = false := by decide +kernel
theorem fm_need_begin : (("need" : Str) == "begin") = false := by decide +kernel
theorem fm_need_carried : (("need" : Str) == "carried") = false := by decide +kernel
theorem fm_need_costs : (("need" : Str) == "costs") = false := by decide +kernel
theorem fm_need_days : (("need" : Str) == "days") = false := by decide +kernel
theorem fm_need_flows : (("need" : Str) == "flows") = false := by decide +kernel
theorem fm_need_house : (("need" : Str) == "house") = false := by decide +kernel
theorem fm_need_inner : (("need" : Str) == "inner") = false := by decide +kernel
theorem fm_need_kept : (("need" : Str) == "kept") = false := by decide +kernel
theorem fm_need_kinds : (("need" : Str) == "kinds") = false := by decide +kernel
theorem fm_need_leave : (("need" : Str) == "leave") = false := by decide +kernel
theorem fm_need_left : (("need" : Str) == "left") = false := by decide +kernel
theorem fm_need_level : (("need" : Str) == "level") = false := by decide +kernel
theorem fm_need_many : (("need" : Str) == "many") = false := by decide +kernel
theorem fm_need_marks : (("need" : Str) == "marks") = false := by decide +kernel
theorem fm_need_most : (("need" : Str) == "most") = false := by decide +kernel
theorem fm_need_name : (("need" : Str) == "name") = false := by decide +kernel
theorem fm_need_needs : (("need" : Str) == "needs") = false := by decide +kernel
theorem fm_need_net : (("need" : Str) == "net") = false := by decide +kernel
theorem fm_need_pages : (("need" : Str) == "pages") = false := by decide +kernel
theorem fm_need_pairs : (("need" : Str) == "pairs") = false := by decide +kernel
theorem fm_need_paper : (("need" : Str) == "paper") = false := by decide +kernel
theorem fm_need_past : (("need" : Str) == "past") = false := by decide +kernel
theorem fm_need_persons : (("need" : Str) == "persons") = false := by decide +kernel
theorem fm_need_places : (("need" : Str) == "places") = false := by decide +kernel
theorem fm_need_prices : (("need" : Str) == "prices") = false := by decide +kernel
theorem fm_need_right : (("need" : Str) == "right") = false := by decide +kernel
theorem fm_need_rota : (("need" : Str) == "rota") = false := by decide +kernel
theorem fm_need_rules : (("need" : Str) == "rules") = false := by decide +kernel
theorem fm_need_skills : (("need" : Str) == "skills") = false := by decide +kernel
theorem fm_need_spare : (("need" : Str) == "spare") = false := by decide +kernel
theorem fm_need_total : (("need" : Str) == "total") = false := by decide +kernel
theorem fm_need_touching : (("need" : Str) == "touching") = false := by decide +kernel
theorem fm_need_weight : (("need" : Str) == "weight") = false := by decide +kernel
theorem fm_need_whole : (("need" : Str) == "whole") = false := by decide +kernel
theorem fm_need_wishes : (("need" : Str) == "wishes") = false := by decide +kernel
theorem fm_need_word : (("need" : Str) == "word") = false := by decide +kernel
theorem fm_may_arcs : (("may" : Str) == "arcs") = false := by decide +kernel
theorem fm_may_begin : (("may" : Str) == "begin") = false := by decide +kernel
theorem fm_may_carried : (("may" : Str) == "carried") = false := by decide +kernel
theorem fm_may_costs : (("may" : Str) == "costs") = false := by decide +kernel
theorem fm_may_days : (("may" : Str) == "days") = false := by decide +kernel
theorem fm_may_flows : (("may" : Str) == "flows") = false := by decide +kernel
theorem fm_may_house : (("may" : Str) == "house") = false := by decide +kernel
theorem fm_may_inner : (("may" : Str) == "inner") = false := by decide +kernel
theorem fm_may_kept : (("may" : Str) == "kept") = false := by decide +kernel
theorem fm_may_kinds : (("may" : Str) == "kinds") = false := by decide +kernel
theorem fm_may_leave : (("may" : Str) == "leave") = false := by decide +kernel
theorem fm_may_left : (("may" : Str) == "left") = false := by decide +kernel
theorem fm_may_level : (("may" : Str) == "level") = false := by decide +kernel
theorem fm_may_many : (("may" : Str) == "many") = false := by decide +kernel
theorem fm_may_marks : (("may" : Str) == "marks") = false := by decide +kernel
theorem fm_may_most : (("may" : Str) == "most") = false := by decide +kernel
theorem fm_may_name : (("may" : Str) == "name") = false := by decide +kernel
theorem fm_may_needs : (("may" : Str) == "needs") = false := by decide +kernel
theorem fm_may_net : (("may" : Str) == "net") = false := by decide +kernel
theorem fm_may_pages : (("may" : Str) == "pages") = false := by decide +kernel
theorem fm_may_pairs : (("may" : Str) == "pairs") = false := by decide +kernel
theorem fm_may_paper : (("may" : Str) == "paper") = false := by decide +kernel
theorem fm_may_past : (("may" : Str) == "past") = false := by decide +kernel
theorem fm_may_persons : (("may" : Str) == "persons") = false := by decide +kernel
theorem fm_may_places : (("may" : Str) == "places") = false := by decide +kernel
theorem fm_may_prices : (("may" : Str) == "prices") = false := by decide +kernel
theorem fm_may_right : (("may" : Str) == "right") = false := by decide +kernel
theorem fm_may_rota : (("may" : Str) == "rota") = false := by decide +kernel
theorem fm_may_rules : (("may" : Str) == "rules") = false := by decide +kernel
theorem fm_may_skills : (("may" : Str) == "skills") = false := by decide +kernel
theorem fm_may_spare : (("may" : Str) == "spare") = false := by decide +kernel
theorem fm_may_total : (("may" : Str) == "total") = false := by decide +kernel
theorem fm_may_touching : (("may" : Str) == "touching") = false := by decide +kernel
theorem fm_may_weight : (("may" : Str) == "weight") = false := by decide +kernel
theorem fm_may_whole : (("may" : Str) == "whole") = false := by decide +kernel
theorem fm_may_wishes : (("may" : Str) == "wishes") = false := by decide +kernel
theorem fm_may_word : (("may" : Str) == "word") = false := by decide +kernel
theorem fm_place_of_arcs : (("place_of" : Str) == "arcs") = false := by decide +kernel
theorem fm_place_of_begin : (("place_of" : Str) == "begin") = false := by decide +kernel
theorem fm_place_of_carried : (("place_of" : Str) == "carried") = false := by decide +kernel
theorem fm_place_of_costs : (("place_of" : Str) == "costs") = false := by decide +kernel
theorem fm_place_of_days : (("place_of" : Str) == "days") = false := by decide +kernel
theorem fm_place_of_flows : (("place_of" : Str) == "flows") = false := by decide +kernel
theorem fm_place_of_house : (("place_of" : Str) == "house") = false := by decide +kernel
theorem fm_place_of_inner : (("place_of" : Str) == "inner") = false := by decide +kernel
theorem fm_place_of_kept : (("place_of" : Str) == "kept") = false := by decide +kernel
theorem fm_place_of_kinds : (("place_of" : Str) == "kinds") = false := by decide +kernel
theorem fm_place_of_leave : (("place_of" : Str) == "leave") = false := by decide +kernel
theorem fm_place_of_left : (("place_of" : Str) == "left") = false := by decide +kernel
theorem fm_place_of_level : (("place_of" : Str) == "level") = false := by decide +kernel
theorem fm_place_of_many : (("place_of" : Str) == "many") = false := by decide +kernel
theorem fm_place_of_marks : (("place_of" : Str) == "marks") = false := by decide +kernel
theorem fm_place_of_most : (("place_of" : Str) == "most") = false := by decide +kernel
theorem fm_place_of_name : (("place_of" : Str) == "name") = false := by decide +kernel
theorem fm_place_of_needs : (("place_of" : Str) == "needs") = false := by decide +kernel
theorem fm_place_of_net : (("place_of" : Str) == "net") = false := by decide +kernel
theorem fm_place_of_pages : (("place_of" : Str) == "pages") = false := by decide +kernel
theorem fm_place_of_pairs : (("place_of" : Str) == "pairs") = false := by decide +kernel
theorem fm_place_of_paper : (("place_of" : Str) == "paper") = false := by decide +kernel
theorem fm_place_of_past : (("place_of" : Str) == "past") = false := by decide +kernel
theorem fm_place_of_persons : (("place_of" : Str) == "persons") = false := by decide +kernel
theorem fm_place_of_places : (("place_of" : Str) == "places") = false := by decide +kernel
theorem fm_place_of_prices : (("place_of" : Str) == "prices") = false := by decide +kernel
theorem fm_place_of_right : (("place_of" : Str) == "right") = false := by decide +kernel
theorem fm_place_of_rota : (("place_of" : Str) == "rota") = false := by decide +kernel
theorem fm_place_of_rules : (("place_of" : Str) == "rules") = false := by decide +kernel
theorem fm_place_of_skills : (("place_of" : Str) == "skills") = false := by decide +kernel
theorem fm_place_of_spare : (("place_of" : Str) == "spare") = false := by decide +kernel
theorem fm_place_of_total : (("place_of" : Str) == "total") = false := by decide +kernel
theorem fm_place_of_touching : (("place_of" : Str) == "touching") = false := by decide +kernel
theorem fm_place_of_weight : (("place_of" : Str) == "weight") = false := by decide +kernel
theorem fm_place_of_whole : (("place_of" : Str) == "whole") = false := by decide +kernel
theorem fm_place_of_wishes : (("place_of" : Str) == "wishes") = false := by decide +kernel
theorem fm_place_of_word : (("place_of" : Str) == "word") = false := by decide +kernel
theorem fm_rules_for_arcs : (("rules_for" : Str) == "arcs") = false := by decide +kernel
theorem fm_rules_for_begin : (("rules_for" : Str) == "begin") = false := by decide +kernel
theorem fm_rules_for_carried : (("rules_for" : Str) == "carried") = false := by decide +kernel
theorem fm_rules_for_costs : (("rules_for" : Str) == "costs") = false := by decide +kernel
theorem fm_rules_for_days : (("rules_for" : Str) == "days") = false := by decide +kernel
theorem fm_rules_for_flows : (("rules_for" : Str) == "flows") = false := by decide +kernel
theorem fm_rules_for_house : (("rules_for" : Str) == "house") = false := by decide +kernel
theorem fm_rules_for_inner : (("rules_for" : Str) == "inner") = false := by decide +kernel
theorem fm_rules_for_kept : (("rules_for" : Str) == "kept") = false := by decide +kernel
theorem fm_rules_for_kinds : (("rules_for" : Str) == "kinds") = false := by decide +kernel
theorem fm_rules_for_leave : (("rules_for" : Str) == "leave") = false := by decide +kernel
theorem fm_rules_for_left : (("rules_for" : Str) == "left") = false := by decide +kernel
theorem fm_rules_for_level : (("rules_for" : Str) == "level") = false := by decide +kernel
theorem fm_rules_for_many : (("rules_for" : Str) == "many") = false := by decide +kernel
theorem fm_rules_for_marks : (("rules_for" : Str) == "marks") = false := by decide +kernel
theorem fm_rules_for_most : (("rules_for" : Str) == "most") = false := by decide +kernel
theorem fm_rules_for_name : (("rules_for" : Str) == "name") = false := by decide +kernel
theorem fm_rules_for_needs : (("rules_for" : Str) == "needs") = false := by decide +kernel
theorem fm_rules_for_net : (("rules_for" : Str) == "net") = false := by decide +kernel
theorem fm_rules_for_pages : (("rules_for" : Str) == "pages") = false := by decide +kernel
theorem fm_rules_for_pairs : (("rules_for" : Str) == "pairs") = false := by decide +kernel
theorem fm_rules_for_paper : (("rules_for" : Str) == "paper") = false := by decide +kernel
theorem fm_rules_for_past : (("rules_for" : Str) == "past") = false := by decide +kernel
theorem fm_rules_for_persons : (("rules_for" : Str) == "persons") = false := by decide +kernel
theorem fm_rules_for_places : (("rules_for" : Str) == "places") = false := by decide +kernel
theorem fm_rules_for_prices : (("rules_for" : Str) == "prices") = false := by decide +kernel
theorem fm_rules_for_right : (("rules_for" : Str) == "right") = false := by decide +kernel
theorem fm_rules_for_rota : (("rules_for" : Str) == "rota") = false := by decide +kernel
theorem fm_rules_for_rules : (("rules_for" : Str) == "rules") = false := by decide +kernel
theorem fm_rules_for_skills : (("rules_for" : Str) == "skills") = false := by decide +kernel
theorem fm_rules_for_spare : (("rules_for" : Str) == "spare") = false := by decide +kernel
theorem fm_rules_for_total : (("rules_for" : Str) == "total") = false := by decide +kernel
theorem fm_rules_for_touching : (("rules_for" : Str) == "touching") = false := by decide +kernel
theorem fm_rules_for_weight : (("rules_for" : Str) == "weight") = false := by decide +kernel
theorem fm_rules_for_whole : (("rules_for" : Str) == "whole") = false := by decide +kernel
theorem fm_rules_for_wishes : (("rules_for" : Str) == "wishes") = false := by decide +kernel
theorem fm_rules_for_word : (("rules_for" : Str) == "word") = false := by decide +kernel
theorem fm_reach_of_arcs : (("reach_of" : Str) == "arcs") = false := by decide +kernel
theorem fm_reach_of_begin : (("reach_of" : Str) == "begin") = false := by decide +kernel
theorem fm_reach_of_carried : (("reach_of" : Str) == "carried") = false := by decide +kernel
theorem fm_reach_of_costs : (("reach_of" : Str) == "costs") = false := by decide +kernel
theorem fm_reach_of_days : (("reach_of" : Str) == "days") = false := by decide +kernel
theorem fm_reach_of_flows : (("reach_of" : Str) == "flows") = false := by decide +kernel
theorem fm_reach_of_house : (("reach_of" : Str) == "house") = false := by decide +kernel
theorem fm_reach_of_inner : (("reach_of" : Str) == "inner") = false := by decide +kernel
theorem fm_reach_of_kept : (("reach_of" : Str) == "kept") = false := by decide +kernel
theorem fm_reach_of_kinds : (("reach_of" : Str) == "kinds") = false := by decide +kernel
theorem fm_reach_of_leave : (("reach_of" : Str) == "leave") = false := by decide +kernel
theorem fm_reach_of_left : (("reach_of" : Str) == "left") = false := by decide +kernel
theorem fm_reach_of_level : (("reach_of" : Str) == "level") = false := by decide +kernel
theorem fm_reach_of_many : (("reach_of" : Str) == "many") = false := by decide +kernel
theorem fm_reach_of_marks : (("reach_of" : Str) == "marks") = false := by decide +kernel
theorem fm_reach_of_most : (("reach_of" : Str) == "most") = false := by decide +kernel
theorem fm_reach_of_name : (("reach_of" : Str) == "name") = false := by decide +kernel
theorem fm_reach_of_needs : (("reach_of" : Str) == "needs") = false := by decide +kernel
theorem fm_reach_of_net : (("reach_of" : Str) == "net") = false := by decide +kernel
theorem fm_reach_of_pages : (("reach_of" : Str) == "pages") = false := by decide +kernel
theorem fm_reach_of_pairs : (("reach_of" : Str) == "pairs") = false := by decide +kernel
theorem fm_reach_of_paper : (("reach_of" : Str) == "paper") = false := by decide +kernel
theorem fm_reach_of_past : (("reach_of" : Str) == "past") = false := by decide +kernel
theorem fm_reach_of_persons : (("reach_of" : Str) == "persons") = false := by decide +kernel
theorem fm_reach_of_places : (("reach_of" : Str) == "places") = false := by decide +kernel
theorem fm_reach_of_prices : (("reach_of" : Str) == "prices") = false := by decide +kernel
theorem fm_reach_of_right : (("reach_of" : Str) == "right") = false := by decide +kernel
theorem fm_reach_of_rota : (("reach_of" : Str) == "rota") = false := by decide +kernel
theorem fm_reach_of_rules : (("reach_of" : Str) == "rules") = false := by decide +kernel
theorem fm_reach_of_skills : (("reach_of" : Str) == "skills") = false := by decide +kernel
theorem fm_reach_of_spare : (("reach_of" : Str) == "spare") = false := by decide +kernel
theorem fm_reach_of_total : (("reach_of" : Str) == "total") = false := by decide +kernel
theorem fm_reach_of_touching : (("reach_of" : Str) == "touching") = false := by decide +kernel
theorem fm_reach_of_weight : (("reach_of" : Str) == "weight") = false := by decide +kernel
theorem fm_reach_of_whole : (("reach_of" : Str) == "whole") = false := by decide +kernel
theorem fm_reach_of_wishes : (("reach_of" : Str) == "wishes") = false := by decide +kernel
theorem fm_reach_of_word : (("reach_of" : Str) == "word") = false := by decide +kernel
theorem fm_plain_arcs : (("plain" : Str) == "arcs") = false := by decide +kernel
theorem fm_plain_begin : (("plain" : Str) == "begin") = false := by decide +kernel
theorem fm_plain_carried : (("plain" : Str) == "carried") = false := by decide +kernel
theorem fm_plain_costs : (("plain" : Str) == "costs") = false := by decide +kernel
theorem fm_plain_days : (("plain" : Str) == "days") = false := by decide +kernel
theorem fm_plain_flows : (("plain" : Str) == "flows") = false := by decide +kernel
theorem fm_plain_house : (("plain" : Str) == "house") = false := by decide +kernel
theorem fm_plain_inner : (("plain" : Str) == "inner") = false := by decide +kernel
theorem fm_plain_kept : (("plain" : Str) == "kept") = false := by decide +kernel
theorem fm_plain_kinds : (("plain" : Str) == "kinds") = false := by decide +kernel
theorem fm_plain_leave : (("plain" : Str) == "leave") = false := by decide +kernel
theorem fm_plain_left : (("plain" : Str) == "left") = false := by decide +kernel
theorem fm_plain_level : (("plain" : Str) == "level") = false := by decide +kernel
theorem fm_plain_many : (("plain" : Str) == "many") = false := by decide +kernel
theorem fm_plain_marks : (("plain" : Str) == "marks") = false := by decide +kernel
theorem fm_plain_most : (("plain" : Str) == "most") = false := by decide +kernel
theorem fm_plain_name : (("plain" : Str) == "name") = false := by decide +kernel
theorem fm_plain_needs : (("plain" : Str) == "needs") = false := by decide +kernel
theorem fm_plain_net : (("plain" : Str) == "net") = false := by decide +kernel
theorem fm_plain_pages : (("plain" : Str) == "pages") = false := by decide +kernel
theorem fm_plain_pairs : (("plain" : Str) == "pairs") = false := by decide +kernel
theorem fm_plain_paper : (("plain" : Str) == "paper") = false := by decide +kernel
theorem fm_plain_past : (("plain" : Str) == "past") = false := by decide +kernel
theorem fm_plain_persons : (("plain" : Str) == "persons") = false := by decide +kernel
theorem fm_plain_places : (("plain" : Str) == "places") = false := by decide +kernel
theorem fm_plain_prices : (("plain" : Str) == "prices") = false := by decide +kernel
theorem fm_plain_right : (("plain" : Str) == "right") = false := by decide +kernel
theorem fm_plain_rota : (("plain" : Str) == "rota") = false := by decide +kernel
theorem fm_plain_rules : (("plain" : Str) == "rules") = false := by decide +kernel
theorem fm_plain_skills : (("plain" : Str) == "skills") = false := by decide +kernel
theorem fm_plain_spare : (("plain" : Str) == "spare") = false := by decide +kernel
theorem fm_plain_total : (("plain" : Str) == "total") = false := by decide +kernel
theorem fm_plain_touching : (("plain" : Str) == "touching") = false := by decide +kernel
theorem fm_plain_weight : (("plain" : Str) == "weight") = false := by decide +kernel
theorem fm_plain_whole : (("plain" : Str) == "whole") = false := by decide +kernel
theorem fm_plain_wishes : (("plain" : Str) == "wishes") = false := by decide +kernel
theorem fm_plain_word : (("plain" : Str) == "word") = false := by decide +kernel
theorem fm_of_count_arcs : (("of_count" : Str) == "arcs") = false := by decide +kernel
theorem fm_of_count_begin : (("of_count" : Str) == "begin") = false := by decide +kernel
theorem fm_of_count_carried : (("of_count" : Str) == "carried") = false := by decide +kernel
theorem fm_of_count_costs : (("of_count" : Str) == "costs") = false := by decide +kernel
theorem fm_of_count_days : (("of_count" : Str) == "days") = false := by decide +kernel
theorem fm_of_count_flows : (("of_count" : Str) == "flows") = false := by decide +kernel
theorem fm_of_count_house : (("of_count" : Str) == "house") = false := by decide +kernel
theorem fm_of_count_inner : (("of_count" : Str) == "inner") = false := by decide +kernel
theorem fm_of_count_kept : (("of_count" : Str) == "kept") = false := by decide +kernel
theorem fm_of_count_kinds : (("of_count" : Str) == "kinds") = false := by decide +kernel
theorem fm_of_count_leave : (("of_count" : Str) == "leave") = false := by decide +kernel
theorem fm_of_count_left : (("of_count" : Str) == "left") = false := by decide +kernel
theorem fm_of_count_level : (("of_count" : Str) == "level") = false := by decide +kernel
theorem fm_of_count_many : (("of_count" : Str) == "many") = false := by decide +kernel
theorem fm_of_count_marks : (("of_count" : Str) == "marks") = false := by decide +kernel
theorem fm_of_count_most : (("of_count" : Str) == "most") = false := by decide +kernel
theorem fm_of_count_name : (("of_count" : Str) == "name") = false := by decide +kernel
theorem fm_of_count_needs : (("of_count" : Str) == "needs") = false := by decide +kernel
theorem fm_of_count_net : (("of_count" : Str) == "net") = false := by decide +kernel
theorem fm_of_count_pages : (("of_count" : Str) == "pages") = false := by decide +kernel
theorem fm_of_count_pairs : (("of_count" : Str) == "pairs") = false := by decide +kernel
theorem fm_of_count_paper : (("of_count" : Str) == "paper") = false := by decide +kernel
theorem fm_of_count_past : (("of_count" : Str) == "past") = false := by decide +kernel
theorem fm_of_count_persons : (("of_count" : Str) == "persons") = false := by decide +kernel
theorem fm_of_count_places : (("of_count" : Str) == "places") = false := by decide +kernel
theorem fm_of_count_prices : (("of_count" : Str) == "prices") = false := by decide +kernel
theorem fm_of_count_right : (("of_count" : Str) == "right") = false := by decide +kernel
theorem fm_of_count_rota : (("of_count" : Str) == "rota") = false := by decide +kernel
theorem fm_of_count_rules : (("of_count" : Str) == "rules") = false := by decide +kernel
theorem fm_of_count_skills : (("of_count" : Str) == "skills") = false := by decide +kernel
theorem fm_of_count_spare : (("of_count" : Str) == "spare") = false := by decide +kernel
theorem fm_of_count_total : (("of_count" : Str) == "total") = false := by decide +kernel
theorem fm_of_count_touching : (("of_count" : Str) == "touching") = false := by decide +kernel
theorem fm_of_count_weight : (("of_count" : Str) == "weight") = false := by decide +kernel
theorem fm_of_count_whole : (("of_count" : Str) == "whole") = false := by decide +kernel
theorem fm_of_count_wishes : (("of_count" : Str) == "wishes") = false := by decide +kernel
theorem fm_of_count_word : (("of_count" : Str) == "word") = false := by decide +kernel
theorem fm_of_mark_arcs : (("of_mark" : Str) == "arcs") = false := by decide +kernel
theorem fm_of_mark_begin : (("of_mark" : Str) == "begin") = false := by decide +kernel
theorem fm_of_mark_carried : (("of_mark" : Str) == "carried") = false := by decide +kernel
theorem fm_of_mark_costs : (("of_mark" : Str) == "costs") = false := by decide +kernel
theorem fm_of_mark_days : (("of_mark" : Str) == "days") = false := by decide +kernel
theorem fm_of_mark_flows : (("of_mark" : Str) == "flows") = false := by decide +kernel
theorem fm_of_mark_house : (("of_mark" : Str) == "house") = false := by decide +kernel
theorem fm_of_mark_inner : (("of_mark" : Str) == "inner") = false := by decide +kernel
theorem fm_of_mark_kept : (("of_mark" : Str) == "kept") = false := by decide +kernel
theorem fm_of_mark_kinds : (("of_mark" : Str) == "kinds") = false := by decide +kernel
theorem fm_of_mark_leave : (("of_mark" : Str) == "leave") = false := by decide +kernel
theorem fm_of_mark_left : (("of_mark" : Str) == "left") = false := by decide +kernel
theorem fm_of_mark_level : (("of_mark" : Str) == "level") = false := by decide +kernel
theorem fm_of_mark_many : (("of_mark" : Str) == "many") = false := by decide +kernel
theorem fm_of_mark_marks : (("of_mark" : Str) == "marks") = false := by decide +kernel
theorem fm_of_mark_most : (("of_mark" : Str) == "most") = false := by decide +kernel
theorem fm_of_mark_name : (("of_mark" : Str) == "name") = false := by decide +kernel
theorem fm_of_mark_needs : (("of_mark" : Str) == "needs") = false := by decide +kernel
theorem fm_of_mark_net : (("of_mark" : Str) == "net") = false := by decide +kernel
theorem fm_of_mark_pages : (("of_mark" : Str) == "pages") = false := by decide +kernel
theorem fm_of_mark_pairs : (("of_mark" : Str) == "pairs") = false := by decide +kernel
theorem fm_of_mark_paper : (("of_mark" : Str) == "paper") = false := by decide +kernel
theorem fm_of_mark_past : (("of_mark" : Str) == "past") = false := by decide +kernel
theorem fm_of_mark_persons : (("of_mark" : Str) == "persons") = false := by decide +kernel
theorem fm_of_mark_places : (("of_mark" : Str) == "places") = false := by decide +kernel
theorem fm_of_mark_prices : (("of_mark" : Str) == "prices") = false := by decide +kernel
theorem fm_of_mark_right : (("of_mark" : Str) == "right") = false := by decide +kernel
theorem fm_of_mark_rota : (("of_mark" : Str) == "rota") = false := by decide +kernel
theorem fm_of_mark_rules : (("of_mark" : Str) == "rules") = false := by decide +kernel
theorem fm_of_mark_skills : (("of_mark" : Str) == "skills") = false := by decide +kernel
theorem fm_of_mark_spare : (("of_mark" : Str) == "spare") = false := by decide +kernel
theorem fm_of_mark_total : (("of_mark" : Str) == "total") = false := by decide +kernel
theorem fm_of_mark_touching : (("of_mark" : Str) == "touching") = false := by decide +kernel
theorem fm_of_mark_weight : (("of_mark" : Str) == "weight") = false := by decide +kernel
theorem fm_of_mark_whole : (("of_mark" : Str) == "whole") = false := by decide +kernel
theorem fm_of_mark_wishes : (("of_mark" : Str) == "wishes") = false := by decide +kernel
theorem fm_of_mark_word : (("of_mark" : Str) == "word") = false := by decide +kernel
theorem fm_floor_arcs : (("floor" : Str) == "arcs") = false := by decide +kernel
theorem fm_floor_begin : (("floor" : Str) == "begin") = false := by decide +kernel
theorem fm_floor_carried : (("floor" : Str) == "carried") = false := by decide +kernel
theorem fm_floor_costs : (("floor" : Str) == "costs") = false := by decide +kernel
theorem fm_floor_days : (("floor" : Str) == "days") = false := by decide +kernel
theorem fm_floor_flows : (("floor" : Str) == "flows") = false := by decide +kernel
theorem fm_floor_house : (("floor" : Str) == "house") = false := by decide +kernel
theorem fm_floor_inner : (("floor" : Str) == "inner") = false := by decide +kernel
theorem fm_floor_kept : (("floor" : Str) == "kept") = false := by decide +kernel
theorem fm_floor_kinds : (("floor" : Str) == "kinds") = false := by decide +kernel
theorem fm_floor_leave : (("floor" : Str) == "leave") = false := by decide +kernel
theorem fm_floor_left : (("floor" : Str) == "left") = false := by decide +kernel
theorem fm_floor_level : (("floor" : Str) == "level") = false := by decide +kernel
theorem fm_floor_many : (("floor" : Str) == "many") = false := by decide +kernel
theorem fm_floor_marks : (("floor" : Str) == "marks") = false := by decide +kernel
theorem fm_floor_most : (("floor" : Str) == "most") = false := by decide +kernel
theorem fm_floor_name : (("floor" : Str) == "name") = false := by decide +kernel
theorem fm_floor_needs : (("floor" : Str) == "needs") = false := by decide +kernel
theorem fm_floor_net : (("floor" : Str) == "net") = false := by decide +kernel
theorem fm_floor_pages : (("floor" : Str) == "pages") = false := by decide +kernel
theorem fm_floor_pairs : (("floor" : Str) == "pairs") = false := by decide +kernel
theorem fm_floor_paper : (("floor" : Str) == "paper") = false := by decide +kernel
theorem fm_floor_past : (("floor" : Str) == "past") = false := by decide +kernel
theorem fm_floor_persons : (("floor" : Str) == "persons") = false := by decide +kernel
theorem fm_floor_places : (("floor" : Str) == "places") = false := by decide +kernel
theorem fm_floor_prices : (("floor" : Str) == "prices") = false := by decide +kernel
theorem fm_floor_right : (("floor" : Str) == "right") = false := by decide +kernel
theorem fm_floor_rota : (("floor" : Str) == "rota") = false := by decide +kernel
theorem fm_floor_rules : (("floor" : Str) == "rules") = false := by decide +kernel
theorem fm_floor_skills : (("floor" : Str) == "skills") = false := by decide +kernel
theorem fm_floor_spare : (("floor" : Str) == "spare") = false := by decide +kernel
theorem fm_floor_total : (("floor" : Str) == "total") = false := by decide +kernel
theorem fm_floor_touching : (("floor" : Str) == "touching") = false := by decide +kernel
theorem fm_floor_weight : (("floor" : Str) == "weight") = false := by decide +kernel
theorem fm_floor_whole : (("floor" : Str) == "whole") = false := by decide +kernel
theorem fm_floor_wishes : (("floor" : Str) == "wishes") = false := by decide +kernel
theorem fm_floor_word : (("floor" : Str) == "word") = false := by decide +kernel
theorem fm_stands_arcs : (("stands" : Str) == "arcs") = false := by decide +kernel
theorem fm_stands_begin : (("stands" : Str) == "begin") = false := by decide +kernel
theorem fm_stands_carried : (("stands" : Str) == "carried") = false := by decide +kernel
theorem fm_stands_costs : (("stands" : Str) == "costs") = false := by decide +kernel
theorem fm_stands_days : (("stands" : Str) == "days") = false := by decide +kernel
theorem fm_stands_flows : (("stands" : Str) == "flows") = false := by decide +kernel
theorem fm_stands_house : (("stands" : Str) == "house") = false := by decide +kernel
theorem fm_stands_inner : (("stands" : Str) == "inner") = false := by decide +kernel
theorem fm_stands_kept : (("stands" : Str) == "kept") = false := by decide +kernel
theorem fm_stands_kinds : (("stands" : Str) == "kinds") = false := by decide +kernel
theorem fm_stands_leave : (("stands" : Str) == "leave") = false := by decide +kernel
theorem fm_stands_left : (("stands" : Str) == "left") = false := by decide +kernel
theorem fm_stands_level : (("stands" : Str) == "level") = false := by decide +kernel
theorem fm_stands_many : (("stands" : Str) == "many") = false := by decide +kernel
theorem fm_stands_marks : (("stands" : Str) == "marks") = false := by decide +kernel
theorem fm_stands_most : (("stands" : Str) == "most") = false := by decide +kernel
theorem fm_stands_name : (("stands" : Str) == "name") = false := by decide +kernel
theorem fm_stands_needs : (("stands" : Str) == "needs") = false := by decide +kernel
theorem fm_stands_net : (("stands" : Str) == "net") = false := by decide +kernel
theorem fm_stands_pages : (("stands" : Str) == "pages") = false := by decide +kernel
theorem fm_stands_pairs : (("stands" : Str) == "pairs") = false := by decide +kernel
theorem fm_stands_paper : (("stands" : Str) == "paper") = false := by decide +kernel
theorem fm_stands_past : (("stands" : Str) == "past") = false := by decide +kernel
theorem fm_stands_persons : (("stands" : Str) == "persons") = false := by decide +kernel
theorem fm_stands_places : (("stands" : Str) == "places") = false := by decide +kernel
theorem fm_stands_prices : (("stands" : Str) == "prices") = false := by decide +kernel
theorem fm_stands_right : (("stands" : Str) == "right") = false := by decide +kernel
theorem fm_stands_rota : (("stands" : Str) == "rota") = false := by decide +kernel
theorem fm_stands_rules : (("stands" : Str) == "rules") = false := by decide +kernel
theorem fm_stands_skills : (("stands" : Str) == "skills") = false := by decide +kernel
theorem fm_stands_spare : (("stands" : Str) == "spare") = false := by decide +kernel
theorem fm_stands_total : (("stands" : Str) == "total") = false := by decide +kernel
theorem fm_stands_touching : (("stands" : Str) == "touching") = false := by decide +kernel
theorem fm_stands_weight : (("stands" : Str) == "weight") = false := by decide +kernel
theorem fm_stands_whole : (("stands" : Str) == "whole") = false := by decide +kernel
theorem fm_stands_wishes : (("stands" : Str) == "wishes") = false := by decide +kernel
theorem fm_stands_word : (("stands" : Str) == "word") = false := by decide +kernel
end DL
end
section
namespace DL
open PySem L2
theorem plain_ints (l : List Int) : plainD (.lst (l.map D.int)) = true ∧ deep (.lst (l.map D.int)) ≤ 60 := by
  have h1 : plainDL (l.map D.int) = true := by
    induction l with
    | nil => rfl
    | cons x l ih => simp [plainDL, plainD, ih]
  have h2 : deepL (l.map D.int) = 0 := by
    induction l with
    | nil => rfl
    | cons x l ih => simp only [plainDL, List.map_cons, plainD, Bool.true_and] at h1; simp [deepL, deep, ih h1]
  simp [plainD, deep, h1, h2]
theorem plain_strs (l : List Tx) : plainD (.lst (l.map D.str)) = true ∧ deep (.lst (l.map D.str)) ≤ 60 := by
  have h1 : plainDL (l.map D.str) = true := by
    induction l with
    | nil => rfl
    | cons x l ih => simp [plainDL, plainD, ih]
  have h2 : deepL (l.map D.str) = 0 := by
    induction l with
    | nil => rfl
    | cons x l ih => simp only [plainDL, List.map_cons, plainD, Bool.true_and] at h1; simp [deepL, deep, ih h1]
  simp [plainD, deep, h1, h2]
theorem take_get {α : Type} {l : List α} {i : Nat} {p : α} (h : l[i]? = some p) : l.take (i + 1) = l.take i ++ [p] := by
  obtain ⟨h1, h2⟩ := List.getElem?_eq_some_iff.mp h
  rw [List.take_succ_eq_append_getElem h1, h2]
theorem map_get {α : Type} {f : α → D} {l : List α} {i : Nat} {x : D} (h : (l.map f)[i]? = some x) : ∃ p, l[i]? = some p ∧ x = f p := by
  rw [List.getElem?_map] at h
  cases q : l[i]? with
  | none => rw [q] at h; cases h
  | some p => rw [q] at h; cases h; exact ⟨p, rfl, rfl⟩
theorem signs_in {w : Tx} {xs : List D} : ∀ {l : List D}, Paired (fun (_ : D) y => ∃ c, y = D.str [c] ∧ c ∈ w) l xs → ∃ t : Tx, xs = (t.map fun c => [c]).map D.str ∧ t.length = l.length ∧ ∀ c ∈ t, c ∈ w
  | _, .nil => ⟨[], rfl, rfl, by simp⟩
  | _, .cons (a := a) (b := b) ⟨c, h, hc⟩ r => by
    obtain ⟨t, h1, h2, h3⟩ := signs_in (w := w) r
    refine ⟨c :: t, by rw [h, h1]; rfl, by simp [h2], ?_⟩
    intro x hx
    rcases List.mem_cons.mp hx with z | z
    · subst z; exact hc
    · exact h3 x z
theorem ints_of {p : Int → Prop} : ∀ {l ys : List D}, Paired (fun (_ : D) y => ∃ v, y = D.int v ∧ p v) l ys → ∃ vs : List Int, ys = vs.map D.int ∧ vs.length = l.length ∧ ∀ v ∈ vs, p v
  | _, _, .nil => ⟨[], rfl, rfl, by simp⟩
  | _, _, .cons (a := a) (b := b) ⟨v, h, q⟩ r => by
    obtain ⟨vs, h1, h2, h3⟩ := ints_of r
    refine ⟨v :: vs, by rw [h, h1]; rfl, by simp [h2], ?_⟩
    intro x hx
    rcases List.mem_cons.mp hx with z | z
    · subst z; exact q
    · exact h3 x z
theorem if_fin {k : Bool} {d1 d2 : DS} {E : DEn} {ρ : Rh} (Pv : Rh → Prop) (h0 : ∀ r, Pv r → E.nx r) (h1 : k = true → ∀ nx : Rh → Prop, (∀ r, Pv r → nx r) → d1 { E with nx := nx } ρ) (h2 : k = false → ∀ nx : Rh → Prop, (∀ r, Pv r → nx r) → d2 { E with nx := nx } ρ) : ifB k (stT d1 E ρ) (stT d2 E ρ) :=
  ifB_intro (fun g => h1 g _ h0) fun g => h2 g _ h0
/-- a test of texts of one sign, of ints -/
def onSign (p : Nat → Bool) : D → Bool
  | .str [c] => p c
  | _ => false
theorem onSign_1 {p : Nat → Bool} {c : Nat} : onSign p (.str [c]) = p c := rfl
def onI (p : Int → Bool) : D → Bool
  | .int n => p n
  | _ => false
theorem onI_1 {p : Int → Bool} {c : Int} : onI p (.int c) = p c := rfl
def toI (f : Int → Int) : D → D
  | .int n => .int (f n)
  | _ => .non
theorem signs_flt (u : Tx) (p : Nat → Bool) : (signs u).filter (onSign p) = signs (u.filter p) := by
  unfold signs
  rw [List.filter_map]; rfl
theorem ints_flt (u : List Int) (p : Int → Bool) : (u.map D.int).filter (onI p) = (u.filter p).map D.int := by
  rw [List.filter_map]; rfl
theorem ints_map (u : List Int) (f : Int → Int) : (u.map D.int).map (toI f) = (u.map f).map D.int := by
  rw [List.map_map, List.map_map]; rfl
theorem map_mem {α : Type} {f : α → D} {l : List α} {x : D} (h : x ∈ l.map f) : ∃ p ∈ l, x = f p := by
  obtain ⟨p, h1, h2⟩ := List.mem_map.mp h
  exact ⟨p, h1, h2.symm⟩
theorem sl0 : ([] : List D).length + 0 ≤ sizeLine := by decide
theorem zero_add_nat (i : Nat) : (0 : Int) + (i : Int) = ((i : Nat) : Int) := by omega
theorem signs_len (ks : Tx) : (signs ks).length = ks.length := by simp [signs]
theorem signs_get {ks : Tx} {i : Nat} {x : D} (h : (signs ks)[i]? = some x) : ∃ c, ks[i]? = some c ∧ x = .str [c] := by
  unfold signs at h
  exact map_get h
theorem len0 : (([] : List D).length ≤ sizeLine) = True := eq_true (by decide)
theorem len1 {x : D} : ([x].length ≤ sizeLine) = True := eq_true (by show 1 ≤ sizeLine; decide)
theorem len2 {x y : D} : ([x, y].length ≤ sizeLine) = True := eq_true (by show 2 ≤ sizeLine; decide)
theorem len3 {x y z : D} : ([x, y, z].length ≤ sizeLine) = True := eq_true (by show 3 ≤ sizeLine; decide)
theorem len4 {x y z u : D} : ([x, y, z, u].length ≤ sizeLine) = True := eq_true (by show 4 ≤ sizeLine; decide)
theorem ixz0 {α : Type} {a : α} {l : List α} : ixD (a :: l) 0 = some a := rfl
theorem ixz1 {α : Type} {a b : α} {l : List α} : ixD (a :: b :: l) 1 = some b := rfl
theorem ixz2 {α : Type} {a b c : α} {l : List α} : ixD (a :: b :: c :: l) 2 = some c := rfl
theorem ixz3 {α : Type} {a b c d : α} {l : List α} : ixD (a :: b :: c :: d :: l) 3 = some d := rfl
theorem ixz4 {α : Type} {a b c d e : α} {l : List α} : ixD (a :: b :: c :: d :: e :: l) 4 = some e := rfl
end DL
end
section
namespace DL
open PySem L2
def ltr (i : Int) : Nat := 97 + i.toNat
def bodyT (c : Int) : Tx := (List.range (c / 3 % 8).toNat).map fun (k : Nat) => ltr (c / (16 + 5 * (k : Int)) % 26)
def nameN (c p : Int) : Tx := (bodyT c).take (c / 7 % ((bodyT c).length + 1)).toNat ++ [ltr ((c + p) % 26)] ++ (bodyT c).drop (c / 7 % ((bodyT c).length + 1)).toNat
def nameT (c p : Int) : Tx := if nameN c p = [97, 108, 108] then [97, 108, 108, 101] else nameN c p
theorem ltr_ix {i : Int} (h0 : 0 ≤ i) (h1 : i < 26) : ixD [97, 98, 99, 100, 101, 102, 103, 104, 105, 106, 107, 108, 109, 110, 111, 112, 113, 114, 115, 116, 117, 118, 119, 120, 121, 122] i = some (ltr i) := by
  obtain ⟨n, rfl⟩ := Int.eq_ofNat_of_zero_le h0
  have hn : n < 26 := by omega
  have : ∀ m : Fin 26, ixD [97, 98, 99, 100, 101, 102, 103, 104, 105, 106, 107, 108, 109, 110, 111, 112, 113, 114, 115, 116, 117, 118, 119, 120, 121, 122] ((m : Nat) : Int) = some (ltr ((m : Nat) : Int)) := by decide
  exact this ⟨n, hn⟩
theorem bodyT_len (c : Int) : (bodyT c).length = (c / 3 % 8).toNat := by simp [bodyT]
theorem nameN_len (c p : Int) : (nameN c p).length = (bodyT c).length + 1 := by
  unfold nameN
  have h0 := Int.emod_nonneg (c / 7) (show ((bodyT c).length : Int) + 1 ≠ 0 by omega)
  have h1 := Int.emod_lt_of_pos (c / 7) (show (0 : Int) < ((bodyT c).length : Int) + 1 by omega)
  simp only [List.length_append, List.length_take, List.length_drop, List.length_cons, List.length_nil]
  omega
theorem nameT_len (c p : Int) : (nameT c p).length ≤ 8 := by
  unfold nameT
  split
  · decide
  · rw [nameN_len, bodyT_len]; omega
theorem ltr_inj {i j : Int} (hi : 0 ≤ i) (hj : 0 ≤ j) (h : ltr i = ltr j) : i = j := by
  unfold ltr at h; omega
theorem nameN_inj {c p q : Int} (hp : 0 ≤ p ∧ p < 26) (hq : 0 ≤ q ∧ q < 26) (h : nameN c p = nameN c q) : p = q := by
  unfold nameN at h
  rw [List.append_assoc, List.append_assoc] at h
  have h := List.append_cancel_left h
  have h := List.append_cancel_right h
  simp only [List.cons.injEq, and_true] at h
  have := ltr_inj (Int.emod_nonneg _ (by decide)) (Int.emod_nonneg _ (by decide)) h
  omega
theorem nameT_inj {c p q : Int} (hp : 0 ≤ p ∧ p < 26) (hq : 0 ≤ q ∧ q < 26) (h : nameT c p = nameT c q) : p = q := by
  unfold nameT at h
  by_cases a : nameN c p = [97, 108, 108]
  · by_cases b : nameN c q = [97, 108, 108]
    · exact nameN_inj hp hq (a.trans b.symm)
    · rw [if_pos a, if_neg b] at h
      have h1 := congrArg List.length a
      have h2 := congrArg List.length h
      rw [nameN_len] at h1 h2
      simp at h1 h2
      omega
  · by_cases b : nameN c q = [97, 108, 108]
    · rw [if_neg a, if_pos b] at h
      have h1 := congrArg List.length b
      have h2 := congrArg List.length h
      rw [nameN_len] at h1 h2
      simp at h1 h2
      omega
    · rw [if_neg a, if_neg b] at h
      exact nameN_inj hp hq h
def bodyF (c : Int) : D → D
  | .int k => D.str [ltr (c / (16 + 5 * k) % 26)]
  | _ => .non
theorem body_map (c : Int) : (rngD 0 (c / 3 % 8).toNat).map (bodyF c) = ((bodyT c).map fun c => [c]).map D.str := by
  unfold rngD bodyT
  rw [List.map_map, List.map_map, List.map_map]
  apply List.map_congr_left
  intro k hk
  show D.str [ltr (c / (16 + 5 * (0 + (k : Int))) % 26)] = D.str [ltr (c / (16 + 5 * (k : Int)) % 26)]
  rw [Int.zero_add]
end DL
end
section
namespace DL
open PySem L2
structure Mk0 (K : PySem.W.Frag) (C : Addr) : Prop where
  makes : PySem.W.makesIn K C = true
  init : PySem.W.findIn K (.ref C) "__init__" = some (some (.builtin "object.__init__"))
  top : PySem.W.mroIn K C (.type "object") = some true
  kp : PySem.W.keepIn K (.ref C) = true
section
variable {X : Cx} {F0 H0 : Hp} {C : Addr} {pins : List (Addr × Obj)} {σ : L2.St} {H : Hp} {s : Shared} {Q : VK} {p pos : Pos} {x : Str}
theorem run_make0 (M : Mk0 X.K C) (I : Inv X pins σ H s)
    (h : ∀ x dx, H x = none → H dx = none → dx ≠ x → Q (.ref x) (upd (upd H dx (.own x)) x (.ins C dx []))) :
    wpAny (model X.prog X.w) X.A (call (.ref C) []) (EP X pins σ Q) X.xe s := by
  have hq := h (s.heap.objs.size + 1) s.heap.objs.size (I.hok.fresh (Nat.le_succ _)) (I.hok.fresh (Nat.le_refl _)) (Nat.ne_of_lt (Nat.lt_succ_self _))
  have I2 := Inv.made (C := C) I
  refine wpAny_call (make_map0 I.kIn M.makes M.init (fun self => PySem.W.Looks.of_pure (PySem.W.oi_bind self)) ?_)
  obtain ⟨_, _, _, ho, _⟩ := I2.hok (s.heap.objs.size + 1) _ upd_same
  have t1 := NwA.type_at (M := model X.prog X.w) ho rfl
  have t2 : PySem.W.Looks (model X.prog X.w) ((s.heap.push PySem.W.emptyDict).push (PySem.W.instObj C s.heap.objs.size)) (isInstance (.ref (s.heap.objs.size + 1)) (.type "object")) true := t1.andThen (PySem.W.looks_mroIn I2.kIn M.top)
  refine codeAny_call_builtin PySem.W.oi_plain PySem.W.entry_oi (@PySem.W.check_slot (model X.prog X.w) _ _ _ "object.__init__" "object" "__init__" (.ref (s.heap.objs.size + 1)) [] [] _ PySem.W.oi_kind PySem.W.oi_split t2 (NwA.oi_args_any _ [] []) ?_)
  rw [PySem.W.oi_run]
  exact wpAny_pure ⟨rfl, ⟨V.ref (s.heap.objs.size + 1), _, I2, rfl, hq⟩⟩
theorem ld_K (I : Inv X pins σ H s) (hg : Gl X x) (hm : X.mg x = some (.ref C)) (hdb : (x == ("__debug__" : Str)) = false) : True := trivial
/-- C(), no __init__ -/
def dMk0 (C : Addr) : DE := fun _ P => P (.obj C [])
theorem le_mk0 (M : Mk0 X.K C) (hg : Gl X x) (hm : X.mg x = some (.ref C)) (hdb : (x == ("__debug__" : Str)) = false := by decide) : LE X F0 H0 (.Call (.Name x p) [] [] pos) (dMk0 C) := by
  refine ⟨fun pins s σ H Q I ⟨F, ρ, fps, P, R, q, kk⟩ => ?_⟩
  refine wpAny_Call_Name_kw (ld_glob I hg hm ?_ hdb)
  refine PySem.W.callWith_K0 I.kIn M.kp (run_make0 M I fun y dx hy hdx hne => ?_)
  have w := R.x.w
  have nF := w.free hy
  have s1 : Same H (upd (upd H dx (.own y)) y (.ins C dx [])) := fun b u hb => by
    rw [upd_ne (ne_of_none hb hy), upd_ne (ne_of_none hb hdx)]; exact hb
  refine kk _ q (upd F y (.ins C dx [])) _ _ ⟨L2same_upd_new nF, s1, fun b u hb => ?_, fun b hb => ?_⟩ (.obj upd_same .nil)
  · by_cases e : b = y
    · subst e; rw [upd_same] at hb ⊢; exact hb
    · rw [upd_ne e] at hb; exact s1 _ _ (w _ _ hb)
  · rw [upd_ne (fun e => hb (by rw [e]; exact hy))]
structure InsC (K : PySem.W.Frag) (C : Addr) : Prop where
  cl : Cls K C
  ha : PySem.W.findIn K (.ref C) "__class__" = some (some (.builtin "object.__class__"))
  hn : PySem.W.specialIn K (.builtin "object.__class__") "__get__" = some (some (.builtin "getset_descriptor.__get__"))
  htk : PySem.W.takesIn K (.builtin "object.__class__") = some true
  hm : PySem.W.mroIn K C (.type "object") = some true
theorem kit_of_sub {K : PySem.W.Frag} {C D : Addr} {b : Bool} (h1 : PySem.W.subIn K (.ref C) (.ref D) = some b) (h0 : PySem.W.subIn K (.ref D) (.ref D) = some true) (h2 : PySem.W.typeIn K (.ref D) = some (.type "type")) (h3 : PySem.W.isClsIn K D = true) : PySem.W.kitOne K (.ref C) (.ref D) = some b := by
  unfold PySem.W.kitOne
  split
  · rename_i e
    have e : C = D := by
      have := beq_iff_eq.mp e
      injection this
    subst e
    rw [h0] at h1
    exact h1
  · unfold PySem.W.kitCls
    have : ((PySem.W.clsIn K D).isSome && PySem.W.typeIn K (.ref D) == some (.type "type")) = true := by
      rw [h2]
      unfold PySem.W.isClsIn at h3
      simp only [beq_self_eq_true, Bool.and_true]
      exact h3
    exact (if_pos this).trans h1
abbrev Kin := List (Addr × Addr × Bool)
def KinOk (K : PySem.W.Frag) (kin : Kin) : Prop := ∀ p ∈ kin, InsC K p.1 ∧ PySem.W.kitOne K (.ref p.1) (.ref p.2.1) = some p.2.2
def dIsiC (kin : Kin) : List D → (D → Prop) → Prop
  | [.obj C _, .fn C'], P => ∃ b, (C, C', b) ∈ kin ∧ P (.bl b)
  | _, _ => False
theorem BRep.insTy {K : PySem.W.Frag} {F H : Hp} {v : V} {C : Addr} {gs : List (Str × D)} (e : Same F H) (r : BRep K F H v (.obj C gs)) (c : InsC K C) : TyX K H v (.ref C) := by
  obtain ⟨a, dx, fs, rfl, h, _⟩ := r.obj e
  exact .base (.ins h c.cl c.ha c.hn c.htk c.hm)
theorem b_isiC {kin : Kin} (hk : KinOk X.K kin) : BltR X (.builtin "isinstance") (dIsiC kin) := ⟨_, fun F H vs xs P Q e r d k => by
  unfold dIsiC at d
  split at d
  · obtain ⟨b, hb, d⟩ := d
    obtain ⟨v, w, rfl, r1, r2⟩ := r.two
    obtain ⟨c, h2⟩ := hk _ hb
    rename_i C gs C'
    have : w = .ref C' := by rcases r2 with r2 | ⟨fp, r2, nt⟩ <;> cases r2; rfl
    subst this
    exact ⟨v, .ref C', .ref C, .ref C', b, rfl, .own _, r1.insTy e c, h2, k _ d F H _ (.refl e) (.bl _)⟩
  · exact d.elim, call_isi⟩
/-- isinstance(x, (C1, C2, ..)) -/
def dIsiT (kin : Kin) (Cs : List Addr) (da : DE) : DE := fun ρ P => da ρ fun x => match x with | .obj C _ => ∃ f : Addr → Bool, (∀ C' ∈ Cs, (C, C', f C') ∈ kin) ∧ P (.bl (Cs.any f)) | _ => False
def tCs (Cs : List Addr) : TA := fun _ H Q => Q (Cs.map V.ref) H
theorem pa_cls0 : PA X [] (tCs []) := pa_nil
theorem pa_cls {es : List Expr} {Cs : List Addr} (hm : X.mg x = some (.ref C)) (hg : Gl X x) (hr : PA X es (tCs Cs)) (hd : (x == ("__debug__" : Str)) = false := by decide) (hs : starEach (.Name x p :: es) X.env = (false, eval (.Name x p) X.env) :: starEach es X.env := by rfl) : PA X (.Name x p :: es) (tCs (C :: Cs)) :=
  paW (pa_cons (pe_glob (v := .ref C) hg hm rfl hd) hr hs) fun σ H Q q => q
theorem kitAny_of {K : PySem.W.Frag} {t : Value} {f : Addr → Bool} : ∀ {Cs : List Addr}, (∀ C ∈ Cs, PySem.W.kitOne K t (.ref C) = some (f C)) → PySem.W.kitAny K t (Cs.map Value.ref) = some (Cs.any f)
  | [], _ => rfl
  | C :: Cs, h => by
    have h1 := h C (by simp)
    have h2 := kitAny_of (Cs := Cs) fun D hD => h D (by simp [hD])
    refine kitAny_cons h1 (fun e => ?_) fun e => ?_
    · rw [List.any_cons, e, Bool.false_or]; exact h2
    · rw [List.any_cons, e, Bool.true_or]
theorem paired_cls : ∀ Cs : List Addr, Paired ClsV (Cs.map V.ref) (Cs.map Value.ref)
  | [] => .nil
  | C :: Cs => .cons (.own C) (paired_cls Cs)
theorem le_isiT {kin : Kin} {Cs : List Addr} {da : DE} {ts : List Expr} {p2 : Pos} {x1} (hk : KinOk X.K kin) (hg : Gl X x) (hm : X.mg x = none) (hv : bootBuiltins x = some (.builtin "isinstance")) (ha : LB X F0 H0 e da) (hc : PA X ts (tCs Cs)) (hl : Cs.length ≤ 1000) (hne : Cs ≠ []) (hn : x ≠ "__name__" := by decide) (hdb : (x == ("__debug__" : Str)) = false := by decide)
    (he : starEach [e, .Tuple ts x1 p2] X.env = (false, eval e X.env) :: starEach [.Tuple ts x1 p2] X.env := by rfl) (he2 : starEach [.Tuple ts x1 p2] X.env = (false, eval (.Tuple ts x1 p2) X.env) :: starEach [] X.env := by rfl) (hpl : (backTo pos (starEach [.Tuple ts x1 p2] X.env)).any (·.1) = false := by rfl) :
    LE X F0 H0 (.Call (.Name x p) [e, .Tuple ts x1 p2] [] pos) (dIsiT kin Cs da) :=
  peW (pe_callB call_isiT hg hm hv (pa_cons ha (pa_cons (pe_tup hc) pa_nil he2) he) hn hdb he hpl) fun σ H Q ⟨F, ρ, fps, P, R, q, k⟩ => ⟨F, ρ, fps, _, R, q, fun z hz F1 H1 v e1 r1 => ⟨by
      rw [List.length_map, szl]; omega, fun l hl2 => by
      cases z with
      | obj C gs =>
        obtain ⟨f, hf, hp⟩ := hz
        have e2 := Ext.new (o := .tup (Cs.map V.ref)) e1.w hl2
        have hC : InsC X.K C ∨ Cs = [] := by
          cases Cs with
          | nil => exact .inr rfl
          | cons D r => exact .inl (hk _ (hf D (by simp))).1
        rcases hC with hC | hC
        · exact ⟨v, l, _, .ref C, Cs.map Value.ref, _, rfl, upd_same, paired_cls Cs, (r1.ext e2).insTy e2.w hC, kitAny_of fun D hD => (hk _ (hf D hD)).2, k _ hp _ _ _ (e1.trans e2) (.bl _)⟩
        · exact absurd hC hne
      | _ => exact hz.elim⟩⟩
/-- * and ** of great numbers -/
def big1 : Nat := 2 ^ 1000
def big4 : Nat := 2 ^ 4000
theorem big1_lt {n : Nat} (h : n ≤ 10 ^ 60) : n < big1 := Nat.lt_of_le_of_lt h (by decide +kernel)
theorem big1_4 {n : Nat} (h : n < big1) : n < big4 := Nat.lt_of_lt_of_le h (by decide +kernel)
theorem big1_mul {i j : Int} (h : i.natAbs < big1) (k : j.natAbs < big1) : (i * j).natAbs < big4 := by
  rw [Int.natAbs_mul]
  exact Nat.lt_of_lt_of_le (Nat.mul_lt_mul'' h k) (by decide +kernel)
theorem big1_of {i : Int} (h0 : 0 ≤ i) (h : i ≤ 10 ^ 60) : i.natAbs < big1 := big1_lt (by omega)
theorem big1_sq {i : Int} (h : i.natAbs < big1) : (i ^ 2).natAbs < big4 := by
  have : i ^ 2 = i * i := by rw [Int.pow_succ, Int.pow_succ, Int.pow_zero, Int.one_mul]
  rw [this]
  exact big1_mul h h
theorem sq_eq (i : Int) : i ^ 2 = i * i := by rw [Int.pow_succ, Int.pow_succ, Int.pow_zero, Int.one_mul]
theorem big1_pow {n : Nat} (h : n < big1) : n < 2 ^ 1000 := h
theorem big4_pow {n : Nat} (h : n < big4) : n < 2 ^ 4000 := h
def dMulW : DR2
  | .int i, .int j, P => (i.natAbs < big4 ∧ j.natAbs < big4) ∧ P (.int (i * j))
  | _, _, _ => False
theorem low_mulW {K : PySem.W.Frag} : LowR2 K (rI CMulW fun i j => .int (i * j)) dMulW := by
  intro F H v w x y P Q e bx byy d k
  unfold dMulW at d
  split at d
  · rename_i i j
    exact ⟨i, j, bx.int, byy.int, wide_mul (big4_pow d.1.1) (big4_pow d.1.2) (by decide) (by decide) (by decide), k _ d.2 F H _ (.refl e) (.int _)⟩
  · exact d.elim
def CPowW (i j : Int) : Prop := 0 ≤ j ∧ j ≤ 100 ∧ i.natAbs < big1
theorem op_powW : OpR X (binaryOp .Pow) (rI CPowW fun i j => .int (i ^ j.toNat)) := opI fun i j _ _ _ _ _ hc q => PyProof.Rows.pow_int hc.1 (by
  have h1 : Builtin.Int.intBits i ≤ i.natAbs.log2 + 1 := by
    unfold Builtin.Int.intBits
    split <;> omega
  have h2 := PySem.Flt.log2_lt_of (show 0 < 1000 by decide) (big1_pow hc.2.2)
  have h3 : (Builtin.Int.intBits i : Int) ≤ 1000 := by omega
  have h4 : (Builtin.Int.intBits i : Int) * j ≤ 1000 * 100 := Int.mul_le_mul h3 hc.2.1 hc.1 (by decide)
  exact Int.le_trans h4 (by decide)) q
def dPowW : DR2
  | .int i, .int j, P => (0 ≤ j ∧ j ≤ 100 ∧ i.natAbs < big1) ∧ P (.int (i ^ j.toNat))
  | _, _, _ => False
theorem low_powW {K : PySem.W.Frag} : LowR2 K (rI CPowW fun i j => .int (i ^ j.toNat)) dPowW := by
  intro F H v w x y P Q e bx byy d k
  unfold dPowW at d
  split at d
  · rename_i i j
    exact ⟨i, j, bx.int, byy.int, d.1, k _ d.2 F H _ (.refl e) (.int _)⟩
  · exact d.elim
theorem le_mulW {da db : DE} {a b : Expr} (ha : LB X F0 H0 a da) (hb : LB X F0 H0 b db) : LE X F0 H0 (.BinOp a .Mult b pos) (dOp dMulW da db) := le_op low_mulW op_mulW ha hb
theorem le_powW {da db : DE} {a b : Expr} (ha : LB X F0 H0 a da) (hb : LB X F0 H0 b db) : LE X F0 H0 (.BinOp a .Pow b pos) (dOp dPowW da db) := le_op low_powW op_powW ha hb
/-- int(x) -/
def dIntOf : List D → (D → Prop) → Prop
  | [.int i], P => P (.int i)
  | [.bl k], P => P (.int (if k then 1 else 0))
  | _, _ => False
theorem b_int : BltR X (.type "int") dIntOf := ⟨_, fun F H vs xs P Q e r d k => by
  unfold dIntOf at d
  split at d
  · obtain ⟨v, rfl, b⟩ := r.one
    rw [b.int]
    exact .inl ⟨_, rfl, k _ d F H _ (.refl e) (.int _)⟩
  · obtain ⟨v, rfl, b⟩ := r.one
    rw [b.bl]
    exact .inr ⟨_, rfl, k _ d F H _ (.refl e) (.int _)⟩
  · exact d.elim, call_int1⟩
/-- < of ints, of tuples of ints -/
def dLtA : DR2
  | .int i, .int j, P => P (.bl (decide (i < j)))
  | .tup xs, .tup ys, P => ∃ ns ms, xs = ns.map D.int ∧ ys = ms.map D.int ∧ P (.bl (HT.lexLt ns ms))
  | _, _, _ => False
theorem low_ltA {K : PySem.W.Frag} : LowR2 K (fun x y H Q => rI0 (fun i j => .bl (decide (i < j))) x y H Q ∨ rLtT K x y H Q) dLtA := by
  intro F H v w x y P Q e bx byy d k
  unfold dLtA at d
  split at d
  · rename_i i j
    exact .inl ⟨i, j, bx.int, byy.int, k _ d F H _ (.refl e) (.bl _)⟩
  · obtain ⟨ns, ms, rfl, rfl, d⟩ := d
    obtain ⟨a, vs, rfl, s1, r1, _⟩ := bx.tup e
    obtain ⟨b, ws, rfl, s2, r2, _⟩ := byy.tup e
    rw [r1.ints] at s1
    rw [r2.ints] at s2
    exact .inr ⟨a, b, ns, ms, rfl, rfl, s1, s2, k _ d F H _ (.refl e) (.bl _)⟩
  · exact d.elim
theorem c_ltA (hu : X.A.units + 64 < cLine) : CmpR X .Lt dLtA := ⟨_, low_ltA, OpR.or op_lt (op_ltT (by omega))⟩
end
/-- a comprehension over a list told item by item -/
theorem lcD_of {α : Type} (g f : α → D) {vs : List Nat} {dg : DG} {dt : DT} {de : DE} {ρ : Rh} : ∀ {l : List α} {P : List D → Prop}, (∀ a ∈ l, ∀ Q : D → Prop, Q (f a) → dg (g a) (wipeR ρ vs) fun ρ' => dt ρ' fun b => b = true ∧ de ρ' Q) →
    (∀ x ρ (A B : Rh → Prop), (∀ r, A r → B r) → dg x ρ A → dg x ρ B) → (∀ ρ (A B : Bool → Prop), (∀ r, A r → B r) → dt ρ A → dt ρ B) → P (l.map f) → lcD vs dg dt de ρ (l.map g) P
  | [], P, _, _, _, h => h
  | a :: l, P, hs, m1, m2, h => by
    rw [List.map_cons]
    unfold lcD
    refine m1 _ _ _ _ (fun r hr => m2 r _ _ (fun b ⟨hb, q⟩ => ?_) hr) (hs a (by simp) (fun y => lcD vs dg dt de ρ (l.map g) fun ys => P (y :: ys)) (lcD_of g f (fun y hy => hs y (by simp [hy])) m1 m2 h))
    rw [if_pos hb]
    exact q
section
variable {i j : Int} {xs ys : List D} {P : D → Prop} {kin : Kin} {C C' : Addr} {gs : List (Str × D)} {Cs : List Addr} {da : DE} {ρ : Rh}
theorem q_mulW : dMulW (.int i) (.int j) P = ((i.natAbs < big4 ∧ j.natAbs < big4) ∧ P (.int (i * j))) := id rfl
theorem q_powW : dPowW (.int i) (.int j) P = ((0 ≤ j ∧ j ≤ 100 ∧ i.natAbs < big1) ∧ P (.int (i ^ j.toNat))) := id rfl
theorem q_int_i : dIntOf [.int i] P = P (.int i) := id rfl
theorem q_int_b {k : Bool} : dIntOf [.bl k] P = P (.int (if k then 1 else 0)) := id rfl
theorem q_ltA_i : dLtA (.int i) (.int j) P = P (.bl (decide (i < j))) := id rfl
theorem q_ltA_t : dLtA (.tup xs) (.tup ys) P = ∃ ns ms, xs = ns.map D.int ∧ ys = ms.map D.int ∧ P (.bl (HT.lexLt ns ms)) := id rfl
theorem q_isiC : dIsiC kin [.obj C gs, .fn C'] P = ∃ b, (C, C', b) ∈ kin ∧ P (.bl b) := id rfl
theorem q_mk0 : dMk0 C ρ P = P (.obj C []) := id rfl
def isiTK (kin : Kin) (Cs : List Addr) (P : D → Prop) (x : D) : Prop := match x with | .obj C _ => ∃ f : Addr → Bool, (∀ C' ∈ Cs, (C, C', f C') ∈ kin) ∧ P (.bl (Cs.any f)) | _ => False
theorem q_isiT : dIsiT kin Cs da ρ P = da ρ (isiTK kin Cs P) := id rfl
theorem q_isiTK : isiTK kin Cs P (.obj C gs) = ∃ f : Addr → Bool, (∀ C' ∈ Cs, (C, C', f C') ∈ kin) ∧ P (.bl (Cs.any f)) := id rfl
end
end DL
end
section
namespace DL
open PySem L2 PySem.Spec PyProof.Rows
def dedN (ns : List Int) : Nat := (PyProof.Rows.firstMet (fun i => ns.getD i 0) ns.length).length
section
variable {X : Cx} {F0 H0 : Hp} {e a b c k o : Expr} {pos p p2 q apos : Pos}
theorem intsV : ∀ {ns : List Int} {us : List Value}, Vals (ns.map V.int) us → PyProof.Rows.IntsAre us ns
  | [], _, .nil => .nil
  | n :: ns, _, .cons r t => by
    obtain ⟨k, rfl⟩ := r
    exact .cons n k (intsV t)
def tLenSetG (K : PySem.W.Frag) (ta : TE) : TE := fun σ H Q => ta σ H fun x H1 => ∃ (l : Addr) (ns : List Int), x = .ref l ∧ SqL K H1 l (ns.map V.int) ∧ ns.length ≤ 4000 ∧ Q (.int (dedN ns : Nat)) H1
theorem pe_lenSetG {ta : TE} (hc : X.calm = true) (hg : Gl X "len") (hm : X.mg "len" = none) (hg2 : Gl X "set") (hm2 : X.mg "set" = none) (ha : PE X a ta)
    (na : starEach [a] X.env = (false, eval a X.env) :: starEach [] X.env := by rfl) : PE X (.Call (.Name "len" p) [.Call (.Name "set" p2) [a] [] q] [] pos) (tLenSetG X.K ta) := by
  refine ⟨fun pins s σ H Q I h => ?_⟩
  refine Call_ (ld_blt I hg hm boot_len ?_)
  refine PyProof.Rows.callWith_builtin1 (PyProof.Rows.args_cons ?_ rfl) rfl rfl
  refine Call_ (ld_blt I hg2 hm2 boot_set ?_)
  refine PyProof.Rows.callWith_type1 (PyProof.Rows.args_cons (thn (ha.run pins s σ H _ I h) fun v s1 ⟨x, H1, I1, r1, q1⟩ => PyProof.Rows.args_nil ?_) na) na rfl
  obtain ⟨l, ns, rfl, hq, hl, q1⟩ := q1
  cases r1
  obtain ⟨its, r, pl, hz⟩ := I1.list hq
  have hlen : its.toArray.size = ns.length := by rw [List.size_toArray, ← r.length, List.length_map]
  refine call_set_list (I1.ok.hd hc) pl.isList (by simpa using intsV r) (by rw [hlen]; unfold scanBound; omega) fun h' tk hS hk => ?_
  refine PyProof.Rows.args_nil ?_
  rw [hlen] at hS
  have hle := PyProof.Rows.firstMet_length_le (fun i => ns.getD i 0) ns.length
  obtain ⟨o, es, ep, t, ho, hex, hd, _, _, _, hf, hn⟩ := hS
  have I2 : Inv X pins σ H1 { s1 with heap := h', toks := tk } := I1.kept fun b o e => hk b o (Heap.lt_size e) e
  exact call_len_set ho hex hd hf (by rw [hn] <;> omega) ⟨.int (dedN ns : Nat), H1, I2.tok _, ⟨_, by rw [hn] <;> rfl⟩, q1⟩
def lenSK2 (P : D → Prop) (ns : List Int) : Prop := ns.length ≤ 4000 ∧ P (.int (dedN ns : Nat))
def lenSK (P : D → Prop) (x : D) : Prop := match x with | .lst xs => onOpt (intsD xs) (lenSK2 P) | _ => False
def dLenSet (da : DE) : DE := fun ρ P => da ρ (lenSK P)
theorem le_lenSet {da : DE} (hc : X.calm = true) (hg : Gl X "len") (hm : X.mg "len" = none) (hg2 : Gl X "set") (hm2 : X.mg "set" = none) (ha : LB X F0 H0 a da)
    (na : starEach [a] X.env = (false, eval a X.env) :: starEach [] X.env := by rfl) : LE X F0 H0 (.Call (.Name "len" p) [.Call (.Name "set" p2) [a] [] q] [] pos) (dLenSet da) :=
  peW (pe_lenSetG hc hg hm hg2 hm2 ha na) fun σ H Q ⟨F, ρ, fps, P, E, q, kk⟩ => ⟨F, ρ, fps, _, E, q, fun x hx F1 H1 v e1 r1 => by
    cases x with
    | lst xs =>
      have hx : onOpt (intsD xs) (lenSK2 P) := hx
      obtain ⟨p, vs, rfl, s, r, hz⟩ := r1.lst e1.w
      cases hn : intsD xs with
      | none => rw [hn] at hx; exact hx.elim
      | some ns =>
        rw [hn] at hx
        obtain ⟨h1, h2⟩ : ns.length ≤ 4000 ∧ P (.int (dedN ns : Nat)) := hx
        rw [intsD_eq hn] at r
        rw [r.ints] at s
        exact ⟨p, ns, rfl, s, h1, kk _ h2 F1 H1 _ e1 (.int _)⟩
    | _ => exact hx.elim⟩
def rvLK2 (x : D) (P : D → Prop) (y : D) : Prop := match y with | .int i => i = -1 ∧ (match x with | .lst xs => P (.lst xs.reverse) | _ => False) | _ => False
def rvLK1 (dk : DE) (ρ : Rh) (P : D → Prop) (x : D) : Prop := dk ρ (rvLK2 x P)
def dRvL (da dk : DE) : DE := fun ρ P => da ρ (rvLK1 dk ρ P)
theorem ln_rvL {da dk : DE} (ha : LB X F0 H0 a da) (hk : LE X F0 H0 k dk) : LN X F0 H0 (.Subscript a (.Slice none none (some k) p2) pos) (dRvL da dk) :=
  peW (pe_rev ha hk) fun σ H Q ⟨F, ρ, fps, P, E, q, kk⟩ => ⟨F, ρ, fps, _, E, q, fun x hx F1 H1 v e1 r1 => ⟨F1, ρ, fps, _, E.ext e1, hx, fun y hy F2 H2 w e2 r2 => by
    cases y <;> first | exact hy.elim | skip
    obtain ⟨rfl, hy⟩ := hy
    cases r2
    refine ⟨rfl, ?_⟩
    have r1 := r1.ext e2
    cases x with
    | lst z =>
      obtain ⟨p, vs, rfl, s, r, hz⟩ := r1.lst e2.w
      refine .inr ⟨_, vs, rfl, s, fun l hl => ?_⟩
      have e12 := e1.trans e2
      exact kk _ hy F2 _ _ [l] (e12.trans ⟨.refl _, L2same_upd_new hl, e2.w.trans (L2same_upd_new hl), fun _ _ => rfl⟩) (.lst upd_same r.rev (by rw [List.length_reverse]; exact hz) (e2.w.free hl)) (by simp) fun a ha => by
        simp at ha; subst ha
        exact e12.h.free hl
    | _ => exact hy.elim⟩⟩
def rIns : V → List V → Hp → VK → Prop := fun x vs H Q => ∃ (l : Addr) (xs : List V) (i : Int) (y : V), x = .ref l ∧ vs = [.int i, y] ∧ H l = some (.lst xs) ∧ xs.length < sizeLine ∧ 0 ≤ i ∧ i < 2 ^ 63 ∧
    Q .non (upd H l (.lst (xs.take i.toNat ++ [y] ++ xs.drop i.toNat)))
theorem mt_ins : MtR X "list.insert" rIns := L2.mt_insert
def insK3 (E : DEn) (ρ : Rh) (i : Nat) (xs : List D) (j : Int) (y : D) : Prop := (xs.length < 16777216 ∧ 0 ≤ j ∧ j < 2 ^ 63) ∧ putS i (.ow (.lst (xs.take j.toNat ++ [y] ++ xs.drop j.toNat))) ρ E.nx
def insK2 (db : DE) (E : DEn) (ρ : Rh) (i : Nat) (xs : List D) (j : D) : Prop := match j with | .int j => db ρ (insK3 E ρ i xs j) | _ => False
def insK1 (da db : DE) (E : DEn) (ρ : Rh) (i : Nat) (x : D) : Prop := match x with | .lst xs => da ρ (insK2 db E ρ i xs) | _ => False
def dIns (i : Nat) (da db : DE) : DS := fun E ρ => match ρ[i]? with | some (.ow (.lst xs)) => da ρ (insK2 db E ρ i xs) | _ => False
theorem ls_ins {i : Nat} {da db : DE} (ho : PE X o (tVar i)) (ha : LE X F0 H0 a da) (hb : LE X F0 H0 b db) (h : ∀ te tf, PE X a te → PE X b tf → PE X (.Call (.Attribute o "insert" apos) [a, b] [] p) (tBM X.K "list" rIns (tVar i) (tCons te (tCons tf tNil))))
    (hs : swapsWith (.Call (.Attribute o "insert" apos) [a, b] [] p) none pos.line X.env = pure false := by rfl) : LS X F0 H0 (.Expr (.Call (.Attribute o "insert" apos) [a, b] [] p) pos) (dIns i da db) :=
  psW (ps_expr (h _ _ ha hb) hs) fun D σ H ⟨F, ρ, fps, E, R, q, k⟩ => by
    have look : ∀ xs, ρ[i]? = some (.ow (.lst xs)) → ∃ l vs, σ[i]? = some (some (.ref l)) ∧ fps[i]? = some [l] ∧ H l = some (.lst vs) ∧ RepL X.K F vs xs := fun xs h => by
      obtain ⟨x, fp, h1, h2, h3⟩ := R.s.get h
      cases h3 with
      | ow o => cases o with | lst g r z n => exact ⟨_, _, h1, h2, g, r⟩
    unfold dIns at q
    split at q
    · rename_i xs hr
      obtain ⟨l, vs, h1, h2, h3, h4⟩ := look xs hr
      refine ⟨_, h1, .inl ⟨rfl, vs, .of h3⟩, F, ρ, fps, _, R, q, fun j hj F1 H1 v e1 r1 => ?_⟩
      cases j <;> first | exact hj.elim | skip
      rename_i j
      cases r1
      refine ⟨F1, ρ, fps, _, R.ext e1, hj, fun y hy F2 H2 w e2 r2 => ?_⟩
      have e12 := e1.trans e2
      have R1 := R.ext e12
      have g1 := e12.h _ _ h3
      obtain ⟨⟨hz, hj0, hj1⟩, hy⟩ := hy
      have hl := h4.length
      have h5 := h4.mono e12.f
      refine ⟨l, vs, j, w, rfl, rfl, g1, by rw [sizeLine_eq, hl]; omega, hj0, hj1, k.nx F2 _ _ _ _ e12.f (R1.updOwn h2 h1 (.lst upd_same (((h5.take j.toNat).append (.cons r2 .nil)).append (h5.drop j.toNat)) (by rw [sizeLine_eq]; simp; omega) ?_)) hy⟩
      rw [e12.o l (by rw [h3]; simp)]
      exact (fps_there R.s l (List.mem_flatten.mpr ⟨_, List.mem_of_getElem? h2, by simp⟩)).1
    · exact q.elim
end
section
variable {xs : List D} {P : D → Prop} {da db dk : DE} {ρ : Rh} {i : Nat} {E : DEn} {j : Int} {y x : D} {ns : List Int}
theorem q_lenS : dLenSet da ρ P = da ρ (lenSK P) := id rfl
theorem q_lenSK : lenSK P (.lst xs) = onOpt (intsD xs) (lenSK2 P) := id rfl
theorem q_lenSK2 : lenSK2 P ns = (ns.length ≤ 4000 ∧ P (.int (dedN ns : Nat))) := id rfl
theorem q_rvL : dRvL da dk ρ P = da ρ (rvLK1 dk ρ P) := id rfl
theorem q_rvLK1 : rvLK1 dk ρ P x = dk ρ (rvLK2 x P) := id rfl
theorem q_rvLK2 : rvLK2 (.lst xs) P (.int j) = (j = -1 ∧ P (.lst xs.reverse)) := id rfl
theorem q_ins : dIns i da db E ρ = getO i ρ (insK1 da db E ρ i) := by
  unfold dIns getO
  cases ρ[i]? with
  | none => rfl
  | some s => cases s <;> first | rfl | (rename_i x; cases x <;> rfl)
theorem q_insK1 : insK1 da db E ρ i (.lst xs) = da ρ (insK2 db E ρ i xs) := id rfl
theorem q_insK2 : insK2 db E ρ i xs (.int j) = db ρ (insK3 E ρ i xs j) := id rfl
theorem q_insK3 : insK3 E ρ i xs j y = ((xs.length < 16777216 ∧ 0 ≤ j ∧ j < 2 ^ 63) ∧ putS i (.ow (.lst (xs.take j.toNat ++ [y] ++ xs.drop j.toNat))) ρ E.nx) := id rfl
end
theorem or_fin {k : Bool} {dt : DT} {ρ : Rh} {d1 d2 : DS} {E : DEn} (Pv : Rh → Prop) (h0 : ∀ r, Pv r → E.nx r) (ht : ∀ PB : Bool → Prop, (∀ b, PB b) → dt ρ PB) (h1 : ∀ nx : Rh → Prop, (∀ r, Pv r → nx r) → d1 { E with nx := nx } ρ) (h2 : ∀ nx : Rh → Prop, (∀ r, Pv r → nx r) → d2 { E with nx := nx } ρ) : ifB k (bT (ifSK d1 d2 E ρ) true) (teT dt ρ (ifSK d1 d2 E ρ)) := by
  cases k with
  | true => exact h1 _ h0
  | false =>
    refine ht _ fun b => ?_
    cases b with
    | true => exact h1 _ h0
    | false => exact h2 _ h0
theorem and_fin {k : Bool} {dt : DT} {ρ : Rh} {d1 d2 : DS} {E : DEn} (Pv : Rh → Prop) (T : Prop) (h0 : ∀ r, Pv r → E.nx r) (ht : k = true → ∀ PB : Bool → Prop, (T → PB true) → (¬ T → PB false) → dt ρ PB) (h1 : k = true → T → ∀ nx : Rh → Prop, (∀ r, Pv r → nx r) → d1 { E with nx := nx } ρ) (h2 : ∀ nx : Rh → Prop, (∀ r, Pv r → nx r) → d2 { E with nx := nx } ρ) : ifB k (teT dt ρ (ifSK d1 d2 E ρ)) (bT (ifSK d1 d2 E ρ) false) := by
  cases k with
  | false => exact h2 _ h0
  | true => exact ht rfl _ (fun t => h1 rfl t _ h0) fun _ => h2 _ h0
theorem vand_fin {k : Bool} {da : DE} {ρ : Rh} {P : D → Prop} (b : Bool) (h0 : P (.bl (k && b))) (ht : k = true → ∀ P : D → Prop, P (.bl b) → da ρ P) : ifB k (veT da ρ P) (cT P false) := by
  cases k with
  | false => exact h0
  | true => exact ht rfl P h0
end DL
end
section
namespace DL
open PySem L2
theorem same_seqL {K : PySem.W.Frag} {H H' : Hp} {a : Addr} {xs : List V} (e : Same H H') (h : SqL K H a xs) : SqL K H' a xs := by
  rcases h with (h | ⟨o, h⟩) | h
  · exact .inl (.inl (e _ _ h))
  · exact .inl (.inr ⟨o, e _ _ h⟩)
  · exact .inr h
def dgL (n : Nat) (u : DGs) : DG := fun x ρ P => match x with | .lst xs => xs.length = n ∧ u xs ρ P | _ => False
theorem lg_l {K : PySem.W.Frag} {n : Nat} {gs : TGs} {ds : DGs} {is : List Nat} (h : LowGs K gs ds is) : LowG K (gLst K n gs) (dgL n ds) is := fun F0 H0 F H σ ρ fps v x P Q R r d k => by
  unfold dgL at d
  cases x <;> first | exact d.elim | skip
  cases r with
  | lst s z r => exact ⟨_, _, rfl, same_seqL R.x.w s, by rw [r.length]; exact d.1, h F0 H0 F H σ ρ fps _ _ P Q R r d.2 k⟩
section
variable {xs : List D} {n : Nat} {u : DGs} {ρ : Rh} {P : Rh → Prop}
theorem q_gL : dgL n u (.lst xs) ρ P = (xs.length = n ∧ u xs ρ P) := id rfl
end
end DL
end
section
namespace DL
open PySem L2
section
variable {X : Cx} {F0 H0 : Hp} {e a b c o : Expr} {pos p apos : Pos}
/-- y = x.pop(), x an own list -/
def popK (dg : DG) (E : DEn) (ρ : Rh) (i : Nat) (x : D) : Prop := match x with | .lst xs => ∃ ys y, xs = ys ++ [y] ∧ dg y (ρ.set i (.ow (.lst ys))) E.nx | _ => False
def dPop (i : Nat) (dg : DG) : DS := fun E ρ => match ρ[i]? with | some (.ow x) => popK dg E ρ i x | _ => False
theorem RepL.split {K : PySem.W.Frag} {F : Hp} : ∀ {vs : List V} {ys : List D} {y : D}, RepL K F vs (ys ++ [y]) → ∃ us v, vs = us ++ [v] ∧ RepL K F us ys ∧ Rep K F v y
  | _, [], _, .cons r .nil => ⟨[], _, rfl, .nil, r⟩
  | _, _ :: ys, _, .cons r rs => by
    obtain ⟨us, v, rfl, h1, h2⟩ := RepL.split rs
    exact ⟨_ :: us, v, rfl, .cons r h1, h2⟩
theorem ls_pop {tg : Expr} {g : TG} {i : Nat} {dg : DG} {is : List Nat} (h : ∀ te, PE X e te → PS X (.Assign [tg] e pos) (tAsg te g)) (hg : LowG X.K g dg is) (he : PE X e (tBM0 X.K "list" rPop (tVar i))) : LS X F0 H0 (.Assign [tg] e pos) (dPop i dg) :=
  psW (h _ he) fun D σ H ⟨F, ρ, fps, E, R, q, k⟩ => by
    unfold dPop at q
    split at q
    · rename_i x hr
      obtain ⟨w, fp, h1, h2, h3⟩ := R.s.get hr
      cases x <;> first | exact q.elim | skip
      rename_i xs
      obtain ⟨ys, y, rfl, q⟩ := q
      cases h3 with
      | ow o =>
        cases o with
        | lst g0 r z n =>
          obtain ⟨us, v, rfl, ru, rv⟩ := r.split
          have hl := ru.length
          refine ⟨_, h1, .inl ⟨rfl, _, .of g0⟩, _, _, v, rfl, rfl, g0, by simp, ?_⟩
          rw [List.dropLast_concat]
          have R1 := R.updOwn (u := .lst us) h2 h1 (.lst upd_same ru (by simp at z; omega) n)
          exact hg F0 H0 F _ σ _ fps v y _ _ R1 rv q fun ρ' p σ' fps' _ R' => k.nx F _ σ' ρ' fps' (.refl F) R' p
    · exact q.elim
end
section
variable {i : Nat} {dg : DG} {E : DEn} {ρ : Rh} {xs : List D}
theorem q_pop : dPop i dg E ρ = getO i ρ (popK dg E ρ i) := by
  unfold dPop getO
  cases ρ[i]? with
  | none => rfl
  | some s => cases s <;> rfl
end
theorem popK_intro {dg : DG} {E : DEn} {ρ : Rh} {i : Nat} {ys : List D} {y : D} (h : dg y (ρ.set i (.ow (.lst ys))) E.nx) : popK dg E ρ i (.lst (ys ++ [y])) := ⟨ys, y, rfl, h⟩
section
variable {X : Cx} {F0 H0 : Hp} {e a b c o : Expr} {pos p p2 p3 apos apos2 : Pos} {CX : CXT} {k : Nat} {f C : Addr} {fd : FuncData} {ps : List Str} {S : DISpec} {EE : XK} {x : Str}
/-- x.append(C(x.pop())), x an own list -/
def appMkK (C : Addr) (S : DISpec) (E : DEn) (ρ : Rh) (i : Nat) (x : D) : Prop := match x with | .lst xs => ∃ ys y, xs = ys ++ [y] ∧ S [y] (fun gs => ys.length < sizeLine ∧ E.nx (ρ.set i (.ow (.lst (ys ++ [.obj C gs]))))) | _ => False
def dAppMk (i : Nat) (C : Addr) (S : DISpec) : DS := fun E ρ => match ρ[i]? with | some (.ow x) => appMkK C S E ρ i x | _ => False
theorem ls_appMk {i : Nat} (M : Mk X.K C f) (F : FnOk X.prog X.w X.K X.mg X.base CX k f fd ps (lowInit X.K C S)) (hr : Room (k + 1) X.A) (hg : Gl X x) (hm : X.mg x = some (.ref C)) (hb : Binds X.K fd ps []) (hx : Passes CX X EE)
    (hp : PE X e (tBM0 X.K "list" rPop (tVar i))) (h : ∀ te, PE X (.Call (.Name x p2) [e] [] p3) te → PE X (.Call (.Attribute o "append" apos) [.Call (.Name x p2) [e] [] p3] [] p) (tBM X.K "list" rAppend (tVar i) (tCons te tNil)))
    (hs : swapsWith (.Call (.Attribute o "append" apos) [.Call (.Name x p2) [e] [] p3] [] p) none pos.line X.env = pure false := by rfl)
    (hdb : (x == ("__debug__" : Str)) = false := by decide) (he : starEach [e] X.env = (false, eval e X.env) :: starEach [] X.env := by rfl) (hpl : (backTo p3 (starEach [] X.env)).any (·.1) = false := by rfl) :
    LS X F0 H0 (.Expr (.Call (.Attribute o "append" apos) [.Call (.Name x p2) [e] [] p3] [] p) pos) (dAppMk i C S) :=
  psW (ps_expr (h _ (pe_make M F hr hg hm hb .nil hx (pa_cons hp pa_nil he) hdb he hpl)) hs) fun D σ H ⟨F, ρ, fps, E, R, q, k⟩ => by
    unfold dAppMk at q
    split at q
    · rename_i z hr
      cases z <;> first | exact q.elim | skip
      rename_i xs
      have look : ∃ l vs, σ[i]? = some (some (.ref l)) ∧ fps[i]? = some [l] ∧ H l = some (.lst vs) ∧ RepL X.K F vs xs ∧ xs.length ≤ sizeLine ∧ F l = none := by
        obtain ⟨x, fp, h1, h2, h3⟩ := R.s.get hr
        cases h3 with
        | ow o => cases o with | lst g r z n => exact ⟨_, _, h1, h2, g, r, z, n⟩
      obtain ⟨l, vs, h1, h2, g0, r, z, n⟩ := look
      obtain ⟨ys, y, rfl, q⟩ := q
      obtain ⟨us, v, rfl, ru, rv⟩ := r.split
      have hl := ru.length
      refine ⟨_, h1, .inl ⟨rfl, _, .of g0⟩, ?_⟩
      refine ⟨_, h1, .inl ⟨rfl, _, .of g0⟩, _, _, v, rfl, rfl, g0, by simp, ?_⟩
      rw [List.dropLast_concat]
      have R1 := R.updOwn (u := .lst us) h2 h1 (.lst upd_same ru (by simp at z; omega) n)
      intro xx dx nx ndx ne
      refine ⟨F, _, xx, dx, [v], [y], _, by rw [List.append_nil], rfl, nx, ndx, ne, R1.x.w, .cons rv .nil, q, fun gs hgs F2 H2 e2 r2 => ⟨rfl, ?_⟩⟩
      have R2 := R1.ext e2
      have g1 := e2.h _ _ (upd_same (H := H) (a := l) (o := .lst us))
      have R3 := R2.updOwn (u := .lst (us ++ [_])) h2 h1 (.lst upd_same ((ru.mono e2.f).append (.cons r2 .nil)) (by have := hgs.1; simp; omega) (by
        rw [e2.o l (by rw [upd_same]; simp)]
        exact n))
      rw [List.set_set] at R3
      exact ⟨l, us, _, rfl, rfl, g1, by rw [hl]; exact hgs.1, k.nx F2 _ _ _ _ e2.f R3 hgs.2⟩
    · exact q.elim
theorem ls_appMkG {i k : Nat} {C : Addr} {S : DISpec} (hM : MkG X.prog X.w X.K X.mg X.base x C k S) (hr : Room (k + 1) X.A) (hg : Gl X x) (hx : Passes CX0 X EE)
    (hp : PE X e (tBM0 X.K "list" rPop (tVar i))) (h : ∀ te, PE X (.Call (.Name x p2) [e] [] p3) te → PE X (.Call (.Attribute o "append" apos) [.Call (.Name x p2) [e] [] p3] [] p) (tBM X.K "list" rAppend (tVar i) (tCons te tNil)))
    (hs : swapsWith (.Call (.Attribute o "append" apos) [.Call (.Name x p2) [e] [] p3] [] p) none pos.line X.env = pure false := by rfl)
    (hdb : (x == ("__debug__" : Str)) = false := by decide) (he : starEach [e] X.env = (false, eval e X.env) :: starEach [] X.env := by rfl) (hpl : (backTo p3 (starEach [] X.env)).any (·.1) = false := by rfl) :
    LS X F0 H0 (.Expr (.Call (.Attribute o "append" apos) [.Call (.Name x p2) [e] [] p3] [] p) pos) (dAppMk i C S) := by
  obtain ⟨f, fd, ps, M, F, hm, hb⟩ := hM
  exact ls_appMk M F hr hg hm hb hx hp h hs hdb he hpl
end
section
variable {i : Nat} {C : Addr} {S : DISpec} {E : DEn} {ρ : Rh}
theorem q_appMk : dAppMk i C S E ρ = getO i ρ (appMkK C S E ρ i) := by
  unfold dAppMk getO
  cases ρ[i]? with
  | none => rfl
  | some s => cases s <;> rfl
end
theorem appMkK_intro {C : Addr} {S : DISpec} {E : DEn} {ρ : Rh} {i : Nat} {ys : List D} {y : D} (h : S [y] (fun gs => ys.length < sizeLine ∧ E.nx (ρ.set i (.ow (.lst (ys ++ [.obj C gs])))))) : appMkK C S E ρ i (.lst (ys ++ [y])) := ⟨ys, y, rfl, h⟩
end DL
end
section
namespace DL
open PySem L2
inductive SRep (K : PySem.W.Frag) (F0 H0 F : Hp) : V → D → Prop
  | sh {v : V} {d : D} : Rep K F v d → SRep K F0 H0 F v d
  | bo {a : Addr} {vs : List V} {xs : List D} : H0 a = some (.lst vs) → RepL K F0 vs xs → SRep K F0 H0 F (.ref a) (.lst xs)
theorem SRep.mono {K : PySem.W.Frag} {F0 H0 F F' : Hp} (e : Same F F') {v : V} {d : D} : SRep K F0 H0 F v d → SRep K F0 H0 F' v d
  | .sh r => .sh (r.mono e)
  | .bo h r => .bo h r
inductive SRepL (K : PySem.W.Frag) (F0 H0 F : Hp) : List V → List D → Prop
  | nil : SRepL K F0 H0 F [] []
  | cons {v : V} {vs : List V} {d : D} {ds : List D} : SRep K F0 H0 F v d → SRepL K F0 H0 F vs ds → SRepL K F0 H0 F (v :: vs) (d :: ds)
def lowAS (K : PySem.W.Frag) (F0 H0 : Hp) (d : DA) : TA := fun σ H Q => ∃ F ρ fps P, ERep K F0 H0 F H σ ρ fps ∧ d ρ P ∧ ∀ xs, P xs → ∀ F' H' vs, Ext F H F' H' → SRepL K F0 H0 F' vs xs → Q vs H'
abbrev LAS (X : Cx) (F0 H0 : Hp) (es : List Expr) (d : DA) : Prop := PA X es (lowAS X.K F0 H0 d)
def dVarS (i : Nat) : DE := fun ρ P => match ρ[i]? with | some (.sh d) => P d | some (.bo (.lst xs)) => P (.lst xs) | _ => False
section
variable {X : Cx} {F0 H0 : Hp} {e a b : Expr} {es : List Expr} {pos p : Pos}
theorem las_nil : LAS X F0 H0 [] dNil := paW pa_nil fun σ H Q ⟨F, ρ, fps, P, E, q, k⟩ => k _ q F H _ (.refl E.x.w) .nil
theorem las_sh {da : DE} {dr : DA} (ha : LE X F0 H0 e da) (hr : LAS X F0 H0 es dr) (hs : starEach (e :: es) X.env = (false, eval e X.env) :: starEach es X.env := by rfl) : LAS X F0 H0 (e :: es) (dCons da dr) :=
  paW (pa_cons ha hr hs) fun σ H Q ⟨F, ρ, fps, P, E, q, k⟩ => ⟨F, ρ, fps, _, E, q, fun x hx F1 H1 v e1 r1 =>
    ⟨F1, ρ, fps, _, E.ext e1, hx, fun y hy F2 H2 w e2 r2 => k _ hy F2 H2 _ (e1.trans e2) (.cons (.sh (r1.mono e2.f)) r2)⟩⟩
theorem las_bo {i : Nat} {dr : DA} (ha : PE X e (tVar i)) (hr : LAS X F0 H0 es dr) (hs : starEach (e :: es) X.env = (false, eval e X.env) :: starEach es X.env := by rfl) : LAS X F0 H0 (e :: es) (dCons (dVarS i) dr) :=
  paW (pa_cons ha hr hs) fun σ H Q ⟨F, ρ, fps, P, E, q, k⟩ => by
    have fin : ∀ v x, SRep X.K F0 H0 F v x → dr ρ (fun xs => P (x :: xs)) → σ[i]? = some (some v) → tVar i σ H fun v H' => lowAS X.K F0 H0 dr σ H' fun vs => Q (v :: vs) := fun v x r hx hv =>
      ⟨v, hv, F, ρ, fps, _, E, hx, fun y hy F2 H2 w e2 r2 => k _ hy F2 H2 _ e2 (.cons (r.mono e2.f) r2)⟩
    change dVarS i ρ (fun x => dr ρ fun xs => P (x :: xs)) at q
    unfold dVarS at q
    cases hs : ρ[i]? with
    | none => rw [hs] at q; exact q.elim
    | some sl =>
      rw [hs] at q
      obtain ⟨y, fp, h1, _, h3⟩ := E.s.get hs
      cases sl with
      | sh d =>
        cases h3 with
        | sh r => exact fin _ _ (.sh r) q h1
      | bo d =>
        cases h3 with
        | bo r =>
          cases d <;> first | exact q.elim | skip
          rcases r with r | ⟨fp, o, nt⟩
          · exact fin _ _ (.sh (r.mono E.x.f)) q h1
          · cases o with
            | lst h r z n => exact fin _ _ (.bo h r) q h1
      | _ => exact q.elim
theorem src_hasS {K : PySem.W.Frag} {F0 H0 F H F1 : Hp} {v : V} {x : D} {xs : List D} {S : Src} (r : SRep K F0 H0 F v x) (e0 : Same F0 F) (e : Same F F1) (w : Same F1 H) (w0 : Same H0 H) (h : zipItems x = some xs) (so : ∃ G, SrcOf K G v S) :
    S.len K H xs.length ∧ ∀ i u y, S.has K H i u → xs[i]? = some y → Rep K F1 u y := by
  cases r with
  | sh r => exact src_has r e w h so
  | bo hb r =>
    cases h
    obtain ⟨G, so⟩ := so
    cases so with
    | ls s' =>
      refine ⟨⟨_, .of (w0 _ _ hb), r.length.symm⟩, fun i u y q1 hy => ?_⟩
      obtain ⟨u', hu, ru⟩ := r.getD hy
      have := q1 _ (.of (w0 _ _ hb))
      rw [hu] at this
      cases this
      exact ru.mono (e0.trans e)
theorem it_zipS {K : PySem.W.Frag} {F0 H0 F G : Hp} {v w : V} {x y : D} {xs ys : List D} {S1 S2 : Src} (e0 : Same F0 F) (r1 : SRep K F0 H0 F v x) (r2 : SRep K F0 H0 F w y) (h1 : zipItems x = some xs) (h2 : zipItems y = some ys) (s1 : SrcOf K G v S1) (s2 : SrcOf K G w S2) :
    ItRepB K F H0 (ItzG K S1 S2) ((xs.zip ys).map fun p => .tup [p.1, p.2]) where
  go := fun H i e w0 hi => by
    have a1 := (src_hasS r1 e0 (.refl F) e w0 h1 ⟨G, s1⟩).1
    have a2 := (src_hasS r2 e0 (.refl F) e w0 h2 ⟨G, s2⟩).1
    simp at hi
    exact ⟨_, _, a1, a2, by omega, by omega⟩
  stop := fun H e w0 => by
    have a1 := (src_hasS r1 e0 (.refl F) e w0 h1 ⟨G, s1⟩).1
    have a2 := (src_hasS r2 e0 (.refl F) e w0 h2 ⟨G, s2⟩).1
    refine ⟨_, _, a1, a2, ?_, ?_, ?_⟩ <;> simp <;> omega
  yld := fun F1 H i u H' z e1 e2 w0 q hz => by
    have a1 := (src_hasS r1 e0 e1 e2 w0 h1 ⟨G, s1⟩).2
    have a2 := (src_hasS r2 e0 e1 e2 w0 h2 ⟨G, s2⟩).2
    obtain ⟨T, u1, u2, rfl, nT, rfl, p1, p2⟩ := q
    simp only [List.getElem?_map] at hz
    cases hq : (xs.zip ys)[i]? with
    | none => rw [hq] at hz; cases hz
    | some p =>
      rw [hq] at hz
      cases hz
      obtain ⟨g1, g2⟩ := List.getElem?_zip_eq_some.mp hq
      exact ⟨_, .new e2 nT, rep_newT e2 nT (.cons (a1 _ _ _ p1 g1) (.cons (a2 _ _ _ p2 g2) .nil)) (by show 2 ≤ sizeLine; decide)⟩
theorem srep_src {K : PySem.W.Frag} {F0 H0 F H : Hp} {v : V} {x : D} {xs : List D} (r : SRep K F0 H0 F v x) (e : Same F H) (w0 : Same H0 H) (h : zipItems x = some xs) : (∃ z, v = .str z) ∨ ∃ a vs, v = .ref a ∧ SqL K H a vs := by
  cases r with
  | sh r => exact rep_src r e h
  | bo hb r => exact .inr ⟨_, _, rfl, .of (w0 _ _ hb)⟩
theorem li_zipS {da : DA} {tpos : Pos} {elts : List Expr} {kk : Nat} (hg : Gl X "zip") (hm : X.mg "zip" = none) (ha : LAS X F0 H0 [a, b] da)
    (hs : starEach [a, b] X.env = (false, eval a X.env) :: starEach [b] X.env := by rfl) (hpl : (backTo pos (starEach [b] X.env)).any (·.1) = false := by rfl) :
    LI X F0 H0 (.Tuple elts kk tpos) (.Call (.Name "zip" p) [a, b] [] pos) (dZip da) :=
  piW (pi_zipG hg hm ha hs hpl) fun σ H R ⟨F, ρ, fps, P, E, q, k⟩ => ⟨F, ρ, fps, _, E, q, fun vs hx F1 H1 us e1 r1 => by
    split at hx
    · cases r1 with
      | cons r rr =>
        cases rr with
        | cons r' rr =>
          cases rr
          split at hx
          · rename_i h1 h2
            exact ⟨_, _, rfl, srep_src r e1.w (E.x.h.trans e1.h) h1, srep_src r' e1.w (E.x.h.trans e1.h) h2, fun S1 S2 s1 s2 => k _ hx F1 H1 _ e1 (it_zipS (E.x.f.trans e1.f) r r' h1 h2 s1 s2)⟩
          · exact False.elim hx
    · exact False.elim hx⟩
end
section
variable {i : Nat} {ρ : Rh} {d : D} {s : Sl} {xs : List D} {P : D → Prop}
theorem q_varS0b : (dVarS 0 (.bo (.lst xs) :: ρ) P) = P (.lst xs) := id rfl
theorem q_varS0s : (dVarS 0 (.sh d :: ρ) P) = P d := id rfl
theorem q_varSSb : (dVarS (i + 1) (s :: ρ) P) = dVarS i ρ P := id rfl
end
section
variable {i : Nat} {ρ : Rh} {d : D} {s : Sl} {PL : List D → Prop}
theorem q_itB0 : (dItB 0 (.bo d :: ρ) PL) = onOpt (itemsD d) PL := by
  show (match itemsD d with | some xs => PL xs | none => False) = _
  unfold onOpt
  cases itemsD d <;> rfl
theorem q_itB0s : (dItB 0 (.sh d :: ρ) PL) = onOpt (itemsD d) PL := by
  show (match itemsD d with | some xs => PL xs | none => False) = _
  unfold onOpt
  cases itemsD d <;> rfl
theorem q_itBS : (dItB (i + 1) (s :: ρ) PL) = dItB i ρ PL := id rfl
end
def repT (n : Nat) (x : Tx) : Tx := (List.replicate n x).flatten
theorem rep_fold (x : Array Nat) : ∀ (n : Nat) (a : Array Nat), (List.replicate n x).foldl (· ++ ·) a = a ++ (List.replicate n x.toList).flatten.toArray
  | 0, a => by simp
  | n + 1, a => by
    rw [List.replicate_succ, List.foldl_cons, rep_fold x n (a ++ x), List.replicate_succ, List.flatten_cons]
    apply Array.toList_inj.mp
    simp
theorem repT_len (n : Nat) (x : Tx) : (repT n x).length = n * x.length := by simp [repT]
def rMulS : R2 := fun v w H Q => ∃ x n, v = .str x ∧ w = .int n ∧ (0 ≤ n ∧ n ≤ 1000 ∧ x.length ≤ 1000) ∧ Q (.str (strOf (repT n.toNat (txOf x)))) H
section
variable {X : Cx} {F0 H0 : Hp} {e a b : Expr} {pos p : Pos}
theorem op_mulS : OpR X (binaryOp .Mult) rMulS := by
  intro pins s σ H v w u u' Q I rv rw' h
  obtain ⟨x, n, rfl, rfl, ⟨h0, h1, h2⟩, q⟩ := h
  obtain ⟨t, rfl⟩ := rv
  obtain ⟨t', rfl⟩ := rw'
  have sz : ∀ y : Str, y = strOf (repT n.toNat (txOf x)) → y.length ≤ sizeLine := fun y e => by
    rw [e, strOf_len, repT_len, szl]
    have hx : (txOf x).length ≤ 1000 := h2
    have : n.toNat * (txOf x).length ≤ 1000 * 1000 := Nat.mul_le_mul (by omega) hx
    omega
  have hn : x.length * n.toNat ≤ 1000 * 1000 := Nat.mul_le_mul h2 (by omega)
  refine PySem.P.mul_str ?_ (fun g _ => ?_) (fun g _ => ?_) ?_
  · simp only [Bool.or_eq_false_iff, decide_eq_false_iff_not]
    constructor <;> omega
  · have : (1000 : Int) ≤ (2 ^ 63 - 1) / n := by
      rw [Int.le_ediv_iff_mul_le (by omega)]
      omega
    omega
  · unfold Builtin.Str.tooLong
    rw [decide_eq_false]
    rw [szl]; omega
  · by_cases g : n < 1
    · rw [if_pos g]
      have e : (Str.empty : Str) = strOf (repT n.toNat (txOf x)) := by
        have : n.toNat = 0 := by omega
        rw [this]; rfl
      rw [e]
      exact ⟨sz _ rfl, .str _, H, I.tok _, ⟨_, rfl⟩, q⟩
    · rw [if_neg g]
      by_cases g2 : (n == 1 || x.length == 0) = true
      · rw [if_pos g2]
        have e : x = strOf (repT n.toNat (txOf x)) := by
          simp only [Bool.or_eq_true, beq_iff_eq] at g2
          rcases g2 with e | e
          · rw [e]
            show x = strOf (repT 1 (txOf x))
            have : repT 1 (txOf x) = txOf x := by simp [repT]
            rw [this, strOf_txOf]
          · have ex : txOf x = [] := List.eq_nil_of_length_eq_zero (by have e' : x.cps.size = 0 := e; simpa [txOf] using e')
            have : repT n.toNat (txOf x) = txOf x := by rw [ex]; simp [repT]
            rw [this, strOf_txOf]
        refine ⟨.str x, H, I, ⟨_, rfl⟩, ?_⟩
        rw [← e] at q
        exact q
      · rw [if_neg g2]
        have e : (⟨(List.replicate n.toNat x.cps).foldl (· ++ ·) #[]⟩ : Str) = strOf (repT n.toNat (txOf x)) := by
          rw [rep_fold]
          simp [strOf, repT, txOf]
        rw [e]
        exact ⟨sz _ rfl, .str _, H, I.tok _, ⟨_, rfl⟩, q⟩
def dMulS : DR2
  | .str x, .int n, P => (0 ≤ n ∧ n ≤ 1000 ∧ x.length ≤ 1000) ∧ P (.str (repT n.toNat x))
  | _, _, _ => False
theorem low_mulS {K : PySem.W.Frag} : LowR2 K rMulS dMulS := by
  intro F H v w x y P Q e bx byy d k
  unfold dMulS at d
  split at d
  · rename_i x n
    obtain ⟨rfl, h1, h2⟩ := bx.str
    refine ⟨_, n, rfl, byy.int, ⟨d.1.1, d.1.2.1, by rw [strOf_len]; exact d.1.2.2⟩, k _ d.2 F H _ (.refl e) ?_⟩
    rw [txOf_strOf]
    refine .str _ ?_ (okTx_sub h2 fun c hc => ?_)
    · rw [repT_len, szl]
      have : n.toNat * x.length ≤ 1000 * 1000 := Nat.mul_le_mul (by omega) d.1.2.2
      omega
    · simp only [repT, List.mem_flatten, List.mem_replicate] at hc
      obtain ⟨l, ⟨_, rfl⟩, hc⟩ := hc
      exact hc
  · exact d.elim
theorem le_mulS {da db : DE} (ha : LB X F0 H0 a da) (hb : LB X F0 H0 b db) : LE X F0 H0 (.BinOp a .Mult b pos) (dOp dMulS da db) := le_op low_mulS op_mulS ha hb
/-- a slice of a tuple that is not the whole of it -/
def dCutT (lo hi : Option Int) : DR1
  | .tup xs, P => ¬ (HT.sIx xs.length 0 lo = 0 ∧ HT.sIx xs.length xs.length hi = xs.length) ∧ P (.tup (cut xs lo hi))
  | _, _ => False
theorem low_slT {K : PySem.W.Frag} (lo hi : Option Int) : LowR1 K (fun x H Q => rSlT K x lo hi H Q) (dCutT lo hi) := by
  intro F H v x P Q e bx d k
  unfold dCutT at d
  split at d
  · obtain ⟨p, vs, rfl, s, r, z⟩ := bx.tup e
    exact ⟨p, vs, rfl, s, by rw [r.length]; exact d.1, fun p hp => k _ d.2 _ _ _ (.new e hp) (rep_newT e hp (r.cut lo hi) (Nat.le_trans (cut_length _ _ _) z))⟩
  · exact d.elim
def dSlT (da : DE) (dl dh : DO) : DE := fun ρ P => da ρ fun x => dl ρ fun lo => dh ρ fun hi => dCutT lo hi x P
theorem le_slT {da : DE} {dl dh : DO} {lo hi : Option Expr} {p2 : Pos} (ha : LB X F0 H0 a da) (hl : LO X F0 H0 lo dl) (hh : LO X F0 H0 hi dh) : LE X F0 H0 (.Subscript a (.Slice lo hi none p2) pos) (dSlT da dl dh) :=
  peW (pe_slice (r := rSlT X.K) sl_tup ha hl hh) fun σ H Q ⟨F, ρ, fps, P, E, q, k⟩ => ⟨F, ρ, fps, _, E, q, fun x hx F1 H1 v e1 r1 =>
    ⟨F1, ρ, fps, _, E.ext e1, hx, fun o1 h1 F2 H2 e2 => ⟨F2, ρ, fps, _, (E.ext e1).ext e2, h1, fun o2 h2 F3 H3 e3 =>
      low_slT o1 o2 F3 H3 v x P Q e3.w ((r1.ext e2).ext e3) h2 fun z pz F4 H4 u e4 r4 => k z pz F4 H4 u (((e1.trans e2).trans e3).trans e4) r4⟩⟩⟩
end
section
variable {da db : DE} {dl dh : DO} {ρ : Rh} {P : D → Prop} {x : Tx} {n : Int} {xs : List D} {y : D} {lo hi : Option Int}
def slT1 (dl dh : DO) (ρ : Rh) (P : D → Prop) (x : D) : Prop := dl ρ (fun lo => dh ρ fun hi => dCutT lo hi x P)
def slT2 (x : D) (dh : DO) (ρ : Rh) (P : D → Prop) (lo : Option Int) : Prop := dh ρ fun hi => dCutT lo hi x P
def slT3 (x : D) (lo : Option Int) (P : D → Prop) (hi : Option Int) : Prop := dCutT lo hi x P
theorem q_slT : (dSlT da dl dh ρ P) = (da ρ (slT1 dl dh ρ P)) := id rfl
theorem q_slT1 : (slT1 dl dh ρ P y) = (dl ρ (slT2 y dh ρ P)) := id rfl
theorem q_slT2 : (slT2 y dh ρ P lo) = (dh ρ (slT3 y lo P)) := id rfl
theorem q_slT3 : (slT3 y lo P hi) = (dCutT lo hi y P) := id rfl
theorem q_cutT : (dCutT lo hi (.tup xs) P) = (¬ (HT.sIx xs.length 0 lo = 0 ∧ HT.sIx xs.length xs.length hi = xs.length) ∧ P (.tup (cut xs lo hi))) := id rfl
theorem q_mulS : (dMulS (.str x) (.int n) P) = ((0 ≤ n ∧ n ≤ 1000 ∧ x.length ≤ 1000) ∧ P (.str (repT n.toNat x))) := id rfl
end
def dStrOf : List D → (D → Prop) → Prop
  | [.int i], P => (0 ≤ i ∧ i < 10) ∧ P (.str [48 + i.toNat])
  | _, _ => False
theorem str_fig : ∀ n : Nat, n < 10 → txOf ((toString (n : Int) : String) : Str) = [48 + n]
  | 0, _ => by decide +kernel
  | 1, _ => by decide +kernel
  | 2, _ => by decide +kernel
  | 3, _ => by decide +kernel
  | 4, _ => by decide +kernel
  | 5, _ => by decide +kernel
  | 6, _ => by decide +kernel
  | 7, _ => by decide +kernel
  | 8, _ => by decide +kernel
  | 9, _ => by decide +kernel
  | n + 10, h => absurd h (by omega)
theorem b_strOf {X : Cx} : BltR X (.type "str") dStrOf := ⟨_, fun F H vs xs P Q e r d k => by
  unfold dStrOf at d
  split at d
  · rename_i i
    obtain ⟨v, rfl, r1⟩ := r.one
    cases r1.int
    refine ⟨i, rfl, ?_, ?_⟩
    · obtain ⟨n, rfl⟩ := Int.eq_ofNat_of_zero_le d.1.1
      have hn : n < 10 := by omega
      show n.log2 < 1920
      by_cases z : n = 0
      · subst z; decide
      · exact Nat.lt_of_lt_of_le ((Nat.log2_lt z).mpr (show n < 2 ^ 4 by omega)) (by decide)
    · obtain ⟨n, rfl⟩ := Int.eq_ofNat_of_zero_le d.1.1
      have hn : n < 10 := by omega
      have e1 : ((toString ((n : Nat) : Int) : String) : Str) = strOf [48 + n] := by
        rw [← str_fig n hn, strOf_txOf]
      rw [e1]
      refine k _ d.2 F H _ (.refl e) ?_
      exact .str _ (by rw [szl]; simp) (by simp [okTx]; omega)
  · exact d.elim, call_str_int⟩
theorem q_strOf {i : Int} {P : D → Prop} : (dStrOf [.int i] P) = ((0 ≤ i ∧ i < 10) ∧ P (.str [48 + i.toNat])) := id rfl
/-- a joined test whose answer doesn't matter -/
theorem and_any {k : Bool} {dt : DT} {ρ : Rh} {d1 d2 : DS} {E : DEn} (Pv : Rh → Prop) (h0 : ∀ r, Pv r → E.nx r) (ht : ∀ PB : Bool → Prop, (∀ b, PB b) → dt ρ PB) (h1 : ∀ nx : Rh → Prop, (∀ r, Pv r → nx r) → d1 { E with nx := nx } ρ) (h2 : ∀ nx : Rh → Prop, (∀ r, Pv r → nx r) → d2 { E with nx := nx } ρ) : ifB k (teT dt ρ (ifSK d1 d2 E ρ)) (bT (ifSK d1 d2 E ρ) false) := by
  cases k with
  | false => exact h2 _ h0
  | true =>
    refine ht _ fun b => ?_
    cases b with
    | true => exact h1 _ h0
    | false => exact h2 _ h0
end DL
end
section
namespace DL
open PySem L2 PySem.Spec PyProof.Rows
def kHas (l : List (Tx × D)) (k : Tx) : Bool := l.any fun p => decide (p.1 = k)
def kPut (l : List (Tx × D)) (k : Tx) (d : D) : List (Tx × D) := if kHas l k = true then l.map fun p => if p.1 = k then (p.1, d) else p else l ++ [(k, d)]
theorem KRep.length {K : PySem.W.Frag} {F : Hp} : ∀ {vs : List (Key × V)} {ds : List (Tx × D)}, KRep K F vs ds → vs.length = ds.length
  | _, _, .nil => rfl
  | _, _, .cons _ _ r => by simp [KRep.length r]
theorem key_eq (a b : Tx) : ((.inr (strOf a) : Key) = .inr (strOf b)) ↔ a = b := ⟨fun h => strOf_inj (Sum.inr.inj h), fun h => by rw [h]⟩
theorem KRep.any {K : PySem.W.Frag} {F : Hp} (k : Tx) : ∀ {vs : List (Key × V)} {ds : List (Tx × D)}, KRep K F vs ds → (vs.any fun kv => decide (kv.1 = .inr (strOf k))) = kHas ds k
  | _, _, .nil => rfl
  | _, _, .cons (k := a) h1 h2 r => by
    have ih := KRep.any k r
    unfold kHas at ih ⊢
    rw [List.any_cons, List.any_cons, ih]
    congr 1
    simp only [key_eq]
theorem KRep.app {K : PySem.W.Frag} {F : Hp} {v : V} {d : D} {k : Tx} (hk : Rep K F (.str (strOf k)) (.str k)) (hv : Rep K F v d) : ∀ {vs : List (Key × V)} {ds : List (Tx × D)}, KRep K F vs ds → KRep K F (vs ++ [(.inr (strOf k), v)]) (ds ++ [(k, d)])
  | _, _, .nil => .cons hk hv .nil
  | _, _, .cons h1 h2 r => .cons h1 h2 (r.app hk hv)
theorem KRep.repl {K : PySem.W.Frag} {F : Hp} {v : V} {d : D} {k : Tx} (hv : Rep K F v d) : ∀ {vs : List (Key × V)} {ds : List (Tx × D)}, KRep K F vs ds →
    KRep K F (vs.map fun kv => if kv.1 = .inr (strOf k) then (kv.1, v) else kv) (ds.map fun p => if p.1 = k then (p.1, d) else p)
  | _, _, .nil => .nil
  | _, _, .cons (k := a) h1 h2 r => by
    rw [List.map_cons, List.map_cons]
    by_cases e : a = k
    · subst e
      simp only [if_true]
      exact .cons h1 hv (r.repl hv)
    · have e' : ¬ ((.inr (strOf a) : Key) = .inr (strOf k)) := fun z => e ((key_eq _ _).mp z)
      simp only [e, e', if_false]
      exact .cons h1 h2 (r.repl hv)
theorem KRep.put {K : PySem.W.Frag} {F : Hp} {v : V} {d : D} {k : Tx} {vs : List (Key × V)} {ds : List (Tx × D)} (r : KRep K F vs ds) (hk : Rep K F (.str (strOf k)) (.str k)) (hv : Rep K F v d) : KRep K F (putK vs (.inr (strOf k)) v) (kPut ds k d) := by
  unfold putK kPut
  rw [r.any k]
  split
  · exact r.repl hv
  · exact r.app hk hv
theorem KRep.has {K : PySem.W.Frag} {F : Hp} {k : Tx} {vs : List (Key × V)} {ds : List (Tx × D)} (r : KRep K F vs ds) : (valV vs (.inr (strOf k))).isSome = kHas ds k := by
  rw [← valV_any, r.any k]
theorem KRep.keys {K : PySem.W.Frag} {F : Hp} : ∀ {vs : List (Key × V)} {ds : List (Tx × D)}, KRep K F vs ds → vs.map (·.1) = (ds.map fun p => strOf p.1).map Sum.inr
  | _, _, .nil => rfl
  | _, _, .cons h1 h2 r => by rw [List.map_cons, r.keys]; rfl
theorem KRep.get {K : PySem.W.Frag} {F : Hp} : ∀ {vs : List (Key × V)} {ds : List (Tx × D)} {i : Nat} {k : Key} {v : V}, KRep K F vs ds → vs[i]? = some (k, v) → ∃ p, ds[i]? = some p ∧ k = .inr (strOf p.1) ∧ Rep K F (.str (strOf p.1)) (.str p.1) ∧ Rep K F v p.2
  | _, _, _, _, _, .nil, h => by simp at h
  | _, _, 0, _, _, .cons h1 h2 r, e => by simp at e; obtain ⟨rfl, rfl⟩ := e; exact ⟨_, rfl, rfl, h1, h2⟩
  | _, _, i + 1, _, _, .cons h1 h2 r, e => by
    obtain ⟨p, h⟩ := KRep.get (i := i) r (by simpa using e)
    exact ⟨p, by simpa using h.1, h.2⟩
theorem KRep.okKeys {K : PySem.W.Frag} {F : Hp} : ∀ {vs : List (Key × V)} {ds : List (Tx × D)}, KRep K F vs ds → ∀ p ∈ ds, p.1.length ≤ sizeLine ∧ okTx p.1 = true
  | _, _, .nil, p, h => by cases h
  | _, _, .cons h1 h2 r, p, h => by
    rcases List.mem_cons.mp h with rfl | h
    · cases h1 with
      | str _ a b => exact ⟨a, b⟩
    · exact r.okKeys p h
theorem kPut_len (l : List (Tx × D)) (k : Tx) (d : D) : (kPut l k d).length ≤ l.length + 1 := by
  unfold kPut
  split <;> simp

section
variable {X : Cx} {F0 H0 : Hp} {e a b c tg o : Expr} {es : List Expr} {pos p apos : Pos} {x : Str}
theorem nodup_at {a : Addr} : ∀ {fps : List (List Addr)} {m j : Nat} {g h : List Addr}, fps.flatten.Nodup → fps[m]? = some g → fps[j]? = some h → a ∈ g → a ∈ h → m ≠ j → False
  | [], _, _, _, _, _, h, _, _, _, _ => by simp at h
  | f :: fs, 0, 0, _, _, _, _, _, _, _, h => h rfl
  | f :: fs, 0, j + 1, g, h, nd, e1, e2, h1, h2, _ => by
    rw [List.flatten_cons, List.nodup_append] at nd
    simp at e1 e2
    subst e1
    exact nd.2.2 a h1 a (List.mem_flatten.mpr ⟨_, List.mem_of_getElem? e2, h2⟩) rfl
  | f :: fs, m + 1, 0, g, h, nd, e1, e2, h1, h2, _ => by
    rw [List.flatten_cons, List.nodup_append] at nd
    simp at e1 e2
    subst e2
    exact nd.2.2 a h2 a (List.mem_flatten.mpr ⟨_, List.mem_of_getElem? e1, h1⟩) rfl
  | f :: fs, m + 1, j + 1, g, h, nd, e1, e2, h1, h2, hne => by
    rw [List.flatten_cons, List.nodup_append] at nd
    simp at e1 e2
    exact nodup_at nd.2.1 e1 e2 h1 h2 fun z => hne (by rw [z])
/-- a slot gets a new dict -/
theorem ERep.setDk {K : PySem.W.Frag} {F0 H0 F H F' H' : Hp} {σ : L2.St} {ρ : Rh} {fps : List (List Addr)} {A : Addr} {vs : List (Key × V)} {ds : List (Tx × D)} (R : ERep K F0 H0 F H σ ρ fps) (e : Ext F H F' H') (na : H A = none) (nF : F' A = none) (r : KRep K F' vs ds) (i : Nat) :
    ERep K F0 H0 F' (upd H' A (.dK vs)) (σ.set i (some (.ref A))) (ρ.set i (.dk ds)) (fps.set i [A]) := by
  have R1 := R.aside (u := .dK vs) e na nF
  refine ⟨R1.x, R1.s.set (.dk upd_same r nF) i, nodup_set_flatten R1.p.nd (by simp) fun a ha hm => ?_, fun a ha => ?_⟩
  · simp at ha; subst ha
    exact (fps_there R.s a hm).2 na
  · rcases mem_set_flatten ha with q | q
    · exact R1.p.new a q
    · simp at q; subst q
      exact R.x.h.free na
theorem SlsRep.updDk {K : PySem.W.Frag} {F0 H0 : Hp} {F H : Hp} {a : Addr} {vs : List (Key × V)} {ds : List (Tx × D)} (nF : F a = none) (r : KRep K F vs ds) : ∀ {σ : L2.St} {ρ : Rh} {fps : List (List Addr)} {i : Nat}, SlsRep K F0 H0 F H σ ρ fps → fps.flatten.Nodup → fps[i]? = some [a] → σ[i]? = some (some (.ref a)) →
    SlsRep K F0 H0 F (upd H a (.dK vs)) σ (ρ.set i (.dk ds)) fps := by
  intro σ ρ fps i h
  induction h generalizing i with
  | nil => intro _ h; simp at h
  | cons q rr ih =>
    intro nd h1 h2
    rw [List.flatten_cons, List.nodup_append] at nd
    cases i with
    | zero =>
      simp at h1 h2
      subst h1
      rw [h2]
      exact .cons (.dk upd_same r nF) (rr.keep fun hm => nd.2.2 a (by simp) a hm rfl)
    | succ i =>
      simp at h1 h2
      have n : a ∉ _ := fun hm => nd.2.2 a hm a (List.mem_flatten.mpr ⟨_, List.mem_of_getElem? h1, by simp⟩) rfl
      refine .cons ?_ (ih nd.2.1 h1 h2)
      have := SlsRep.keep (u := .dK vs) (SlsRep.cons q SlsRep.nil) (a := a) (by simpa using n)
      cases this with
      | cons q' _ => exact q'
/-- the dict of a slot is replaced -/
theorem ERep.updDk {K : PySem.W.Frag} {F0 H0 F H : Hp} {σ : L2.St} {ρ : Rh} {fps : List (List Addr)} {i : Nat} {a : Addr} {vs : List (Key × V)} {ds : List (Tx × D)} (R : ERep K F0 H0 F H σ ρ fps) (h1 : fps[i]? = some [a]) (h2 : σ[i]? = some (some (.ref a))) (r : KRep K F vs ds) :
    ERep K F0 H0 F (upd H a (.dK vs)) σ (ρ.set i (.dk ds)) fps := by
  have ha : a ∈ fps.flatten := List.mem_flatten.mpr ⟨_, List.mem_of_getElem? h1, by simp⟩
  have nF := (fps_there R.s a ha).1
  refine ⟨⟨R.x.f, fun b w hb => ?_, fun b w hb => ?_, R.x.o⟩, R.s.updDk nF r R.p.nd h1 h2, R.p⟩
  · rw [upd_ne (ne_of_none hb (R.p.new a ha))]; exact R.x.h _ _ hb
  · rw [upd_ne (ne_of_none hb nF)]; exact R.x.w _ _ hb
theorem ERep.dkAt {K : PySem.W.Frag} {F0 H0 F H : Hp} {σ : L2.St} {ρ : Rh} {fps : List (List Addr)} {i : Nat} {ds : List (Tx × D)} (R : ERep K F0 H0 F H σ ρ fps) (h : ρ[i]? = some (.dk ds)) : ∃ a vs, σ[i]? = some (some (.ref a)) ∧ fps[i]? = some [a] ∧ H a = some (.dK vs) ∧ KRep K F vs ds ∧ F a = none := by
  obtain ⟨y, fp, h1, h2, h3⟩ := R.s.get h
  cases h3 with
  | dk g r n => exact ⟨_, _, h1, h2, g, r, n⟩
/-- x = {} -/
def dDNew0 (i : Nat) : DS := fun E ρ => E.nx (ρ.set i (.dk []))
theorem ls_dnew0 {i : Nat} (h : ∀ te, PE X e te → PS X (.Assign [tg] e pos) (tAsg te (gName i))) (he : PE X e tDNewK) : LS X F0 H0 (.Assign [tg] e pos) (dDNew0 i) :=
  psW (h _ he) fun D σ H ⟨F, ρ, fps, E, R, q, k⟩ A nA => k.nx F _ _ _ _ (.refl F) (R.setDk (.refl R.x.w) nA (R.x.w.free nA) .nil i) q
/-- x = {k: v} -/
def dDNew1 (i : Nat) (dk dv : DE) : DS := fun E ρ => dk ρ fun x => dv ρ fun y => match x with | .str k => E.nx (ρ.set i (.dk [(k, y)])) | _ => False
theorem ls_dnew1 {i : Nat} {dk dv : DE} {ke ve : Expr} {dpos : Pos} (h : ∀ te, PE X (.Dict [some ke] [ve] dpos) te → PS X (.Assign [tg] (.Dict [some ke] [ve] dpos) pos) (tAsg te (gName i))) (hk : LE X F0 H0 ke dk) (hv : LE X F0 H0 ve dv) : LS X F0 H0 (.Assign [tg] (.Dict [some ke] [ve] dpos) pos) (dDNew1 i dk dv) :=
  psW (h _ (pe_disp (pps_cons hk hv pps_nil) (by rfl) (by rfl) (by simp) (by simp))) fun D σ H ⟨F, ρ, fps, E, R, q, k⟩ A nA => by
    have nF := R.x.w.free nA
    have R1 := R.aside (u := .dK []) (.refl R.x.w) nA nF
    refine ⟨F, ρ, fps, _, R1, q, fun x hx F1 H1 v e1 r1 => ⟨F1, ρ, fps, _, R1.ext e1, hx, fun y hy F2 H2 w e2 r2 => ?_⟩⟩
    cases x <;> first | exact hy.elim | skip
    rename_i kk
    have e12 := e1.trans e2
    have hA : H2 A = some (.dK []) := e12.h _ _ upd_same
    have nF2 : F2 A = none := by rw [e12.o A (by rw [upd_same]; simp)]; exact nF
    have hs := r1.mono e2.f
    cases r1 with
    | str _ z1 z2 =>
      refine ⟨hA, [(.inr (strOf kk), w)], rfl, by simp, ?_⟩
      have R3 := (R1.ext e12)
      have x3 : Ext F0 H0 F2 (upd H2 A (.dK (mergeK [] [(.inr (strOf kk), w)]))) := ⟨R3.x.f, fun b u hb => by
        rw [upd_ne (ne_of_none hb (R.x.h.free nA))]; exact R3.x.h _ _ hb, fun b u hb => by
        rw [upd_ne (ne_of_none hb nF2)]; exact R3.x.w _ _ hb, R3.x.o⟩
      have nm : A ∉ fps.flatten := fun hm => (fps_there R.s A hm).2 nA
      have s3 := (R3.s.keep (u := .dK (mergeK [] [(.inr (strOf kk), w)])) nm)
      refine k.nx F2 _ _ _ (fps.set i [A]) e12.f ⟨x3, s3.set (.dk upd_same (.cons hs r2 .nil) nF2) i, nodup_set_flatten R.p.nd (by simp) fun a ha hm => ?_, fun a ha => ?_⟩ hy
      · simp at ha; subst ha; exact nm hm
      · rcases mem_set_flatten ha with q | q
        · exact R.p.new a q
        · simp at q; subst q; exact R.x.h.free nA
/-- x = y, the dict goes over -/
def dDMv (i j : Nat) : DS := fun E ρ => match ρ[j]? with | some (.dk ds) => E.nx ((ρ.set j .no).set i (.dk ds)) | _ => False
theorem ls_dmv {i j : Nat} (hij : i ≠ j) (h : ∀ te, PE X e te → PS X (.Assign [tg] e pos) (tAsg te (gName i))) (he : PE X e (tVar j)) : LS X F0 H0 (.Assign [tg] e pos) (dDMv i j) :=
  psW (h _ he) fun D σ H ⟨F, ρ, fps, E, R, q, k⟩ => by
    unfold dDMv at q
    split at q
    · rename_i ds hs
      obtain ⟨A, vs, h1, h2, h3, h4, h5⟩ := R.dkAt hs
      refine ⟨_, h1, k.nx F H _ _ ((fps.set j []).set i [A]) (.refl F) ⟨R.x, ?_, ?_⟩ q⟩
      · have s1 : SlsRep X.K F0 H0 F H σ (ρ.set j .no) (fps.set j []) := by
          have := R.s.set (x := σ[j]?.getD none) (.no) j
          rw [h1] at this
          have e : σ.set j (some (.ref A)) = σ := by
            apply List.ext_getElem?
            intro m
            by_cases hm : m = j
            · subst hm
              rw [List.getElem?_set_self (List.getElem?_eq_some_iff.mp h1).1, h1]
            · rw [List.getElem?_set_ne (fun z => hm z.symm)]
          have h' : SlsRep X.K F0 H0 F H (σ.set j (some (.ref A))) (ρ.set j .no) (fps.set j []) := this
          rw [e] at h'
          exact h'
        exact s1.set (.dk h3 h4 h5) i
      · have p1 := R.p.set_nil j
        have ha : A ∈ fps.flatten := List.mem_flatten.mpr ⟨_, List.mem_of_getElem? h2, by simp⟩
        refine ⟨nodup_set_flatten p1.nd (by simp) fun a ha' hm => ?_, fun a ha' => ?_⟩
        · simp at ha'; subst ha'
          -- A stands at j alone
          obtain ⟨g, hg, hA⟩ := List.mem_flatten.mp hm
          obtain ⟨m, hmlt, hgm⟩ := List.mem_iff_getElem.mp hg
          have hne : m ≠ j := by
            intro z
            subst z
            rw [List.getElem_set_self] at hgm
            rw [← hgm] at hA
            cases hA
          rw [List.getElem_set_ne (fun z => hne z.symm)] at hgm
          have hm2 : fps[m]? = some g := by
            rw [List.getElem?_eq_some_iff]
            exact ⟨by simpa using hmlt, hgm⟩
          exact nodup_at R.p.nd hm2 h2 hA (by simp) hne
        · rcases mem_set_flatten ha' with z | z
          · exact p1.new a z
          · simp at z; subst z; exact R.p.new _ ha
    · exact q.elim
end
end DL
end
section
namespace DL
open PySem L2 PySem.Spec PyProof.Rows
def getK (i : Nat) (ρ : Rh) (P : List (Tx × D) → Prop) : Prop := match ρ[i]? with | some (.dk ds) => P ds | _ => False
theorem getK_elim {i : Nat} {ρ : Rh} {P : List (Tx × D) → Prop} (h : getK i ρ P) : ∃ ds, ρ[i]? = some (.dk ds) ∧ P ds := by
  unfold getK at h
  split at h
  · rename_i ds hs
    exact ⟨ds, hs, h⟩
  · exact h.elim
section
variable {X : Cx} {F0 H0 : Hp} {e a b c tg o : Expr} {es : List Expr} {pos p apos cpos : Pos} {x : Str}
/-- x[k] = v -/
def dpK3 (i : Nat) (E : DEn) (ρ : Rh) (ds : List (Tx × D)) (y : D) (x : D) : Prop := match x with | .str k => ds.length < sizeLine ∧ putS i (.dk (kPut ds k y)) ρ E.nx | _ => False
def dpK2 (i : Nat) (dk : DE) (E : DEn) (ρ : Rh) (ds : List (Tx × D)) (y : D) : Prop := dk ρ (dpK3 i E ρ ds y)
def dpK1 (i : Nat) (dv dk : DE) (E : DEn) (ρ : Rh) (ds : List (Tx × D)) : Prop := dv ρ (dpK2 i dk E ρ ds)
def dDPut (i : Nat) (dv dk : DE) : DS := fun E ρ => getK i ρ (dpK1 i dv dk E ρ)
theorem ls_dput {i : Nat} {dv dk : DE} {pos' : Pos} (hu : X.A.units + 64 < cLine) (ho : PE X o (tVar i)) (hk : LE X F0 H0 a dk) (hv : LE X F0 H0 b dv) (hs : swapsWith b (some (.Subscript o a pos')) pos.line X.env = pure false := by rfl) :
    LS X F0 H0 (.Assign [.Subscript o a pos'] b pos) (dDPut i dv dk) :=
  psW (ps_dput (by omega) ho hk hv hs) fun D σ H ⟨F, ρ, fps, E, R, q, k⟩ => by
    obtain ⟨ds, hs, q⟩ := getK_elim q
    refine ⟨F, ρ, fps, _, R, q, fun y hy F1 H1 v e1 r1 => ?_⟩
    obtain ⟨A, vs, h1, _⟩ := (R.ext e1).dkAt hs
    refine ⟨_, h1, F1, ρ, fps, _, R.ext e1, hy, fun x hx F2 H2 w e2 r2 => ?_⟩
    cases x <;> first | exact hx.elim | skip
    rename_i kk
    have e12 := e1.trans e2
    obtain ⟨A', vs2, g1, g2, g3, g4, g5⟩ := (R.ext e12).dkAt hs
    rw [h1] at g1
    cases g1
    have hr := r2
    cases r2 with
    | str _ z1 z2 =>
      exact ⟨A, _, rfl, DPut.k (k := .inr (strOf kk)) g3 (by rw [g4.length]; exact hx.1), k.nx F2 _ _ _ _ e12.f ((R.ext e12).updDk g2 h1 (g4.put hr (r1.mono e2.f))) hx.2⟩
/-- k in x, k not in x -/
def dTInK2 (n : Bool) (ds : List (Tx × D)) (P : Bool → Prop) (x : D) : Prop := match x with | .str k => P (if n then !kHas ds k else kHas ds k) | _ => False
def dTInK1 (n : Bool) (dk : DE) (ρ : Rh) (P : Bool → Prop) (ds : List (Tx × D)) : Prop := dk ρ (dTInK2 n ds P)
def dTInK (n : Bool) (i : Nat) (dk : DE) : DT := fun ρ P => getK i ρ (dTInK1 n dk ρ P)
theorem lt_notInK {i : Nat} {dk : DE} (hu : X.A.units + 64 < cLine) (hk : LE X F0 H0 a dk) (ho : PE X o (tVar i)) (hm : behindInMarks .NotIn o = false := by rfl) : LT X F0 H0 (.Compare a [.NotIn] [o] pos) (dTInK true i dk) :=
  ptW (pt_cmp (pc_dnotin (by omega) hk ho) hm) fun σ H Q ⟨F, ρ, fps, P, R, q, k⟩ => by
    obtain ⟨ds, hs, q⟩ := getK_elim q
    refine ⟨F, ρ, fps, _, R, q, fun x hx F1 H1 w e1 r1 => ?_⟩
    cases x <;> first | exact hx.elim | skip
    rename_i kk
    obtain ⟨A, vs, g1, g2, g3, g4, g5⟩ := (R.ext e1).dkAt hs
    cases r1 with
    | str _ z1 z2 =>
      refine ⟨_, g1, A, _, rfl, DGet.k (k := .inr (strOf kk)) g3, _, rfl, ?_⟩
      rw [g4.has]
      exact k _ hx F1 H1 e1
theorem lt_inK {i : Nat} {dk : DE} (hu : X.A.units + 64 < cLine) (hk : LE X F0 H0 a dk) (ho : PE X o (tVar i)) (hm : behindInMarks .In o = false := by rfl) : LT X F0 H0 (.Compare a [.In] [o] pos) (dTInK false i dk) :=
  ptW (pt_cmp (pc_din (by omega) hk ho) hm) fun σ H Q ⟨F, ρ, fps, P, R, q, k⟩ => by
    obtain ⟨ds, hs, q⟩ := getK_elim q
    refine ⟨F, ρ, fps, _, R, q, fun x hx F1 H1 w e1 r1 => ?_⟩
    cases x <;> first | exact hx.elim | skip
    rename_i kk
    obtain ⟨A, vs, g1, g2, g3, g4, g5⟩ := (R.ext e1).dkAt hs
    cases r1 with
    | str _ z1 z2 =>
      refine ⟨_, g1, A, _, rfl, DGet.k (k := .inr (strOf kk)) g3, _, rfl, ?_⟩
      rw [g4.has]
      exact k _ hx F1 H1 e1
/-- len(x) -/
theorem call_lenK : CallR X (.builtin "len") (fun xs H Q => ∃ (a : Addr) (kvs : List (Key × V)), xs = [.ref a] ∧ H a = some (.dK kvs) ∧ Q (.int kvs.length) H) := by
  intro pins s σ H xs us Q I r q
  obtain ⟨a, kvs, ex, hd, q⟩ := q
  subst ex
  obtain ⟨u, eu, rx⟩ := vals1 r
  subst eu
  cases rx
  exact d_len I (.inl hd) fun t s' I' => ⟨.int kvs.length, H, I', ⟨t, rfl⟩, q⟩
def dLenK1 (P : D → Prop) (ds : List (Tx × D)) : Prop := P (.int (ds.length : Nat))
def dLenK (i : Nat) : DE := fun ρ P => getK i ρ (dLenK1 P)
theorem le_lenK {i : Nat} (hg : Gl X "len") (hm : X.mg "len" = none) (ho : PE X e (tVar i)) (he : starEach [e] X.env = (false, eval e X.env) :: starEach [] X.env := by rfl) (hpl : (backTo pos (starEach [] X.env)).any (·.1) = false := by rfl) :
    LE X F0 H0 (.Call (.Name "len" p) [e] [] pos) (dLenK i) :=
  peW (pe_callB call_lenK hg hm (by decide +kernel) (pa_cons ho pa_nil he) (by decide) (by decide) he hpl) fun σ H Q ⟨F, ρ, fps, P, R, q, k⟩ => by
    obtain ⟨ds, hs, q⟩ := getK_elim q
    obtain ⟨A, vs, g1, g2, g3, g4, g5⟩ := R.dkAt hs
    refine ⟨_, g1, A, vs, rfl, g3, ?_⟩
    rw [g4.length]
    exact k _ q F H _ (.refl R.x.w) (.int _)
end
end DL
end
section
namespace DL
open PySem L2 PySem.Spec PyProof.Rows
section
variable {K : PySem.W.Frag} {F0 H0 F H : Hp}
theorem BRep.tolock {v : V} {x : D} {d : Addr} {u : HO} (h0 : H0 d = none) (h : BRep K F0 H0 v x) : BRep K F0 (upd H0 d u) v x := by
  rcases h with h | ⟨fp, h, nt⟩
  · exact .inl h
  · cases h with
    | lst h r z n => exact .inr ⟨_, .lst (by rw [upd_ne (ne_of_none h h0)]; exact h) r z n, trivial⟩
    | obj h r n => exact .inr ⟨_, .obj (by rw [upd_ne (ne_of_none h h0)]; exact h) r n, trivial⟩
    | tup => exact nt.elim
theorem BRep.ofLock {v : V} {x : D} {d : Addr} {od : Obj} {u : HO} (h : BRep K F0 (upd H0 d (.frz od u)) v x) : BRep K F0 H0 v x := by
  rcases h with h | ⟨fp, h, nt⟩
  · exact .inl h
  · cases h with
    | lst h r z n =>
      refine .inr ⟨_, .lst ?_ r z n, trivial⟩
      rename_i a vs xs
      by_cases hb : a = d
      · subst hb; rw [upd_same] at h; cases h
      · rw [upd_ne hb] at h; exact h
    | obj h r n =>
      rename_i a C dx fs gs
      refine .inr ⟨_, .obj (dx := dx) ?_ r n, trivial⟩
      by_cases hb : a = d
      · subst hb; rw [upd_same] at h; cases h
      · rw [upd_ne hb] at h; exact h
    | tup => exact nt.elim
/-- slots, their entry and heap with the thing at d otherwise -/
theorem SlsRep.relock {H' H0' : Hp} {d : Addr} (hb : ∀ v x, BRep K F0 H0 v x → BRep K F0 H0' v x) (hh : ∀ a, a ≠ d → H' a = H a) : ∀ {σ : L2.St} {ρ : Rh} {fps : List (List Addr)}, SlsRep K F0 H0 F H σ ρ fps → d ∉ fps.flatten → SlsRep K F0 H0' F H' σ ρ fps
  | _, _, _, .nil, _ => .nil
  | _, _, _, .cons q r, n => by
    rw [List.flatten_cons, List.mem_append, not_or] at n
    refine .cons ?_ (r.relock hb hh n.2)
    cases q with
    | no => exact .no
    | sh r => exact .sh r
    | bo r => exact .bo (hb _ _ r)
    | dk h r f => exact .dk (by rw [hh _ (fun e => n.1 (by simp [e]))]; exact h) r f
    | nl h q z f => exact .nl (by rw [hh _ (fun e => n.1 (by simp [e]))]; exact h) (q.hh fun b hb => hh b fun e => n.1 (by rw [← e]; exact List.mem_cons_of_mem _ hb)) z f
    | ow o =>
      cases o with
      | lst h r z f => exact .ow (.lst (by rw [hh _ (fun e => n.1 (by simp [e]))]; exact h) r z f)
      | obj h r f => exact .ow (.obj (by rw [hh _ (fun e => n.1 (by simp [e]))]; exact h) r f)
      | tup h q z f => exact .ow (.tup (by rw [hh _ (fun e => n.1 (by simp [e]))]; exact h) (q.hh fun b hb => hh b fun e => n.1 (by rw [← e]; exact List.mem_cons_of_mem _ hb)) z f)
theorem ERep.lock {σ : L2.St} {ρ : Rh} {fps : List (List Addr)} {d : Addr} {u : HO} (R : ERep K F0 H0 F H σ ρ fps) (h0 : H0 d = none) (nF : F d = none) (nd : d ∉ fps.flatten) : ERep K F0 (upd H0 d u) F (upd H d u) σ ρ fps := by
  refine ⟨⟨R.x.f, fun b w hb => ?_, fun b w hb => ?_, fun a n => ?_⟩, R.s.relock (fun v x h => h.tolock h0) (fun a ha => upd_ne ha) nd, R.p.nd, fun a ha => ?_⟩
  · by_cases e : b = d
    · subst e; rw [upd_same] at hb ⊢; exact hb
    · rw [upd_ne e] at hb ⊢; exact R.x.h _ _ hb
  · rw [upd_ne (ne_of_none hb nF)]; exact R.x.w _ _ hb
  · by_cases e : a = d
    · subst e
      rw [nF]
      cases z : F0 a with
      | none => rfl
      | some o => rw [R.x.f _ _ z] at nF; cases nF
    · rw [upd_ne e] at n; exact R.x.o a n
  · have e : a ≠ d := fun z => nd (by rw [← z]; exact ha)
    rw [upd_ne e]; exact R.p.new a ha
theorem ext_unlock {F' H' : Hp} {d : Addr} {od : Obj} {u : HO} (e : Ext F0 (upd H0 d (.frz od u)) F' H') (h0 : H0 d = none) (n0 : F0 d = none) : H' d = some (.frz od u) ∧ F' d = none ∧ Ext F0 H0 F' (upd H' d u) := by
  have h1 : H' d = some (.frz od u) := e.h _ _ upd_same
  have h2 : F' d = none := by rw [e.o d (by rw [upd_same]; simp)]; exact n0
  refine ⟨h1, h2, e.f, fun b w hb => ?_, fun b w hb => ?_, fun a n => e.o a ?_⟩
  · have e' : b ≠ d := ne_of_none hb h0
    rw [upd_ne e']; exact e.h _ _ (by rw [upd_ne e']; exact hb)
  · rw [upd_ne (ne_of_none hb h2)]; exact e.w _ _ hb
  · by_cases z : a = d
    · subst z; rw [upd_same]; simp
    · rw [upd_ne z]; exact n
theorem ERep.unlock {σ : L2.St} {ρ : Rh} {fps : List (List Addr)} {d : Addr} {od : Obj} {u : HO} {F' H' : Hp} (R : ERep K F0 (upd H0 d (.frz od u)) F' H' σ ρ fps) (h0 : H0 d = none) (n0 : F0 d = none) : ERep K F0 H0 F' (upd H' d u) σ ρ fps := by
  have nd : d ∉ fps.flatten := fun hm => by
    have := R.p.new d hm
    rw [upd_same] at this; cases this
  refine ⟨(ext_unlock R.x h0 n0).2.2, R.s.relock (fun v x h => h.ofLock) (fun a ha => upd_ne ha) nd, R.p.nd, fun a ha => ?_⟩
  have e : a ≠ d := fun z => nd (by rw [← z]; exact ha)
  have := R.p.new a ha
  rw [upd_ne e] at this; exact this
theorem it_items {d : Addr} {od : Obj} {vs : List (Key × V)} {ds : List (Tx × D)} (hd : H0 d = some (.frz od (.dK vs))) (r : KRep K F vs ds) : ItRepB K F H0 (Iti d od vs) (ds.map fun p => .tup [.str p.1, p.2]) where
  go := fun H i _ e hi => ⟨e _ _ hd, by rw [r.length]; simpa using hi⟩
  stop := fun H _ e => ⟨e _ _ hd, by rw [r.length]; simp⟩
  yld := fun F1 H i v H' x e1 e2 _ y hx => by
    obtain ⟨T, k, w, hk, rfl, nT, rfl⟩ := y
    obtain ⟨p, hp, rfl, r1, r2⟩ := r.get hk
    rw [List.getElem?_map, hp] at hx
    cases hx
    exact ⟨_, .new e2 nT, rep_newT e2 nT (.cons (r1.mono e1) (.cons (r2.mono e1) .nil)) (by show 2 ≤ sizeLine; decide)⟩
end
theorem for_run {X : Cx} {F0 H0 F H : Hp} {σ : L2.St} {ρ : Rh} {fps : List (List Addr)} {J : It} {xs : List D} {g : TG} {tb : TS} {dg : DG} {db : DS} {is : List Nat} {E : DEn} {D : Ends} (it : ItRepB X.K F H0 J xs) (hg : LowG X.K g dg is) (hb : ∀ D σ H, lowS X.K F0 H0 db D σ H → tb D σ H)
    (R : ERep X.K F0 H0 F H σ ρ fps) (hx : forD dg db E xs ρ) (k : EndOk X.K F0 H0 F E D) : ∃ W : Nat → Nat → L2.St → Hp → Prop, (∃ m, W 0 m σ H) ∧ ∀ i m σ H, W i m σ H →
    (J.stop i H ∧ D.nx σ H) ∨ (J.go i H ∧ ∃ N : L2.St → Hp → Prop, (∀ σ' H', N σ' H' → ∃ m', m' < m ∧ W (i + 1) m' σ' H') ∧ ∀ x H', J.yld i H x H' → g x σ H' fun σ2 H2 => tb { D with nx := N, ct := N, bk := D.nx } σ2 H2) := by
  refine ⟨fun i m σ H => m = xs.length - i ∧ i ≤ xs.length ∧ ∃ F2 ρ2 fps2, Same F F2 ∧ ERep X.K F0 H0 F2 H σ ρ2 fps2 ∧ forD dg db E (xs.drop i) ρ2, ⟨_, rfl, Nat.zero_le _, F, ρ, fps, .refl _, R, hx⟩, ?_⟩
  rintro i m σ H ⟨rfl, hi, F2, ρ2, fps2, s2, R2, q2⟩
  by_cases hlt : i < xs.length
  · refine .inr ⟨it.go H i (s2.trans R2.x.w) R2.x.h hlt, fun σ' H' => ∃ F3 ρ3 fps3, Same F F3 ∧ ERep X.K F0 H0 F3 H' σ' ρ3 fps3 ∧ forD dg db E (xs.drop (i + 1)) ρ3, fun σ' H' n => ⟨_, by omega, rfl, hlt, n⟩, fun v H' y => ?_⟩
    have hx : xs[i]? = some xs[i] := by simp [hlt]
    obtain ⟨F3, e3, r3⟩ := it.yld F2 H i v H' _ s2 R2.x.w R2.x.h y hx
    have ed : xs.drop i = xs[i] :: xs.drop (i + 1) := by simp
    rw [ed] at q2
    unfold forD at q2
    refine hg F0 H0 F3 H' σ ρ2 fps2 v _ _ _ (R2.ext e3) r3 q2 fun ρ4 p4 σ4 fps4 _ R4 => ?_
    have s4 : Same F F3 := s2.trans e3.f
    refine hb _ _ _ ⟨F3, ρ4, fps4, _, R4, p4, ⟨?_, ?_, ?_, ?_, ?_⟩⟩
    · exact fun F5 H5 σ5 ρ5 fps5 s5 R5 q5 => ⟨F5, ρ5, fps5, s4.trans s5, R5, q5⟩
    · exact fun F5 H5 σ5 ρ5 fps5 s5 R5 q5 => k.nx F5 H5 σ5 ρ5 fps5 (s4.trans s5) R5 q5
    · exact fun F5 H5 σ5 ρ5 fps5 s5 R5 q5 => ⟨F5, ρ5, fps5, s4.trans s5, R5, q5⟩
    · exact fun F5 H5 v x s5 e5 r5 q5 => k.rt F5 H5 v x (s4.trans s5) e5 r5 q5
    · exact fun F5 H5 v x fp s5 e5 r5 n1 n2 q5 => k.rn F5 H5 v x fp (s4.trans s5) e5 r5 n1 n2 q5
  · have e : i = xs.length := by omega
    subst e
    rw [List.drop_length] at q2
    exact .inl ⟨it.stop H (s2.trans R2.x.w) R2.x.h, k.nx F2 H σ ρ2 fps2 s2 R2 q2⟩
/-- for k, v in x.items(): the dict is gone behind it -/
def dForK1 (i : Nat) (dg : DG) (db : DS) (E : DEn) (ρ : Rh) (ds : List (Tx × D)) : Prop := putS i .no ρ (forD dg db E (ds.map fun p => .tup [.str p.1, p.2]))
def dForK (i : Nat) (dg : DG) (db : DS) : DS := fun E ρ => getK i ρ (dForK1 i dg db E ρ)
section
variable {X : Cx} {F0 H0 : Hp} {e : Expr} {pos apos cpos : Pos}
theorem ls_forK {i : Nat} {elts : List Expr} {kk : Nat} {tpos : Pos} {g : TG} {dg : DG} {db : DS} {is : List Nat} {body : List Stmt} (hp : PassesOwn (model X.prog X.w) X.A X.env X.xe) (hc : X.calm = true) (ho : PE X e (tVar i)) (pg : PG X (.Tuple elts kk tpos) g) (hg : LowG X.K g dg is) (hb : ∀ F0 H0, LSs X F0 H0 body db)
    (hbase : attributeBase e "items" X.env (eval e X.env) = eval e X.env := by rfl) (hline : (apos.endLine == cpos.line) = true := by rfl)
    (hs : ∀ x, foldedSetIterable (.Call (.Attribute e "items" apos) [] [] cpos) X.env x = pure x := by intro _; rfl) : LS X F0 H0 (.For (.Tuple elts kk tpos) (.Call (.Attribute e "items" apos) [] [] cpos) body [] pos) (dForK i dg db) := by
  have hb' : PSs X body (fun D σ H => ∃ F1 H1, lowS X.K F1 H1 db D σ H) := ⟨fun pins s σ H D I ⟨F1, H1, q⟩ => (hb F1 H1).run pins s σ H D I q⟩
  refine psW (ps_lock (ps_for hp hc (pi_items ho hbase hline) pg hb' hs)) fun D σ H ⟨F, ρ, fps, E, R, q, k⟩ => ?_
  obtain ⟨ds, hs, q⟩ := getK_elim q
  obtain ⟨d, vs, h1, h2, h3, h4, h5⟩ := R.dkAt hs
  have hdm : d ∈ fps.flatten := List.mem_flatten.mpr ⟨_, List.mem_of_getElem? h2, by simp⟩
  have h0 := R.p.new d hdm
  have n0 : F0 d = none := by
    cases z : F0 d with
    | none => rfl
    | some o => rw [R.x.f _ _ z] at h5; cases h5
  refine ⟨d, .dK vs, h3, True.intro, fun od => ?_⟩
  -- the slot is empty while the dict is walked
  have R1 : ERep X.K F0 H0 F H σ (ρ.set i .no) (fps.set i []) := by
    have := R.s.set (x := some (.ref d)) (s := .no) (fp := []) .no i
    have e : σ.set i (some (.ref d)) = σ := by
      apply List.ext_getElem?
      intro m
      by_cases hm : m = i
      · subst hm
        rw [List.getElem?_set_self (List.getElem?_eq_some_iff.mp h1).1, h1]
      · rw [List.getElem?_set_ne (fun z => hm z.symm)]
    rw [e] at this
    exact ⟨R.x, this, R.p.set_nil i⟩
  have nd : d ∉ (fps.set i []).flatten := fun hm => by
    obtain ⟨g, hg, hA⟩ := List.mem_flatten.mp hm
    obtain ⟨m, hmlt, hgm⟩ := List.mem_iff_getElem.mp hg
    have hne : m ≠ i := by
      intro z
      subst z
      rw [List.getElem_set_self] at hgm
      rw [← hgm] at hA
      cases hA
    rw [List.getElem_set_ne (fun z => hne z.symm)] at hgm
    have hm2 : fps[m]? = some g := by
      rw [List.getElem?_eq_some_iff]
      exact ⟨by simpa using hmlt, hgm⟩
    exact nodup_at R.p.nd hm2 h2 hA (by simp) hne
  have R2 := R1.lock (u := .frz od (.dK vs)) h0 h5 nd
  have it := it_items (K := X.K) (F := F) (H0 := upd H0 d (.frz od (.dK vs))) upd_same h4
  have kE : EndOk X.K F0 (upd H0 d (.frz od (.dK vs))) F E ⟨fun σ' H' => H' d = some (.frz od (.dK vs)) ∧ D.nx σ' (upd H' d (.dK vs)), fun v H' => H' d = some (.frz od (.dK vs)) ∧ D.rt v (upd H' d (.dK vs)), fun σ' H' => H' d = some (.frz od (.dK vs)) ∧ D.bk σ' (upd H' d (.dK vs)), fun σ' H' => H' d = some (.frz od (.dK vs)) ∧ D.ct σ' (upd H' d (.dK vs))⟩ :=
    ⟨fun F' H' σ' ρ' fps' s R' q' => ⟨(ext_unlock R'.x h0 n0).1, k.nx F' _ σ' ρ' fps' s (R'.unlock h0 n0) q'⟩,
     fun F' H' σ' ρ' fps' s R' q' => ⟨(ext_unlock R'.x h0 n0).1, k.bk F' _ σ' ρ' fps' s (R'.unlock h0 n0) q'⟩,
     fun F' H' σ' ρ' fps' s R' q' => ⟨(ext_unlock R'.x h0 n0).1, k.ct F' _ σ' ρ' fps' s (R'.unlock h0 n0) q'⟩,
     fun F' H' v x s e' r' q' => ⟨(ext_unlock e' h0 n0).1, k.rt F' _ v x s (ext_unlock e' h0 n0).2.2 r' q'⟩,
     fun F' H' v x fp s e' r' n1 n2 q' => ⟨(ext_unlock e' h0 n0).1, by
      have hne : ∀ a ∈ fp, a ≠ d := fun a ha z => by
        have := n2 a ha
        rw [z, upd_same] at this; cases this
      refine k.rn F' _ v x fp s (ext_unlock e' h0 n0).2.2 ?_ n1 (fun a ha => ?_) q'
      · exact r'.updH fun hm => hne _ hm rfl
      · have := n2 a ha
        rw [upd_ne (hne a ha)] at this; exact this⟩⟩
  exact ⟨_, h1, d, od, vs, rfl, upd_same, for_run (tb := fun D σ H => ∃ F1 H1, lowS X.K F1 H1 db D σ H) it hg (fun D σ H q => ⟨_, _, q⟩) R2 q kE⟩
end
end DL
end
section
namespace DL
open PySem L2 PySem.Spec PyProof.Rows
def keysO (p d : Addr) : HO := .ext fun h => PySem.W.KdlKeysView h p d
theorem keysO_ok {P : Program} {w : World} {H : Hp} {h : Heap} {p d : Addr} (e : h.get? p = some { cls := .type "dict_keys", data := .fields #[.ref d] }) : ObjOk P w H h p (keysO p d) :=
  ⟨⟨_, e, rfl, rfl⟩, ⟨_, e⟩, fun h1 h2 x k => let ⟨o, ho, r⟩ := x; ⟨o, k o ho, r⟩⟩
section
variable {X : Cx}
def rKeysK : V → List V → Hp → VK → Prop := fun x xs H Q => ∃ (a : Addr) (kvs : List (Key × V)), x = .ref a ∧ xs = [] ∧ H a = some (.dK kvs) ∧ ∀ p, H p = none → Q (.ref p) (upd H p (keysO p a))
theorem mt_keysK : MtR X "dict.keys" rKeysK := by
  intro pins s σ H x xs v us Q I rx rxs h
  obtain ⟨a, kvs, rfl, rfl, ha, q⟩ := h
  cases rx
  cases rxs
  obtain ⟨z, hd, vs, rel, dd⟩ := dk_of I.hok ha
  refine call_meetsIn PySem.F.slot_dict_keys dd.typeIs PySem.F.entry_dict_keys (PySem.F.args_dict_keys_1 _) (PySem.W.kdl_meets_keys (mixKind X.prog X.w) a hd) ⟨⟨vs, dd⟩, ?_⟩
  exact ⟨.ref s.heap.objs.size, upd H s.heap.objs.size (keysO s.heap.objs.size a), I.laid (t' := s.toks) (fun b u e => Heap.get?_push_of_some _ e) (Nat.le_refl _) (keysO_ok (Heap.get?_push_size _ rfl)), rfl, q _ (I.hok.fresh (Nat.le_refl _))⟩
/-- sorted(d.keys()) -/
def rSortedK : List V → Hp → VK → Prop := fun xs H Q => ∃ (p a : Addr) (kvs : List (Key × V)) (ks : List Str), xs = [.ref p] ∧ H p = some (keysO p a) ∧ H a = some (.dK kvs) ∧ kvs.map (·.1) = ks.map Sum.inr ∧
    ∀ ys l, ys.Perm ks → sortedS ys = true → H l = none → Q (.ref l) (upd H l (.lst (ys.map V.str)))
theorem call_sortedK (hcalm : X.calm = true) : CallR X (.builtin "sorted") rSortedK := by
  intro pins s σ H xs us Q I r q
  obtain ⟨p, a, kvs, ks, ex, hp, hd, hks, q⟩ := q
  subst ex
  obtain ⟨u, eu, rx⟩ := vals1 r
  subst eu
  cases rx
  have view : PySem.W.KdlKeysView s.heap p a := (show ObjOk X.prog X.w H s.heap p (keysO p a) from I.hok p _ hp).1
  obtain ⟨z, lo, vs, rel, dd⟩ := dk_of I.hok hd
  obtain ⟨ep, hat⟩ := dd.dictAt
  have hkeys : vs.map (·.1) = ks.map Sum.inr := rel.keys.symm.trans hks
  have hl : vs.length = ks.length := by
    have e := congrArg List.length hkeys
    rw [List.length_map, List.length_map] at e
    exact e
  have h16 : vs.length ≤ sizeLine := by rw [← rel.length]; exact z
  refine Calls.call_function_entry PyProof.Rows.kind_sorted PyProof.Rows.plain_sorted PyProof.Rows.entry_sorted (PyProof.Rows.args_sorted1 _) ?_
  unfold Builtin.«sorted»
  refine wpAny_bind (m := checkCount "sorted" 1 1 _) (wpAny_pure ?_)
  refine wpAny_bind (PySem.W.kdu_collect (A := X.A.in1) (PySem.W.kdl_keys (knd := mixKind X.prog X.w) (kvs := vs) (ep := ep)) (I.ok.hd hcalm) ⟨view, hat⟩ h16 fun h' tk acc hk hacc => ?_)
  have hal : acc.toList.length = ks.length := by rw [Array.length_toList, hacc.1, hl]
  have hS : StrsAre acc.toList ks := strs_at hal fun j v e => by
    obtain ⟨k, x, e1, e2⟩ := hacc.2 j v (by rw [← Array.getElem?_toList]; exact e)
    have e3 : (vs.map (·.1))[j]? = some k := by rw [List.getElem?_map, e1]; all_goals rfl
    rw [hkeys, List.getElem?_map] at e3
    cases e4 : ks[j]? with
    | none => rw [e4] at e3; cases e3
    | some y =>
      rw [e4] at e3
      have e5 : Sum.inr y = k := Option.some.inj e3
      subst e5
      obtain ⟨t, ev⟩ := Value.isStrOf_shape (x := y) (v := v) e2
      exact ⟨y, t, rfl, ev⟩
  have I1 : Inv X pins σ H { s with heap := h', toks := tk } := I.kept hk
  refine wpAny_bind (wpAny_newList ?_ (by rw [hal, ← hl]; exact h16))
  have hoL : (h'.push (seqObj "list" acc.toList.toArray 0)).get? h'.objs.size = some (seqObj "list" acc.toList.toArray 0) := Heap.get?_push_size _ rfl
  show wpAny _ _ _ _ _ { s with heap := h'.push (seqObj "list" acc.toList.toArray 0), toks := tk }
  refine wpAny_bind (wpAny_holding (wpAny_call_entry PyProof.Rows.slot_list_sort ⟨_, hoL, rfl⟩ PyProof.Rows.entry_list_sort
    (list_sort_treeKAny strKind_oneLt (s := { s with heap := h'.push (seqObj "list" acc.toList.toArray 0), toks := tk }) hoL hS.keysOf (fun v₁ v₂ rest e => keyKind_strs (by rw [← e]; exact hS)) (by rw [hal, ← hl]; exact h16) fun st' hp hs => ⟨_, rfl, ?_⟩)
    (PyProof.Rows.args_list_sort _)))
  obtain ⟨ys, g1, g2, g3⟩ := sorted_out_str hS hp hs
  obtain ⟨e', he'⟩ := PyProof.Rows.sortedHeap_at (vs := acc.toList) (out := (arrOf st').map (·.2)) hoL
  have hlen : (ys.map V.str).length ≤ sizeLine := by
    rw [List.length_map, g2.length_eq, ← hl]
    exact h16
  refine wpAny_pure ⟨_, rfl, .ref h'.objs.size, upd H h'.objs.size (.lst (ys.map V.str)), I1.laid (t' := tk) (fun b u e => ?_) (Nat.le_refl _)
    (show ObjOk X.prog X.w _ _ _ (.lst (ys.map V.str)) from ⟨hlen, ((arrOf st').map (·.2)).toList, e', vals_of_strs g1, by rw [Array.toArray_toList]; exact he'⟩), rfl, q ys _ g2 g3 (I1.hok.fresh (Nat.le_refl _))⟩
  have hb : b < h'.objs.size := Heap.lt_size e
  rw [PyProof.Rows.sortedHeap_old (Nat.ne_of_lt hb) (by rw [size_push']; exact Nat.lt_succ_of_lt hb)]
  exact Heap.get?_push_of_some _ e
end
/-- texts in order -/
def SortedT (ys : List Tx) : Prop := sortedS (ys.map strOf) = true
section
variable {X : Cx} {F0 H0 : Hp} {e : Expr} {pos p apos cpos : Pos}
def dSortK1 (P : D → Prop) (ds : List (Tx × D)) : Prop := ds.length ≤ sizeLine ∧ ∀ ys : List Tx, ys.Perm (ds.map (·.1)) → SortedT ys → P (.lst (ys.map D.str))
def dSortK (i : Nat) : DE := fun ρ P => getK i ρ (dSortK1 P)
theorem ln_sortK {i : Nat} (hc : X.calm = true) (hg : Gl X "sorted") (hm : X.mg "sorted" = none) (ho : PE X e (tVar i))
    (hbase : attributeBase e "keys" X.env (eval e X.env) = eval e X.env := by rfl) (hline : (apos.endLine == cpos.line) = true := by rfl)
    (he : starEach [.Call (.Attribute e "keys" apos) [] [] cpos] X.env = (false, eval (.Call (.Attribute e "keys" apos) [] [] cpos) X.env) :: starEach [] X.env := by rfl) (hpl : (backTo pos (starEach [] X.env)).any (·.1) = false := by rfl) :
    LN X F0 H0 (.Call (.Name "sorted" p) [.Call (.Attribute e "keys" apos) [] [] cpos] [] pos) (dSortK i) :=
  peW (pe_callB (call_sortedK hc) hg hm (by decide +kernel) (pa_cons (pe_bm0 PySem.F.plainAttrs_dict PySem.F.slot_dict_keys PySem.F.type_dict_keys mt_keysK ho hbase hline) pa_nil he) (by decide) (by decide) he hpl) fun σ H Q ⟨F, ρ, fps, P, R, q, k⟩ => by
    obtain ⟨ds, hs, q⟩ := getK_elim q
    obtain ⟨A, vs, g1, g2, g3, g4, g5⟩ := R.dkAt hs
    refine ⟨_, g1, .inr (.inr (.inl ⟨rfl, .inl ⟨_, g3⟩⟩)), A, vs, rfl, rfl, g3, fun p hp => ?_⟩
    have hpA : A ≠ p := ne_of_none g3 hp
    refine ⟨p, A, vs, ds.map fun z => strOf z.1, rfl, upd_same, by rw [upd_ne hpA]; exact g3, g4.keys, fun ys l hperm hsort hl => ?_⟩
    have np : H l = none ∧ l ≠ p := by
      by_cases z : l = p
      · subst z; rw [upd_same] at hl; cases hl
      · rw [upd_ne z] at hl; exact ⟨hl, z⟩
    -- the texts as data
    have hy : (ys.map txOf).map strOf = ys := by
      rw [List.map_map]
      conv => rhs; rw [← List.map_id ys]
      exact List.map_congr_left fun y _ => strOf_txOf y
    have hp2 : (ys.map txOf).Perm (ds.map (·.1)) := by
      have := hperm.map txOf
      rw [List.map_map] at this
      exact this
    have hs2 : SortedT (ys.map txOf) := by
      unfold SortedT
      rw [hy]; exact hsort
    have ok : ∀ n ∈ ys.map txOf, n.length ≤ sizeLine ∧ okTx n = true := fun n hn => by
      have := hp2.mem_iff.mp hn
      obtain ⟨q, hq, rfl⟩ := List.mem_map.mp this
      exact g4.okKeys q hq
    have hlen : (ys.map txOf).length ≤ sizeLine := by
      rw [hp2.length_eq, List.length_map]; exact q.1
    have nF : F p = none := R.x.w.free hp
    have nFl : F l = none := R.x.w.free np.1
    have rl : RepL X.K F (ys.map V.str) ((ys.map txOf).map D.str) := by
      have := RepL.of_strs (K := X.K) (F := F) (ys.map txOf) ok
      rw [hy] at this
      exact this
    have e1 : Ext F H F (upd H p (keysO p A)) := ⟨.refl _, L2same_upd_new hp, R.x.w.trans (L2same_upd_new hp), fun _ _ => rfl⟩
    have e2 : Ext F (upd H p (keysO p A)) F (upd (upd H p (keysO p A)) l (.lst (ys.map V.str))) := ⟨.refl _, L2same_upd_new hl, e1.w.trans (L2same_upd_new hl), fun _ _ => rfl⟩
    exact k _ (q.2 _ hp2 hs2) F _ _ [l] (e1.trans e2) (.lst upd_same rl (by rw [List.length_map]; exact hlen) nFl) (by simp) fun a ha => by
      simp at ha; subst ha
      exact np.1
theorem le_sortK {i : Nat} (hc : X.calm = true) (hg : Gl X "sorted") (hm : X.mg "sorted" = none) (ho : PE X e (tVar i))
    (hbase : attributeBase e "keys" X.env (eval e X.env) = eval e X.env := by rfl) (hline : (apos.endLine == cpos.line) = true := by rfl)
    (he : starEach [.Call (.Attribute e "keys" apos) [] [] cpos] X.env = (false, eval (.Call (.Attribute e "keys" apos) [] [] cpos) X.env) :: starEach [] X.env := by rfl) (hpl : (backTo pos (starEach [] X.env)).any (·.1) = false := by rfl) :
    LE X F0 H0 (.Call (.Name "sorted" p) [.Call (.Attribute e "keys" apos) [] [] cpos] [] pos) (dSortK i) := le_frz (ln_sortK hc hg hm ho hbase hline he hpl)
end
end DL
end
section
namespace DL
open PySem L2
def dnK2 (i : Nat) (E : DEn) (ρ : Rh) (x y : D) : Prop := match x with | .str k => putS i (.dk [(k, y)]) ρ E.nx | _ => False
def dnK1 (i : Nat) (dv : DE) (E : DEn) (ρ : Rh) (x : D) : Prop := dv ρ (dnK2 i E ρ x)
def dmvK2 (i : Nat) (ds : List (Tx × D)) (E : DEn) (ρ : Rh) : Prop := putS i (.dk ds) ρ E.nx
def dmvK (i j : Nat) (E : DEn) (ρ : Rh) (ds : List (Tx × D)) : Prop := putS j .no ρ (dmvK2 i ds E)
section
variable {i j : Nat} {ρ : Rh} {s : Sl} {ds : List (Tx × D)} {PK : List (Tx × D) → Prop} {P : D → Prop} {PB : Bool → Prop} {E : DEn} {da db : DE} {dg : DG} {d1 : DS} {x y : D} {k : Tx} {n : Bool}
theorem q_getK0 : getK 0 (.dk ds :: ρ) PK = PK ds := id rfl
theorem q_getKS : getK (i + 1) (s :: ρ) PK = getK i ρ PK := id rfl
theorem q_dnew0 : dDNew0 i E ρ = putS i (.dk []) ρ E.nx := id rfl
theorem q_dnew1 : dDNew1 i da db E ρ = da ρ (dnK1 i db E ρ) := by
  unfold dDNew1
  congr 1
theorem q_dnK1 : dnK1 i db E ρ x = db ρ (dnK2 i E ρ x) := id rfl
theorem q_dnK2 : dnK2 i E ρ (.str k) y = putS i (.dk [(k, y)]) ρ E.nx := id rfl
theorem q_dmv : dDMv i j E ρ = getK j ρ (dmvK i j E ρ) := id rfl
theorem q_dmvK : dmvK i j E ρ ds = putS j .no ρ (dmvK2 i ds E) := id rfl
theorem q_dmvK2 : dmvK2 i ds E ρ = putS i (.dk ds) ρ E.nx := id rfl
theorem q_dput : dDPut i da db E ρ = getK i ρ (dpK1 i da db E ρ) := id rfl
theorem q_dpK1 : dpK1 i da db E ρ ds = da ρ (dpK2 i db E ρ ds) := id rfl
theorem q_dpK2 : dpK2 i db E ρ ds y = db ρ (dpK3 i E ρ ds y) := id rfl
theorem q_dpK3 : dpK3 i E ρ ds y (.str k) = (ds.length < sizeLine ∧ putS i (.dk (kPut ds k y)) ρ E.nx) := id rfl
theorem q_tInK : dTInK n i da ρ PB = getK i ρ (dTInK1 n da ρ PB) := id rfl
theorem q_tInK1 : dTInK1 n da ρ PB ds = da ρ (dTInK2 n ds PB) := id rfl
theorem q_tInK2t : dTInK2 true ds PB (.str k) = PB (!kHas ds k) := id rfl
theorem q_tInK2f : dTInK2 false ds PB (.str k) = PB (kHas ds k) := id rfl
theorem q_lenK : dLenK i ρ P = getK i ρ (dLenK1 P) := id rfl
theorem q_lenK1 : dLenK1 P ds = P (.int (ds.length : Nat)) := id rfl
theorem q_forKd : dForK i dg d1 E ρ = getK i ρ (dForK1 i dg d1 E ρ) := id rfl
theorem q_forKd1 : dForK1 i dg d1 E ρ ds = putS i .no ρ (forD dg d1 E (ds.map fun p => .tup [.str p.1, p.2])) := id rfl
theorem q_sortK : dSortK i ρ P = getK i ρ (dSortK1 P) := id rfl
theorem q_sortK1 : dSortK1 P ds = (ds.length ≤ sizeLine ∧ ∀ ys : List Tx, ys.Perm (ds.map (·.1)) → SortedT ys → P (.lst (ys.map D.str))) := id rfl
end
def kIns (l : List Tx) (k : Tx) : List Tx := if k ∈ l then l else l ++ [k]
theorem kHas_mem {l : List (Tx × D)} {k : Tx} : kHas l k = decide (k ∈ l.map (·.1)) := by
  unfold kHas
  rw [Bool.eq_iff_iff]
  simp [List.any_eq_true]
theorem kPut_keys (l : List (Tx × D)) (k : Tx) (d : D) : (kPut l k d).map (·.1) = kIns (l.map (·.1)) k := by
  unfold kPut kIns
  rw [kHas_mem]
  simp only [decide_eq_true_eq]
  split
  · rw [List.map_map]
    refine List.map_congr_left fun p _ => ?_
    simp only [Function.comp]
    split <;> simp_all
  · simp
theorem kPut_vals {p : Tx × D → Prop} {l : List (Tx × D)} {k : Tx} {d : D} (h : ∀ q ∈ l, p q) (h2 : p (k, d)) (h3 : ∀ q ∈ l, q.1 = k → p (q.1, d)) : ∀ q ∈ kPut l k d, p q := by
  unfold kPut
  split
  · intro q hq
    obtain ⟨r, hr, rfl⟩ := List.mem_map.mp hq
    split
    · rename_i e
      exact h3 r hr e
    · exact h r hr
  · intro q hq
    rcases List.mem_append.mp hq with z | z
    · exact h q z
    · simp only [List.mem_singleton] at z
      rw [z]; exact h2
theorem nodup_le : ∀ {l w : List Tx}, l.Nodup → (∀ x ∈ l, x ∈ w) → l.length ≤ w.length
  | [], w, _, _ => Nat.zero_le _
  | x :: l, w, h, hs => by
    rw [List.nodup_cons] at h
    have hx : x ∈ w := hs x (by simp)
    have := nodup_le (l := l) (w := w.erase x) h.2 fun y hy => (List.mem_erase_of_ne (fun e => h.1 (by rw [← e]; exact hy))).mpr (hs y (by simp [hy]))
    rw [List.length_erase_of_mem hx] at this
    have h1 : 0 < w.length := List.length_pos_of_mem hx
    simp only [List.length_cons]
    omega
theorem kIns_nodup {l : List Tx} {k : Tx} (h : l.Nodup) : (kIns l k).Nodup := by
  unfold kIns
  split
  · exact h
  · rename_i n
    rw [List.nodup_append]
    exact ⟨h, by simp, fun a ha b hb e => n (by simp at hb; rw [← hb, ← e]; exact ha)⟩
theorem mem_kIns {l : List Tx} {k x : Tx} : x ∈ kIns l k ↔ x ∈ l ∨ x = k := by
  unfold kIns
  split
  · rename_i h
    exact ⟨.inl, fun z => z.elim id fun e => by rw [e]; exact h⟩
  · simp
end DL
end
section
namespace DL
open PySem L2 PySem.Spec PyProof.Rows
def rEq0 (K : PySem.W.Frag) : R2 := fun x y H Q => ∃ a b xs, x = .ref a ∧ y = .ref b ∧ SqL K H a xs ∧ SqL K H b [] ∧ Q (.bl xs.isEmpty) H
theorem op_eq0 {X : Cx} (hu : X.A.units + 64 < cLine) : OpR X (compareOp .Eq) (rEq0 X.K) := by
  intro pins s σ H x y v u Q I rx ry h
  obtain ⟨a, b, xs, rfl, rfl, h1, h2, q⟩ := h
  cases rx
  cases ry
  obtain ⟨i1, r1, p1, z1⟩ := I.list h1
  obtain ⟨i2, r2, p2, z2⟩ := I.list h2
  cases r2
  have hl := r1.length
  cases xs with
  | nil =>
    have e1 : i1 = [] := List.eq_nil_of_length_eq_zero (by rw [← hl]; rfl)
    subst e1
    refine SeqAt.eq_listAt (e := fun _ => true) p1.isList p2.isList rfl (by omega) (fun j h _ => absurd h (by simp)) ?_
    exact ⟨.bl true, H, I, rfl, q⟩
  | cons x xs =>
    refine SeqAt.eq_list_lengthsAt p1.isList p2.isList ?_ (by omega) ⟨.bl false, H, I, rfl, q⟩
    simp only [List.length_cons] at hl
    simp only [List.size_toArray, bne_iff_ne]
    show i1.length ≠ 0
    omega
def dEq0 : DR2
  | .lst xs, .lst [], P => P (.bl xs.isEmpty)
  | _, _, _ => False
theorem low_eq0 {K : PySem.W.Frag} : LowR2 K (rEq0 K) dEq0 := by
  intro F H v w x y P Q e bx byy d k
  unfold dEq0 at d
  split at d
  · rename_i xs
    obtain ⟨a, vs, rfl, s1, r1, _⟩ := bx.lst e
    obtain ⟨b, us, rfl, s2, r2, _⟩ := byy.lst e
    cases r2
    have : vs.isEmpty = xs.isEmpty := by
      have := r1.length
      cases vs <;> cases xs <;> simp_all
    exact ⟨a, b, vs, rfl, rfl, s1, s2, by rw [this]; exact k _ d F H _ (.refl e) (.bl _)⟩
  · exact d.elim
theorem c_eq0 {X : Cx} (hu : X.A.units + 64 < cLine) : CmpR X .Eq dEq0 := ⟨_, low_eq0, op_eq0 hu⟩
theorem q_eq0 {xs : List D} {P : D → Prop} : dEq0 (.lst xs) (.lst []) P = P (.bl xs.isEmpty) := id rfl
end DL
end
section
namespace DL
open PySem L2 PySem.Spec PyProof.Rows
def notL : D → Prop | .lst _ => False | _ => True
theorem notL_ne {d : D} (h : notL d) : ∀ xs, d ≠ .lst xs := fun xs e => by subst e; exact h
section
variable {K : PySem.W.Frag} {F H : Hp}
theorem OwnP.getB : ∀ {vs : List V} {ds : List D} {fp : List Addr} {k : Nat} {d : D}, OwnP K F H vs ds fp → ds[k]? = some d → ∃ v, vs[k]? = some v ∧ BRep K F H v d
  | _, _, _, _, _, .nil, e => by simp at e
  | _, _, _, 0, _, .sh r n q, e => by simp at e; subst e; exact ⟨_, rfl, .inl r⟩
  | _, _, _, 0, _, .ow h r z n q, e => by simp at e; subst e; exact ⟨_, rfl, .inr ⟨_, .lst h r z n, trivial⟩⟩
  | _, _, _, k + 1, _, .sh r n q, e => by
    obtain ⟨v, h1, h2⟩ := q.getB (k := k) (by simpa using e)
    exact ⟨v, by simpa using h1, h2⟩
  | _, _, _, k + 1, _, .ow h r z n q, e => by
    obtain ⟨v, h1, h2⟩ := q.getB (k := k) (by simpa using e)
    exact ⟨v, by simpa using h1, h2⟩
theorem OwnP.getS : ∀ {vs : List V} {ds : List D} {fp : List Addr} {k : Nat} {d : D}, OwnP K F H vs ds fp → ds[k]? = some d → notL d → ∃ v, vs[k]? = some v ∧ Rep K F v d
  | _, _, _, _, _, .nil, e, _ => by simp at e
  | _, _, _, 0, _, .sh r n q, e, _ => by simp at e; subst e; exact ⟨_, rfl, r⟩
  | _, _, _, 0, _, .ow h r z n q, e, nl => by simp at e; subst e; exact nl.elim
  | _, _, _, k + 1, _, .sh r n q, e, nl => by
    obtain ⟨v, h1, h2⟩ := q.getS (k := k) (by simpa using e) nl
    exact ⟨v, by simpa using h1, h2⟩
  | _, _, _, k + 1, _, .ow h r z n q, e, nl => by
    obtain ⟨v, h1, h2⟩ := q.getS (k := k) (by simpa using e) nl
    exact ⟨v, by simpa using h1, h2⟩
/-- a list in it, changed -/
theorem OwnP.setAt : ∀ {vs : List V} {ds : List D} {fp : List Addr} {k : Nat} {xs : List D}, OwnP K F H vs ds fp → fp.Nodup → ds[k]? = some (.lst xs) →
    ∃ b ws, vs[k]? = some (.ref b) ∧ H b = some (.lst ws) ∧ RepL K F ws xs ∧ xs.length ≤ sizeLine ∧ b ∈ fp ∧ F b = Option.none ∧
      ∀ ws' xs', RepL K F ws' xs' → xs'.length ≤ sizeLine → OwnP K F (upd H b (.lst ws')) vs (ds.set k (.lst xs')) fp
  | _, _, _, _, _, .nil, _, e => by simp at e
  | _, _, _, 0, _, .sh r n q, _, e => by simp at e; exact absurd e (n _)
  | _, _, _, 0, _, .ow h r z n q, nd, e => by
    simp at e; subst e
    rw [List.nodup_cons] at nd
    exact ⟨_, _, rfl, h, r, z, by simp, n, fun ws' xs' r' z' => .ow upd_same r' z' n (q.updH nd.1)⟩
  | _, _, _, k + 1, _, .sh r n q, nd, e => by
    obtain ⟨b, ws, h1, h2, h3, h4, h5, h6, h7⟩ := q.setAt (k := k) nd (by simpa using e)
    exact ⟨b, ws, by simpa using h1, h2, h3, h4, h5, h6, fun ws' xs' r' z' => .sh r n (h7 ws' xs' r' z')⟩
  | _, _, _, k + 1, _, .ow h r z n q, nd, e => by
    rw [List.nodup_cons] at nd
    obtain ⟨b, ws, h1, h2, h3, h4, h5, h6, h7⟩ := q.setAt (k := k) nd.2 (by simpa using e)
    exact ⟨b, ws, by simpa using h1, h2, h3, h4, List.mem_cons_of_mem _ h5, h6, fun ws' xs' r' z' => .ow (by rw [upd_ne (fun g => nd.1 (by rw [g]; exact h5))]; exact h) r z n (h7 ws' xs' r' z')⟩
theorem SlRep.updH {F0 H0 : Hp} {b : Addr} {u : HO} {x : Option V} {s : Sl} {fp : List Addr} (h : SlRep K F0 H0 F H x s fp) (n : b ∉ fp) : SlRep K F0 H0 F (upd H b u) x s fp := by
  cases h with
  | no => exact .no
  | sh r => exact .sh r
  | bo r => exact .bo r
  | dk h r f => exact .dk (by rw [upd_ne (fun e => n (by simp [e]))]; exact h) r f
  | nl h q z f =>
    rw [List.mem_cons, not_or] at n
    exact .nl (by rw [upd_ne (fun e => n.1 e.symm)]; exact h) (q.updH n.2) z f
  | ow o => exact .ow (o.updH n)
theorem SlsRep.upd_gen {F0 H0 : Hp} {b : Addr} {u : HO} {v : V} {y : D} {fp : List Addr} (hb : b ∈ fp) (o : Own K F (upd H b u) v y fp) : ∀ {σ : L2.St} {ρ : Rh} {fps : List (List Addr)} {i : Nat}, SlsRep K F0 H0 F H σ ρ fps → fps.flatten.Nodup → fps[i]? = some fp → σ[i]? = some (some v) → SlsRep K F0 H0 F (upd H b u) σ (ρ.set i (.ow y)) fps
  | _, _, _, _, .nil, _, h1, _ => by simp at h1
  | _, _, _, 0, .cons q r, nd, h1, h2 => by
    rw [List.flatten_cons, List.nodup_append] at nd
    simp at h1 h2
    subst h1 h2
    exact .cons (.ow o) (r.keep fun hm => nd.2.2 b hb b hm rfl)
  | _, _, _, i + 1, .cons q r, nd, h1, h2 => by
    rw [List.flatten_cons, List.nodup_append] at nd
    simp at h1 h2
    exact .cons (q.updH fun hm => nd.2.2 b hm b (List.mem_flatten.mpr ⟨_, List.mem_of_getElem? h1, hb⟩) rfl) (r.upd_gen hb o nd.2.1 h1 h2)
theorem ERep.updPart {F0 H0 : Hp} {σ : L2.St} {ρ : Rh} {fps : List (List Addr)} {i : Nat} {b : Addr} {fp : List Addr} {v : V} {y : D} {u : HO} (R : ERep K F0 H0 F H σ ρ fps) (h1 : fps[i]? = some fp) (hb : b ∈ fp) (h2 : σ[i]? = some (some v)) (o : Own K F (upd H b u) v y fp) :
    ERep K F0 H0 F (upd H b u) σ (ρ.set i (.ow y)) fps := by
  have ha : b ∈ fps.flatten := List.mem_flatten.mpr ⟨_, List.mem_of_getElem? h1, hb⟩
  refine ⟨⟨R.x.f, fun c w hc => ?_, fun c w hc => ?_, R.x.o⟩, R.s.upd_gen hb o R.p.nd h1 h2, R.p⟩
  · rw [upd_ne (ne_of_none hc (R.p.new b ha))]; exact R.x.h _ _ hc
  · rw [upd_ne (ne_of_none hc (fps_there R.s b ha).1)]; exact R.x.w _ _ hc
/-- the k-th part -/
def nthK : Nat → List D → (D → Prop) → Prop
  | _, [], _ => False
  | 0, x :: _, P => P x
  | k + 1, _ :: r, P => nthK k r P
theorem nthK_elim : ∀ {k : Nat} {xs : List D} {P : D → Prop}, nthK k xs P → ∃ d, xs[k]? = some d ∧ P d
  | _, [], _, h => by unfold nthK at h; exact h.elim
  | 0, x :: r, P, h => ⟨x, rfl, h⟩
  | k + 1, x :: r, P, h => by
    obtain ⟨d, h1, h2⟩ := nthK_elim (k := k) (xs := r) h
    exact ⟨d, by simpa using h1, h2⟩
def onTup (x : D) (P : List D → Prop) : Prop := match x with | .tup xs => P xs | _ => False
def ptK (k : Nat) (P : D → Prop) (xs : List D) : Prop := nthK k xs P
def ptG (k : Nat) (P : D → Prop) (x : D) : Prop := onTup x (ptK k P)
def dPt (i k : Nat) : DE := fun ρ P => getO i ρ (ptG k P)
def ptS (P : D → Prop) (d : D) : Prop := notL d ∧ P d
def dPtS (i k : Nat) : DE := fun ρ P => getO i ρ (ptG k (ptS P))
def lenTG (P : D → Prop) (x : D) : Prop := onTup x fun xs => P (.int xs.length)
def dLenT (i : Nat) : DE := fun ρ P => getO i ρ (lenTG P)
def isiTG (n : String) (P : D → Prop) (x : D) : Prop := onTup x fun _ => onOpt (kitB "tuple" n) (blK P)
def dIsiT1 (i : Nat) (n : String) : DE := fun ρ P => getO i ρ (isiTG n P)
def onLst (x : D) (P : List D → Prop) : Prop := match x with | .lst xs => P xs | _ => False
def clrP3 (i k : Nat) (E : DEn) (ρ : Rh) (xs ys : List D) : Prop := E.nx (ρ.set i (.ow (.tup (xs.set k (.lst [])))))
def clrP2 (i k : Nat) (E : DEn) (ρ : Rh) (xs : List D) (d : D) : Prop := onLst d (clrP3 i k E ρ xs)
def clrP1 (i k : Nat) (E : DEn) (ρ : Rh) (xs : List D) : Prop := nthK k xs (clrP2 i k E ρ xs)
def clrP0 (i k : Nat) (E : DEn) (ρ : Rh) (x : D) : Prop := onTup x (clrP1 i k E ρ)
def dClrP (i k : Nat) : DS := fun E ρ => getO i ρ (clrP0 i k E ρ)
def appP4 (i k : Nat) (E : DEn) (ρ : Rh) (xs ys : List D) (y : D) : Prop := ys.length < sizeLine ∧ E.nx (ρ.set i (.ow (.tup (xs.set k (.lst (ys ++ [y]))))))
def appP3 (i k : Nat) (da : DE) (E : DEn) (ρ : Rh) (xs ys : List D) : Prop := da ρ (appP4 i k E ρ xs ys)
def appP2 (i k : Nat) (da : DE) (E : DEn) (ρ : Rh) (xs : List D) (d : D) : Prop := onLst d (appP3 i k da E ρ xs)
def appP1 (i k : Nat) (da : DE) (E : DEn) (ρ : Rh) (xs : List D) : Prop := nthK k xs (appP2 i k da E ρ xs)
def appP0 (i k : Nat) (da : DE) (E : DEn) (ρ : Rh) (x : D) : Prop := onTup x (appP1 i k da E ρ)
def dAppP (i k : Nat) (da : DE) : DS := fun E ρ => getO i ρ (appP0 i k da E ρ)
theorem getO_elim {i : Nat} {ρ : Rh} {P : D → Prop} (h : getO i ρ P) : ∃ x, ρ[i]? = some (.ow x) ∧ P x := by
  unfold getO at h
  split at h
  · rename_i x hx; exact ⟨x, hx, h⟩
  · exact h.elim
theorem ERep.tupAt {F0 H0 : Hp} {σ : L2.St} {ρ : Rh} {fps : List (List Addr)} {i : Nat} {xs : List D} (R : ERep K F0 H0 F H σ ρ fps) (h : ρ[i]? = some (.ow (.tup xs))) :
    ∃ a vs fp, σ[i]? = some (some (.ref a)) ∧ fps[i]? = some (a :: fp) ∧ H a = some (.tup vs) ∧ OwnP K F H vs xs fp ∧ xs.length ≤ sizeLine ∧ F a = none ∧ (a :: fp).Nodup := by
  obtain ⟨x, fp, h1, h2, h3⟩ := R.s.get h
  have nd : fp.Nodup := R.p.nd.sublist (List.sublist_flatten_of_mem (List.mem_of_getElem? h2))
  cases h3 with
  | ow o => cases o with | tup g q z n => exact ⟨_, _, _, h1, h2, g, q, z, n, nd⟩
end
section
variable {X : Cx} {F0 H0 : Hp} {e a b c o : Expr} {es : List Expr} {pos p apos : Pos} {x : Str}
def lowAP (K : PySem.W.Frag) (F0 H0 : Hp) (d : DA) : TA := fun σ H Q => ∃ F ρ fps P, ERep K F0 H0 F H σ ρ fps ∧ d ρ P ∧ ∀ xs, P xs → ∀ F' H' vs fp, Ext F H F' H' → OwnP K F' H' vs xs fp → fp.Nodup → (∀ a ∈ fp, H a = none) → Q vs H'
abbrev LAP (X : Cx) (F0 H0 : Hp) (es : List Expr) (d : DA) : Prop := PA X es (lowAP X.K F0 H0 d)
theorem lap_nil : LAP X F0 H0 [] dNil := paW pa_nil fun σ H Q ⟨F, ρ, fps, P, E, q, k⟩ => k [] q F H [] [] (.refl E.x.w) .nil (by simp) (by simp)
def consS1 (P : List D → Prop) (x : D) (r : List D) : Prop := P (x :: r)
def consSK (dr : DA) (ρ : Rh) (P : List D → Prop) (x : D) : Prop := notL x ∧ dr ρ (consS1 P x)
def dConsS (da : DE) (dr : DA) : DA := fun ρ P => da ρ (consSK dr ρ P)
def consOK (dr : DA) (ρ : Rh) (P : List D → Prop) (x : D) : Prop := onLst x fun _ => dr ρ (consS1 P x)
def dConsO (da : DE) (dr : DA) : DA := fun ρ P => da ρ (consOK dr ρ P)
theorem lap_sh {da : DE} {dr : DA} (ha : LE X F0 H0 e da) (hr : LAP X F0 H0 es dr) (hs : starEach (e :: es) X.env = (false, eval e X.env) :: starEach es X.env := by rfl) : LAP X F0 H0 (e :: es) (dConsS da dr) :=
  paW (pa_cons ha hr hs) fun σ H Q ⟨F, ρ, fps, P, E, q, k⟩ => ⟨F, ρ, fps, _, E, q, fun x hx F1 H1 v e1 r1 =>
    ⟨F1, ρ, fps, _, E.ext e1, hx.2, fun y hy F2 H2 w fp e2 r2 nd nf => k _ hy F2 H2 _ fp (e1.trans e2) (.sh (r1.mono e2.f) (notL_ne hx.1) r2) nd fun a ha => e1.h.free (nf a ha)⟩⟩
theorem lap_ow {da : DE} {dr : DA} (ha : LN X F0 H0 e da) (hr : LAP X F0 H0 es dr) (hs : starEach (e :: es) X.env = (false, eval e X.env) :: starEach es X.env := by rfl) : LAP X F0 H0 (e :: es) (dConsO da dr) :=
  paW (pa_cons ha hr hs) fun σ H Q ⟨F, ρ, fps, P, E, q, k⟩ => ⟨F, ρ, fps, _, E, q, fun x hx F1 H1 v fp1 e1 o1 nd1 nf1 => by
    cases x with
    | lst xs =>
      cases o1 with
      | lst g r z n =>
        rename_i l ws
        refine ⟨F1, ρ, fps, _, E.ext e1, hx, fun y hy F2 H2 w fp e2 r2 nd nf => k _ hy F2 H2 _ (l :: fp) (e1.trans e2) (.ow (e2.h _ _ g) (r.mono e2.f) z (by rw [e2.o _ (by rw [g]; simp)]; exact n) r2) (List.nodup_cons.mpr ⟨fun hm => ?_, nd⟩) fun a ha => ?_⟩
        · have := nf _ hm
          rw [g] at this; cases this
        · rcases List.mem_cons.mp ha with z1 | z1
          · subst z1; exact nf1 _ (by simp)
          · exact e1.h.free (nf a z1)
    | _ => exact hx.elim⟩
/-- a tuple that is new, with the new lists in it -/
theorem ln_tupO {da : DA} {x1} (h : LAP X F0 H0 es da) : LN X F0 H0 (.Tuple es x1 pos) (dTup da) :=
  peW (pe_tup h) fun σ H Q ⟨F, ρ, fps, P, E, q, k⟩ => ⟨F, ρ, fps, _, E, q, fun xs hx F1 H1 vs fp e1 o nd nf => ⟨by rw [o.length]; exact hx.1, fun p hp => by
    have np : p ∉ fp := fun hm => (o.none p hm).2 hp
    refine k _ hx.2 F1 _ _ (p :: fp) (e1.trans ⟨.refl _, L2same_upd_new hp, e1.w.trans (L2same_upd_new hp), fun _ _ => rfl⟩) (.tup upd_same (o.updH np) hx.1 (e1.w.free hp)) (List.nodup_cons.mpr ⟨np, nd⟩) fun a ha => ?_
    rcases List.mem_cons.mp ha with z | z
    · subst z; exact e1.h.free hp
    · exact nf a z⟩⟩
/-- a part, looked at -/
theorem lb_pt {i k : Nat} (ho : PE X o (tVar i)) (hb : PE X b (tC (.int (k : Nat)))) (hs : PlainIx b := by exact fun _ _ => rfl) : LB X F0 H0 (.Subscript o b pos) (dPt i k) :=
  peW (pe_ix ix_tup ho hb hs) fun σ H Q ⟨F, ρ, fps, P, R, q, kk⟩ => by
    obtain ⟨x, hs, q⟩ := getO_elim q
    cases x <;> first | exact q.elim | skip
    rename_i xs
    obtain ⟨d, hd, q⟩ := nthK_elim q
    obtain ⟨a, vs, fp, g1, g2, g3, g4, g5, g6, g7⟩ := R.tupAt hs
    obtain ⟨v, hv, br⟩ := g4.getB hd
    exact ⟨_, g1, a, vs, _, v, rfl, rfl, SqT.of g3, atI_nat hv, kk d q F H _ (.refl R.x.w) br⟩
/-- a part that is no list -/
theorem le_pt {i k : Nat} (ho : PE X o (tVar i)) (hb : PE X b (tC (.int (k : Nat)))) (hs : PlainIx b := by exact fun _ _ => rfl) : LE X F0 H0 (.Subscript o b pos) (dPtS i k) :=
  peW (pe_ix ix_tup ho hb hs) fun σ H Q ⟨F, ρ, fps, P, R, q, kk⟩ => by
    obtain ⟨x, hs, q⟩ := getO_elim q
    cases x <;> first | exact q.elim | skip
    rename_i xs
    obtain ⟨d, hd, nl, q⟩ := nthK_elim q
    obtain ⟨a, vs, fp, g1, g2, g3, g4, g5, g6, g7⟩ := R.tupAt hs
    obtain ⟨v, hv, br⟩ := g4.getS hd nl
    exact ⟨_, g1, a, vs, _, v, rfl, rfl, SqT.of g3, atI_nat hv, kk d q F H _ (.refl R.x.w) br⟩
theorem le_lenT {i : Nat} (hg : Gl X "len") (hm : X.mg "len" = none) (ho : PE X e (tVar i))
    (he : starEach [e] X.env = (false, eval e X.env) :: starEach [] X.env := by rfl) (hpl : (backTo pos (starEach [] X.env)).any (·.1) = false := by rfl) : LE X F0 H0 (.Call (.Name "len" p) [e] [] pos) (dLenT i) :=
  peW (pe_callB call_len_seq hg hm PySem.boot_len (pa_cons ho pa_nil he) (by decide) (by decide) he hpl) fun σ H Q ⟨F, ρ, fps, P, R, q, kk⟩ => by
    obtain ⟨x, hs, q⟩ := getO_elim q
    cases x <;> first | exact q.elim | skip
    rename_i xs
    obtain ⟨a, vs, fp, g1, g2, g3, g4, g5, g6, g7⟩ := R.tupAt hs
    exact ⟨_, g1, a, vs, rfl, .inr (SqT.of g3), by rw [g4.length]; exact kk _ q F H _ (.refl R.x.w) (.int _)⟩
theorem le_isiT1 {i : Nat} {n : String} (hg : Gl X "isinstance") (hm : X.mg "isinstance" = none) (hv : bootBuiltins "isinstance" = some (.builtin "isinstance")) (ho : PE X e (tVar i)) (hc : PE X c (tC (.ty n)))
    (he : starEach [e, c] X.env = (false, eval e X.env) :: starEach [c] X.env := by rfl) (he2 : starEach [c] X.env = (false, eval c X.env) :: starEach [] X.env := by rfl) (hpl : (backTo pos (starEach [c] X.env)).any (·.1) = false := by rfl) :
    LE X F0 H0 (.Call (.Name "isinstance" p) [e, c] [] pos) (dIsiT1 i n) :=
  peW (pe_callB call_isi hg hm hv (pa_cons ho (pa_cons hc pa_nil he2) he) (by decide) (by decide) he hpl) fun σ H Q ⟨F, ρ, fps, P, R, q, kk⟩ => by
    obtain ⟨x, hs, q⟩ := getO_elim q
    cases x <;> first | exact q.elim | skip
    rename_i xs
    obtain ⟨a, vs, fp, g1, g2, g3, g4, g5, g6, g7⟩ := R.tupAt hs
    have q : onOpt (kitB "tuple" n) (blK P) := q
    unfold onOpt at q
    split at q
    · rename_i b hb
      exact ⟨_, g1, .ref a, .ty n, .type "tuple", .type n, b, rfl, .ty _, sqt_ty (SqT.of g3), kit_ty hb, kk _ q F H _ (.refl R.x.w) (.bl _)⟩
    · exact q.elim
/-- x[k].clear() -/
theorem ls_clrP {i k : Nat} (ho : PE X o (tVar i)) (hb : PE X b (tC (.int (k : Nat)))) (h : ∀ to, PE X (.Subscript o b p) to → PE X c (tBM0 X.K "list" rClear to)) (hi : PlainIx b := by exact fun _ _ => rfl)
    (hs : swapsWith c none pos.line X.env = pure false := by rfl) : LS X F0 H0 (.Expr c pos) (dClrP i k) :=
  psW (ps_expr (h _ (pe_ix ix_tup ho hb hi)) hs) fun D σ H ⟨F, ρ, fps, E, R, q, kk⟩ => by
    obtain ⟨x, hs, q⟩ := getO_elim q
    cases x <;> first | exact q.elim | skip
    rename_i xs
    obtain ⟨d, hd, q⟩ := nthK_elim q
    cases d <;> first | exact q.elim | skip
    rename_i ys
    obtain ⟨a, vs, fp, g1, g2, g3, g4, g5, g6, g7⟩ := R.tupAt hs
    rw [List.nodup_cons] at g7
    obtain ⟨l, ws, h1, h2, h3, h4, h5, h6, h7⟩ := g4.setAt g7.2 hd
    refine ⟨_, g1, a, vs, _, _, rfl, rfl, SqT.of g3, atI_nat h1, .inl ⟨rfl, _, .of h2⟩, l, ws, rfl, rfl, h2, ?_⟩
    refine kk.nx F _ _ _ _ (.refl F) (R.updPart g2 (List.mem_cons_of_mem _ h5) g1 (.tup (by rw [upd_ne (fun g => g7.1 (by rw [g]; exact h5))]; exact g3) (h7 [] [] .nil (by simp)) (by rw [List.length_set]; exact g5) g6)) q
/-- x[k].append(e) -/
theorem ls_appP {i k : Nat} {da : DE} (ho : PE X o (tVar i)) (hb : PE X b (tC (.int (k : Nat)))) (ha : LE X F0 H0 e da) (h : ∀ to te, PE X (.Subscript o b p) to → PE X e te → PE X c (tBM X.K "list" rAppend to (tCons te tNil))) (hi : PlainIx b := by exact fun _ _ => rfl)
    (hs : swapsWith c none pos.line X.env = pure false := by rfl) : LS X F0 H0 (.Expr c pos) (dAppP i k da) :=
  psW (ps_expr (h _ _ (pe_ix ix_tup ho hb hi) ha) hs) fun D σ H ⟨F, ρ, fps, E, R, q, kk⟩ => by
    obtain ⟨x, hs, q⟩ := getO_elim q
    cases x <;> first | exact q.elim | skip
    rename_i xs
    obtain ⟨d, hd, q⟩ := nthK_elim q
    cases d <;> first | exact q.elim | skip
    rename_i ys
    obtain ⟨a, vs, fp, g1, g2, g3, g4, g5, g6, g7⟩ := R.tupAt hs
    rw [List.nodup_cons] at g7
    obtain ⟨l, ws, h1, h2, h3, h4, h5, h6, h7⟩ := g4.setAt g7.2 hd
    refine ⟨_, g1, a, vs, _, _, rfl, rfl, SqT.of g3, atI_nat h1, .inl ⟨rfl, _, .of h2⟩, F, ρ, fps, _, R, q, fun y hy F1 H1 v e1 r1 => ?_⟩
    obtain ⟨l', ws', i1, i2, i3, i4, i5, i6, i7⟩ := (g4.ext e1).setAt g7.2 hd
    rw [h1] at i1
    cases i1
    have g3' := e1.h _ _ g3
    have g6' : F1 a = none := by rw [e1.o a (by rw [g3]; simp)]; exact g6
    refine ⟨_, ws', v, rfl, rfl, i2, by rw [i3.length]; exact hy.1, ?_⟩
    refine kk.nx F1 _ _ _ _ e1.f ((R.ext e1).updPart g2 (List.mem_cons_of_mem _ i5) g1 (.tup (by rw [upd_ne (fun g => g7.1 (by rw [g]; exact i5))]; exact g3') (i7 _ _ (i3.append (.cons r1 .nil)) (by have := hy.1; simp; omega)) (by rw [List.length_set]; exact g5) g6')) hy.2
end
section
variable {E : DEn} {ρ : Rh} {P : D → Prop} {PL : List D → Prop} {x y : D} {xs ys r : List D} {k i : Nat} {da : DE} {dr : DA} {n : String} {w : Tx} {f : List D → Prop}
theorem q_pt : dPt i k ρ P = getO i ρ (ptG k P) := id rfl
theorem q_ptS0 : dPtS i k ρ P = getO i ρ (ptG k (ptS P)) := id rfl
theorem q_ptG : ptG k P (.tup xs) = nthK k xs P := id rfl
theorem q_ptSS : ptS P (.str w) = P (.str w) := by
  unfold ptS notL; simp
theorem q_nth0 : nthK 0 (x :: r) P = P x := id rfl
theorem q_nthS : nthK (k + 1) (x :: r) P = nthK k r P := id rfl
theorem q_lenT : dLenT i ρ P = getO i ρ (lenTG P) := id rfl
theorem q_lenTG : lenTG P (.tup xs) = P (.int xs.length) := id rfl
theorem q_isiT1 : dIsiT1 i n ρ P = getO i ρ (isiTG n P) := id rfl
theorem q_isiTG : isiTG n P (.tup xs) = onOpt (kitB "tuple" n) (blK P) := id rfl
theorem q_clrP : dClrP i k E ρ = getO i ρ (clrP0 i k E ρ) := id rfl
theorem q_clrP0 : clrP0 i k E ρ (.tup xs) = nthK k xs (clrP2 i k E ρ xs) := id rfl
theorem q_clrP2 : clrP2 i k E ρ xs (.lst ys) = putS i (.ow (.tup (xs.set k (.lst [])))) ρ E.nx := id rfl
theorem q_appP : dAppP i k da E ρ = getO i ρ (appP0 i k da E ρ) := id rfl
theorem q_appP0 : appP0 i k da E ρ (.tup xs) = nthK k xs (appP2 i k da E ρ xs) := id rfl
theorem q_appP2 : appP2 i k da E ρ xs (.lst ys) = da ρ (appP4 i k E ρ xs ys) := id rfl
theorem q_appP4 : appP4 i k E ρ xs ys y = (ys.length < sizeLine ∧ putS i (.ow (.tup (xs.set k (.lst (ys ++ [y]))))) ρ E.nx) := id rfl
theorem q_consS : dConsS da dr ρ PL = da ρ (consSK dr ρ PL) := id rfl
theorem q_consSK : consSK dr ρ PL (.str w) = dr ρ (consS1 PL (.str w)) := by
  unfold consSK notL; simp
theorem q_consS1 : consS1 PL x r = PL (x :: r) := id rfl
theorem q_consO : dConsO da dr ρ PL = da ρ (consOK dr ρ PL) := id rfl
theorem q_consOK : consOK dr ρ PL (.lst xs) = dr ρ (consS1 PL (.lst xs)) := id rfl
end
end DL
namespace DL
open PySem L2 PySem.Spec PyProof.Rows
def dGeS : DR2
  | .str a, .str b, P => P (.bl (!decide (a < b)))
  | _, _, _ => False
theorem low_geS {K : PySem.W.Frag} : LowR2 K (fun x y H Q => ∃ i j : Str, x = .str i ∧ y = .str j ∧ Q (.bl (!decide (i.cps.toList < j.cps.toList))) H) dGeS := by
  intro F H v w x y P Q e bx byy d k
  unfold dGeS at d
  split at d
  · rename_i i j
    exact ⟨strOf i, strOf j, bx.str.1, byy.str.1, k _ d F H _ (.refl e) (.bl _)⟩
  · exact d.elim
theorem c_geS {X : Cx} : CmpR X .GtE dGeS := ⟨_, low_geS, op_ge_str⟩
theorem q_geS {a b : Tx} {P : D → Prop} : dGeS (.str a) (.str b) P = P (.bl (!decide (a < b))) := id rfl
theorem ltCps_iff : ∀ a b : List Nat, PySem.Spec.ltCps a b = decide (a < b)
  | [], [] => by simp [PySem.Spec.ltCps]
  | [], _ :: _ => by simp [PySem.Spec.ltCps]
  | _ :: _, [] => by simp [PySem.Spec.ltCps]
  | a :: r, b :: t => by
    rw [PySem.Spec.ltCps, ltCps_iff r t, Bool.eq_iff_iff]
    simp [List.cons_lt_cons_iff]
end DL
end
section
namespace DL
open PySem L2 PySem.Spec PyProof.Rows
section
variable {K : PySem.W.Frag} {F H : Hp}
theorem SlsRep.upd_nl {F0 H0 : Hp} {b : Addr} {u : HO} {v : V} {ys : List D} {fp : List Addr} (hb : b ∈ fp) (o : SlRep K F0 H0 F (upd H b u) (some v) (.nl ys) fp) : ∀ {σ : L2.St} {ρ : Rh} {fps : List (List Addr)} {i : Nat}, SlsRep K F0 H0 F H σ ρ fps → fps.flatten.Nodup → fps[i]? = some fp → σ[i]? = some (some v) → SlsRep K F0 H0 F (upd H b u) σ (ρ.set i (.nl ys)) fps
  | _, _, _, _, .nil, _, h1, _ => by simp at h1
  | _, _, _, 0, .cons q r, nd, h1, h2 => by
    rw [List.flatten_cons, List.nodup_append] at nd
    simp at h1 h2
    subst h1 h2
    exact .cons o (r.keep fun hm => nd.2.2 b hb b hm rfl)
  | _, _, _, i + 1, .cons q r, nd, h1, h2 => by
    rw [List.flatten_cons, List.nodup_append] at nd
    simp at h1 h2
    exact .cons (q.updH fun hm => nd.2.2 b hm b (List.mem_flatten.mpr ⟨_, List.mem_of_getElem? h1, hb⟩) rfl) (r.upd_nl hb o nd.2.1 h1 h2)
theorem ERep.updNl {F0 H0 : Hp} {σ : L2.St} {ρ : Rh} {fps : List (List Addr)} {i : Nat} {b : Addr} {fp : List Addr} {v : V} {ys : List D} {u : HO} (R : ERep K F0 H0 F H σ ρ fps) (h1 : fps[i]? = some fp) (hb : b ∈ fp) (h2 : σ[i]? = some (some v)) (o : SlRep K F0 H0 F (upd H b u) (some v) (.nl ys) fp) :
    ERep K F0 H0 F (upd H b u) σ (ρ.set i (.nl ys)) fps := by
  have ha : b ∈ fps.flatten := List.mem_flatten.mpr ⟨_, List.mem_of_getElem? h1, hb⟩
  refine ⟨⟨R.x.f, fun c w hc => ?_, fun c w hc => ?_, R.x.o⟩, R.s.upd_nl hb o R.p.nd h1 h2, R.p⟩
  · rw [upd_ne (ne_of_none hc (R.p.new b ha))]; exact R.x.h _ _ hc
  · rw [upd_ne (ne_of_none hc (fps_there R.s b ha).1)]; exact R.x.w _ _ hc
def getN (i : Nat) (ρ : Rh) (P : List D → Prop) : Prop := match ρ[i]? with | some (.nl x) => P x | _ => False
theorem getN_elim {i : Nat} {ρ : Rh} {P : List D → Prop} (h : getN i ρ P) : ∃ x, ρ[i]? = some (.nl x) ∧ P x := by
  unfold getN at h
  split at h
  · rename_i x hx; exact ⟨x, hx, h⟩
  · exact h.elim
theorem ERep.nlAt {F0 H0 : Hp} {σ : L2.St} {ρ : Rh} {fps : List (List Addr)} {i : Nat} {xs : List D} (R : ERep K F0 H0 F H σ ρ fps) (h : ρ[i]? = some (.nl xs)) :
    ∃ a vs fp, σ[i]? = some (some (.ref a)) ∧ fps[i]? = some (a :: fp) ∧ H a = some (.lst vs) ∧ OwnP K F H vs xs fp ∧ xs.length ≤ sizeLine ∧ F a = none ∧ (a :: fp).Nodup := by
  obtain ⟨x, fp, h1, h2, h3⟩ := R.s.get h
  have nd : fp.Nodup := R.p.nd.sublist (List.sublist_flatten_of_mem (List.mem_of_getElem? h2))
  cases h3 with
  | nl g q z n => exact ⟨_, _, _, h1, h2, g, q, z, n, nd⟩
end
section
variable {X : Cx} {F0 H0 : Hp} {e a b c o tg : Expr} {es : List Expr} {pos p apos : Pos} {x : Str}
def setNlK (i : Nat) (E : DEn) (ρ : Rh) (xs : List D) : Prop := xs.length ≤ sizeLine ∧ putS i (.nl xs) ρ E.nx
def dSetNl (i : Nat) (da : DA) : DS := fun E ρ => da ρ (setNlK i E ρ)
theorem ls_setNl {i : Nat} {da : DA} (h : ∀ te, PE X (.List es p) te → PS X (.Assign [tg] (.List es p) pos) (tAsg te (gName i))) (ha : LAP X F0 H0 es da) : LS X F0 H0 (.Assign [tg] (.List es p) pos) (dSetNl i da) :=
  psW (h _ (pe_lst ha)) fun D σ H ⟨F, ρ, fps, E, R, q, k⟩ => ⟨F, ρ, fps, _, R, q, fun xs hx F1 H1 vs fp e1 o nd nf => ⟨by rw [o.length]; exact hx.1, fun A hA => by
    have np : A ∉ fp := fun hm => (o.none A hm).2 hA
    have e2 : Ext F H F1 (upd H1 A (.lst vs)) := e1.trans ⟨.refl _, L2same_upd_new hA, e1.w.trans (L2same_upd_new hA), fun _ _ => rfl⟩
    have nA : H A = none := e1.h.free hA
    have R' := R.ext e2
    have hnew : ∀ b ∈ A :: fp, H b = none := fun b hb => by
      rcases List.mem_cons.mp hb with z | z
      · rw [z]; exact nA
      · exact nf b z
    refine k.nx F1 _ _ _ (fps.set i (A :: fp)) e2.f ⟨R'.x, R'.s.set (.nl upd_same (o.updH np) hx.1 (e1.w.free hA)) i, nodup_set_flatten R.p.nd (List.nodup_cons.mpr ⟨np, nd⟩) fun b hb hm => (fps_there R.s b hm).2 (hnew b hb), fun b hb => ?_⟩ hx.2
    rcases mem_set_flatten hb with q | q
    · exact R.p.new b q
    · exact R.x.h.free (hnew b q)⟩⟩
def dPn (i k : Nat) : DE := fun ρ P => getN i ρ (ptK k P)
theorem lb_pn {i k : Nat} (ho : PE X o (tVar i)) (hb : PE X b (tC (.int (k : Nat)))) (hs : PlainIx b := by exact fun _ _ => rfl) : LB X F0 H0 (.Subscript o b pos) (dPn i k) :=
  peW (pe_ix ix_list ho hb hs) fun σ H Q ⟨F, ρ, fps, P, R, q, kk⟩ => by
    obtain ⟨xs, hs, q⟩ := getN_elim q
    obtain ⟨d, hd, q⟩ := nthK_elim q
    obtain ⟨a, vs, fp, g1, g2, g3, g4, g5, g6, g7⟩ := R.nlAt hs
    obtain ⟨v, hv, br⟩ := g4.getB hd
    exact ⟨_, g1, a, vs, _, v, rfl, rfl, SqL.of g3, atI_nat hv, kk d q F H _ (.refl R.x.w) br⟩
def clrN3 (i k : Nat) (E : DEn) (ρ : Rh) (xs ys : List D) : Prop := putS i (.nl (xs.set k (.lst []))) ρ E.nx
def clrN2 (i k : Nat) (E : DEn) (ρ : Rh) (xs : List D) (d : D) : Prop := onLst d (clrN3 i k E ρ xs)
def clrN1 (i k : Nat) (E : DEn) (ρ : Rh) (xs : List D) : Prop := nthK k xs (clrN2 i k E ρ xs)
def dClrNl (i k : Nat) : DS := fun E ρ => getN i ρ (clrN1 i k E ρ)
def appN4 (i k : Nat) (E : DEn) (ρ : Rh) (xs ys : List D) (y : D) : Prop := ys.length < sizeLine ∧ putS i (.nl (xs.set k (.lst (ys ++ [y])))) ρ E.nx
def appN3 (i k : Nat) (da : DE) (E : DEn) (ρ : Rh) (xs ys : List D) : Prop := da ρ (appN4 i k E ρ xs ys)
def appN2 (i k : Nat) (da : DE) (E : DEn) (ρ : Rh) (xs : List D) (d : D) : Prop := onLst d (appN3 i k da E ρ xs)
def appN1 (i k : Nat) (da : DE) (E : DEn) (ρ : Rh) (xs : List D) : Prop := nthK k xs (appN2 i k da E ρ xs)
def dAppNl (i k : Nat) (da : DE) : DS := fun E ρ => getN i ρ (appN1 i k da E ρ)
theorem ls_clrNl {i k : Nat} (ho : PE X o (tVar i)) (hb : PE X b (tC (.int (k : Nat)))) (h : ∀ to, PE X (.Subscript o b p) to → PE X c (tBM0 X.K "list" rClear to)) (hi : PlainIx b := by exact fun _ _ => rfl)
    (hs : swapsWith c none pos.line X.env = pure false := by rfl) : LS X F0 H0 (.Expr c pos) (dClrNl i k) :=
  psW (ps_expr (h _ (pe_ix ix_list ho hb hi)) hs) fun D σ H ⟨F, ρ, fps, E, R, q, kk⟩ => by
    obtain ⟨xs, hs, q⟩ := getN_elim q
    obtain ⟨d, hd, q⟩ := nthK_elim q
    cases d <;> first | exact q.elim | skip
    rename_i ys
    obtain ⟨a, vs, fp, g1, g2, g3, g4, g5, g6, g7⟩ := R.nlAt hs
    rw [List.nodup_cons] at g7
    obtain ⟨l, ws, h1, h2, h3, h4, h5, h6, h7⟩ := g4.setAt g7.2 hd
    refine ⟨_, g1, a, vs, _, _, rfl, rfl, SqL.of g3, atI_nat h1, .inl ⟨rfl, _, .of h2⟩, l, ws, rfl, rfl, h2, ?_⟩
    exact kk.nx F _ _ _ _ (.refl F) (R.updNl g2 (List.mem_cons_of_mem _ h5) g1 (.nl (by rw [upd_ne (fun g => g7.1 (by rw [g]; exact h5))]; exact g3) (h7 [] [] .nil (by simp)) (by rw [List.length_set]; exact g5) g6)) q
theorem ls_appNl {i k : Nat} {da : DE} (ho : PE X o (tVar i)) (hb : PE X b (tC (.int (k : Nat)))) (ha : LE X F0 H0 e da) (h : ∀ to te, PE X (.Subscript o b p) to → PE X e te → PE X c (tBM X.K "list" rAppend to (tCons te tNil))) (hi : PlainIx b := by exact fun _ _ => rfl)
    (hs : swapsWith c none pos.line X.env = pure false := by rfl) : LS X F0 H0 (.Expr c pos) (dAppNl i k da) :=
  psW (ps_expr (h _ _ (pe_ix ix_list ho hb hi) ha) hs) fun D σ H ⟨F, ρ, fps, E, R, q, kk⟩ => by
    obtain ⟨xs, hs, q⟩ := getN_elim q
    obtain ⟨d, hd, q⟩ := nthK_elim q
    cases d <;> first | exact q.elim | skip
    rename_i ys
    obtain ⟨a, vs, fp, g1, g2, g3, g4, g5, g6, g7⟩ := R.nlAt hs
    rw [List.nodup_cons] at g7
    obtain ⟨l, ws, h1, h2, h3, h4, h5, h6, h7⟩ := g4.setAt g7.2 hd
    refine ⟨_, g1, a, vs, _, _, rfl, rfl, SqL.of g3, atI_nat h1, .inl ⟨rfl, _, .of h2⟩, F, ρ, fps, _, R, q, fun y hy F1 H1 v e1 r1 => ?_⟩
    obtain ⟨l', ws', i1, i2, i3, i4, i5, i6, i7⟩ := (g4.ext e1).setAt g7.2 hd
    rw [h1] at i1
    cases i1
    have g3' := e1.h _ _ g3
    have g6' : F1 a = none := by rw [e1.o a (by rw [g3]; simp)]; exact g6
    refine ⟨_, ws', v, rfl, rfl, i2, by rw [i3.length]; exact hy.1, ?_⟩
    exact kk.nx F1 _ _ _ _ e1.f ((R.ext e1).updNl g2 (List.mem_cons_of_mem _ i5) g1 (.nl (by rw [upd_ne (fun g => g7.1 (by rw [g]; exact i5))]; exact g3') (i7 _ _ (i3.append (.cons r1 .nil)) (by have := hy.1; simp; omega)) (by rw [List.length_set]; exact g5) g6')) hy.2
def popDK (i : Nat) (E : DEn) (ρ : Rh) (x : D) : Prop := match x with | .lst xs => ∃ ys y, xs = ys ++ [y] ∧ putS i (.ow (.lst ys)) ρ E.nx | _ => False
def dPopD (i : Nat) : DS := fun E ρ => getO i ρ (popDK i E ρ)
theorem ls_popD {i : Nat} (he : PE X e (tBM0 X.K "list" rPop (tVar i))) (hs : swapsWith e none pos.line X.env = pure false := by rfl) : LS X F0 H0 (.Expr e pos) (dPopD i) :=
  psW (ps_expr he hs) fun D σ H ⟨F, ρ, fps, E, R, q, k⟩ => by
    obtain ⟨x, hr, q⟩ := getO_elim q
    obtain ⟨w, fp, h1, h2, h3⟩ := R.s.get hr
    cases x <;> first | exact q.elim | skip
    rename_i xs
    obtain ⟨ys, y, rfl, q⟩ := q
    cases h3 with
    | ow o =>
      cases o with
      | lst g0 r z n =>
        obtain ⟨us, v, rfl, ru, rv⟩ := r.split
        refine ⟨_, h1, .inl ⟨rfl, _, .of g0⟩, _, _, v, rfl, rfl, g0, by simp, ?_⟩
        rw [List.dropLast_concat]
        exact k.nx F _ _ _ _ (.refl F) (R.updOwn (u := .lst us) h2 h1 (.lst upd_same ru (by simp at z; omega) n)) q
theorem popD_intro {i : Nat} {E : DEn} {ρ : Rh} {ys : List D} {y : D} (h : putS i (.ow (.lst ys)) ρ E.nx) : popDK i E ρ (.lst (ys ++ [y])) := ⟨ys, y, rfl, h⟩
def dMinL : List D → (D → Prop) → Prop
  | [.lst xs], P => ∃ ns : List Int, xs = ns.map D.int ∧ 0 < ns.length ∧ ∀ m, m ∈ ns → (∀ y, y ∈ ns → m ≤ y) → P (.int m)
  | _, _ => False
def dMaxL : List D → (D → Prop) → Prop
  | [.lst xs], P => ∃ ns : List Int, xs = ns.map D.int ∧ 0 < ns.length ∧ ∀ m, m ∈ ns → (∀ y, y ∈ ns → y ≤ m) → P (.int m)
  | _, _ => False
theorem b_minL (hc : X.calm = true) : BltR X (.builtin "min") dMinL := ⟨_, fun F H vs xs P Q e r d k => by
  unfold dMinL at d
  split at d
  · obtain ⟨ns, rfl, h0, d⟩ := d
    cases r with
    | cons r1 rr =>
      cases rr
      obtain ⟨l, ws, rfl, s, r2, z⟩ := r1.lst e
      rw [r2.ints] at s
      exact ⟨l, ns, rfl, s, h0, fun m hm hle => k _ (d m hm hle) F H _ (.refl e) (.int _)⟩
  · exact d.elim, cr_min hc⟩
theorem b_maxL (hc : X.calm = true) : BltR X (.builtin "max") dMaxL := ⟨_, fun F H vs xs P Q e r d k => by
  unfold dMaxL at d
  split at d
  · obtain ⟨ns, rfl, h0, d⟩ := d
    cases r with
    | cons r1 rr =>
      cases rr
      obtain ⟨l, ws, rfl, s, r2, z⟩ := r1.lst e
      rw [r2.ints] at s
      exact ⟨l, ns, rfl, s, h0, fun m hm hle => k _ (d m hm hle) F H _ (.refl e) (.int _)⟩
  · exact d.elim, cr_max hc⟩
end
section
variable {E : DEn} {ρ : Rh} {P : D → Prop} {PN : List D → Prop} {x y : D} {xs ys r : List D} {k i : Nat} {da : DE} {db : DA} {s : Sl}
theorem q_getN0 : getN 0 (.nl xs :: ρ) PN = PN xs := id rfl
theorem q_getNS : getN (i + 1) (s :: ρ) PN = getN i ρ PN := id rfl
theorem q_setNl : dSetNl i db E ρ = db ρ (setNlK i E ρ) := id rfl
theorem q_setNlK : setNlK i E ρ xs = (xs.length ≤ sizeLine ∧ putS i (.nl xs) ρ E.nx) := id rfl
theorem q_pn : dPn i k ρ P = getN i ρ (ptK k P) := id rfl
theorem q_ptK : ptK k P xs = nthK k xs P := id rfl
theorem q_clrNl : dClrNl i k E ρ = getN i ρ (clrN1 i k E ρ) := id rfl
theorem q_clrN1 : clrN1 i k E ρ xs = nthK k xs (clrN2 i k E ρ xs) := id rfl
theorem q_clrN2 : clrN2 i k E ρ xs (.lst ys) = putS i (.nl (xs.set k (.lst []))) ρ E.nx := id rfl
theorem q_appNl : dAppNl i k da E ρ = getN i ρ (appN1 i k da E ρ) := id rfl
theorem q_appN1 : appN1 i k da E ρ xs = nthK k xs (appN2 i k da E ρ xs) := id rfl
theorem q_appN2 : appN2 i k da E ρ xs (.lst ys) = da ρ (appN4 i k E ρ xs ys) := id rfl
theorem q_appN4 : appN4 i k E ρ xs ys y = (ys.length < sizeLine ∧ putS i (.nl (xs.set k (.lst (ys ++ [y])))) ρ E.nx) := id rfl
theorem q_popD : dPopD i E ρ = getO i ρ (popDK i E ρ) := id rfl
end
end DL
end
section
namespace DL
open PySem L2 PySem.Spec PyProof.Rows
/-- a caught exception, kept -/
def ExV (cls : Value) (d : Option Addr) (a : Addr) : HO := .ext fun h => ∃ (oe : Obj) (vs : Array Value), h.get? a = some oe ∧ Zc cls d oe ∧ oe.data = .fields vs
section
variable {X : Cx} {pins : List (Addr × Obj)} {σ : L2.St} {H : Hp} {s : Shared} {a : Addr} {cls : Value} {d : Option Addr} {oe : Obj} {vs : Array Value}
/-- it is told of from here on -/
theorem inv_keepEx (I : Inv X pins σ H s) (g : s.heap.get? a = some oe) (hz : Zc cls d oe) (hd : oe.data = .fields vs) (na : H a = none) (nL : a ≠ X.env.locals)
    (f1 : ∀ b o, X.s_0.heap.get? b = some o → b ∉ X.ex → b ≠ a) (f2 : ∀ p ∈ X.pn ++ pins, p.1 ≠ a) : Inv X pins σ (upd H a (ExV cls d a)) s := by
  have same : ∀ b u, H b = some u → upd H a (ExV cls d a) b = some u := fun b u q => by
    rw [upd_ne (ne_of_none q na)]; exact q
  have none' : ∀ b, b ≠ a → H b = none → upd H a (ExV cls d a) b = none := fun b n q => by
    rw [upd_ne n]; exact q
  constructor
  case ok => exact I.ok
  case os => exact I.os
  case bare => exact I.bare
  case base =>
    exact { keep := I.base.keep, slot := I.base.slot, there := I.base.there
            free := fun b o q n x => none' b (f1 b o q x) (I.base.free b o q n x)
            tups := fun b xs q => same b _ (I.base.tups b xs q)
            frzs := fun b o u q => same b _ (I.base.frzs b o u q)
            tbls := fun b ps q => by
              obtain ⟨m, q⟩ := I.base.tbls b ps q
              exact ⟨m, same b _ q⟩ }
  case loc => exact I.loc
  case cell => exact I.cell
  case free => exact none' _ (fun z => nL z.symm) I.free
  case freeC =>
    intro x c q
    refine none' c (fun z => ?_) (I.freeC x c q)
    obtain ⟨v, o, ho, hc⟩ := I.cell x c q
    rw [z, g] at ho
    cases ho
    rw [hd] at hc
    cases hc
  case pin =>
    intro p hp
    obtain ⟨p1, p2, p3⟩ := I.pin p hp
    exact ⟨p1, none' _ (f2 p hp) p2, p3⟩
  case hok =>
    intro b u q
    by_cases hb : b = a
    · subst hb
      rw [upd_same] at q
      cases q
      exact ⟨⟨oe, vs, g, hz, hd⟩, ⟨oe, g⟩, fun _ _ ⟨o, v, q, r⟩ k => ⟨o, v, k o q, r⟩⟩
    · rw [upd_ne hb] at q
      exact (I.hok b u q).stay (fun c v _ q => q) (fun c q => same c _ q) fun c xs q => same c _ q
  case len => exact I.len
end
/-- what 'except x as n: suite' wishes of an exception of the body, where the suite may keep it -/
def wKeep (K : PySem.W.Frag) (c : Value) (i : Nat) (ts : Addr → Value → Option Addr → TS) (Wout : WX) (D : Ends) : WX := fun cls d σ H =>
  ∃ b, PySem.W.exmOne K cls c = some b ∧ (b = true → ∀ a, H a = none → ts a cls d { nx := fun σ' H' => H' a = none → D.nx (σ'.set i none) (upd H' a (ExV cls d a)), rt := D.rt } (σ.set i (some (.ref a))) H) ∧
    (b = false → Wout cls d σ H)
section
variable {X : Cx} {x n : Str} {c : Value} {i : Nat} {body suite : List Stmt} {b0 : Stmt} {np pos pos' : Pos} {tb : WX → TS} {ts : Addr → Value → Option Addr → TS} {Wout : WX}
theorem ps_try_keep (hs : X.stack = X.env :: X.outer) (hf : X.env.frame = some X.env.locals) (hN : X.N.Nodup) (hi : X.N[i]? = some n) (hln : X.env.kindOf n = some .local) (hc : Names X x c) (tk : Takes X Wout)
    (hb : ∀ (W : WX) (pn : List (Addr × Obj)) (xe : Value → Shared → Prop), Takes (X.tr pn xe) W → PassesOwn (model X.prog X.w) X.A X.env xe → PSs (X.tr pn xe) body (tb W))
    (hsu : ∀ (a : Addr) (oe : Obj) (cls : Value) (d : Option Addr) (pn : List (Addr × Obj)), Zc cls d oe → (∃ vs, oe.data = .fields vs) → PSs (X.suite a ((a, oe) :: pn)) (b0 :: suite) (ts a cls d)) :
    PS X (.Try body [.ExceptHandler (some (.Name x np)) (some n) (b0 :: suite) pos'] [] [] pos) (fun D σ H => tb (wKeep X.K c i ts Wout D) D σ H) := by
  constructor
  intro pins s σ H D I h
  have ok := I.ok
  have hfr : X.A.frames = some (X.env :: X.outer) := by
    rw [ok.frames, hs]
  refine wpAny_Try_except ?_
  let xe' : Value → Shared → Prop := fun e s1 => wpAny (model X.prog X.w) X.A (noteFrame e X.env) (fun _ s2 => wpAny (model X.prog X.w) X.A (setFlight e none)
    (fun _ s3 => wpAny (model X.prog X.w) X.A (handleBy e X.env [.ExceptHandler (some (.Name x np)) (some n) (b0 :: suite) pos']) (SP X pins D) X.xe s3) X.xe s2) X.xe s1
  have take : Takes (X.tr (X.pn ++ pins) xe') (wKeep X.K c i ts Wout D) := by
    intro u s' xx
    obtain ⟨a, B, sI, pins', σ', H', cls, d, rfl, J', nb, up, sky, na, os, ag, b, hb1, hyes, hno⟩ := xx
    have J : Inv X pins σ' H' sI := J'.ofTry ok
    have sky' : Sky B (X.env :: X.outer) a (Zc cls d) X.env.locals s'.heap := by
      rw [← hs]; exact sky
    have notFr : ∀ {h : Heap} {o : Obj} {vs : Array Value}, h.FunFrames B (X.env :: X.outer) → h.get? a = some o → o.data = .fields vs → a ∉ frs (X.env :: X.outer) := by
      intro h o vs ff e dd hm
      obtain ⟨_, o', e', hnf⟩ := ff.mem hm
      rw [e] at e'
      cases e'
      exact hnf _ dd
    show wpAny (model X.prog X.w) X.A (noteFrame (.ref a) X.env) _ _ _
    refine Sky.land Zc.steady hfr hf sky' fun h3 fl3 up3 => ?_
    have J3 : Inv X pins σ' H' { s' with heap := h3 } := J.landed nb fl3.1 (up.trans up3) os ag
    obtain ⟨oe3, vs3, he3, hz3, hd3⟩ := fl3.there
    have nfr := notFr fl3.2.2.1 he3 hd3
    have noB : B.get? a = none := fl3.2.1
    have noI : sI.heap.get? a = none := by
      cases q : sI.heap.get? a with
      | none => rfl
      | some o =>
        have := nb a o q (by rw [hs]; exact nfr)
        rw [noB] at this
        cases this
    have f1 : ∀ b o, X.s_0.heap.get? b = some o → b ∉ X.ex → b ≠ a := fun b o q nx z => by
      obtain ⟨o', q'⟩ := J.base.there b o q nx
      rw [z, noI] at q'
      cases q'
    have f2 : ∀ p ∈ X.pn ++ pins, p.1 ≠ a := fun p hp z => by
      have := (J.pin p hp).1
      rw [z, noI] at this
      cases this
    have nL : a ≠ X.env.locals := fun z => nfr (List.mem_filterMap.mpr ⟨X.env, List.mem_cons_self, by rw [hf, z]⟩)
    have nF : a ∉ X.fs := fun hm => by
      obtain ⟨e, he, q⟩ := List.mem_filterMap.mp hm
      exact nfr (List.mem_filterMap.mpr ⟨e, List.mem_cons_of_mem _ he, q⟩)
    have S3 := J3.suite he3 hd3 na nL nF
    refine wpAny_handleBy_cons (codeAny_handlers_test ?_) (by intro q; cases q)
    have LT : PySem.W.Looks (model X.prog X.w) h3 (typeOf (.ref a)) cls := fun A Q E s k q =>
      wpAny_typeOf_ref (k _ _ he3) (by rw [hz3.1]; exact q)
    have LM := PySem.W.exm_one (M := model X.prog X.w) (J3.kIn) LT hb1
    have test : ∀ {Q : Value → Shared → Prop} {E : Value → Shared → Prop}, Q c { s' with heap := h3 } → wpAny (model X.prog X.w) (X.A.mark (some (.ref a))) (eval (.Name x np) X.env) Q E { s' with heap := h3 } := by
      intro Q E q
      obtain ⟨hg, hdbg, hm | ⟨hm, hv, hnn⟩⟩ := hc
      · exact ld_glob (X := X.suite a ((a, oe3) :: (X.pn ++ pins))) S3 hg hm q hdbg
      · exact ld_blt (X := X.suite a ((a, oe3) :: (X.pn ++ pins))) S3 hg hm hv q hnn hdbg
    refine test (LM.here ?_)
    cases b with
    | true =>
      refine codeAny_handlers_suite_as ?_
      refine HandSPX.lands_againZ fl3 fun h4 fl4 up4 => ?_
      have J4 : Inv X pins σ' H' { s' with heap := h4 } := J.landed nb fl4.1 ((up.trans up3).trans up4) os ag
      obtain ⟨oe4, vs4, he4, hz4, hd4⟩ := fl4.there
      have S4 := J4.suite he4 hd4 na nL nF
      refine store_ok (X := X.suite a ((a, oe4) :: (X.pn ++ pins))) (v := .ref a) S4 hN hi (.inl hln) rfl (fun s5 S5 => ?_) (.inr hln)
      refine wpAny_mono ((hsu a oe4 cls d (X.pn ++ pins) hz4 ⟨_, hd4⟩).run [] s5 _ H' _ S5 (hyes rfl a na)) (fun f s6 hsp => ?_) (fun _ _ z => False.elim z)
      cases f with
      | next =>
        obtain ⟨σ6, H6, S6, q6⟩ := hsp
        refine gone_ok (X := X.suite a ((a, oe4) :: (X.pn ++ pins))) S6 hN hi hln fun s7 S7 => ?_
        obtain ⟨g7, n7, _⟩ := S7.pin (a, oe4) (List.mem_append.mpr (.inl List.mem_cons_self))
        exact ⟨_, _, inv_keepEx (S7.unsuite ok) g7 hz4 hd4 n7 nL f1 f2, q6 n7⟩
      | brk =>
        obtain ⟨σ6, H6, S6, q6⟩ := hsp
        exact False.elim q6
      | cont =>
        obtain ⟨σ6, H6, S6, q6⟩ := hsp
        exact False.elim q6
      | ret u =>
        obtain ⟨v6, σ6, H6, S6, r6, q6⟩ := hsp
        exact gone_ok (S6.unsuite ok) hN hi hln fun s7 J7 => ⟨_, _, _, J7, r6, q6⟩
    | false =>
      show wpAny _ X.A (handleBy (.ref a) X.env []) _ _ _
      refine wpAny_handleBy_nil ?_
      obtain ⟨k1, k2, k3, oe, vs, T, oT, ts', he, hz, hd, h1, hr⟩ := id fl3
      unfold PySem.passOn
      refine wpAny_bind (wpAny_field he hd h1 ?_)
      rw [if_neg (by simp : ¬ ((Value.ref T == Value.none) = true))]
      have fin : wpAny (model X.prog X.w) X.A (setFlight (.ref a) X.env.frame) (fun _ s4 => wpAny (model X.prog X.w) X.A (throw (.ref a) : Sem Flow) (SP X pins D) X.xe s4) X.xe { s' with heap := h3 } := by
        rw [hf]
        refine HandSPX.setFlight_upZ fl3 fun h4 hh4 up4 => wpAny_throw (tk _ _ ?_)
        exact ⟨a, B, sI, pins, σ', H', cls, d, rfl, J, nb, (up.trans up3).trans up4, .inr (.inr (by rw [hs]; exact hh4)), na, os, ag, hno rfl⟩
      first
        | exact wpAny_bind (wpAny_pure (wpAny_bind fin))
        | exact wpAny_bind fin
  refine wpAny_mono ((hb _ (X.pn ++ pins) xe' take PassesOwn.looking).run [] s σ H D (I.toTry _) h) (fun f s1 hsp => ?_) (fun e s1 he => he)
  cases f with
  | next =>
    obtain ⟨σ', H', J', q⟩ := hsp
    exact wpAny_execs_nil ⟨σ', H', J'.ofTry ok, q⟩
  | brk =>
    obtain ⟨σ', H', J', q⟩ := hsp
    exact ⟨σ', H', J'.ofTry ok, q⟩
  | cont =>
    obtain ⟨σ', H', J', q⟩ := hsp
    exact ⟨σ', H', J'.ofTry ok, q⟩
  | ret u =>
    obtain ⟨v, σ', H', J', r, q⟩ := hsp
    exact ⟨v, σ', H', J'.ofTry ok, r, q⟩
end
end DL
end
section
namespace DL
open PySem L2
abbrev XG := Option (List (Str × D))
/-- what may be let out: of a class, with own fields or without a dict -/
abbrev XC := Addr → XG → Prop
def noX : XC := fun _ _ => False
def XRep (K : PySem.W.Frag) (F H : Hp) (cls : Value) (d : Option Addr) (C : Addr) : XG → Prop
  | none => cls = .ref C ∧ d = none
  | some gs => cls = .ref C ∧ ∃ dd fs, d = some dd ∧ H dd = some (.xd fs) ∧ RepF K F fs gs
abbrev DSpecX := List D → (D → Prop) → XC → Prop
def lowSpX (K : PySem.W.Frag) (ms : List Bool) (S : DSpecX) : Sp := fun vs H Q E => ∃ F ds P Xc, Same F H ∧ MRepL K F H ms vs ds ∧ S ds P Xc ∧ (∀ x, P x → ∀ F' H' v, Ext F H F' H' → Rep K F' v x → Q v H') ∧
  ∀ C g, Xc C g → ∀ F' H' cls d, Ext F H F' H' → XRep K F' H' cls d C g → E cls d H'
/-- the wish that is laid on what is let out, at the entry (F0, H0) -/
def XOut (K : PySem.W.Frag) (F0 H0 : Hp) (W : WX) (Xc : XC) : Prop := ∀ C g, Xc C g → ∀ F' H' cls d σ, Ext F0 H0 F' H' → XRep K F' H' cls d C g → W cls d σ H'
theorem xout0 {K : PySem.W.Frag} {F0 H0 : Hp} {W : WX} : XOut K F0 H0 W noX := fun _ _ h => h.elim
section
variable {P : Program} {w : World} {K : PySem.W.Frag} {mg : Str → Option Value} {base : Heap}
theorem fn_okX {x qual : Str} {st : Stmt} {f : Addr} {fd : FuncData} {N ps : List Str} {k : Nat} {ms : List Bool} {S : DSpecX} {d : XC → DS} (F : Fun K x qual st f fd) (Sc : FnScope N ps (defScope st)) (hlen : ∀ ds P Xc, S ds P Xc → ds.length = ps.length)
    (body : ∀ (cdv : Value) (A : Around) (outer : List Env) (s : Shared) (H : Hp) (E : XK) (F0 : Hp) (Xc : XC), Room k (A.deeper (PyProof.Rows.envOfC qual (defScope st) s.heap.objs.size f cdv)) → XOut K F0 H (fun cls d _ H => E cls d H) Xc →
      LSs (cxOf (L2.CX P w) P w K mg base N qual (defScope st) f cdv A outer s H E) F0 H (defBody st) (d Xc))
    (sem : ∀ ds Q Xc, S ds Q Xc → d Xc { nx := fun _ => Q .non, rt := Q } (startRM N ms ds)) : FnOk P w K mg base (L2.CX P w) (k + 1) f fd ps (lowSpX K ms S) := by
  refine F.okX Sc (fun vs H Q E ⟨F, ds, P, Xc, e, r, h, _⟩ => by rw [r.length]; exact hlen _ _ _ h) fun cdv A outer s H vs Q E hr ⟨F0, ds, P, Xc, e, r, h, kk, ko⟩ => ?_
  refine ⟨_, body cdv A outer s H E F0 Xc hr fun C g hx F' H' cls d _ e' r' => ko C g hx F' H' cls d e' r', F0, startRM N ms ds, (ds.map fun _ => ([] : List Addr)) ++ List.replicate (N.length - ds.length) [], { nx := fun _ => P .non, rt := P }, ⟨.refl e, ?_, ?_⟩, sem ds P Xc h, ⟨?_, ?_, ?_, ?_, ?_⟩⟩
  · unfold L2.start startRM
    rw [r.length]
    exact start_repM _ r
  · exact ⟨by rw [flat_nil]; exact List.nodup_nil, fun a ha => by rw [flat_nil] at ha; cases ha⟩
  · exact fun F' H' σ' ρ' fps' s R q => kk _ q F' H' _ R.x .non
  · exact fun F' H' σ' ρ' fps' s R q => False.elim q
  · exact fun F' H' σ' ρ' fps' s R q => False.elim q
  · exact fun F' H' v x s e' r' q => kk _ q F' H' v e' r'
  · exact fun F' H' v x fp s e' r' n1 n2 q => False.elim q
end
structure FnX (P : Program) (w : World) (K : PySem.W.Frag) (mg : Str → Option Value) (base : Heap) (x : Str) (k : Nat) (ms : List Bool) (S : DSpecX) : Prop where
  ex : ∃ f fd ps, FnOk P w K mg base (L2.CX P w) k f fd ps (lowSpX K ms S) ∧ mg x = some (.ref f) ∧ PySem.W.keepIn K (.ref f) = true ∧ Binds K fd ps []
/-- methods that raise -/
abbrev MTabX := Addr → DSpecX → Prop
structure MethOkX (P : Program) (w : World) (K : PySem.W.Frag) (mg : Str → Option Value) (base : Heap) (k : Nat) (m : Str) (ms : List Bool) (C : Addr) (S : DSpecX) : Prop where
  cl : Cls K C
  ex : ∃ f fd ps, Meth K C m f ∧ FnOk P w K mg base (L2.CX P w) k f fd ps (lowSpX K (false :: ms) S) ∧ Binds K fd ps []
section
variable {X : Cx} {F0 H0 : Hp} {e a b c o : Expr} {es : List Expr} {pos p apos : Pos} {x m : Str}
/-- an expression that may raise, the wish laid on what is let out right where it stands -/
def lowX (K : PySem.W.Frag) (F0 H0 : Hp) (W : WX) (d : XC → DE) : TE := fun σ H Q => ∃ F ρ fps P Xc, ERep K F0 H0 F H σ ρ fps ∧ d Xc ρ P ∧ (∀ x, P x → ∀ F' H' v, Ext F H F' H' → Rep K F' v x → Q v H') ∧
  ∀ C g, Xc C g → ∀ F' H' cls d, Ext F H F' H' → XRep K F' H' cls d C g → W cls d σ H'
def LEX (X : Cx) (F0 H0 : Hp) (e : Expr) (d : XC → DE) : Prop := ∀ (W : WX) (pn : List (Addr × Obj)) (xe : Value → Shared → Prop), Takes (X.tr pn xe) W → PE (X.tr pn xe) e (lowX X.K F0 H0 W d)
/-- in a def that lets out (or that lets nothing out) -/
theorem le_ofX {d : XC → DE} {W : WX} {Xc : XC} (h : LEX X F0 H0 e d) (tk : Takes X W) (hE : XOut X.K F0 H0 W Xc) : LE X F0 H0 e (d Xc) :=
  peW (h W X.pn X.xe tk) fun σ H Q ⟨F, ρ, fps, P, R, q, k⟩ => ⟨F, ρ, fps, P, Xc, R, q, k, fun C g hx F' H' cls d e r => hE C g hx F' H' cls d σ (R.x.trans e) r⟩
def dCallX (S : DSpecX) (da : DA) (Xc : XC) : DE := fun ρ P => da ρ fun xs => S xs P Xc
theorem lex_call {k : Nat} {ms : List Bool} {S : DSpecX} {da : DA} (h : FnX X.prog X.w X.K X.mg X.base x k ms S) (hr : Room k X.A) (hg : Gl X x)
    (ha : ∀ pn xe, LAM (X.tr pn xe) F0 H0 ms (e :: es) da) (hdb : (x == ("__debug__" : Str)) = false := by decide) (he : starEach (e :: es) X.env = (false, eval e X.env) :: starEach es X.env := by rfl) (hpl : (backTo pos (starEach es X.env)).any (·.1) = false := by rfl) :
    LEX X F0 H0 (.Call (.Name x p) (e :: es) [] pos) (dCallX S da) := by
  intro W pn xe tk
  obtain ⟨f, fd, ps, F, hm, hk, hb⟩ := h
  exact peW (pe_callS (X := X.tr pn xe) F hr hg hm hk hb (passAt tk) (ha pn xe) hdb he hpl) fun σ H Q ⟨F, ρ, fps, P, Xc, R, q, k, ko⟩ => ⟨F, ρ, fps, _, R, q, fun xs hx F1 H1 vs e1 r1 =>
    ⟨F1, xs, P, Xc, e1.w, r1, hx, fun z pz F2 H2 u e2 r2 => k z pz F2 H2 u (e1.trans e2) r2, fun C g hx F2 H2 cls d e2 r2 => ko C g hx F2 H2 cls d (e1.trans e2) r2⟩⟩
def dMethX (M : MTabX) (m : Str) (da : DE) (dr : DA) (Xc : XC) : DE := fun ρ P => da ρ fun x => match x with | .obj C gs => gs.lookup m = none ∧ ∃ S, M C S ∧ dr ρ fun xs => S (.obj C gs :: xs) P Xc | _ => False
theorem lex_meth {k : Nat} {M : MTabX} {ms : List Bool} {pl : Sem Bool} {da : DE} {dr : DA} (ho : ∀ pn xe, LE (X.tr pn xe) F0 H0 o da) (hM : ∀ C S, M C S → MethOkX X.prog X.w X.K X.mg X.base k m ms C S) (hr : Room k X.A)
    (ha : ∀ pn xe, LAM (X.tr pn xe) F0 H0 ms (e :: es) dr)
    (hst : starEach (e :: es) X.env = (false, eval e X.env) :: starEach es X.env := by rfl) (hpl : (backTo pos (starEach es X.env)).any (·.1) = false := by rfl)
    (ht : eval (.Call (.Attribute o m apos) (e :: es) [] pos) X.env = (do
      let ov ← eval o X.env
      standAt apos.atName
      let (f, first) ← holding [ov] (getMethod ov m pl)
      callWith pos f first (backTo pos (starEach (e :: es) X.env)) (backToKw pos (keywordEach [] X.env))) := by rfl) :
    LEX X F0 H0 (.Call (.Attribute o m apos) (e :: es) [] pos) (dMethX M m da dr) := by
  intro W pn xe tk
  refine ⟨fun pins s σ H Q I ⟨F, ρ, fps, P, Xc, R, q, kk, ko⟩ => ?_⟩
  refine PySem.W.methodCall_KW (pl := pl) (thn ((ho pn xe).run pins s σ H (fun v H1 => ∃ F1 x, Ext F H F1 H1 ∧ Rep X.K F1 v x ∧ (match x with | .obj C gs => gs.lookup m = none ∧ ∃ S, M C S ∧ dr ρ fun xs => S (.obj C gs :: xs) P Xc | _ => False)) I
    ⟨F, ρ, fps, _, R, q, fun x hx F1 H1 v e1 r1 => ⟨F1, x, e1, r1, hx⟩⟩) fun u s1 ⟨v, H1, I1, rx, F1, x, e1, r1, hxx⟩ => ?_) ht
  cases r1 with
  | obj h1 rf =>
    obtain ⟨hl, S, hS, q2⟩ := hxx
    obtain ⟨c, f, fd, ps, hm, FF, hb⟩ := hM _ _ hS
    cases rx
    refine getmeth_ok I1 (e1.w _ _ h1) c hm (rf.look_none hl) ?_
    refine PySem.W.callWith_K (first := [.ref _]) (h₀ := X.base) I.ok.mod.kin hm.kp (thn ((ha pn xe).run pos pins s1 σ H1 (fun vs H2 => lowSpX X.K (false :: ms) S (.ref _ :: vs) H2 Q (WE W σ)) I1 ⟨F1, ρ, fps, _, R.ext e1, q2, fun xs hxs F2 H2 vs e2 r2 =>
      ⟨F2, _, P, Xc, e2.w, .sh (.obj (e2.f _ _ h1) (rf.mono e2.f)) r2, hxs, fun z pz F3 H3 u e3 r3 => kk z pz F3 H3 u ((e1.trans e2).trans e3) r3, fun C g hx F3 H3 cls d e3 r3 => ko C g hx F3 H3 cls d ((e1.trans e2).trans e3) r3⟩⟩) fun us s2 ⟨vs, H2, I2, r, q2⟩ => ⟨I2.kIn, ?_⟩) hst hpl
    exact run_fnS (us := .ref _ :: us) (vs := .ref _ :: vs) FF hr hb (passAt tk σ) I2 (.cons rfl r) q2
  | _ => exact False.elim hxx
def lowSX (K : PySem.W.Frag) (F0 H0 : Hp) (W : WX) (d : XC → DS) : TS := fun D σ H => ∃ F ρ fps E Xc, ERep K F0 H0 F H σ ρ fps ∧ d Xc E ρ ∧ EndOk K F0 H0 F E D ∧ ∀ C g, Xc C g → ∀ F' H' cls d, Ext F H F' H' → XRep K F' H' cls d C g → W cls d σ H'
def LSX (X : Cx) (F0 H0 : Hp) (st : Stmt) (d : XC → DS) : Prop := ∀ (W : WX) (pn : List (Addr × Obj)) (xe : Value → Shared → Prop), Takes (X.tr pn xe) W → PS (X.tr pn xe) st (lowSX X.K F0 H0 W d)
theorem lsx_expr {d : XC → DE} (h : LEX X F0 H0 e d) (hs : swapsWith e none pos.line X.env = pure false := by rfl) : LSX X F0 H0 (.Expr e pos) (fun Xc => dDrop (d Xc)) := fun W pn xe tk =>
  psW (ps_expr (X := X.tr pn xe) (h W pn xe tk) hs) fun D σ H ⟨F, ρ, fps, E, Xc, R, q, k, ko⟩ => ⟨F, ρ, fps, _, Xc, R, q, fun x hx F1 H1 v e1 r1 => k.nx F1 H1 σ ρ fps e1.f (R.ext e1) hx, ko⟩
theorem lsx_asg {tg : Expr} {g : TG} {d : XC → DE} {dg : DG} {is : List Nat} (h : ∀ pn xe te, PE (X.tr pn xe) e te → PS (X.tr pn xe) (.Assign [tg] e pos) (tAsg te g)) (hg : LowG X.K g dg is) (he : LEX X F0 H0 e d) : LSX X F0 H0 (.Assign [tg] e pos) (fun Xc => dAsg (d Xc) dg) := fun W pn xe tk =>
  psW (h pn xe _ (he W pn xe tk)) fun D σ H ⟨F, ρ, fps, E, Xc, R, q, k, ko⟩ => ⟨F, ρ, fps, _, Xc, R, q, fun x hx F1 H1 v e1 r1 => hg F0 H0 F1 H1 σ ρ fps v x _ _ (R.ext e1) r1 hx fun ρ' p σ' fps' _ R' => k.nx F1 H1 σ' ρ' fps' e1.f R' p, ko⟩
theorem ls_ofX {st : Stmt} {d : XC → DS} {W : WX} {Xc : XC} (h : LSX X F0 H0 st d) (tk : Takes X W) (hE : XOut X.K F0 H0 W Xc) : LS X F0 H0 st (d Xc) :=
  psW (h W X.pn X.xe tk) fun D σ H ⟨F, ρ, fps, E, R, q, k⟩ => ⟨F, ρ, fps, E, Xc, R, q, k, fun C g hx F' H' cls d e r => hE C g hx F' H' cls d σ (R.x.trans e) r⟩
structure ExcK (K : PySem.W.Frag) (mg : Str → Option Value) (x : Str) (C : Addr) : Prop where
  mg : mg x = some (.ref C)
  ex : PySem.W.excIn K C [.type "ValueError", .type "Exception", .type "BaseException", .type "object"] "ValueError.__new__" = true
  kp : PySem.W.keepIn K (.ref C) = true
  sb : PySem.W.subIn K (.ref C) (.type "BaseException") = some true
  ty : PySem.W.typeIn K (.ref C) = some (.type "type")
def dRaise (C : Addr) (Xc : XC) : DS := fun _ _ => Xc C none
theorem ls_raise {C : Addr} {msg : Str} {j : Nat} {p2 : Pos} {W : WX} {Xc : XC} (T : ExcK X.K X.mg x C) (hc : X.calm = true) (tk : Takes X W) (hE : XOut X.K F0 H0 W Xc) (hg : Gl X x) (hdb : (x == ("__debug__" : Str)) = false := by decide) :
    LS X F0 H0 (.Raise (some (.Call (.Name x p) [.Constant (.str msg) j p2] [] pos)) none apos) (dRaise C Xc) :=
  psW (ps_raise hc tk (pmk_own PySem.F.excBase_ValueError T.ex T.mg T.kp (raises_own T.sb T.ty) hg hdb)) fun D σ H ⟨F, ρ, fps, E, R, q, k⟩ => hE C none q F H _ _ σ R.x ⟨rfl, rfl⟩
end
end DL
end
section
namespace DL
open PySem L2
/-- the classes that a clause catches -/
def Caught (K : PySem.W.Frag) (c : Value) (Cs : List Addr) : Prop := ∀ C ∈ Cs, PySem.W.exmOne K (.ref C) c = some true
section
variable {X : Cx} {F0 H0 : Hp} {e a b c o : Expr} {es : List Expr} {pos p pos' np apos : Pos} {x m n : Str}
def dhN (i : Nat) (E : DEn) : DEn := { nx := fun r => E.nx (r.set i .no), rt := E.rt, bk := fun r => E.bk (r.set i .no), ct := fun r => E.ct (r.set i .no), rn := E.rn }
/-- try: st except X as n: suite; the suite's reading from the exception's place and class -/
def dTryR (Cs : List Addr) (i : Nat) (dst : XC → DS) (dh : Addr → Addr → DS) : DS := fun E ρ => dst (fun C g => C ∈ Cs ∧ g = none ∧ ∀ a, dh a C (dhN i E) (ρ.set i (.sh (.fn a)))) E ρ
theorem ls_tryR {st b0 : Stmt} {suite : List Stmt} {cl : Value} {Cs : List Addr} {i : Nat} {dst : XC → DS} {dh : Addr → Addr → DS} (hs : X.stack = X.env :: X.outer) (hf : X.env.frame = some X.env.locals) (hN : X.N.Nodup) (hi : X.N[i]? = some n) (hln : X.env.kindOf n = some .local)
    (hc : Names X x cl) (hC : Caught X.K cl Cs) (h : LSX X F0 H0 st dst)
    (hsu : ∀ (a C : Addr) (oe : Obj) (pn : List (Addr × Obj)), C ∈ Cs → Zc (.ref C) none oe → (∃ vs, oe.data = .fields vs) → LSs (X.suite a ((a, oe) :: pn)) F0 H0 (b0 :: suite) (dh a C)) :
    LS X F0 H0 (.Try [st] [.ExceptHandler (some (.Name x np)) (some n) (b0 :: suite) pos'] [] [] pos) (dTryR Cs i dst dh) :=
  psW (ps_try_as (Wout := fun _ _ _ _ => False) (tb := fun W => lowSX X.K F0 H0 W dst) (ts := fun a cls d => fun D σ H => ∃ C, C ∈ Cs ∧ cls = .ref C ∧ d = none ∧ lowS X.K F0 H0 (dh a C) D σ H) hs hf hN hi hln hc (by
      intro u s' ⟨_, _, _, _, _, _, _, _, _, _, _, _, _, _, _, _, z⟩
      exact z.elim) (fun W pn xe tk _ => pss_one (h W pn xe tk)) (fun a oe cls d pn hz hv => ⟨fun pins s σ H D I ⟨C, hm, e1, e2, q⟩ => by
      subst e1 e2
      exact (hsu a C oe pn hm hz hv).run pins s σ H D I q⟩)) fun D σ H ⟨F, ρ, fps, E, R, q, k⟩ => ⟨F, ρ, fps, E, _, R, q, k, fun C g ⟨hm, hg, hx⟩ F' H' cls d e r => by
    subst hg
    obtain ⟨r1, r2⟩ := r
    subst r1 r2
    refine ⟨true, hC C hm, fun _ a ha => ⟨C, hm, rfl, rfl, F', _, fps.set i [], _, (R.ext e).set (.fn a) i, hx a, ⟨?_, ?_, ?_, ?_, ?_⟩⟩, fun z => absurd z (by decide)⟩
    · exact fun F2 H2 σ2 ρ2 fps2 s R2 q2 => k.nx F2 H2 _ _ (fps2.set i []) (e.f.trans s) ⟨R2.x, R2.s.set .no i, R2.p.set_nil i⟩ q2
    · exact fun F2 H2 σ2 ρ2 fps2 s R2 q2 => k.bk F2 H2 _ _ (fps2.set i []) (e.f.trans s) ⟨R2.x, R2.s.set .no i, R2.p.set_nil i⟩ q2
    · exact fun F2 H2 σ2 ρ2 fps2 s R2 q2 => k.ct F2 H2 _ _ (fps2.set i []) (e.f.trans s) ⟨R2.x, R2.s.set .no i, R2.p.set_nil i⟩ q2
    · exact fun F2 H2 v x s => k.rt F2 H2 v x (e.f.trans s)
    · exact fun F2 H2 v x fp s => k.rn F2 H2 v x fp (e.f.trans s)⟩
/-- no slot holds an own thing -/
def noOwn : Rh → Prop
  | [] => True
  | .no :: r => noOwn r
  | .sh _ :: r => noOwn r
  | .bo _ :: r => noOwn r
  | _ :: _ => False
theorem noOwn.fps {K : PySem.W.Frag} {F0 H0 F H : Hp} : ∀ {σ : L2.St} {ρ : Rh} {fps : List (List Addr)}, SlsRep K F0 H0 F H σ ρ fps → noOwn ρ → fps.flatten = []
  | _, _, _, .nil, _ => rfl
  | _, _, _, .cons q r, h => by
    cases q with
    | no =>
      rw [List.flatten_cons]
      exact noOwn.fps r h
    | sh =>
      rw [List.flatten_cons]
      exact noOwn.fps r h
    | bo =>
      rw [List.flatten_cons]
      exact noOwn.fps r h
    | ow => exact h.elim
    | dk => exact h.elim
    | nl => exact h.elim
/-- the state as a new entry -/
theorem SlsRep.enter {K : PySem.W.Frag} {F0 H0 F H F1 H1 : Hp} (x : Ext F0 H0 F H) (e : Ext F H F1 H1) : ∀ {σ : L2.St} {ρ : Rh} {fps : List (List Addr)}, SlsRep K F0 H0 F H σ ρ fps → fps.flatten = [] → SlsRep K F1 H1 F1 H1 σ ρ fps
  | _, _, _, .nil, _ => .nil
  | _, _, _, .cons q r, h => by
    rw [List.flatten_cons] at h
    obtain ⟨ha, hb⟩ := List.append_eq_nil_iff.mp h
    refine .cons ?_ (SlsRep.enter x e r hb)
    cases q with
    | no => exact .no
    | sh r => exact .sh (r.mono e.f)
    | bo r => exact .bo (r.ext (x.trans e))
    | ow o => cases o <;> simp at ha
    | dk h r f => simp at ha
    | nl h q z f => simp at ha
theorem DL_ext_keep {F H : Hp} {a : Addr} {o : HO} (w : Same F H) (na : H a = none) : Ext F H (upd F a o) (upd H a o) := .new w na
def dTryK (Cs : List Addr) (i j : Nat) (dst : XC → DS) (d0 : DS) (dX : Addr → Addr → DS) : DS := fun E ρ => noOwn ρ ∧ (i < ρ.length ∧
  dst (fun C g => C ∈ Cs ∧ g = none ∧ ∀ a, dX a C { nx := fun _ => False, rt := E.rt, rn := E.rn } (((ρ.set i (.sh (.fn a))).set j (.sh (.fn a))).set i .no)) { E with nx := fun ρ' => d0 E ρ' } ρ)
theorem noOwn_set {ρ : Rh} {i : Nat} {s : Sl} (h : noOwn ρ) (hs : noOwn [s]) : noOwn (ρ.set i s) := by
  induction ρ generalizing i with
  | nil => exact h
  | cons t r ih =>
    have hr : noOwn r := by cases t <;> first | exact h | exact h.elim
    cases i with
    | zero =>
      rw [List.set_cons_zero]
      cases s <;> first | exact hr | exact hs.elim
    | succ i =>
      rw [List.set_cons_succ]
      cases t <;> first | exact ih hr | exact h.elim
theorem lss_tryK {st : Stmt} {rest : List Stmt} {cl : Value} {Cs : List Addr} {i j : Nat} {dst : XC → DS} {d0 : DS} {dX : Addr → Addr → DS} {v : Str} {vp ep : Pos} (hs : X.stack = X.env :: X.outer) (hf : X.env.frame = some X.env.locals) (hN : X.N.Nodup) (hi : X.N[i]? = some n) (hln : X.env.kindOf n = some .local)
    (hc : Names X x cl) (hC : Caught X.K cl Cs) (h : LSX X F0 H0 st dst)
    (hv : ∀ (a : Addr) (oe : Obj) (pn : List (Addr × Obj)), LS (X.suite a ((a, oe) :: pn)) F0 H0 (.Assign [.Name v vp] (.Name n ep) apos) (dAsg (dVar i) (dgN j)))
    (h0 : LSs X F0 H0 rest d0) (hX : ∀ (a C : Addr) (F1 H1 : Hp), C ∈ Cs → H1 a = some (ExV (.ref C) none a) → LSs X F1 H1 rest (dX a C)) :
    LSs X F0 H0 (.Try [st] [.ExceptHandler (some (.Name x np)) (some n) [.Assign [.Name v vp] (.Name n ep) apos] pos'] [] [] pos :: rest) (dTryK Cs i j dst d0 dX) :=
  pssW (pss_cons (u := fun D σ H => lowS X.K F0 H0 d0 D σ H ∨ ∃ a C F1 H1, C ∈ Cs ∧ H1 a = some (ExV (.ref C) none a) ∧ lowS X.K F1 H1 (dX a C) D σ H)
    (ps_try_keep (Wout := fun _ _ _ _ => False) (tb := fun W => lowSX X.K F0 H0 W dst) (ts := fun a cls d => fun D σ H => ∃ C, C ∈ Cs ∧ cls = .ref C ∧ d = none ∧ lowS X.K F0 H0 (dAsg (dVar i) (dgN j)) D σ H) hs hf hN hi hln hc (by
      intro u s' ⟨_, _, _, _, _, _, _, _, _, _, _, _, _, _, _, _, z⟩
      exact z.elim) (fun W pn xe tk _ => pss_one (h W pn xe tk)) (fun a oe cls d pn hz hvs => ⟨fun pins s σ H D I ⟨C, hm, e1, e2, q⟩ => (pss_one (hv a oe pn)).run pins s σ H D I q⟩))
    ⟨fun pins s σ H D I q => by
      rcases q with q | ⟨a, C, F1, H1, hm, g, q⟩
      · exact h0.run pins s σ H D I q
      · exact (hX a C F1 H1 hm g).run pins s σ H D I q⟩) fun D σ H ⟨F, ρ, fps, E, R, ⟨no, hl, q⟩, k⟩ => ⟨F, ρ, fps, _, _, R, q, ⟨fun F' H' σ' ρ' fps' s R' q' => .inl ⟨F', ρ', fps', E, R', q', k.mono s⟩, k.bk, k.ct, k.rt, k.rn⟩, fun C g ⟨hm, hg, hx⟩ F' H' cls d e r => by
    subst hg
    obtain ⟨r1, r2⟩ := r
    subst r1 r2
    refine ⟨true, hC C hm, fun _ a ha => ⟨C, hm, rfl, rfl, F', _, fps.set i [], { nx := fun r => r = (ρ.set i (.sh (.fn a))).set j (.sh (.fn a)), rt := fun _ => False }, (R.ext e).set (.fn a) i, ?_, ⟨?_, ?_, ?_, ?_, ?_⟩⟩, fun z => absurd z (by decide)⟩
    · show dVar i _ _
      unfold dVar
      have : (ρ.set i (.sh (.fn a)))[i]? = some (.sh (.fn a)) := List.getElem?_set_self hl
      rw [this]
      rfl
    · intro F2 H2 σ2 ρ2 fps2 s R2 q2 nH
      subst q2
      have R3 : ERep X.K F0 H0 F2 H2 (σ2.set i none) (((ρ.set i (.sh (.fn a))).set j (.sh (.fn a))).set i .no) (fps2.set i []) := ⟨R2.x, R2.s.set .no i, R2.p.set_nil i⟩
      have fl : (fps2.set i []).flatten = [] := noOwn.fps R3.s (noOwn_set (noOwn_set (noOwn_set no trivial) trivial) trivial)
      have x1 : Ext F2 H2 (upd F2 a (ExV (.ref C) none a)) (upd H2 a (ExV (.ref C) none a)) := .new R2.x.w nH
      refine .inr ⟨a, C, upd F2 a (ExV (.ref C) none a), upd H2 a (ExV (.ref C) none a), hm, upd_same, upd F2 a (ExV (.ref C) none a), _, _, _, ⟨.refl x1.w, R3.s.enter R2.x x1 fl, ⟨by rw [fl]; exact List.nodup_nil, fun b hb => by rw [fl] at hb; cases hb⟩⟩, hx a, ⟨?_, ?_, ?_, ?_, ?_⟩⟩
      · exact fun F3 H3 σ3 ρ3 fps3 s R3 q3 => False.elim q3
      · exact fun F3 H3 σ3 ρ3 fps3 s R3 q3 => False.elim q3
      · exact fun F3 H3 σ3 ρ3 fps3 s R3 q3 => False.elim q3
      · exact fun F3 H3 v x s e3 r3 q3 => k.rt F3 H3 v x (e.f.trans (‹Same F' F2›.trans (x1.f.trans s))) ((R2.x.trans x1).trans e3) r3 q3
      · exact fun F3 H3 v x fp s e3 r3 n1 n2 q3 => k.rn F3 H3 v x fp (e.f.trans (‹Same F' F2›.trans (x1.f.trans s))) ((R2.x.trans x1).trans e3) r3 n1 (fun b hb => (R2.x.trans x1).h.free (n2 b hb)) q3
    · exact fun F2 H2 σ2 ρ2 fps2 s R2 q2 => False.elim q2
    · exact fun F2 H2 σ2 ρ2 fps2 s R2 q2 => False.elim q2
    · exact fun F2 H2 v x s e2 r2 q2 => False.elim q2
    · exact fun F2 H2 v x fp s e2 r2 n1 n2 q2 => False.elim q2⟩
end
end DL
end
section
namespace DL
open PySem L2
abbrev KinT := List (Addr × String × Bool)
def KinX (K : PySem.W.Frag) (kin : Kin) : Prop := ∀ p ∈ kin, ExcC K p.1 ∧ PySem.W.kitOne K (.ref p.1) (.ref p.2.1) = some p.2.2
def KinB (K : PySem.W.Frag) (kb : KinT) : Prop := ∀ p ∈ kb, ExcC K p.1 ∧ PySem.W.kitOne K (.ref p.1) (.type p.2.1) = some p.2.2
/-- the kept exception, a class -/
def rIsV (K : PySem.W.Frag) : List V → Hp → VK → Prop := fun xs H Q => ∃ (a D : Addr) (c : V) (cv : Value) (b : Bool), xs = [.ref a, c] ∧ H a = some (ExV (.ref D) none a) ∧ ExcC K D ∧ ClsV c cv ∧ PySem.W.kitOne K (.ref D) cv = some b ∧ Q (.bl b) H
/-- the kept exception, a tuple of classes -/
def rIsVT (K : PySem.W.Frag) : List V → Hp → VK → Prop := fun xs H Q => ∃ (a D tp : Addr) (cs : List V) (us : List Value) (b : Bool), xs = [.ref a, .ref tp] ∧ H a = some (ExV (.ref D) none a) ∧ ExcC K D ∧ H tp = some (.tup cs) ∧ Paired ClsV cs us ∧ PySem.W.kitAny K (.ref D) us = some b ∧ Q (.bl b) H
section
variable {X : Cx} {pins : List (Addr × Obj)} {σ : L2.St} {H : Hp} {s : Shared}
theorem exv_at {K : PySem.W.Frag} {P : Program} {w : World} {h : Heap} {a D : Addr} (ok : HOk P w H h) (e : H a = some (ExV (.ref D) none a)) (C : ExcC K D) : ∃ Z : Heap → Prop, PySem.W.KitX K (.ref a) (.ref D) Z ∧ Z h := by
  obtain ⟨⟨oe, vs, g, hz, hd⟩, _, _⟩ := ok a _ e
  refine ⟨_, PySem.W.handS_kitx_exc (ox := oe) C.hg C.hk C.hs C.hd C.ha C.hn C.ht C.hm, ?_⟩
  obtain ⟨oc, od, oda, osl⟩ := oe
  obtain ⟨h1, h2⟩ := hz
  dsimp only at h1 h2 hd
  subst h1 h2 hd
  exact ⟨g, rfl, rfl, trivial⟩
theorem call_isV : CallR X (.builtin "isinstance") (rIsV X.K) := by
  intro pins s σ H xs us Q I r h
  obtain ⟨a, D, c, cv, b, rfl, g, C, k, e, q⟩ := h
  obtain ⟨u1, u2, rfl, r1, r2⟩ := vals2 r
  cases (show u1 = Value.ref a from r1)
  have e2 := k.eq r2
  subst e2
  obtain ⟨Z, z, p⟩ := exv_at I.hok g C
  exact PySem.W.kia_one z I.kIn p e (fun z => nomatch z) fun tk => ⟨.bl b, H, I.tok tk, rfl, q⟩
theorem call_isVT : CallR X (.builtin "isinstance") (rIsVT X.K) := by
  intro pins s σ H xs us Q I r h
  obtain ⟨a, D, tp, cs, ws, b, rfl, g, C, hT, k, e, q⟩ := h
  obtain ⟨u1, u2, rfl, r1, r2⟩ := vals2 r
  cases (show u1 = Value.ref a from r1)
  cases (show u2 = Value.ref tp from r2)
  obtain ⟨Z, z, p⟩ := exv_at I.hok g C
  obtain ⟨_, its, rv, o, h1, h2, n, h3⟩ := (I.hok tp _ hT : ObjOk X.prog X.w H s.heap tp (.tup cs))
  have e3 := ClsV.all k rv
  subst e3
  obtain ⟨oc, od, dt, sl⟩ := o
  dsimp only at h2 h3
  subst h2 h3
  exact PySem.W.kia_tup z I.kIn p h1 e (fun z => nomatch z) fun tk => ⟨.bl b, H, I.tok tk, rfl, q⟩
end
def isXK2 (kin : Kin) (kb : KinT) (a C : Addr) (P : D → Prop) (x y : D) : Prop := x = .fn a ∧ (match y with | .fn C' => ∃ b, (C, C', b) ∈ kin ∧ P (.bl b) | .ty n => ∃ b, (C, n, b) ∈ kb ∧ P (.bl b) | _ => False)
def isXK1 (kin : Kin) (kb : KinT) (a C : Addr) (db : DE) (ρ : Rh) (P : D → Prop) (x : D) : Prop := db ρ (isXK2 kin kb a C P x)
def dIsX (kin : Kin) (kb : KinT) (a C : Addr) (da db : DE) : DE := fun ρ P => da ρ (isXK1 kin kb a C db ρ P)
def isXTK (kin : Kin) (a C : Addr) (Cs : List Addr) (P : D → Prop) (x : D) : Prop := x = .fn a ∧ ∃ f : Addr → Bool, (∀ C' ∈ Cs, (C, C', f C') ∈ kin) ∧ P (.bl (Cs.any f))
def dIsXT (kin : Kin) (a C : Addr) (Cs : List Addr) (da : DE) : DE := fun ρ P => da ρ (isXTK kin a C Cs P)
section
variable {X : Cx} {F0 H0 : Hp} {e t : Expr} {pos p : Pos} {x : Str} {kin : Kin} {kb : KinT} {a C : Addr} {da db : DE}
/-- what is asked, as the machine has it -/
theorem isX_cls {K : PySem.W.Frag} {F : Hp} {v w : V} {P : D → Prop} {x y : D} (hk : KinX K kin) (hb : KinB K kb) (r1 : Rep K F v x) (r2 : Rep K F w y) (h : isXK2 kin kb a C P x y) : v = .ref a ∧ ∃ cv b, ExcC K C ∧ ClsV w cv ∧ PySem.W.kitOne K (.ref C) cv = some b ∧ P (.bl b) := by
  obtain ⟨h1, h2⟩ := h
  subst h1
  cases r1
  refine ⟨rfl, ?_⟩
  cases y with
  | fn C' =>
    cases r2
    obtain ⟨b, hm, hp⟩ := h2
    exact ⟨_, b, (hk _ hm).1, .own _, (hk _ hm).2, hp⟩
  | ty n =>
    cases r2
    obtain ⟨b, hm, hp⟩ := h2
    exact ⟨_, b, (hb _ hm).1, .ty _, (hb _ hm).2, hp⟩
  | _ => exact h2.elim
theorem le_isV (hk : KinX X.K kin) (hkb : KinB X.K kb) (g : H0 a = some (ExV (.ref C) none a)) (hg : Gl X x) (hm : X.mg x = none) (hv : bootBuiltins x = some (.builtin "isinstance")) (ha : LE X F0 H0 e da) (hb : LE X F0 H0 t db) (hn : x ≠ "__name__" := by decide) (hdb : (x == ("__debug__" : Str)) = false := by decide)
    (he : starEach [e, t] X.env = (false, eval e X.env) :: starEach [t] X.env := by rfl) (he2 : starEach [t] X.env = (false, eval t X.env) :: starEach [] X.env := by rfl) (hpl : (backTo pos (starEach [t] X.env)).any (·.1) = false := by rfl) :
    LE X F0 H0 (.Call (.Name x p) [e, t] [] pos) (dIsX kin kb a C da db) :=
  peW (pe_callB call_isV hg hm hv (pa_cons ha (pa_cons hb pa_nil he2) he) hn hdb he hpl) fun σ H Q ⟨F, ρ, fps, P, R, q, k⟩ => ⟨F, ρ, fps, _, R, q, fun z hz F1 H1 v e1 r1 => ⟨F1, ρ, fps, _, R.ext e1, hz, fun y hy F2 H2 w e2 r2 => by
    obtain ⟨rfl, cv, b, c1, c2, c3, hp⟩ := isX_cls hk hkb (r1.mono e2.f) r2 hy
    exact ⟨a, C, w, cv, b, rfl, e2.h _ _ (e1.h _ _ (R.x.h _ _ g)), c1, c2, c3, k _ hp F2 H2 _ (e1.trans e2) (.bl _)⟩⟩⟩
theorem le_isVT {Cs : List Addr} {ts : List Expr} {p2 : Pos} {x1} (hk : KinX X.K kin) (g : H0 a = some (ExV (.ref C) none a)) (hg : Gl X x) (hm : X.mg x = none) (hv : bootBuiltins x = some (.builtin "isinstance")) (ha : LE X F0 H0 e da) (hc : PA X ts (tCs Cs)) (hl : Cs.length ≤ 1000) (hne : Cs ≠ []) (hn : x ≠ "__name__" := by decide) (hdb : (x == ("__debug__" : Str)) = false := by decide)
    (he : starEach [e, .Tuple ts x1 p2] X.env = (false, eval e X.env) :: starEach [.Tuple ts x1 p2] X.env := by rfl) (he2 : starEach [.Tuple ts x1 p2] X.env = (false, eval (.Tuple ts x1 p2) X.env) :: starEach [] X.env := by rfl) (hpl : (backTo pos (starEach [.Tuple ts x1 p2] X.env)).any (·.1) = false := by rfl) :
    LE X F0 H0 (.Call (.Name x p) [e, .Tuple ts x1 p2] [] pos) (dIsXT kin a C Cs da) :=
  peW (pe_callB call_isVT hg hm hv (pa_cons ha (pa_cons (pe_tup hc) pa_nil he2) he) hn hdb he hpl) fun σ H Q ⟨F, ρ, fps, P, R, q, k⟩ => ⟨F, ρ, fps, _, R, q, fun z hz F1 H1 v e1 r1 => ⟨by
      rw [List.length_map, szl]; omega, fun l hl2 => by
      obtain ⟨rfl, f, hf, hp⟩ := hz
      cases r1
      have e2 := Ext.new (o := .tup (Cs.map V.ref)) e1.w hl2
      have hC : ExcC X.K C ∨ Cs = [] := by
        cases Cs with
        | nil => exact .inr rfl
        | cons D r => exact .inl (hk _ (hf D (by simp))).1
      rcases hC with hC | hC
      · exact ⟨a, C, l, _, Cs.map Value.ref, _, rfl, e2.h _ _ (e1.h _ _ (R.x.h _ _ g)), hC, upd_same, paired_cls Cs, kitAny_of fun D hD => (hk _ (hf D hD)).2, k _ hp _ _ _ (e1.trans e2) (.bl _)⟩
      · exact absurd hC hne⟩⟩
/-- in the except suite -/
theorem le_isE {oe : Obj} {pn : List (Addr × Obj)} (hk : KinX X.K kin) (hkb : KinB X.K kb) (hz : Zc (.ref C) none oe) (hvs : ∃ vs, oe.data = .fields vs) (hg : Gl (X.suite a ((a, oe) :: pn)) x) (hm : X.mg x = none) (hv : bootBuiltins x = some (.builtin "isinstance"))
    (ha : LE (X.suite a ((a, oe) :: pn)) F0 H0 e da) (hb : LE (X.suite a ((a, oe) :: pn)) F0 H0 t db) (hC : ExcC X.K C) (hn : x ≠ "__name__" := by decide) (hdb : (x == ("__debug__" : Str)) = false := by decide)
    (he : starEach [e, t] X.env = (false, eval e X.env) :: starEach [t] X.env := by rfl) (he2 : starEach [t] X.env = (false, eval t X.env) :: starEach [] X.env := by rfl) (hpl : (backTo pos (starEach [t] X.env)).any (·.1) = false := by rfl) :
    LE (X.suite a ((a, oe) :: pn)) F0 H0 (.Call (.Name x p) [e, t] [] pos) (dIsX kin kb a C da db) :=
  peW (pe_callB (X := X.suite a ((a, oe) :: pn)) (call_isE hC hz hvs) hg hm hv (pa_cons ha (pa_cons hb pa_nil he2) he) hn hdb he hpl) fun σ H Q ⟨F, ρ, fps, P, R, q, k⟩ => ⟨F, ρ, fps, _, R, q, fun z hz F1 H1 v e1 r1 => ⟨F1, ρ, fps, _, R.ext e1, hz, fun y hy F2 H2 w e2 r2 => by
    obtain ⟨rfl, cv, b, c1, c2, c3, hp⟩ := isX_cls hk hkb (r1.mono e2.f) r2 hy
    exact ⟨w, cv, b, rfl, fun u hu => c2.eq hu, c3, k _ hp F2 H2 _ (e1.trans e2) (.bl _)⟩⟩⟩
theorem le_never : LE X F0 H0 e (fun _ _ => False) := ⟨fun pins s σ H Q I ⟨F, ρ, fps, P, R, q, k⟩ => q.elim⟩
/-- a built-in exception class as a value -/
theorem le_verr (hg : Gl X "ValueError") (hm : X.mg "ValueError" = none) (hv : bootBuiltins "ValueError" = some (.type "ValueError")) : LE X F0 H0 (.Name "ValueError" pos) (dC (.ty "ValueError")) :=
  le_c (pe_bltn hg hm hv (v := .ty "ValueError") rfl (by decide) (by decide)) fun _ => .ty _
end
section
variable {ρ : Rh} {P : D → Prop} {E : DEn} {x y : D} {xs : List D} {kin : Kin} {kb : KinT} {a C C' : Addr} {da db : DE} {dr : DA} {n m : String} {Cs : List Addr} {Xc : XC} {S : DSpecX} {M : MTabX} {gs : List (Str × D)} {d0 : DS} {dst : XC → DS} {dX : Addr → Addr → DS} {i j : Nat} {mm : Str}
def apX (S : DSpecX) (xs : List D) (P : D → Prop) (Xc : XC) : Prop := S xs P Xc
def callXK (S : DSpecX) (P : D → Prop) (Xc : XC) (xs : List D) : Prop := apX S xs P Xc
theorem q_callX : dCallX S dr Xc ρ P = dr ρ (callXK S P Xc) := id rfl
theorem q_callXK : callXK S P Xc xs = apX S xs P Xc := id rfl
def methApX (M : MTabX) (m : Str) (C : Addr) (gs : List (Str × D)) (dr : DA) (ρ : Rh) (P : D → Prop) (Xc : XC) : Prop := gs.lookup m = none ∧ ∃ S, M C S ∧ dr ρ fun xs => apX S (.obj C gs :: xs) P Xc
def methXK (M : MTabX) (m : Str) (dr : DA) (ρ : Rh) (P : D → Prop) (Xc : XC) (x : D) : Prop := match x with | .obj C gs => methApX M m C gs dr ρ P Xc | _ => False
theorem q_methX : dMethX M mm da dr Xc ρ P = da ρ (methXK M mm dr ρ P Xc) := by
  unfold dMethX
  congr 1
theorem q_methXK : methXK M mm dr ρ P Xc (.obj C gs) = methApX M mm C gs dr ρ P Xc := id rfl
def methXK2 (S : DSpecX) (x : D) (P : D → Prop) (Xc : XC) (xs : List D) : Prop := apX S (x :: xs) P Xc
theorem q_methXK2 : methXK2 S x P Xc xs = apX S (x :: xs) P Xc := id rfl
theorem methApX_intro {S : DSpecX} (h1 : gs.lookup mm = none) (h2 : M C S) (h3 : dr ρ (methXK2 S (.obj C gs) P Xc)) : methApX M mm C gs dr ρ P Xc := ⟨h1, S, h2, h3⟩
theorem q_raise : dRaise C Xc E ρ = Xc C none := id rfl
theorem q_isX : dIsX kin kb a C da db ρ P = da ρ (isXK1 kin kb a C db ρ P) := id rfl
theorem q_isXK1 : isXK1 kin kb a C db ρ P x = db ρ (isXK2 kin kb a C P x) := id rfl
theorem q_isXK2f : isXK2 kin kb a C P (.fn a) (.fn C') = ∃ b, (C, C', b) ∈ kin ∧ P (.bl b) := by simp [isXK2]
theorem q_isXK2t : isXK2 kin kb a C P (.fn a) (.ty n) = ∃ b, (C, n, b) ∈ kb ∧ P (.bl b) := by simp [isXK2]
theorem q_isXT : dIsXT kin a C Cs da ρ P = da ρ (isXTK kin a C Cs P) := id rfl
theorem q_isXTK : isXTK kin a C Cs P (.fn a) = ∃ f : Addr → Bool, (∀ C' ∈ Cs, (C, C', f C') ∈ kin) ∧ P (.bl (Cs.any f)) := by simp [isXTK]
def tryRX (Cs : List Addr) (i : Nat) (dh : Addr → Addr → DS) (E : DEn) (ρ : Rh) : XC := fun C g => C ∈ Cs ∧ g = none ∧ ∀ a, dh a C (dhN i E) (ρ.set i (.sh (.fn a)))
theorem q_tryR {dh : Addr → Addr → DS} : dTryR Cs i dst dh E ρ = dst (tryRX Cs i dh E ρ) E ρ := id rfl
def tryKX (Cs : List Addr) (i j : Nat) (dX : Addr → Addr → DS) (E : DEn) (ρ : Rh) : XC := fun C g => C ∈ Cs ∧ g = none ∧ ∀ a, dX a C { nx := fun _ => False, rt := E.rt, rn := E.rn } (((ρ.set i (.sh (.fn a))).set j (.sh (.fn a))).set i .no)
theorem q_tryK : dTryK Cs i j dst d0 dX E ρ = (noOwn ρ ∧ (i < ρ.length ∧ dst (tryKX Cs i j dX E ρ) { E with nx := fun ρ' => d0 E ρ' } ρ)) := id rfl
end
theorem kit_ve {K : PySem.W.Frag} {C : Addr} {b : Bool} (h : PySem.W.subIn K (.ref C) (.type "ValueError") = some b) : PySem.W.kitOne K (.ref C) (.type "ValueError") = some b := by
  unfold PySem.W.kitOne
  rw [if_neg (by simp)]
  show (if PySem.W.kitMeta "ValueError" = true then PySem.W.subIn K (.ref C) (.type "ValueError") else none) = some b
  rw [if_pos (by decide +kernel)]
  exact h
end DL
end
section
namespace DL
open PySem L2
structure MethOkN (P : Program) (w : World) (K : PySem.W.Frag) (mg : Str → Option Value) (base : Heap) (k : Nat) (m : Str) (ms : List Bool) (C : Addr) (S : DSpec) : Prop where
  cl : Cls K C
  ex : ∃ f fd ps, Meth K C m f ∧ FnOk P w K mg base CX0 k f fd ps (lowSpN K (false :: ms) S) ∧ Binds K fd ps []
section
variable {X : Cx} {F0 H0 : Hp} {e o : Expr} {es : List Expr} {pos p apos : Pos} {m : Str} {k : Nat} {M : MTab} {ms : List Bool}
theorem ln_methN {pl : Sem Bool} {da : DE} {dr : DA} (ho : LE X F0 H0 o da) (hM : ∀ C S, M C S → MethOkN X.prog X.w X.K X.mg X.base k m ms C S) (hr : Room k X.A) (ha : LAM X F0 H0 ms (e :: es) dr)
    (hst : starEach (e :: es) X.env = (false, eval e X.env) :: starEach es X.env := by rfl) (hpl : (backTo pos (starEach es X.env)).any (·.1) = false := by rfl)
    (ht : eval (.Call (.Attribute o m apos) (e :: es) [] pos) X.env = (do
      let ov ← eval o X.env
      standAt apos.atName
      let (f, first) ← holding [ov] (getMethod ov m pl)
      callWith pos f first (backTo pos (starEach (e :: es) X.env)) (backToKw pos (keywordEach [] X.env))) := by rfl) :
    LN X F0 H0 (.Call (.Attribute o m apos) (e :: es) [] pos) (dMeth M m da dr) := by
  refine ⟨fun pins s σ H Q I ⟨F, ρ, fps, P, R, q, kk⟩ => ?_⟩
  refine PySem.W.methodCall_KW (pl := pl) (thn (ho.run pins s σ H (fun v H1 => ∃ F1 x, Ext F H F1 H1 ∧ Rep X.K F1 v x ∧ (match x with | .obj C gs => gs.lookup m = none ∧ ∃ S, M C S ∧ dr ρ fun xs => S (.obj C gs :: xs) P | _ => False)) I
    ⟨F, ρ, fps, _, R, q, fun x hx F1 H1 v e1 r1 => ⟨F1, x, e1, r1, hx⟩⟩) fun u s1 ⟨v, H1, I1, rx, F1, x, e1, r1, hxx⟩ => ?_) ht
  cases r1 with
  | obj h1 rf =>
    obtain ⟨hl, S, hS, q2⟩ := hxx
    obtain ⟨c, f, fd, ps, hm, FF, hb⟩ := hM _ _ hS
    cases rx
    refine getmeth_ok I1 (e1.w _ _ h1) c hm (rf.look_none hl) ?_
    refine PySem.W.callWith_K (first := [.ref _]) (h₀ := X.base) I.ok.mod.kin hm.kp (thn (ha.run pos pins s1 σ H1 (fun vs H2 => lowSpN X.K (false :: ms) S (.ref _ :: vs) H2 Q E0) I1 ⟨F1, ρ, fps, _, R.ext e1, q2, fun xs hxs F2 H2 vs e2 r2 =>
      ⟨F2, _, P, e2.w, .sh (.obj (e2.f _ _ h1) (rf.mono e2.f)) r2, hxs, fun z pz F3 H3 u fp e3 r3 n1 n2 => kk z pz F3 H3 u fp ((e1.trans e2).trans e3) r3 n1 fun a ha => (e1.trans e2).h.free (n2 a ha)⟩⟩) fun us s2 ⟨vs, H2, I2, r, q2⟩ => ⟨I2.kIn, ?_⟩) hst hpl
    exact run_fn (us := .ref _ :: us) (vs := .ref _ :: vs) (dvs := []) (E := E0) FF hr hb .nil pass0 I2 (.cons rfl r) (by rw [List.append_nil]; exact q2)
  | _ => exact False.elim hxx
theorem le_methN {pl : Sem Bool} {da : DE} {dr : DA} (ho : LE X F0 H0 o da) (hM : ∀ C S, M C S → MethOkN X.prog X.w X.K X.mg X.base k m ms C S) (hr : Room k X.A) (ha : LAM X F0 H0 ms (e :: es) dr)
    (hst : starEach (e :: es) X.env = (false, eval e X.env) :: starEach es X.env := by rfl) (hpl : (backTo pos (starEach es X.env)).any (·.1) = false := by rfl)
    (ht : eval (.Call (.Attribute o m apos) (e :: es) [] pos) X.env = (do
      let ov ← eval o X.env
      standAt apos.atName
      let (f, first) ← holding [ov] (getMethod ov m pl)
      callWith pos f first (backTo pos (starEach (e :: es) X.env)) (backToKw pos (keywordEach [] X.env))) := by rfl) :
    LE X F0 H0 (.Call (.Attribute o m apos) (e :: es) [] pos) (dMeth M m da dr) := le_frz (ln_methN (pl := pl) ho hM hr ha hst hpl ht)
end
end DL
end
section
namespace DL
open PySem L2 PySem.Spec
def ItzG3 (K : PySem.W.Frag) (S1 S2 S3 : Src) : It :=
  ⟨fun i H => ∃ n1 n2 n3, S1.len K H n1 ∧ S2.len K H n2 ∧ S3.len K H n3 ∧ i < n1 ∧ i < n2 ∧ i < n3,
    fun i H v H' => ∃ T x y u, v = .ref T ∧ H T = none ∧ H' = upd H T (.tup [x, y, u]) ∧ S1.has K H i x ∧ S2.has K H i y ∧ S3.has K H i u,
    fun i H => ∃ n1 n2 n3, S1.len K H n1 ∧ S2.len K H n2 ∧ S3.len K H n3 ∧ i ≤ n1 ∧ i ≤ n2 ∧ i ≤ n3 ∧ (i = n1 ∨ i = n2 ∨ i = n3)⟩
structure ZAp3 (z TI TO i1 i2 i3 : Addr) : Prop where
  a1 : TI ≠ z
  a2 : TO ≠ z
  a3 : TI ≠ TO
  b1 : TI ≠ i1
  b2 : TI ≠ i2
  b3 : TI ≠ i3
  c1 : z ≠ i1
  c2 : z ≠ i2
  c3 : z ≠ i3
  d1 : TO ≠ i1
  d2 : TO ≠ i2
  d3 : TO ≠ i3
  e1 : i1 ≠ i2
  e2 : i1 ≠ i3
  e3 : i2 ≠ i3
theorem turn_zipG3 {P : Program} {w : World} {K : PySem.W.Frag} {elts : List Expr} {kk : Nat} {tpos : Pos} {S1 S2 S3 : Src} {z TI TO i1 i2 i3 : Addr} (D : ZAp3 z TI TO i1 i2 i3) :
    Turn P w K (.Tuple elts kk tpos) (ItzG3 K S1 S2 S3) [z, TI, TO, i1, i2, i3] z (fun i h => IsZip h z TI TO .none ∧ IsTupOf3 h TI (.ref i1) (.ref i2) (.ref i3) ∧ (∃ x y u, IsTupOf3 h TO x y u) ∧ S1.it i1 i h ∧ S2.it i2 i h ∧ S3.it i3 i h) where
  mem := by simp
  obj := fun i h st c hc => by
    obtain ⟨hz, hTI, ⟨x, y, u, hTO⟩, h1, h2, h3⟩ := st
    have e' : c = z ∨ c = TI ∨ c = TO ∨ c = i1 ∨ c = i2 ∨ c = i3 := by simpa using hc
    rcases e' with q | q | q | q | q | q
    · rw [q]; exact ⟨_, hz, fun v q => nomatch q⟩
    · rw [q]; exact ⟨_, hTI, fun v q => nomatch q⟩
    · rw [q]; exact ⟨_, hTO, fun v q => nomatch q⟩
    · rw [q]; exact Src.it_obj h1
    · rw [q]; exact Src.it_obj h2
    · rw [q]; exact Src.it_obj h3
  keep := fun i h h' st k => by
    obtain ⟨hz, hTI, ⟨x, y, u, hTO⟩, h1, h2, h3⟩ := st
    exact ⟨k z (by simp) _ hz, k TI (by simp) _ hTI, ⟨x, y, u, k TO (by simp) _ hTO⟩, Src.it_at h1 fun o q => k i1 (by simp) o q, Src.it_at h2 fun o q => k i2 (by simp) o q, Src.it_at h3 fun o q => k i3 (by simp) o q⟩
  item := by
    intro X hP hw hK hc i pins s σ H E I hf st hg
    subst hP hw hK
    obtain ⟨hz, hTI, ⟨x0, y0, u0, hTO⟩, h1, h2, h3⟩ := st
    obtain ⟨n1, n2, n3, l1, l2, l3, b1, b2, b3⟩ := hg
    obtain ⟨fp1, P1, St1, D1, m1, f1, st1, k1, v1⟩ := Src.draws I hc S1 n1 l1 i1 h1
    obtain ⟨fp2, P2, St2, D2, m2, f2, st2, k2, v2⟩ := Src.draws I hc S2 n2 l2 i2 h2
    obtain ⟨fp3, P3, St3, D3, m3, f3, st3, k3, v3⟩ := Src.draws I hc S3 n3 l3 i3 h3
    have nl : ∀ {b : Addr} {o : Obj} {fp : List Addr} {it : Addr}, s.heap.get? b = some o → o.cls ≠ .type "list" → b ≠ it → (∀ b ∈ fp, b = it ∨ ∃ o, s.heap.get? b = some o ∧ o.cls = .type "list") → b ∉ fp := fun e c n f hb => by
      rcases f _ hb with q | ⟨o', e', c'⟩
      · exact n q
      · rw [e] at e'; cases e'; exact c c'
    obtain ⟨o1, g1, c1⟩ := Src.it_cls h1
    obtain ⟨o2, g2, c2⟩ := Src.it_cls h2
    obtain ⟨o3, g3, c3⟩ := Src.it_cls h3
    have zc : ∀ {T : String}, T ≠ "list" → Value.type T ≠ .type "list" := fun h q => h (Value.type.inj q)
    have sep : ZipSep3 z TI TO i1 i2 i3 fp1 fp2 fp3 :=
      ⟨D.a1, D.a2, D.a3, D.b1, m1, nl hz (zc (by decide)) D.c1 f1, nl hTO (zc (by decide)) D.d1 f1, D.b2, m2, nl hz (zc (by decide)) D.c2 f2, nl hTO (zc (by decide)) D.d2 f2,
        D.b3, m3, nl hz (zc (by decide)) D.c3 f3, nl hTO (zc (by decide)) D.d3 f3, nl g1 c1 D.e1 f2, nl g1 c1 D.e2 f3, nl g2 c2 D.e1.symm f1, nl g2 c2 D.e3 f3, nl g3 c3 D.e2.symm f1, nl g3 c3 D.e3.symm f2⟩
    have hzl : z < s.heap.objs.size := Heap.lt_size hz
    refine wpAny_pyNext_zipD3_item sep D1 D2 D3 hz hTI hTO st1 st2 st3 b1 b2 b3 fun x1 x2 x3 h' tk y1 y2 y3 z' TO' d1 d2 d3 hT hsz hk => ?_
    obtain ⟨u1, p1, r1⟩ := v1 _ _ y1
    obtain ⟨u2, p2, r2⟩ := v2 _ _ y2
    obtain ⟨u3, p3, r3⟩ := v3 _ _ y3
    refine ⟨_, rfl, wpAny_letOwnedTupleGo_zip (s := { s with heap := h', toks := tk }) z' fun h'' z'' sb => ?_⟩
    have hT2 : h''.get? s.heap.objs.size = some { cls := .type "tuple", data := .seq #[x1, x2, x3] } := (sb.2 _ (Nat.ne_of_gt hzl)).trans hT
    have new : ObjOk X.prog X.w (upd H s.heap.objs.size (.tup [u1, u2, u3])) h'' s.heap.objs.size (.tup [u1, u2, u3]) :=
      ⟨by show 3 ≤ sizeLine; decide, [x1, x2, x3], .cons r1 (.cons r2 (.cons r3 .nil)), ⟨_, hT2, rfl, _, rfl⟩⟩
    have I1 : Inv X pins σ (upd H s.heap.objs.size (.tup [u1, u2, u3])) { s with heap := h'', toks := tk } :=
      I.turnedNew (t' := tk) (ch := [z, TI, TO, i1, i2, i3]) (fun c o hb q => (sb.2 c (fun q' => hb (by simp [q']))).trans (hk c o (fun q' => hb (by simp [q'])) (fun q' => hb (by simp [q'])) (fun q' => hb (by simp [q'])) (fun q' => hb (by simp [q'])) (fun q' => hb (by simp [q'])) q)) hf (Nat.le_refl _) new
    refine ⟨.ref s.heap.objs.size, _, I1, rfl, ⟨_, u1, u2, u3, rfl, I.hok.fresh (Nat.le_refl _), rfl, p1, p2, p3⟩, ⟨z'', ?_, ⟨x1, x2, x3, ?_⟩, ?_, ?_, ?_⟩, fun c hcm => ?_⟩
    · exact (sb.2 _ D.a1).trans (hk _ _ D.a1 D.a3 D.b1 D.b2 D.b3 hTI)
    · exact (sb.2 _ D.a2).trans TO'
    · exact Src.it_at (k1 _ _ d1) fun o q => (sb.2 _ D.c1.symm).trans q
    · exact Src.it_at (k2 _ _ d2) fun o q => (sb.2 _ D.c2.symm).trans q
    · exact Src.it_at (k3 _ _ d3) fun o q => (sb.2 _ D.c3.symm).trans q
    · have hlt : c < s.heap.objs.size := by
        have e' : c = z ∨ c = TI ∨ c = TO ∨ c = i1 ∨ c = i2 ∨ c = i3 := by simpa using hcm
        rcases e' with q | q | q | q | q | q
        · rw [q]; exact hzl
        · rw [q]; exact Heap.lt_size hTI
        · rw [q]; exact Heap.lt_size hTO
        · rw [q]; exact Heap.lt_size g1
        · rw [q]; exact Heap.lt_size g2
        · rw [q]; exact Heap.lt_size g3
      rw [upd_ne (Nat.ne_of_lt hlt)]
      exact (hf c hcm).1
  done := by
    intro X hP hw hK hc i pins s σ H E I hf st hg
    subst hP hw hK
    obtain ⟨hz, hTI, ⟨x0, y0, u0, hTO⟩, h1, h2, h3⟩ := st
    obtain ⟨n1, n2, n3, l1, l2, l3, b1, b2, b3, b4⟩ := hg
    obtain ⟨fp1, P1, St1, D1, m1, f1, st1, k1, v1⟩ := Src.draws I hc S1 n1 l1 i1 h1
    obtain ⟨fp2, P2, St2, D2, m2, f2, st2, k2, v2⟩ := Src.draws I hc S2 n2 l2 i2 h2
    obtain ⟨fp3, P3, St3, D3, m3, f3, st3, k3, v3⟩ := Src.draws I hc S3 n3 l3 i3 h3
    have nl : ∀ {b : Addr} {o : Obj} {fp : List Addr} {it : Addr}, s.heap.get? b = some o → o.cls ≠ .type "list" → b ≠ it → (∀ b ∈ fp, b = it ∨ ∃ o, s.heap.get? b = some o ∧ o.cls = .type "list") → b ∉ fp := fun e c n f hb => by
      rcases f _ hb with q | ⟨o', e', c'⟩
      · exact n q
      · rw [e] at e'; cases e'; exact c c'
    obtain ⟨o1, g1, c1⟩ := Src.it_cls h1
    obtain ⟨o2, g2, c2⟩ := Src.it_cls h2
    obtain ⟨o3, g3, c3⟩ := Src.it_cls h3
    have zc : ∀ {T : String}, T ≠ "list" → Value.type T ≠ .type "list" := fun h q => h (Value.type.inj q)
    have sep : ZipSep3 z TI TO i1 i2 i3 fp1 fp2 fp3 :=
      ⟨D.a1, D.a2, D.a3, D.b1, m1, nl hz (zc (by decide)) D.c1 f1, nl hTO (zc (by decide)) D.d1 f1, D.b2, m2, nl hz (zc (by decide)) D.c2 f2, nl hTO (zc (by decide)) D.d2 f2,
        D.b3, m3, nl hz (zc (by decide)) D.c3 f3, nl hTO (zc (by decide)) D.d3 f3, nl g1 c1 D.e1 f2, nl g1 c1 D.e2 f3, nl g2 c2 D.e1.symm f1, nl g2 c2 D.e3 f3, nl g3 c3 D.e2.symm f1, nl g3 c3 D.e3.symm f2⟩
    refine wpAny_pyNext_zipD3_end sep D1 D2 D3 hz hTI hTO st1 st2 st3 b1 b2 b3 b4 fun h' tk hk => ⟨rfl, I.turnedL (t' := tk) (ch := [z, TI, TO, i1, i2, i3]) (fun c o hb q =>
      hk c o (fun q' => hb (by simp [q'])) (fun q' => hb (by simp [q'])) (fun q' => hb (by simp [q'])) (fun q' => hb (by simp [q'])) (fun q' => hb (by simp [q'])) q) hf⟩
  self := fun A i s Q E st h => wpAny_pyIter_zip st.1 h
def iZipG3 (K : PySem.W.Frag) (ta : TA) : TI := fun σ H R => ta σ H fun vs H1 => ∃ x y u, vs = [x, y, u] ∧ ((∃ z, x = .str z) ∨ ∃ a xs, x = .ref a ∧ SqL K H1 a xs) ∧ ((∃ z, y = .str z) ∨ ∃ a xs, y = .ref a ∧ SqL K H1 a xs) ∧ ((∃ z, u = .str z) ∨ ∃ a xs, u = .ref a ∧ SqL K H1 a xs) ∧
  ∀ S1 S2 S3, SrcOf K H1 x S1 → SrcOf K H1 y S2 → SrcOf K H1 u S3 → R (ItzG3 K S1 S2 S3) H1
theorem pi_zipG3 {X : Cx} {e e2 e3 : Expr} {ta : TA} {p pos tpos : Pos} {elts : List Expr} {kk : Nat} (hg : Gl X "zip") (hm : X.mg "zip" = none) (ha : PA X [e, e2, e3] ta)
    (hs : starEach [e, e2, e3] X.env = (false, eval e X.env) :: starEach [e2, e3] X.env := by rfl) (hpl : (backTo pos (starEach [e2, e3] X.env)).any (·.1) = false := by rfl) :
    PI X (.Tuple elts kk tpos) (.Call (.Name "zip" p) [e, e2, e3] [] pos) (iZipG3 X.K ta) := by
  refine ⟨fun pins s σ H R I h => ?_⟩
  refine PyProof.Rows.Call_ (ld_blt I hg hm PyProof.Rows.boot_zip (PyProof.Rows.callWith_type1 (thn (ha.run pos pins s σ H _ I h) fun us s1 ⟨vs, H1, I1, r1, q1⟩ => ?_) hs hpl))
  obtain ⟨x, y, u, rfl, hx, hy, hu, q⟩ := q1
  cases r1 with
  | cons r rr =>
    cases rr with
    | cons r' rr =>
      cases rr with
      | cons r'' rr =>
        cases rr
        obtain ⟨S1, o1, G1, so1, B1, g1, k1⟩ := begins_src I1 r hx
        obtain ⟨S2, o2, G2, so2, B2, g2, k2⟩ := begins_src I1 r' hy
        obtain ⟨S3, o3, G3, so3, B3, g3, k3⟩ := begins_src I1 r'' hu
        refine zip_begins3 B1 B2 B3 g1 g2 g3 fun h' hz hTI hTO h1 h2 h3 hsz hk => wpAny_pyIter_zip hz ?_
        have I2 : Inv X pins σ H1 { s1 with heap := h' } := I1.kept (t' := s1.toks) hk
        refine ⟨s1.heap.objs.size + 5, [s1.heap.objs.size + 5, s1.heap.objs.size + 3, s1.heap.objs.size + 4, s1.heap.objs.size, s1.heap.objs.size + 1, s1.heap.objs.size + 2], _, _, H1, rfl, I2,
          turn_zipG3 ⟨?_, ?_, ?_, ?_, ?_, ?_, ?_, ?_, ?_, ?_, ?_, ?_, ?_, ?_, ?_⟩, ⟨hz, hTI, ⟨_, _, _, hTO⟩, k1 _ _ h1, k2 _ _ h2, k3 _ _ h3⟩, fun c hcm => ?_, q S1 S2 S3 so1 so2 so3⟩
        rotate_right
        · have e' : c = s1.heap.objs.size + 5 ∨ c = s1.heap.objs.size + 3 ∨ c = s1.heap.objs.size + 4 ∨ c = s1.heap.objs.size ∨ c = s1.heap.objs.size + 1 ∨ c = s1.heap.objs.size + 2 := by simpa using hcm
          have hle : s1.heap.objs.size ≤ c := by
            rcases e' with z | z | z | z | z | z
            · rw [z]; exact Nat.le_add_right _ _
            · rw [z]; exact Nat.le_add_right _ _
            · rw [z]; exact Nat.le_add_right _ _
            · rw [z]; exact Nat.le_refl _
            · rw [z]; exact Nat.le_add_right _ _
            · rw [z]; exact Nat.le_add_right _ _
          exact I1.fpOk hle (I1.hok.fresh hle)
        all_goals (intro q; have q' : (_ : Nat) = _ := q; omega)
def zip3D (xs ys us : List D) : List D := (xs.zip (ys.zip us)).map fun p => .tup [p.1, p.2.1, p.2.2]
def dZip3 (da : DA) : DI := fun ρ P => da ρ fun vs => match vs with
  | [x, y, u] => (match zipItems x, zipItems y, zipItems u with | some xs, some ys, some us => P (zip3D xs ys us) | _, _, _ => False)
  | _ => False
theorem it_zip3 {K : PySem.W.Frag} {F G : Hp} {v w t : V} {x y u : D} {xs ys us : List D} {S1 S2 S3 : Src} (r1 : Rep K F v x) (r2 : Rep K F w y) (r3 : Rep K F t u) (h1 : zipItems x = some xs) (h2 : zipItems y = some ys) (h3 : zipItems u = some us) (s1 : SrcOf K G v S1) (s2 : SrcOf K G w S2) (s3 : SrcOf K G t S3) :
    ItRep K F (ItzG3 K S1 S2 S3) (zip3D xs ys us) where
  go := fun H i e hi => by
    have a1 := (src_has r1 (.refl F) e h1 ⟨G, s1⟩).1
    have a2 := (src_has r2 (.refl F) e h2 ⟨G, s2⟩).1
    have a3 := (src_has r3 (.refl F) e h3 ⟨G, s3⟩).1
    simp [zip3D] at hi
    exact ⟨_, _, _, a1, a2, a3, by omega, by omega, by omega⟩
  stop := fun H e => by
    have a1 := (src_has r1 (.refl F) e h1 ⟨G, s1⟩).1
    have a2 := (src_has r2 (.refl F) e h2 ⟨G, s2⟩).1
    have a3 := (src_has r3 (.refl F) e h3 ⟨G, s3⟩).1
    refine ⟨_, _, _, a1, a2, a3, ?_, ?_, ?_, ?_⟩ <;> simp [zip3D] <;> omega
  yld := fun F1 H i u H' z e1 e2 q hz => by
    have a1 := (src_has r1 e1 e2 h1 ⟨G, s1⟩).2
    have a2 := (src_has r2 e1 e2 h2 ⟨G, s2⟩).2
    have a3 := (src_has r3 e1 e2 h3 ⟨G, s3⟩).2
    obtain ⟨T, u1, u2, u3, rfl, nT, rfl, p1, p2, p3⟩ := q
    simp only [zip3D, List.getElem?_map] at hz
    cases hq : (xs.zip (ys.zip us))[i]? with
    | none => rw [hq] at hz; cases hz
    | some p =>
      rw [hq] at hz
      cases hz
      obtain ⟨g1, g23⟩ := List.getElem?_zip_eq_some.mp hq
      obtain ⟨g2, g3⟩ := List.getElem?_zip_eq_some.mp g23
      exact ⟨_, .new e2 nT, rep_newT e2 nT (.cons (a1 _ _ _ p1 g1) (.cons (a2 _ _ _ p2 g2) (.cons (a3 _ _ _ p3 g3) .nil))) (by show 3 ≤ sizeLine; decide)⟩
theorem li_zip3 {X : Cx} {F0 H0 : Hp} {a b c : Expr} {pos : Pos} {da : DA} {p tpos : Pos} {elts : List Expr} {kk : Nat} (hg : Gl X "zip") (hm : X.mg "zip" = none) (ha : LA X F0 H0 [a, b, c] da)
    (hs : starEach [a, b, c] X.env = (false, eval a X.env) :: starEach [b, c] X.env := by rfl) (hpl : (backTo pos (starEach [b, c] X.env)).any (·.1) = false := by rfl) :
    LI X F0 H0 (.Tuple elts kk tpos) (.Call (.Name "zip" p) [a, b, c] [] pos) (dZip3 da) :=
  piW (pi_zipG3 hg hm ha hs hpl) fun σ H R ⟨F, ρ, fps, P, E, q, k⟩ => ⟨F, ρ, fps, _, E, q, fun vs hx F1 H1 us e1 r1 => by
    split at hx
    · cases r1 with
      | cons r rr =>
        cases rr with
        | cons r' rr =>
          cases rr with
          | cons r'' rr =>
            cases rr
            split at hx
            · rename_i h1 h2 h3
              exact ⟨_, _, _, rfl, rep_src r e1.w h1, rep_src r' e1.w h2, rep_src r'' e1.w h3, fun S1 S2 S3 s1 s2 s3 => k _ hx F1 H1 _ e1 (it_zip3 r r' r'' h1 h2 h3 s1 s2 s3).toB⟩
            · exact False.elim hx
    · exact False.elim hx⟩
def zip3K (P : List D → Prop) (vs : List D) : Prop := match vs with
  | [x, y, u] => (match zipItems x, zipItems y, zipItems u with | some xs, some ys, some us => P (zip3D xs ys us) | _, _, _ => False)
  | _ => False
theorem q_zip3 {da : DA} {ρ : Rh} {P : List D → Prop} : dZip3 da ρ P = da ρ (zip3K P) := by rfl
theorem q_zip3K {xs ys us : List D} {P : List D → Prop} : zip3K P [.lst xs, .lst ys, .lst us] = P (zip3D xs ys us) := id rfl
end DL
end
section
namespace K22
open PySem L2 DL
def top (i : Nat) : Stmt := PySem.Challenge.pw_rotafair_k22_who_is_bound.main.body.getD i (.Pass ⟨0, 0, 0, 0⟩)
abbrev s_Person___init__ : Stmt := inClass (top 11) 0
abbrev s_House___init__ : Stmt := inClass (top 12) 0
abbrev s_House_place_of : Stmt := inClass (top 12) 3
abbrev s_House_rules_for : Stmt := inClass (top 12) 4
abbrev s_House_plain : Stmt := inClass (top 12) 6
abbrev s_Never___init__ : Stmt := inClass (top 18) 0
abbrev s_Never_reach : Stmt := inClass (top 18) 1
abbrev s_Never_text : Stmt := inClass (top 18) 3
abbrev s_Tally___init__ : Stmt := inClass (top 19) 0
abbrev s_Tally_reach : Stmt := inClass (top 19) 1
abbrev s_Tally_shown : Stmt := inClass (top 19) 3
abbrev s_l_cell_at : Stmt := top 23
abbrev s_l_whole : Stmt := top 24
abbrev s_l_name : Stmt := top 25
abbrev s_House_reach_of : Stmt := inClass (top 12) 5
abbrev s_Most_text : Stmt := inClass (top 20) 1
abbrev s_Least_text : Stmt := inClass (top 21) 1
abbrev s_l_refused : Stmt := top 27
abbrev s_l_rule : Stmt := top 26
abbrev s_l_person : Stmt := top 28
abbrev s_law : Stmt := top 29
/-- where the classes stand -/
structure Ad where
  cRotaError : Addr
  cNoRule : Addr
  cNoName : Addr
  cNoDay : Addr
  cNoRow : Addr
  cTooWide : Addr
  cNoHouse : Addr
  cFaulty : Addr
  cPerson : Addr
  cHouse : Addr
  cRule : Addr
  cNever : Addr
  cTally : Addr
  cMost : Addr
  cLeast : Addr
def caught_RotaError (A : Ad) : List Addr := [A.cNoName]
def kinX (A : Ad) : Kin := [(A.cNoName, A.cFaulty, false), (A.cNoName, A.cNoDay, false), (A.cNoName, A.cNoHouse, false), (A.cNoName, A.cNoName, true), (A.cNoName, A.cNoRow, false), (A.cNoName, A.cNoRule, false), (A.cNoName, A.cTooWide, false)]
def kinB (A : Ad) : KinT := [(A.cNoName, "ValueError", true)]
structure Txt (K : PySem.W.Frag) (mg : Str → Option Value) (A : Ad) : Prop where
  g_ValueError : mg "ValueError" = none
  g_bool : mg "bool" = none
  g_int : mg "int" = none
  g_isinstance : mg "isinstance" = none
  g_len : mg "len" = none
  g_list : mg "list" = none
  g_max : mg "max" = none
  g_range : mg "range" = none
  g_str : mg "str" = none
  g_tuple : mg "tuple" = none
  g_zip : mg "zip" = none
  m_RotaError : mg "RotaError" = some (.ref A.cRotaError)
  m_NoRule : mg "NoRule" = some (.ref A.cNoRule)
  m_NoName : mg "NoName" = some (.ref A.cNoName)
  m_NoDay : mg "NoDay" = some (.ref A.cNoDay)
  m_NoRow : mg "NoRow" = some (.ref A.cNoRow)
  m_TooWide : mg "TooWide" = some (.ref A.cTooWide)
  m_NoHouse : mg "NoHouse" = some (.ref A.cNoHouse)
  m_Faulty : mg "Faulty" = some (.ref A.cFaulty)
  m_Person : mg "Person" = some (.ref A.cPerson)
  m_House : mg "House" = some (.ref A.cHouse)
  m_Rule : mg "Rule" = some (.ref A.cRule)
  m_Never : mg "Never" = some (.ref A.cNever)
  m_Tally : mg "Tally" = some (.ref A.cTally)
  m_Most : mg "Most" = some (.ref A.cMost)
  m_Least : mg "Least" = some (.ref A.cLeast)
  cl_House : Cls K A.cHouse
  cl_Least : Cls K A.cLeast
  cl_Most : Cls K A.cMost
  cl_Never : Cls K A.cNever
  cl_Person : Cls K A.cPerson
  cl_Tally : Cls K A.cTally
  n_Person_carried : NoAttr K A.cPerson "carried"
  n_House_days : NoAttr K A.cHouse "days"
  n_Least_days : NoAttr K A.cLeast "days"
  n_Most_days : NoAttr K A.cMost "days"
  n_Tally_days : NoAttr K A.cTally "days"
  n_House_kinds : NoAttr K A.cHouse "kinds"
  n_House_leave : NoAttr K A.cHouse "leave"
  n_Least_many : NoAttr K A.cLeast "many"
  n_Most_many : NoAttr K A.cMost "many"
  n_Tally_many : NoAttr K A.cTally "many"
  n_Least_marks : NoAttr K A.cLeast "marks"
  n_Most_marks : NoAttr K A.cMost "marks"
  n_Tally_marks : NoAttr K A.cTally "marks"
  n_Person_most : NoAttr K A.cPerson "most"
  n_Person_name : NoAttr K A.cPerson "name"
  n_House_needs : NoAttr K A.cHouse "needs"
  n_House_pairs : NoAttr K A.cHouse "pairs"
  n_Person_past : NoAttr K A.cPerson "past"
  n_House_persons : NoAttr K A.cHouse "persons"
  n_House_rules : NoAttr K A.cHouse "rules"
  n_Person_skills : NoAttr K A.cPerson "skills"
  n_House_wishes : NoAttr K A.cHouse "wishes"
  n_Never_word : NoAttr K A.cNever "word"
  x_NoName : ExcK K mg "NoName" A.cNoName
  xm_RotaError : Caught K (.ref A.cRotaError) (caught_RotaError A)
  kx : KinX K (kinX A)
  kb : KinB K (kinB A)
  ec : ∀ C, C ∈ caught_RotaError A → ExcC K C
theorem Txt.f_carried {K : PySem.W.Frag} {mg : Str → Option Value} {A : Ad} (T : Txt K mg A) : ∀ C, (fun C => C ∈ ([A.cPerson] : List Addr)) C → Cls K C ∧ NoAttr K C "carried" := by
  intro C h
  simp only [List.mem_cons, List.not_mem_nil, or_false] at h
  rcases h with rfl
  · exact ⟨T.cl_Person, T.n_Person_carried⟩
theorem Txt.f_days {K : PySem.W.Frag} {mg : Str → Option Value} {A : Ad} (T : Txt K mg A) : ∀ C, (fun C => C ∈ ([A.cHouse, A.cTally, A.cMost, A.cLeast] : List Addr)) C → Cls K C ∧ NoAttr K C "days" := by
  intro C h
  simp only [List.mem_cons, List.not_mem_nil, or_false] at h
  rcases h with rfl | rfl | rfl | rfl
  · exact ⟨T.cl_House, T.n_House_days⟩
  · exact ⟨T.cl_Tally, T.n_Tally_days⟩
  · exact ⟨T.cl_Most, T.n_Most_days⟩
  · exact ⟨T.cl_Least, T.n_Least_days⟩
theorem Txt.f_kinds {K : PySem.W.Frag} {mg : Str → Option Value} {A : Ad} (T : Txt K mg A) : ∀ C, (fun C => C ∈ ([A.cHouse] : List Addr)) C → Cls K C ∧ NoAttr K C "kinds" := by
  intro C h
  simp only [List.mem_cons, List.not_mem_nil, or_false] at h
  rcases h with rfl
  · exact ⟨T.cl_House, T.n_House_kinds⟩
theorem Txt.f_leave {K : PySem.W.Frag} {mg : Str → Option Value} {A : Ad} (T : Txt K mg A) : ∀ C, (fun C => C ∈ ([A.cHouse] : List Addr)) C → Cls K C ∧ NoAttr K C "leave" := by
  intro C h
  simp only [List.mem_cons, List.not_mem_nil, or_false] at h
  rcases h with rfl
  · exact ⟨T.cl_House, T.n_House_leave⟩
theorem Txt.f_many {K : PySem.W.Frag} {mg : Str → Option Value} {A : Ad} (T : Txt K mg A) : ∀ C, (fun C => C ∈ ([A.cTally, A.cMost, A.cLeast] : List Addr)) C → Cls K C ∧ NoAttr K C "many" := by
  intro C h
  simp only [List.mem_cons, List.not_mem_nil, or_false] at h
  rcases h with rfl | rfl | rfl
  · exact ⟨T.cl_Tally, T.n_Tally_many⟩
  · exact ⟨T.cl_Most, T.n_Most_many⟩
  · exact ⟨T.cl_Least, T.n_Least_many⟩
theorem Txt.f_marks {K : PySem.W.Frag} {mg : Str → Option Value} {A : Ad} (T : Txt K mg A) : ∀ C, (fun C => C ∈ ([A.cTally, A.cMost, A.cLeast] : List Addr)) C → Cls K C ∧ NoAttr K C "marks" := by
  intro C h
  simp only [List.mem_cons, List.not_mem_nil, or_false] at h
  rcases h with rfl | rfl | rfl
  · exact ⟨T.cl_Tally, T.n_Tally_marks⟩
  · exact ⟨T.cl_Most, T.n_Most_marks⟩
  · exact ⟨T.cl_Least, T.n_Least_marks⟩
theorem Txt.f_most {K : PySem.W.Frag} {mg : Str → Option Value} {A : Ad} (T : Txt K mg A) : ∀ C, (fun C => C ∈ ([A.cPerson] : List Addr)) C → Cls K C ∧ NoAttr K C "most" := by
  intro C h
  simp only [List.mem_cons, List.not_mem_nil, or_false] at h
  rcases h with rfl
  · exact ⟨T.cl_Person, T.n_Person_most⟩
theorem Txt.f_name {K : PySem.W.Frag} {mg : Str → Option Value} {A : Ad} (T : Txt K mg A) : ∀ C, (fun C => C ∈ ([A.cPerson] : List Addr)) C → Cls K C ∧ NoAttr K C "name" := by
  intro C h
  simp only [List.mem_cons, List.not_mem_nil, or_false] at h
  rcases h with rfl
  · exact ⟨T.cl_Person, T.n_Person_name⟩
theorem Txt.f_needs {K : PySem.W.Frag} {mg : Str → Option Value} {A : Ad} (T : Txt K mg A) : ∀ C, (fun C => C ∈ ([A.cHouse] : List Addr)) C → Cls K C ∧ NoAttr K C "needs" := by
  intro C h
  simp only [List.mem_cons, List.not_mem_nil, or_false] at h
  rcases h with rfl
  · exact ⟨T.cl_House, T.n_House_needs⟩
theorem Txt.f_pairs {K : PySem.W.Frag} {mg : Str → Option Value} {A : Ad} (T : Txt K mg A) : ∀ C, (fun C => C ∈ ([A.cHouse] : List Addr)) C → Cls K C ∧ NoAttr K C "pairs" := by
  intro C h
  simp only [List.mem_cons, List.not_mem_nil, or_false] at h
  rcases h with rfl
  · exact ⟨T.cl_House, T.n_House_pairs⟩
theorem Txt.f_past {K : PySem.W.Frag} {mg : Str → Option Value} {A : Ad} (T : Txt K mg A) : ∀ C, (fun C => C ∈ ([A.cPerson] : List Addr)) C → Cls K C ∧ NoAttr K C "past" := by
  intro C h
  simp only [List.mem_cons, List.not_mem_nil, or_false] at h
  rcases h with rfl
  · exact ⟨T.cl_Person, T.n_Person_past⟩
theorem Txt.f_persons {K : PySem.W.Frag} {mg : Str → Option Value} {A : Ad} (T : Txt K mg A) : ∀ C, (fun C => C ∈ ([A.cHouse] : List Addr)) C → Cls K C ∧ NoAttr K C "persons" := by
  intro C h
  simp only [List.mem_cons, List.not_mem_nil, or_false] at h
  rcases h with rfl
  · exact ⟨T.cl_House, T.n_House_persons⟩
theorem Txt.f_rules {K : PySem.W.Frag} {mg : Str → Option Value} {A : Ad} (T : Txt K mg A) : ∀ C, (fun C => C ∈ ([A.cHouse] : List Addr)) C → Cls K C ∧ NoAttr K C "rules" := by
  intro C h
  simp only [List.mem_cons, List.not_mem_nil, or_false] at h
  rcases h with rfl
  · exact ⟨T.cl_House, T.n_House_rules⟩
theorem Txt.f_skills {K : PySem.W.Frag} {mg : Str → Option Value} {A : Ad} (T : Txt K mg A) : ∀ C, (fun C => C ∈ ([A.cPerson] : List Addr)) C → Cls K C ∧ NoAttr K C "skills" := by
  intro C h
  simp only [List.mem_cons, List.not_mem_nil, or_false] at h
  rcases h with rfl
  · exact ⟨T.cl_Person, T.n_Person_skills⟩
theorem Txt.f_wishes {K : PySem.W.Frag} {mg : Str → Option Value} {A : Ad} (T : Txt K mg A) : ∀ C, (fun C => C ∈ ([A.cHouse] : List Addr)) C → Cls K C ∧ NoAttr K C "wishes" := by
  intro C h
  simp only [List.mem_cons, List.not_mem_nil, or_false] at h
  rcases h with rfl
  · exact ⟨T.cl_House, T.n_House_wishes⟩
theorem Txt.f_word {K : PySem.W.Frag} {mg : Str → Option Value} {A : Ad} (T : Txt K mg A) : ∀ C, (fun C => C ∈ ([A.cNever] : List Addr)) C → Cls K C ∧ NoAttr K C "word" := by
  intro C h
  simp only [List.mem_cons, List.not_mem_nil, or_false] at h
  rcases h with rfl
  · exact ⟨T.cl_Never, T.n_Never_word⟩
end K22
end
section
namespace K22
open PySem L2 DL
structure Pers where
  name : Tx
  skills : Tx
  most : Int
  carried : Int
  past : Tx
inductive Rul where
  | never (w : Tx) | most (n : Int) (w : Tx) (d : Int) | least (n : Int) (w : Tx) (d : Int)
def numsD (l : List Int) : D := .lst (l.map D.int)
def rotaD (l : List Tx) : D := .lst (l.map D.str)
def persD (A : Ad) (p : Pers) : D := .obj A.cPerson [("name", .str p.name), ("skills", .str p.skills), ("most", .int p.most), ("carried", .int p.carried), ("past", .str p.past)]
def neverD (A : Ad) (w : Tx) : D := .obj A.cNever [("word", .str w)]
def mostD (A : Ad) (n : Int) (w : Tx) (d : Int) : D := .obj A.cMost [("many", .int n), ("marks", .str w), ("days", .int d)]
def leastD (A : Ad) (n : Int) (w : Tx) (d : Int) : D := .obj A.cLeast [("many", .int n), ("marks", .str w), ("days", .int d)]
def ruleD (A : Ad) : Rul → D
  | .never w => neverD A w
  | .most n w d => mostD A n w d
  | .least n w d => leastD A n w d
def okRul : Rul → Prop
  | .never w => w.length ≤ 100
  | .most n w d => (0 ≤ n ∧ n ≤ 9) ∧ (0 ≤ d ∧ d ≤ 9) ∧ w.length ≤ 100
  | .least n w d => (0 ≤ n ∧ n ≤ 9) ∧ (0 ≤ d ∧ d ≤ 9) ∧ w.length ≤ 100
def reachR : Rul → Int
  | .never w => (w.length : Nat)
  | .most _ _ d => d
  | .least _ _ d => d
/-- n of W in d -/
def wordsT (n : Int) (w : Tx) (d : Int) : Tx := [48 + n.toNat] ++ [32, 111, 102, 32] ++ w ++ [32, 105, 110, 32] ++ [48 + d.toNat]
def textR : Rul → Tx
  | .never w => [110, 101, 118, 101, 114, 32] ++ w
  | .most n w d => [109, 111, 115, 116, 32] ++ wordsT n w d
  | .least n w d => [108, 101, 97, 115, 116, 32] ++ wordsT n w d
def allT : Tx := [97, 108, 108]
def ruleP (A : Ad) (p : Tx × Rul) : D := .tup [.str p.1, ruleD A p.2]
def pairD (p : Tx × Tx) : D := .tup [.str [97, 112, 97, 114, 116], .str p.1, .str p.2]
def houseD (A : Ad) (d : Int) (ks : Tx) (ns : List D) (ps : List Pers) (lv ws : List D) (rs : List (Tx × Rul)) (pr : List D) : D :=
  .obj A.cHouse [("days", .int d), ("kinds", .str ks), ("needs", .lst ns), ("persons", .lst (ps.map (persD A))), ("leave", .lst lv), ("wishes", .lst ws), ("rules", .lst (rs.map (ruleP A))), ("pairs", .lst pr)]
/-- the rules that bind, by number -/
def isB (nm : Tx) (q : Nat × (Tx × Rul)) : Bool := decide (q.2.1 = allT) || decide (q.2.1 = nm)
def bound (nm : Tx) (rs : List (Tx × Rul)) : List (Nat × (Tx × Rul)) := ((List.range rs.length).zip rs).filter (isB nm)
def reachQ (z : Nat × (Tx × Rul)) : Int := reachR z.2.2
def topOf (m : Int) (l : List Int) : Prop := m ∈ l ∧ ∀ y ∈ l, y ≤ m
def numD (A : Ad) (q : Nat × (Tx × Rul)) : D := .tup [.int (q.1 : Nat), ruleD A q.2.2]
def toldD (q : Nat × (Tx × Rul)) : D := .tup [.int (q.1 : Nat), .str (textR q.2.2), .int (reachR q.2.2)]
def I_Person (A : Ad) : DISpec := fun ds P => match ds with | [a, b, c, d, e] => P [("name", a), ("skills", b), ("most", c), ("carried", d), ("past", e)] | _ => False
def I_House (A : Ad) : DISpec := fun ds P => match ds with | [a, b, .lst c, .lst d, .lst e, .lst f, .lst g, .lst h] => P [("days", a), ("kinds", b), ("needs", .lst c), ("persons", .lst d), ("leave", .lst e), ("wishes", .lst f), ("rules", .lst g), ("pairs", .lst h)] | _ => False
def I_Never (A : Ad) : DISpec := fun ds P => match ds with | [a] => P [("word", a)] | _ => False
def I_Tally (A : Ad) : DISpec := fun ds P => match ds with | [a, b, c] => P [("many", a), ("marks", b), ("days", c)] | _ => False
def S_House_place_of (A : Ad) : DSpecX := fun ds P Xc => match ds with | [x, .str nm] => ∃ d ks ns, ∃ ps : List Pers, ∃ lv ws rs pr, x = houseD A d ks ns ps lv ws rs pr ∧ ps.length ≤ 100 ∧ (∀ p : Nat, (ps.map (·.name))[p]? = some nm → (∀ j : Nat, j < p → (ps.map (·.name))[j]? ≠ some nm) → P (.int (p : Nat))) ∧ (nm ∉ ps.map (·.name) → Xc A.cNoName none) | _ => False
def MX_place_of (A : Ad) : MTabX := fun C S => C = A.cHouse ∧ S = S_House_place_of A
def S_House_rules_for (A : Ad) : DSpec := fun ds P => match ds with | [x, .int p] => ∃ d ks ns, ∃ ps : List Pers, ∃ lv ws rs pr q, x = houseD A d ks ns ps lv ws rs pr ∧ (rs.length ≤ 100 ∧ 0 ≤ p ∧ ps[p.toNat]? = some q) ∧ P (.lst ((bound q.name rs).map (numD A))) | _ => False
def M_rules_for (A : Ad) : MTab := fun C S => C = A.cHouse ∧ S = S_House_rules_for A
def S_House_reach_of (A : Ad) : DSpec := fun ds P => match ds with | [x, .int p] => ∃ d ks ns, ∃ ps : List Pers, ∃ lv ws rs pr q, x = houseD A d ks ns ps lv ws rs pr ∧ (rs.length ≤ 100 ∧ 0 ≤ p ∧ ps[p.toNat]? = some q) ∧ (∀ m : Int, topOf m ((1 : Int) :: (bound q.name rs).map reachQ) → P (.int m)) | _ => False
def M_reach_of (A : Ad) : MTab := fun C S => C = A.cHouse ∧ S = S_House_reach_of A
def S_House_plain (A : Ad) : DSpec := fun ds P => match ds with | [x] => ∃ d ks ns ps lv ws rs pr, x = houseD A d ks ns ps lv ws rs pr ∧ P (.bl (rs.isEmpty && pr.isEmpty)) | _ => False
def M_plain (A : Ad) : MTab := fun C S => C = A.cHouse ∧ S = S_House_plain A
def S_Never_reach (A : Ad) : DSpec := fun ds P => match ds with | [x] => ∃ w, x = neverD A w ∧ P (.int (w.length : Nat)) | _ => False
def S_Tally_reach (A : Ad) : DSpec := fun ds P => match ds with | [x] => ∃ n w d, (x = mostD A n w d ∨ x = leastD A n w d) ∧ P (.int d) | _ => False
def M_reach (A : Ad) : MTab := fun C S => (C = A.cNever ∧ S = S_Never_reach A) ∨ (C = A.cMost ∧ S = S_Tally_reach A) ∨ (C = A.cLeast ∧ S = S_Tally_reach A)
def S_Never_text (A : Ad) : DSpec := fun ds P => match ds with | [x] => ∃ w, x = neverD A w ∧ okRul (.never w) ∧ P (.str (textR (.never w))) | _ => False
def S_Most_text (A : Ad) : DSpec := fun ds P => match ds with | [x] => ∃ n w d, x = mostD A n w d ∧ okRul (.most n w d) ∧ P (.str (textR (.most n w d))) | _ => False
def S_Least_text (A : Ad) : DSpec := fun ds P => match ds with | [x] => ∃ n w d, x = leastD A n w d ∧ okRul (.least n w d) ∧ P (.str (textR (.least n w d))) | _ => False
def M_text (A : Ad) : MTab := fun C S => (C = A.cNever ∧ S = S_Never_text A) ∨ (C = A.cMost ∧ S = S_Most_text A) ∨ (C = A.cLeast ∧ S = S_Least_text A)
def S_Tally_shown (A : Ad) : DSpec := fun ds P => match ds with | [x, .str u] => ∃ n w d, (x = mostD A n w d ∨ x = leastD A n w d) ∧ (okRul (.most n w d) ∧ u.length ≤ 10) ∧ P (.str (u ++ [32] ++ wordsT n w d)) | _ => False
def M_shown (A : Ad) : MTab := fun C S => (C = A.cMost ∧ S = S_Tally_shown A) ∨ (C = A.cLeast ∧ S = S_Tally_shown A)
def S_l_cell_at (A : Ad) : DSpec := fun ds P => match ds with | [x, .int k] => ∃ ns, x = numsD ns ∧ 0 ≤ k ∧ P (.int (ns.getD k.toNat 0)) | _ => False
def S_l_whole (A : Ad) : DSpec := fun ds P => match ds with | [.int c] => P (.bl true) | _ => False
def S_l_name (A : Ad) : DSpec := fun ds P => match ds with | [.int c, .int p] => P (.str (nameT c p)) | _ => False
def S_l_rule (A : Ad) : DSpec := fun ds P => match ds with | [.int c] => ∀ r : Rul, okRul r → P (.tup [ruleD A r, .str (textR r), .int (reachR r)]) | _ => False
def S_l_refused (A : Ad) : DSpec := fun ds P => match ds with | [x, .str nm] => ∃ d ks ns, ∃ ps : List Pers, ∃ lv ws rs pr, x = houseD A d ks ns ps lv ws rs pr ∧ (ps.length ≤ 100 ∧ nm ∉ ps.map (·.name)) ∧ P (.bl true) | _ => False
def S_l_person (A : Ad) : DSpec := fun ds P => match ds with | [x, .int p, y] => ∃ d ks ns, ∃ ps : List Pers, ∃ lv ws rs pr q, x = houseD A d ks ns ps lv ws rs pr ∧ y = .lst ((bound q.name rs).map toldD) ∧ (rs.length ≤ 100 ∧ (0 ≤ p ∧ ps[p.toNat]? = some q) ∧ ∀ r ∈ rs, okRul r.2) ∧ P (.bl true) | _ => False
def S_law (A : Ad) : DSpec := S_theLaw
section
variable {A : Ad} {P : D → Prop} {Xc : XC} {PG : List (Str × D) → Prop} {x y a b c' d' e : D} {xs1 xs2 xs3 xs4 xs5 xs6 : List D} {c k m d l p : Int} {w nm u : Tx} {z : Bool}
theorem r_person : apI (I_Person A) [a, b, c', d', e] PG = PG [("name", a), ("skills", b), ("most", c'), ("carried", d'), ("past", e)] := id rfl
theorem r_house : apI (I_House A) [a, b, .lst xs1, .lst xs2, .lst xs3, .lst xs4, .lst xs5, .lst xs6] PG = PG [("days", a), ("kinds", b), ("needs", .lst xs1), ("persons", .lst xs2), ("leave", .lst xs3), ("wishes", .lst xs4), ("rules", .lst xs5), ("pairs", .lst xs6)] := id rfl
theorem r_never : apI (I_Never A) [a] PG = PG [("word", a)] := id rfl
theorem r_tally : apI (I_Tally A) [a, b, c'] PG = PG [("many", a), ("marks", b), ("days", c')] := id rfl
theorem r_place : apX (S_House_place_of A) [x, .str nm] P Xc = ∃ d ks ns, ∃ ps : List Pers, ∃ lv ws rs pr, x = houseD A d ks ns ps lv ws rs pr ∧ ps.length ≤ 100 ∧ (∀ p : Nat, (ps.map (·.name))[p]? = some nm → (∀ j : Nat, j < p → (ps.map (·.name))[j]? ≠ some nm) → P (.int (p : Nat))) ∧ (nm ∉ ps.map (·.name) → Xc A.cNoName none) := id rfl
theorem r_rules : ap (S_House_rules_for A) [x, .int p] P = ∃ d ks ns, ∃ ps : List Pers, ∃ lv ws rs pr q, x = houseD A d ks ns ps lv ws rs pr ∧ (rs.length ≤ 100 ∧ 0 ≤ p ∧ ps[p.toNat]? = some q) ∧ P (.lst ((bound q.name rs).map (numD A))) := id rfl
theorem r_reachof : ap (S_House_reach_of A) [x, .int p] P = ∃ d ks ns, ∃ ps : List Pers, ∃ lv ws rs pr q, x = houseD A d ks ns ps lv ws rs pr ∧ (rs.length ≤ 100 ∧ 0 ≤ p ∧ ps[p.toNat]? = some q) ∧ (∀ m : Int, topOf m ((1 : Int) :: (bound q.name rs).map reachQ) → P (.int m)) := id rfl
theorem r_plain : ap (S_House_plain A) [x] P = ∃ d ks ns ps lv ws rs pr, x = houseD A d ks ns ps lv ws rs pr ∧ P (.bl (rs.isEmpty && pr.isEmpty)) := id rfl
theorem r_nreach : ap (S_Never_reach A) [x] P = ∃ w, x = neverD A w ∧ P (.int (w.length : Nat)) := id rfl
theorem r_treach : ap (S_Tally_reach A) [x] P = ∃ n w d, (x = mostD A n w d ∨ x = leastD A n w d) ∧ P (.int d) := id rfl
theorem r_ntext : ap (S_Never_text A) [x] P = ∃ w, x = neverD A w ∧ okRul (.never w) ∧ P (.str (textR (.never w))) := id rfl
theorem r_mtext : ap (S_Most_text A) [x] P = ∃ n w d, x = mostD A n w d ∧ okRul (.most n w d) ∧ P (.str (textR (.most n w d))) := id rfl
theorem r_ltext : ap (S_Least_text A) [x] P = ∃ n w d, x = leastD A n w d ∧ okRul (.least n w d) ∧ P (.str (textR (.least n w d))) := id rfl
theorem r_shown : ap (S_Tally_shown A) [x, .str u] P = ∃ n w d, (x = mostD A n w d ∨ x = leastD A n w d) ∧ (okRul (.most n w d) ∧ u.length ≤ 10) ∧ P (.str (u ++ [32] ++ wordsT n w d)) := id rfl
theorem r_cell : ap (S_l_cell_at A) [x, .int k] P = ∃ ns, x = numsD ns ∧ 0 ≤ k ∧ P (.int (ns.getD k.toNat 0)) := id rfl
theorem r_whole : ap (S_l_whole A) [.int c] P = P (.bl true) := id rfl
theorem r_name : ap (S_l_name A) [.int c, .int k] P = P (.str (nameT c k)) := id rfl
theorem r_lrule : ap (S_l_rule A) [.int c] P = ∀ r : Rul, okRul r → P (.tup [ruleD A r, .str (textR r), .int (reachR r)]) := id rfl
theorem r_refused : ap (S_l_refused A) [x, .str nm] P = ∃ d ks ns, ∃ ps : List Pers, ∃ lv ws rs pr, x = houseD A d ks ns ps lv ws rs pr ∧ (ps.length ≤ 100 ∧ nm ∉ ps.map (·.name)) ∧ P (.bl true) := id rfl
theorem r_lperson : ap (S_l_person A) [x, .int p, y] P = ∃ d ks ns, ∃ ps : List Pers, ∃ lv ws rs pr q, x = houseD A d ks ns ps lv ws rs pr ∧ y = .lst ((bound q.name rs).map toldD) ∧ (rs.length ≤ 100 ∧ (0 ≤ p ∧ ps[p.toNat]? = some q) ∧ ∀ r ∈ rs, okRul r.2) ∧ P (.bl true) := id rfl
theorem mem_1 {a : Addr} : (a ∈ ([a] : List Addr)) = True := by simp
theorem mem_3a {a b c : Addr} : (a ∈ ([a, b, c] : List Addr)) = True := by simp
theorem mem_3b {a b c : Addr} : (b ∈ ([a, b, c] : List Addr)) = True := by simp
theorem mem_3c {a b c : Addr} : (c ∈ ([a, b, c] : List Addr)) = True := by simp
theorem mem_4a {a b c d : Addr} : (a ∈ ([a, b, c, d] : List Addr)) = True := by simp
theorem mem_4c {a b c d : Addr} : (c ∈ ([a, b, c, d] : List Addr)) = True := by simp
theorem mem_4d {a b c d : Addr} : (d ∈ ([a, b, c, d] : List Addr)) = True := by simp
end
end K22
end
section
namespace K22
open PySem L2 DL
theorem sc_Person___init__ : FnScope ["self", "name", "skills", "most", "carried", "past"] ["self", "name", "skills", "most", "carried", "past"] (defScope s_Person___init__) := ⟨rfl, rfl, rfl, by decide +kernel, rfl, by decide +kernel, by decide +kernel⟩
def d_Person___init__ (A : Ad) : DIn := dInCons (dInOne "name" (dVar 1)) <| dInCons (dInOne "skills" (dVar 2)) <| dInCons (dInOne "most" (dVar 3)) <| dInCons (dInOne "carried" (dVar 4)) <| dInOne "past" (dVar 5)
theorem sc_House___init__ : FnScope ["self", "days", "kinds", "needs", "persons", "leave", "wishes", "rules", "pairs"] ["self", "days", "kinds", "needs", "persons", "leave", "wishes", "rules", "pairs"] (defScope s_House___init__) := ⟨rfl, rfl, rfl, by decide +kernel, rfl, by decide +kernel, by decide +kernel⟩
def d_House___init__ (A : Ad) : DIn := dInCons (dInOne "days" (dVar 1)) <| dInCons (dInOne "kinds" (dVar 2)) <| dInCons (dInOne "needs" (dArgs dListOf (dCons (dVarB 3) (dNil)))) <| dInCons (dInOne "persons" (dArgs dListOf (dCons (dVarB 4) (dNil)))) <| dInCons (dInOne "leave" (dArgs dListOf (dCons (dVarB 5) (dNil)))) <| dInCons (dInOne "wishes" (dArgs dListOf (dCons (dVarB 6) (dNil)))) <| dInCons (dInOne "rules" (dArgs dListOf (dCons (dVarB 7) (dNil)))) <| dInOne "pairs" (dArgs dListOf (dCons (dVarB 8) (dNil)))
theorem sc_House_place_of : FnScope ["self", "name", "p"] ["self", "name"] (defScope s_House_place_of) := ⟨rfl, rfl, rfl, by decide +kernel, rfl, by decide +kernel, by decide +kernel⟩
def d_House_place_of (A : Ad) (Xc : XC) : DS := dSeq (dFor (dRng1 (dCons (dArgs dLen (dCons (dFldC (fun C => C ∈ ([A.cHouse] : List Addr)) (dVarB 0) "persons") (dNil))) (dNil))) (dgN 2)
  (dIfS (dTst (dOp dEq (dFldC (fun C => C ∈ ([A.cPerson] : List Addr)) (dOp dIx (dFldC (fun C => C ∈ ([A.cHouse] : List Addr)) (dVarB 0) "persons") (dVarB 2)) "name") (dVarB 1)))
  (dRet (dVar 2))
  (dNext))) <|
  dRaise A.cNoName Xc
theorem sc_House_rules_for : FnScope ["self", "p", "found", "number", "name", "rule"] ["self", "p"] (defScope s_House_rules_for) := ⟨rfl, rfl, rfl, by decide +kernel, rfl, by decide +kernel, by decide +kernel⟩
def d_House_rules_for (A : Ad) : DS := dSeq (dSetN 2 (dLst (dNil))) <|
  dSeq (dFor (dRng1 (dCons (dArgs dLen (dCons (dFldC (fun C => C ∈ ([A.cHouse] : List Addr)) (dVarB 0) "rules") (dNil))) (dNil))) (dgN 3)
  (dSeq (dAsg (dOp dIx (dFldC (fun C => C ∈ ([A.cHouse] : List Addr)) (dVarB 0) "rules") (dVarB 3)) (dgT 2 (dgCons (dgN 4) (dgCons (dgN 5) dgNil)))) <|
  dIfS (dOrT (dTst (dOp dEq (dVarB 4) (dC (.str [97, 108, 108])))) (dTst (dOp dEq (dVarB 4) (dFldC (fun C => C ∈ ([A.cPerson] : List Addr)) (dOp dIx (dFldC (fun C => C ∈ ([A.cHouse] : List Addr)) (dVarB 0) "persons") (dVarB 1)) "name"))))
  (dApp 2 (dTup (dCons (dVar 3) (dCons (dVar 5) (dNil)))))
  (dNext))) <|
  dRetO 2
theorem sc_House_plain : FnScope ["self"] ["self"] (defScope s_House_plain) := ⟨rfl, rfl, rfl, by decide +kernel, rfl, by decide +kernel, by decide +kernel⟩
def d_House_plain (A : Ad) : DS := dRet (dAndV (dOp dEq0 (dFldC (fun C => C ∈ ([A.cHouse] : List Addr)) (dVarB 0) "rules") (dLst (dNil))) (dOp dEq0 (dFldC (fun C => C ∈ ([A.cHouse] : List Addr)) (dVarB 0) "pairs") (dLst (dNil))))
theorem sc_Never___init__ : FnScope ["self", "word"] ["self", "word"] (defScope s_Never___init__) := ⟨rfl, rfl, rfl, by decide +kernel, rfl, by decide +kernel, by decide +kernel⟩
def d_Never___init__ (A : Ad) : DIn := dInOne "word" (dVar 1)
theorem sc_Never_reach : FnScope ["self"] ["self"] (defScope s_Never_reach) := ⟨rfl, rfl, rfl, by decide +kernel, rfl, by decide +kernel, by decide +kernel⟩
def d_Never_reach (A : Ad) : DS := dRet (dArgs dLen (dCons (dFldC (fun C => C ∈ ([A.cNever] : List Addr)) (dVarB 0) "word") (dNil)))
theorem sc_Never_text : FnScope ["self"] ["self"] (defScope s_Never_text) := ⟨rfl, rfl, rfl, by decide +kernel, rfl, by decide +kernel, by decide +kernel⟩
def d_Never_text (A : Ad) : DS := dRet (dOp dAdd (dC (.str [110, 101, 118, 101, 114, 32])) (dFldC (fun C => C ∈ ([A.cNever] : List Addr)) (dVarB 0) "word"))
theorem sc_Tally___init__ : FnScope ["self", "many", "marks", "days"] ["self", "many", "marks", "days"] (defScope s_Tally___init__) := ⟨rfl, rfl, rfl, by decide +kernel, rfl, by decide +kernel, by decide +kernel⟩
def d_Tally___init__ (A : Ad) : DIn := dInCons (dInOne "many" (dVar 1)) <| dInCons (dInOne "marks" (dVar 2)) <| dInOne "days" (dVar 3)
theorem sc_Tally_reach : FnScope ["self"] ["self"] (defScope s_Tally_reach) := ⟨rfl, rfl, rfl, by decide +kernel, rfl, by decide +kernel, by decide +kernel⟩
def d_Tally_reach (A : Ad) : DS := dRet (dFldC (fun C => C ∈ ([A.cHouse, A.cTally, A.cMost, A.cLeast] : List Addr)) (dVarB 0) "days")
theorem sc_Tally_shown : FnScope ["self", "word"] ["self", "word"] (defScope s_Tally_shown) := ⟨rfl, rfl, rfl, by decide +kernel, rfl, by decide +kernel, by decide +kernel⟩
def d_Tally_shown (A : Ad) : DS := dRet (dOp dAdd (dOp dAdd (dOp dAdd (dOp dAdd (dOp dAdd (dOp dAdd (dVarB 1) (dC (.str [32]))) (dArgs dStrOf (dCons (dFldC (fun C => C ∈ ([A.cTally, A.cMost, A.cLeast] : List Addr)) (dVarB 0) "many") (dNil)))) (dC (.str [32, 111, 102, 32]))) (dFldC (fun C => C ∈ ([A.cTally, A.cMost, A.cLeast] : List Addr)) (dVarB 0) "marks")) (dC (.str [32, 105, 110, 32]))) (dArgs dStrOf (dCons (dFldC (fun C => C ∈ ([A.cHouse, A.cTally, A.cMost, A.cLeast] : List Addr)) (dVarB 0) "days") (dNil))))
theorem sc_l_cell_at : FnScope ["_law_script", "_law_k"] ["_law_script", "_law_k"] (defScope s_l_cell_at) := ⟨rfl, rfl, rfl, by decide +kernel, rfl, by decide +kernel, by decide +kernel⟩
def d_l_cell_at (A : Ad) : DS := dSeq (dIfS (dTst (dOp dLt (dVarB 1) (dArgs dLen (dCons (dVarB 0) (dNil)))))
  (dRet (dOp dIx (dVarB 0) (dVarB 1)))
  (dNext)) <|
  dRet (dC (.int 0))
theorem sc_l_whole : FnScope ["_law_found"] ["_law_found"] (defScope s_l_whole) := ⟨rfl, rfl, rfl, by decide +kernel, rfl, by decide +kernel, by decide +kernel⟩
def d_l_whole (A : Ad) : DS := dRet (dAndV (dArgs dIsi (dCons (dVarB 0) (dCons (dC (.ty "int")) (dNil)))) (dNotV (dArgs dIsi (dCons (dVarB 0) (dCons (dC (.ty "bool")) (dNil))))))
theorem sc_l_name : FnScope ["_law_cell", "_law_p", "_law_some", "_law_body", "_law_k", "_law_at", "_law_name_here"] ["_law_cell", "_law_p"] (defScope s_l_name) := ⟨rfl, rfl, rfl, by decide +kernel, rfl, by decide +kernel, by decide +kernel⟩
def d_l_name (A : Ad) : DS := dSeq (dAsg (dC (.str [97, 98, 99, 100, 101, 102, 103, 104, 105, 106, 107, 108, 109, 110, 111, 112, 113, 114, 115, 116, 117, 118, 119, 120, 121, 122])) (dgN 2)) <|
  dSeq (dAsg (dJoin (dC (.str [])) (dLc [4] (dRng1 (dCons (dOp dMod (dOp dFdiv (dVarB 0) (dC (.int 3))) (dC (.int 8))) (dNil))) (dgN 4) (dYes) (dOp dIx (dVarB 2) (dOp dMod (dOp dFdiv (dVarB 0) (dOp dAdd (dC (.int 16)) (dOp dMul (dC (.int 5)) (dVarB 4)))) (dC (.int 26)))))) (dgN 3)) <|
  dSeq (dAsg (dOp dMod (dOp dFdiv (dVarB 0) (dC (.int 7))) (dOp dAdd (dArgs dLen (dCons (dVarB 3) (dNil))) (dC (.int 1)))) (dgN 5)) <|
  dSeq (dAsg (dOp dAdd (dOp dAdd (dSl (dVarB 3) (dNoPart) (dPart (dVar 5))) (dOp dIx (dVarB 2) (dOp dMod (dOp dAdd (dVarB 0) (dVarB 1)) (dC (.int 26))))) (dSl (dVarB 3) (dPart (dVar 5)) (dNoPart))) (dgN 6)) <|
  dSeq (dIfS (dTst (dOp dEq (dVarB 6) (dC (.str [97, 108, 108]))))
  (dRet (dC (.str [97, 108, 108, 101])))
  (dNext)) <|
  dRet (dVar 6)
theorem sc_House_reach_of : FnScope ["self", "p", "number", "rule"] ["self", "p"] (defScope s_House_reach_of) := ⟨rfl, rfl, rfl, by decide +kernel, rfl, by decide +kernel, by decide +kernel⟩
def d_House_reach_of (A : Ad) : DS := dRet (dArgs dMaxL (dCons (dOp dAdd (dLst (dCons (dC (.int 1)) (dNil))) (dLc [2, 3] (dIt (dMeth (M_rules_for A) "rules_for" (dVar 0) (dCons (dVar 1) (dNil)))) (dgT 2 (dgCons (dgN 2) (dgCons (dgN 3) dgNil))) (dYes) (dMeth (M_reach A) "reach" (dVar 3) dNil))) (dNil)))
theorem sc_Most_text : FnScope ["self"] ["self"] (defScope s_Most_text) := ⟨rfl, rfl, rfl, by decide +kernel, rfl, by decide +kernel, by decide +kernel⟩
def d_Most_text (A : Ad) : DS := dRet (dMeth (M_shown A) "shown" (dVar 0) (dCons (dC (.str [109, 111, 115, 116])) (dNil)))
theorem sc_Least_text : FnScope ["self"] ["self"] (defScope s_Least_text) := ⟨rfl, rfl, rfl, by decide +kernel, rfl, by decide +kernel, by decide +kernel⟩
def d_Least_text (A : Ad) : DS := dRet (dMeth (M_shown A) "shown" (dVar 0) (dCons (dC (.str [108, 101, 97, 115, 116])) (dNil)))
theorem sc_l_refused : FnScope ["_law_house", "_law_name_here", "_law_error", "e"] ["_law_house", "_law_name_here"] (defScope s_l_refused) := ⟨rfl, rfl, rfl, by decide +kernel, rfl, by decide +kernel, by decide +kernel⟩
def d_l_refused (A : Ad) : DS := dSeq (dAsg (dC .non) (dgN 2)) <|
  dTryK (caught_RotaError A) 3 2 (fun Xc => dDrop (dMethX (MX_place_of A) "place_of" (dVar 0) (dCons (dVar 1) (dNil)) Xc))
  (dNever)
  (fun a C => dSeq (dIfS (dTst (dIsXT (kinX A) a C [A.cFaulty, A.cNoDay, A.cNoHouse, A.cNoRow, A.cNoRule, A.cTooWide] (dVar 2)))
  (dRet (dC (.bl false)))
  (dNext)) <|
  dRet (dAndV (dIsX (kinX A) (kinB A) a C (dVar 2) (dC (.fn A.cNoName))) (dIsX (kinX A) (kinB A) a C (dVar 2) (dC (.ty "ValueError")))))
theorem sc_l_rule : FnScope ["_law_cell", "_law_letter", "_law_many", "_law_number", "_law_words"] ["_law_cell"] (defScope s_l_rule) := ⟨rfl, rfl, rfl, by decide +kernel, rfl, by decide +kernel, by decide +kernel⟩
def d_l_rule (A : Ad) : DS := dSeq (dAsg (dOp dIx (dC (.str [65, 66, 67, 68, 69, 70, 71, 72, 73, 74, 75, 76, 77, 78, 79, 80, 81, 82, 83, 84, 85, 86, 87, 88, 89, 90])) (dOp dMod (dOp dFdiv (dVarB 0) (dC (.int 21))) (dC (.int 26)))) (dgN 1)) <|
  dSeq (dAsg (dOp dAdd (dC (.int 1)) (dOp dMod (dOp dFdiv (dVarB 0) (dC (.int 3))) (dC (.int 7)))) (dgN 2)) <|
  dSeq (dIfS (dTst (dOp dEq (dOp dMod (dVarB 0) (dC (.int 3))) (dC (.int 0))))
  (dRet (dTup (dCons (dMake A.cNever (I_Never A) (dCons (dOp dMulS (dVarB 1) (dVarB 2)) (dNil))) (dCons (dOp dAdd (dC (.str [110, 101, 118, 101, 114, 32])) (dOp dMulS (dVarB 1) (dVarB 2))) (dCons (dVar 2) (dNil))))))
  (dNext)) <|
  dSeq (dAsg (dOp dMod (dOp dFdiv (dVarB 0) (dC (.int 546))) (dC (.int 8))) (dgN 3)) <|
  dSeq (dAsg (dOp dAdd (dOp dAdd (dOp dAdd (dOp dAdd (dArgs dStrOf (dCons (dVarB 3) (dNil))) (dC (.str [32, 111, 102, 32]))) (dVarB 1)) (dC (.str [32, 105, 110, 32]))) (dArgs dStrOf (dCons (dVarB 2) (dNil)))) (dgN 4)) <|
  dSeq (dIfS (dTst (dOp dEq (dOp dMod (dVarB 0) (dC (.int 3))) (dC (.int 1))))
  (dRet (dTup (dCons (dMake A.cMost (I_Tally A) (dCons (dVar 3) (dCons (dVar 1) (dCons (dVar 2) (dNil))))) (dCons (dOp dAdd (dC (.str [109, 111, 115, 116, 32])) (dVarB 4)) (dCons (dVar 2) (dNil))))))
  (dNext)) <|
  dRet (dTup (dCons (dMake A.cLeast (I_Tally A) (dCons (dVar 3) (dCons (dVar 1) (dCons (dVar 2) (dNil))))) (dCons (dOp dAdd (dC (.str [108, 101, 97, 115, 116, 32])) (dVarB 4)) (dCons (dVar 2) (dNil)))))
theorem sc_l_person : FnScope ["_law_house", "_law_p", "_law_bound", "_law_found", "_law_one", "_law_due", "_law_reach"] ["_law_house", "_law_p", "_law_bound"] (defScope s_l_person) := ⟨rfl, rfl, rfl, by decide +kernel, rfl, by decide +kernel, by decide +kernel⟩
def d_l_person (A : Ad) : DS := dSeq (dAsg (dMeth (M_rules_for A) "rules_for" (dVar 0) (dCons (dVar 1) (dNil))) (dgN 3)) <|
  dSeq (dIfS (dOrT (dNotT (dTst (dArgs dIsi (dCons (dVarB 3) (dCons (dC (.ty "list")) (dNil)))))) (dTst (dOp dNe (dArgs dLen (dCons (dVarB 3) (dNil))) (dArgs dLen (dCons (dVarB 2) (dNil))))))
  (dRet (dC (.bl false)))
  (dNext)) <|
  dSeq (dFor (dZip (dCons (dVar 3) (dCons (dVar 2) (dNil)))) (dgT 2 (dgCons (dgN 4) (dgCons (dgN 5) dgNil)))
  (dSeq (dIfS (dOrT (dNotT (dTst (dArgs dIsi (dCons (dVarB 4) (dCons (dC (.ty "tuple")) (dNil)))))) (dOrT (dTst (dOp dNe (dArgs dLen (dCons (dVarB 4) (dNil))) (dC (.int 2)))) (dNotT (dTst (dCall (S_l_whole A) (dCons (dOp dIx (dVarB 4) (dC (.int 0))) (dNil)))))))
  (dRet (dC (.bl false)))
  (dNext)) <|
  dIfS (dOrT (dTst (dOp dNe (dOp dIx (dVarB 4) (dC (.int 0))) (dOp dIx (dVarB 5) (dC (.int 0))))) (dTst (dOp dNe (dMeth (M_text A) "text" (dOp dIx (dVarB 4) (dC (.int 1))) dNil) (dOp dIx (dVarB 5) (dC (.int 1))))))
  (dRet (dC (.bl false)))
  (dNext))) <|
  dSeq (dAsg (dMeth (M_reach_of A) "reach_of" (dVar 0) (dCons (dVar 1) (dNil))) (dgN 6)) <|
  dRet (dAndV (dCall (S_l_whole A) (dCons (dVar 6) (dNil))) (dOp dEq (dVarB 6) (dArgs dMaxL (dCons (dOp dAdd (dLst (dCons (dC (.int 1)) (dNil))) (dLc [5] (dIt (dVar 2)) (dgN 5) (dYes) (dOp dIx (dVarB 5) (dC (.int 2))))) (dNil)))))
theorem sc_law : FnScope ["_law_script", "_law_many", "_law_names", "_law_p", "_law_rules", "_law_told", "_law_cell", "_law_rule_here", "_law_words", "_law_reach", "_law_name_here", "_law_pairs", "_law_plain", "_law_persons", "_law_house", "_law_mine", "_law_bound", "_law_k", "_law_found"] ["_law_script"] (defScope s_law) := ⟨rfl, rfl, rfl, by decide +kernel, rfl, by decide +kernel, by decide +kernel⟩
def d_law (A : Ad) : DS := dSeq (dAsg (dOp dMod (dCall (S_l_cell_at A) (dCons (dVar 0) (dCons (dC (.int 0)) (dNil)))) (dC (.int 9))) (dgN 1)) <|
  dSeq (dAsg (dLc [3] (dRng1 (dCons (dVarB 1) (dNil))) (dgN 3) (dYes) (dCall (S_l_name A) (dCons (dCall (S_l_cell_at A) (dCons (dVar 0) (dCons (dC (.int 1)) (dNil)))) (dCons (dVar 3) (dNil))))) (dgN 2)) <|
  dSeq (dSetN 4 (dLst (dNil))) <|
  dSeq (dSetN 5 (dLst (dNil))) <|
  dSeq (dFor (dIt (dSl (dVarB 0) (dPart (dC (.int 2))) (dPart (dC (.int 10))))) (dgN 6)
  (dSeq (dAsg (dCall (S_l_rule A) (dCons (dOp dFdiv (dVarB 6) (dC (.int 10))) (dNil))) (dgT 3 (dgCons (dgN 7) (dgCons (dgN 8) (dgCons (dgN 9) dgNil))))) <|
  dSeq (dAsg (dC (.str [97, 108, 108])) (dgN 10)) <|
  dSeq (dIfS (dAndT (dTst (dOp dGt (dVarB 1) (dC (.int 0)))) (dTst (dOp dGt (dOp dMod (dVarB 6) (dC (.int 10))) (dC (.int 2)))))
  (dAsg (dOp dIx (dVarB 2) (dOp dMod (dOp dFdiv (dVarB 6) (dC (.int 10))) (dVarB 1))) (dgN 10))
  (dNext)) <|
  dSeq (dApp 4 (dTup (dCons (dVar 10) (dCons (dVar 7) (dNil))))) <|
  dApp 5 (dTup (dCons (dVar 10) (dCons (dVar 8) (dCons (dVar 9) (dNil))))))) <|
  dSeq (dSetN 11 (dLst (dNil))) <|
  dSeq (dIfS (dAndT (dTst (dOp dGt (dVarB 1) (dC (.int 1)))) (dTst (dOp dEq (dOp dMod (dOp dFdiv (dCall (S_l_cell_at A) (dCons (dVar 0) (dCons (dC (.int 0)) (dNil)))) (dC (.int 9))) (dC (.int 2))) (dC (.int 1)))))
  (dSetN 11 (dLst (dCons (dTup (dCons (dC (.str [97, 112, 97, 114, 116])) (dCons (dOp dIx (dVarB 2) (dC (.int 0))) (dCons (dOp dIx (dVarB 2) (dOp dSub (dVarB 1) (dC (.int 1)))) (dNil))))) (dNil))))
  (dNext)) <|
  dSeq (dAsg (dAndV (dOp dEq0 (dVarB 4) (dLst (dNil))) (dOp dEq0 (dVarB 11) (dLst (dNil)))) (dgN 12)) <|
  dSeq (dSetN 13 (dLc [10] (dIt (dVar 2)) (dgN 10) (dYes) (dMake A.cPerson (I_Person A) (dCons (dVar 10) (dCons (dC (.str [])) (dCons (dC (.int 3)) (dCons (dC (.int 0)) (dCons (dC (.str [])) (dNil))))))))) <|
  dSeq (dAsg (dMake A.cHouse (I_House A) (dCons (dC (.int 2)) (dCons (dC (.str [68])) (dCons (dLst (dNil)) (dCons (dVarB 13) (dCons (dLst (dNil)) (dCons (dLst (dNil)) (dCons (dVarB 4) (dCons (dVarB 11) (dNil)))))))))) (dgN 14)) <|
  dSeq (dClr 4) <|
  dSeq (dClr 13) <|
  dSeq (dClr 11) <|
  dSeq (dFor (dRng1 (dCons (dVarB 1) (dNil))) (dgN 3)
  (dSeq (dAsg (dTup (dCons (dC (.str [97, 108, 108])) (dCons (dOp dIx (dVarB 2) (dVarB 3)) (dNil)))) (dgN 15)) <|
  dSeq (dAsg (dLc [17] (dRng1 (dCons (dArgs dLen (dCons (dVarB 5) (dNil))) (dNil))) (dgN 17) (dTst (dOp (dIn false) (dOp dIx (dOp dIx (dVarB 5) (dVarB 17)) (dC (.int 0))) (dVarB 15))) (dTup (dCons (dVar 17) (dCons (dOp dIx (dOp dIx (dVarB 5) (dVarB 17)) (dC (.int 1))) (dCons (dOp dIx (dOp dIx (dVarB 5) (dVarB 17)) (dC (.int 2))) (dNil)))))) (dgN 16)) <|
  dSeq (dIfS (dOrT (dNotT (dTst (dCall (S_l_person A) (dCons (dVar 14) (dCons (dVar 3) (dCons (dVar 16) (dNil))))))) (dTst (dOp dNe (dMethX (MX_place_of A) "place_of" (dVar 14) (dCons (dOp dIx (dVarB 2) (dVarB 3)) (dNil)) noX) (dVarB 3))))
  (dRet (dC (.bl false)))
  (dNext)) <|
  dSeq (dClrN (dMeth (M_rules_for A) "rules_for" (dVar 14) (dCons (dVar 3) (dNil)))) <|
  dIfS (dNotT (dTst (dCall (S_l_person A) (dCons (dVar 14) (dCons (dVar 3) (dCons (dVar 16) (dNil)))))))
  (dRet (dC (.bl false)))
  (dNext))) <|
  dSeq (dAsg (dMeth (M_plain A) "plain" (dVar 14) dNil) (dgN 18)) <|
  dSeq (dIfS (dOrT (dNotT (dTst (dArgs dIsi (dCons (dVarB 18) (dCons (dC (.ty "bool")) (dNil)))))) (dTst (dOp dNe (dVarB 18) (dVarB 12))))
  (dRet (dC (.bl false)))
  (dNext)) <|
  dRet (dCall (S_l_refused A) (dCons (dVar 14) (dCons (dOp dAdd (dOp dIx (dOp dAdd (dVarB 2) (dLst (dCons (dC (.str [97])) (dNil)))) (dC (.int 0))) (dC (.str [122]))) (dNil))))
section
variable {P : Program} {w : World} {K : PySem.W.Frag} {mg : Str → Option Value} {base : Heap} {A : Ad}
theorem b_Person___init__ (T : Txt K mg A) {f : Addr} (cdv : Value) (Ar : Around) (outer : List Env) (s : Shared) (H : Hp) (E : XK) (F0 H0 : Hp) (x dx : Addr) (hr : Room 0 (Ar.deeper (PyProof.Rows.envOfC "Person.__init__" (defScope s_Person___init__) s.heap.objs.size f cdv))) : LIns (cxOf CX0 P w K mg base ["self", "name", "skills", "most", "carried", "past"] "Person.__init__" (defScope s_Person___init__) f cdv Ar outer s H E).nox A.cPerson x dx F0 H0 (defBody s_Person___init__) (d_Person___init__ A) := by
  have nd := sc_Person___init__.nd
  have hu : (cxOf CX0 P w K mg base ["self", "name", "skills", "most", "carried", "past"] "Person.__init__" (defScope s_Person___init__) f cdv Ar outer s H E).nox.A.units + 64 < cLine := hr.units
  have hv : (cxOf CX0 P w K mg base ["self", "name", "skills", "most", "carried", "past"] "Person.__init__" (defScope s_Person___init__) f cdv Ar outer s H E).nox.A.units + 65 < cLine := room1 hr
  exact (lin_cons (lin_fld (pv 0) (le_var (pv 1)) T.cl_Person T.n_Person_name) (lin_cons (lin_fld (pv 0) (le_var (pv 2)) T.cl_Person T.n_Person_skills) (lin_cons (lin_fld (pv 0) (le_var (pv 3)) T.cl_Person T.n_Person_most) (lin_cons (lin_fld (pv 0) (le_var (pv 4)) T.cl_Person T.n_Person_carried) (lin_one (lin_fld (pv 0) (le_var (pv 5)) T.cl_Person T.n_Person_past))))))
theorem b_House___init__ (T : Txt K mg A) {f : Addr} (cdv : Value) (Ar : Around) (outer : List Env) (s : Shared) (H : Hp) (E : XK) (F0 H0 : Hp) (x dx : Addr) (hr : Room 0 (Ar.deeper (PyProof.Rows.envOfC "House.__init__" (defScope s_House___init__) s.heap.objs.size f cdv))) : LIns (cxOf CX0 P w K mg base ["self", "days", "kinds", "needs", "persons", "leave", "wishes", "rules", "pairs"] "House.__init__" (defScope s_House___init__) f cdv Ar outer s H E).nox A.cHouse x dx F0 H0 (defBody s_House___init__) (d_House___init__ A) := by
  have nd := sc_House___init__.nd
  have hu : (cxOf CX0 P w K mg base ["self", "days", "kinds", "needs", "persons", "leave", "wishes", "rules", "pairs"] "House.__init__" (defScope s_House___init__) f cdv Ar outer s H E).nox.A.units + 64 < cLine := hr.units
  have hv : (cxOf CX0 P w K mg base ["self", "days", "kinds", "needs", "persons", "leave", "wishes", "rules", "pairs"] "House.__init__" (defScope s_House___init__) f cdv Ar outer s H E).nox.A.units + 65 < cLine := room1 hr
  exact (lin_cons (lin_fld (pv 0) (le_var (pv 1)) T.cl_House T.n_House_days) (lin_cons (lin_fld (pv 0) (le_var (pv 2)) T.cl_House T.n_House_kinds) (lin_cons (lin_fld (pv 0) (le_bty b_list (by rfl) T.g_list (by decide +kernel) (lab_cons (lb_var (pv 3)) lab_nil)) T.cl_House T.n_House_needs) (lin_cons (lin_fld (pv 0) (le_bty b_list (by rfl) T.g_list (by decide +kernel) (lab_cons (lb_var (pv 4)) lab_nil)) T.cl_House T.n_House_persons) (lin_cons (lin_fld (pv 0) (le_bty b_list (by rfl) T.g_list (by decide +kernel) (lab_cons (lb_var (pv 5)) lab_nil)) T.cl_House T.n_House_leave) (lin_cons (lin_fld (pv 0) (le_bty b_list (by rfl) T.g_list (by decide +kernel) (lab_cons (lb_var (pv 6)) lab_nil)) T.cl_House T.n_House_wishes) (lin_cons (lin_fld (pv 0) (le_bty b_list (by rfl) T.g_list (by decide +kernel) (lab_cons (lb_var (pv 7)) lab_nil)) T.cl_House T.n_House_rules) (lin_one (lin_fld (pv 0) (le_bty b_list (by rfl) T.g_list (by decide +kernel) (lab_cons (lb_var (pv 8)) lab_nil)) T.cl_House T.n_House_pairs)))))))))
theorem b_House_place_of (T : Txt K mg A) {f : Addr} (cdv : Value) (Ar : Around) (outer : List Env) (s : Shared) (H : Hp) (E : XK) (F0 : Hp) (Xc : XC) (hr : Room 0 (Ar.deeper (PyProof.Rows.envOfC "House.place_of" (defScope s_House_place_of) s.heap.objs.size f cdv))) (hE : XOut K F0 H (fun cls d _ H => E cls d H) Xc) : LSs (cxOf (L2.CX P w) P w K mg base ["self", "name", "p"] "House.place_of" (defScope s_House_place_of) f cdv Ar outer s H E) F0 H (defBody s_House_place_of) (d_House_place_of A Xc) := by
  have tk : Takes (cxOf (L2.CX P w) P w K mg base ["self", "name", "p"] "House.place_of" (defScope s_House_place_of) f cdv Ar outer s H E) (fun cls d _ H => E cls d H) := takes_of rfl rfl rfl rfl
  have nd := sc_House_place_of.nd
  have hu : (cxOf (L2.CX P w) P w K mg base ["self", "name", "p"] "House.place_of" (defScope s_House_place_of) f cdv Ar outer s H E).A.units + 64 < cLine := hr.units
  have hv : (cxOf (L2.CX P w) P w K mg base ["self", "name", "p"] "House.place_of" (defScope s_House_place_of) f cdv Ar outer s H E).A.units + 65 < cLine := room1 hr
  exact (lss_cons (ls_for (passes_of rfl) rfl (li_rng1 (by rfl) T.g_range (lab_cons (lb (le_blt b_len (by rfl) T.g_len (by decide +kernel) (lab_cons (lb (le_fldC (lb_var (pv 0)) T.f_persons)) lab_nil))) lab_nil)) (pg_name (i := 2) nd rfl (Or.inl rfl)) (lg_n (i := 2))
  (lss_one (ls_if (lt_c1 (c_eq hu) (lb (le_fldC (lb (le_ix (lb (le_fldC (lb_var (pv 0)) T.f_persons)) (lb_var (pv 2)))) T.f_name)) (lb_var (pv 1)))
  (lss_one (ls_ret (le_var (pv 2))))
  lss_nil)))
  (lss_one (ls_raise T.x_NoName rfl tk hE (by rfl))))
theorem b_House_rules_for (T : Txt K mg A) {f : Addr} (cdv : Value) (Ar : Around) (outer : List Env) (s : Shared) (H : Hp) (E : XK) (F0 : Hp) (hr : Room 0 (Ar.deeper (PyProof.Rows.envOfC "House.rules_for" (defScope s_House_rules_for) s.heap.objs.size f cdv))) : LSs (cxOf CX0 P w K mg base ["self", "p", "found", "number", "name", "rule"] "House.rules_for" (defScope s_House_rules_for) f cdv Ar outer s H E).nox F0 H (defBody s_House_rules_for) (d_House_rules_for A) := by
  have nd := sc_House_rules_for.nd
  have hu : (cxOf CX0 P w K mg base ["self", "p", "found", "number", "name", "rule"] "House.rules_for" (defScope s_House_rules_for) f cdv Ar outer s H E).nox.A.units + 64 < cLine := hr.units
  have hv : (cxOf CX0 P w K mg base ["self", "p", "found", "number", "name", "rule"] "House.rules_for" (defScope s_House_rules_for) f cdv Ar outer s H E).nox.A.units + 65 < cLine := room1 hr
  exact (lss_cons (ls_setN (i := 2) (fun _ h => ps_set (i := 2) nd rfl (Or.inl rfl) h) (ln_lst la_nil))
  (lss_cons (ls_for PassesOwn.never rfl (li_rng1 (by rfl) T.g_range (lab_cons (lb (le_blt b_len (by rfl) T.g_len (by decide +kernel) (lab_cons (lb (le_fldC (lb_var (pv 0)) T.f_rules)) lab_nil))) lab_nil)) (pg_name (i := 3) nd rfl (Or.inl rfl)) (lg_n (i := 3))
  (lss_cons (ls_asg (fun _ h => ps_asg h (pg_tup rfl (pgs_cons (pg_name (i := 4) nd rfl (Or.inl rfl)) (pgs_cons (pg_name (i := 5) nd rfl (Or.inl rfl)) pgs_nil)))) (lg_t (lgs_cons (lg_n (i := 4)) (lgs_cons (lg_n (i := 5)) lgs_nil))) (le_ix (lb (le_fldC (lb_var (pv 0)) T.f_rules)) (lb_var (pv 3))))
  (lss_one (ls_if (lt_bool (lw_or (lt_c1 (c_eq hu) (lb_var (pv 4)) (lb (le_str (l := [97, 108, 108]) (by decide +kernel) (by decide +kernel)))) (lw_or1 (lt_c1 (c_eq hu) (lb_var (pv 4)) (lb (le_fldC (lb (le_ix (lb (le_fldC (lb_var (pv 0)) T.f_persons)) (lb_var (pv 1)))) T.f_name))))))
  (lss_one (ls_app (i := 2) (pv 2) (le_tup (la_cons (le_var (pv 3)) (la_cons (le_var (pv 5)) la_nil))) (fun _ h => pe_bm PySem.F.plainAttrs_list PySem.F.slot_list_append PySem.F.type_list_append mt_append (pv 2) (pa_cons h pa_nil))))
  lss_nil))))
  (lss_one (ls_retO (pv 2)))))
theorem b_House_plain (T : Txt K mg A) {f : Addr} (cdv : Value) (Ar : Around) (outer : List Env) (s : Shared) (H : Hp) (E : XK) (F0 : Hp) (hr : Room 0 (Ar.deeper (PyProof.Rows.envOfC "House.plain" (defScope s_House_plain) s.heap.objs.size f cdv))) : LSs (cxOf CX0 P w K mg base ["self"] "House.plain" (defScope s_House_plain) f cdv Ar outer s H E).nox F0 H (defBody s_House_plain) (d_House_plain A) := by
  have nd := sc_House_plain.nd
  have hu : (cxOf CX0 P w K mg base ["self"] "House.plain" (defScope s_House_plain) f cdv Ar outer s H E).nox.A.units + 64 < cLine := hr.units
  have hv : (cxOf CX0 P w K mg base ["self"] "House.plain" (defScope s_House_plain) f cdv Ar outer s H E).nox.A.units + 65 < cLine := room1 hr
  exact (lss_one (ls_ret (le_and (le_c1 (c_eq0 hu) (lb (le_fldC (lb_var (pv 0)) T.f_rules)) (lb (le_lst la_nil))) (le_one (le_c1 (c_eq0 hu) (lb (le_fldC (lb_var (pv 0)) T.f_pairs)) (lb (le_lst la_nil)))))))
theorem b_Never___init__ (T : Txt K mg A) {f : Addr} (cdv : Value) (Ar : Around) (outer : List Env) (s : Shared) (H : Hp) (E : XK) (F0 H0 : Hp) (x dx : Addr) (hr : Room 0 (Ar.deeper (PyProof.Rows.envOfC "Never.__init__" (defScope s_Never___init__) s.heap.objs.size f cdv))) : LIns (cxOf CX0 P w K mg base ["self", "word"] "Never.__init__" (defScope s_Never___init__) f cdv Ar outer s H E).nox A.cNever x dx F0 H0 (defBody s_Never___init__) (d_Never___init__ A) := by
  have nd := sc_Never___init__.nd
  have hu : (cxOf CX0 P w K mg base ["self", "word"] "Never.__init__" (defScope s_Never___init__) f cdv Ar outer s H E).nox.A.units + 64 < cLine := hr.units
  have hv : (cxOf CX0 P w K mg base ["self", "word"] "Never.__init__" (defScope s_Never___init__) f cdv Ar outer s H E).nox.A.units + 65 < cLine := room1 hr
  exact (lin_one (lin_fld (pv 0) (le_var (pv 1)) T.cl_Never T.n_Never_word))
theorem b_Never_reach (T : Txt K mg A) {f : Addr} (cdv : Value) (Ar : Around) (outer : List Env) (s : Shared) (H : Hp) (E : XK) (F0 : Hp) (hr : Room 0 (Ar.deeper (PyProof.Rows.envOfC "Never.reach" (defScope s_Never_reach) s.heap.objs.size f cdv))) : LSs (cxOf CX0 P w K mg base ["self"] "Never.reach" (defScope s_Never_reach) f cdv Ar outer s H E).nox F0 H (defBody s_Never_reach) (d_Never_reach A) := by
  have nd := sc_Never_reach.nd
  have hu : (cxOf CX0 P w K mg base ["self"] "Never.reach" (defScope s_Never_reach) f cdv Ar outer s H E).nox.A.units + 64 < cLine := hr.units
  have hv : (cxOf CX0 P w K mg base ["self"] "Never.reach" (defScope s_Never_reach) f cdv Ar outer s H E).nox.A.units + 65 < cLine := room1 hr
  exact (lss_one (ls_ret (le_blt b_len (by rfl) T.g_len (by decide +kernel) (lab_cons (lb (le_fldC (lb_var (pv 0)) T.f_word)) lab_nil))))
theorem b_Never_text (T : Txt K mg A) {f : Addr} (cdv : Value) (Ar : Around) (outer : List Env) (s : Shared) (H : Hp) (E : XK) (F0 : Hp) (hr : Room 0 (Ar.deeper (PyProof.Rows.envOfC "Never.text" (defScope s_Never_text) s.heap.objs.size f cdv))) : LSs (cxOf CX0 P w K mg base ["self"] "Never.text" (defScope s_Never_text) f cdv Ar outer s H E).nox F0 H (defBody s_Never_text) (d_Never_text A) := by
  have nd := sc_Never_text.nd
  have hu : (cxOf CX0 P w K mg base ["self"] "Never.text" (defScope s_Never_text) f cdv Ar outer s H E).nox.A.units + 64 < cLine := hr.units
  have hv : (cxOf CX0 P w K mg base ["self"] "Never.text" (defScope s_Never_text) f cdv Ar outer s H E).nox.A.units + 65 < cLine := room1 hr
  exact (lss_one (ls_ret (le_add (lb (le_str (l := [110, 101, 118, 101, 114, 32]) (by decide +kernel) (by decide +kernel))) (lb (le_fldC (lb_var (pv 0)) T.f_word)))))
theorem b_Least___init__ (T : Txt K mg A) {f : Addr} (cdv : Value) (Ar : Around) (outer : List Env) (s : Shared) (H : Hp) (E : XK) (F0 H0 : Hp) (x dx : Addr) (hr : Room 0 (Ar.deeper (PyProof.Rows.envOfC "Tally.__init__" (defScope s_Tally___init__) s.heap.objs.size f cdv))) : LIns (cxOf CX0 P w K mg base ["self", "many", "marks", "days"] "Tally.__init__" (defScope s_Tally___init__) f cdv Ar outer s H E).nox A.cLeast x dx F0 H0 (defBody s_Tally___init__) (d_Tally___init__ A) := by
  have nd := sc_Tally___init__.nd
  have hu : (cxOf CX0 P w K mg base ["self", "many", "marks", "days"] "Tally.__init__" (defScope s_Tally___init__) f cdv Ar outer s H E).nox.A.units + 64 < cLine := hr.units
  have hv : (cxOf CX0 P w K mg base ["self", "many", "marks", "days"] "Tally.__init__" (defScope s_Tally___init__) f cdv Ar outer s H E).nox.A.units + 65 < cLine := room1 hr
  exact (lin_cons (lin_fld (pv 0) (le_var (pv 1)) T.cl_Least T.n_Least_many) (lin_cons (lin_fld (pv 0) (le_var (pv 2)) T.cl_Least T.n_Least_marks) (lin_one (lin_fld (pv 0) (le_var (pv 3)) T.cl_Least T.n_Least_days))))
theorem b_Most___init__ (T : Txt K mg A) {f : Addr} (cdv : Value) (Ar : Around) (outer : List Env) (s : Shared) (H : Hp) (E : XK) (F0 H0 : Hp) (x dx : Addr) (hr : Room 0 (Ar.deeper (PyProof.Rows.envOfC "Tally.__init__" (defScope s_Tally___init__) s.heap.objs.size f cdv))) : LIns (cxOf CX0 P w K mg base ["self", "many", "marks", "days"] "Tally.__init__" (defScope s_Tally___init__) f cdv Ar outer s H E).nox A.cMost x dx F0 H0 (defBody s_Tally___init__) (d_Tally___init__ A) := by
  have nd := sc_Tally___init__.nd
  have hu : (cxOf CX0 P w K mg base ["self", "many", "marks", "days"] "Tally.__init__" (defScope s_Tally___init__) f cdv Ar outer s H E).nox.A.units + 64 < cLine := hr.units
  have hv : (cxOf CX0 P w K mg base ["self", "many", "marks", "days"] "Tally.__init__" (defScope s_Tally___init__) f cdv Ar outer s H E).nox.A.units + 65 < cLine := room1 hr
  exact (lin_cons (lin_fld (pv 0) (le_var (pv 1)) T.cl_Most T.n_Most_many) (lin_cons (lin_fld (pv 0) (le_var (pv 2)) T.cl_Most T.n_Most_marks) (lin_one (lin_fld (pv 0) (le_var (pv 3)) T.cl_Most T.n_Most_days))))
theorem b_Tally_reach (T : Txt K mg A) {f : Addr} (cdv : Value) (Ar : Around) (outer : List Env) (s : Shared) (H : Hp) (E : XK) (F0 : Hp) (hr : Room 0 (Ar.deeper (PyProof.Rows.envOfC "Tally.reach" (defScope s_Tally_reach) s.heap.objs.size f cdv))) : LSs (cxOf CX0 P w K mg base ["self"] "Tally.reach" (defScope s_Tally_reach) f cdv Ar outer s H E).nox F0 H (defBody s_Tally_reach) (d_Tally_reach A) := by
  have nd := sc_Tally_reach.nd
  have hu : (cxOf CX0 P w K mg base ["self"] "Tally.reach" (defScope s_Tally_reach) f cdv Ar outer s H E).nox.A.units + 64 < cLine := hr.units
  have hv : (cxOf CX0 P w K mg base ["self"] "Tally.reach" (defScope s_Tally_reach) f cdv Ar outer s H E).nox.A.units + 65 < cLine := room1 hr
  exact (lss_one (ls_ret (le_fldC (lb_var (pv 0)) T.f_days)))
theorem b_Tally_shown (T : Txt K mg A) {f : Addr} (cdv : Value) (Ar : Around) (outer : List Env) (s : Shared) (H : Hp) (E : XK) (F0 : Hp) (hr : Room 0 (Ar.deeper (PyProof.Rows.envOfC "Tally.shown" (defScope s_Tally_shown) s.heap.objs.size f cdv))) : LSs (cxOf CX0 P w K mg base ["self", "word"] "Tally.shown" (defScope s_Tally_shown) f cdv Ar outer s H E).nox F0 H (defBody s_Tally_shown) (d_Tally_shown A) := by
  have nd := sc_Tally_shown.nd
  have hu : (cxOf CX0 P w K mg base ["self", "word"] "Tally.shown" (defScope s_Tally_shown) f cdv Ar outer s H E).nox.A.units + 64 < cLine := hr.units
  have hv : (cxOf CX0 P w K mg base ["self", "word"] "Tally.shown" (defScope s_Tally_shown) f cdv Ar outer s H E).nox.A.units + 65 < cLine := room1 hr
  exact (lss_one (ls_ret (le_add (lb (le_add (lb (le_add (lb (le_add (lb (le_add (lb (le_add (lb_var (pv 1)) (lb (le_str (l := [32]) (by decide +kernel) (by decide +kernel))))) (lb (le_bty b_strOf (by rfl) T.g_str (by decide +kernel) (lab_cons (lb (le_fldC (lb_var (pv 0)) T.f_many)) lab_nil))))) (lb (le_str (l := [32, 111, 102, 32]) (by decide +kernel) (by decide +kernel))))) (lb (le_fldC (lb_var (pv 0)) T.f_marks)))) (lb (le_str (l := [32, 105, 110, 32]) (by decide +kernel) (by decide +kernel))))) (lb (le_bty b_strOf (by rfl) T.g_str (by decide +kernel) (lab_cons (lb (le_fldC (lb_var (pv 0)) T.f_days)) lab_nil))))))
theorem b_l_cell_at (T : Txt K mg A) {f : Addr} (cdv : Value) (Ar : Around) (outer : List Env) (s : Shared) (H : Hp) (E : XK) (F0 : Hp) (hr : Room 0 (Ar.deeper (PyProof.Rows.envOfC "_law_cell_at" (defScope s_l_cell_at) s.heap.objs.size f cdv))) : LSs (cxOf CX0 P w K mg base ["_law_script", "_law_k"] "_law_cell_at" (defScope s_l_cell_at) f cdv Ar outer s H E).nox F0 H (defBody s_l_cell_at) (d_l_cell_at A) := by
  have nd := sc_l_cell_at.nd
  have hu : (cxOf CX0 P w K mg base ["_law_script", "_law_k"] "_law_cell_at" (defScope s_l_cell_at) f cdv Ar outer s H E).nox.A.units + 64 < cLine := hr.units
  have hv : (cxOf CX0 P w K mg base ["_law_script", "_law_k"] "_law_cell_at" (defScope s_l_cell_at) f cdv Ar outer s H E).nox.A.units + 65 < cLine := room1 hr
  exact (lss_cons (ls_if (lt_c1 c_lt (lb_var (pv 1)) (lb (le_blt b_len (by rfl) T.g_len (by decide +kernel) (lab_cons (lb_var (pv 0)) lab_nil))))
  (lss_one (ls_ret (le_ix (lb_var (pv 0)) (lb_var (pv 1)))))
  lss_nil)
  (lss_one (ls_ret le_int)))
theorem b_l_whole (T : Txt K mg A) {f : Addr} (cdv : Value) (Ar : Around) (outer : List Env) (s : Shared) (H : Hp) (E : XK) (F0 : Hp) (hr : Room 0 (Ar.deeper (PyProof.Rows.envOfC "_law_whole" (defScope s_l_whole) s.heap.objs.size f cdv))) : LSs (cxOf CX0 P w K mg base ["_law_found"] "_law_whole" (defScope s_l_whole) f cdv Ar outer s H E).nox F0 H (defBody s_l_whole) (d_l_whole A) := by
  have nd := sc_l_whole.nd
  have hu : (cxOf CX0 P w K mg base ["_law_found"] "_law_whole" (defScope s_l_whole) f cdv Ar outer s H E).nox.A.units + 64 < cLine := hr.units
  have hv : (cxOf CX0 P w K mg base ["_law_found"] "_law_whole" (defScope s_l_whole) f cdv Ar outer s H E).nox.A.units + 65 < cLine := room1 hr
  exact (lss_one (ls_ret (le_and (le_blt b_isi (by rfl) T.g_isinstance (by decide +kernel) (lab_cons (lb_var (pv 0)) (lab_cons (lb (le_btv rfl T.g_int (by decide +kernel))) lab_nil))) (le_one (le_not (le_blt b_isi (by rfl) T.g_isinstance (by decide +kernel) (lab_cons (lb_var (pv 0)) (lab_cons (lb (le_btv rfl T.g_bool (by decide +kernel))) lab_nil))))))))
theorem b_l_name (T : Txt K mg A) {f : Addr} (cdv : Value) (Ar : Around) (outer : List Env) (s : Shared) (H : Hp) (E : XK) (F0 : Hp) (hr : Room 0 (Ar.deeper (PyProof.Rows.envOfC "_law_name" (defScope s_l_name) s.heap.objs.size f cdv))) : LSs (cxOf CX0 P w K mg base ["_law_cell", "_law_p", "_law_some", "_law_body", "_law_k", "_law_at", "_law_name_here"] "_law_name" (defScope s_l_name) f cdv Ar outer s H E).nox F0 H (defBody s_l_name) (d_l_name A) := by
  have nd := sc_l_name.nd
  have hu : (cxOf CX0 P w K mg base ["_law_cell", "_law_p", "_law_some", "_law_body", "_law_k", "_law_at", "_law_name_here"] "_law_name" (defScope s_l_name) f cdv Ar outer s H E).nox.A.units + 64 < cLine := hr.units
  have hv : (cxOf CX0 P w K mg base ["_law_cell", "_law_p", "_law_some", "_law_body", "_law_k", "_law_at", "_law_name_here"] "_law_name" (defScope s_l_name) f cdv Ar outer s H E).nox.A.units + 65 < cLine := room1 hr
  exact (lss_cons (ls_asg (fun _ h => ps_set (i := 2) nd rfl (Or.inr rfl) h) lg_n (le_str (l := [97, 98, 99, 100, 101, 102, 103, 104, 105, 106, 107, 108, 109, 110, 111, 112, 113, 114, 115, 116, 117, 118, 119, 120, 121, 122]) (by decide +kernel) (by decide +kernel)))
  (lss_cons (ls_asg (fun _ h => ps_set (i := 3) nd rfl (Or.inl rfl) h) lg_n (le_join (le_str (l := []) (by decide +kernel) (by decide +kernel)) (lb (le_lc (own := [("_law_k", 4)]) rfl nd (li_rng1 (by rfl) T.g_range (lab_cons (lb (le_mod (lb (le_fdiv (lb_var (pv 0)) (lb le_int))) (lb le_int))) lab_nil)) (blkOk_by (N := ["_law_cell", "_law_p", "_law_some", "_law_body", "_law_k", "_law_at", "_law_name_here"]) (sc := defScope s_l_name) (by decide +kernel)) (fun _ _ _ _ _ => (pg_name (i := 4) nd rfl (Or.inl rfl))) (lg_n (i := 4)) (by decide) (fun _ _ _ _ _ => lts_nil) (fun _ _ _ _ _ => (le_ix (lb_var (pv 2)) (lb (le_mod (lb (le_fdiv (lb_var (pv 0)) (lb (le_add (lb le_int) (lb (le_mul (lb le_int) (lb_var (pv 4)))))))) (lb le_int)))))))))
  (lss_cons (ls_asg (fun _ h => ps_set (i := 5) nd rfl (Or.inl rfl) h) lg_n (le_mod (lb (le_fdiv (lb_var (pv 0)) (lb le_int))) (lb (le_add (lb (le_blt b_len (by rfl) T.g_len (by decide +kernel) (lab_cons (lb_var (pv 3)) lab_nil))) (lb le_int)))))
  (lss_cons (ls_asg (fun _ h => ps_set (i := 6) nd rfl (Or.inl rfl) h) lg_n (le_add (lb (le_add (lb (le_sl (lb_var (pv 3)) lo_none (lo_some (le_var (pv 5))))) (lb (le_ix (lb_var (pv 2)) (lb (le_mod (lb (le_add (lb_var (pv 0)) (lb_var (pv 1)))) (lb le_int))))))) (lb (le_sl (lb_var (pv 3)) (lo_some (le_var (pv 5))) lo_none))))
  (lss_cons (ls_if (lt_c1 (c_eq hu) (lb_var (pv 6)) (lb (le_str (l := [97, 108, 108]) (by decide +kernel) (by decide +kernel))))
  (lss_one (ls_ret (le_str (l := [97, 108, 108, 101]) (by decide +kernel) (by decide +kernel))))
  lss_nil)
  (lss_one (ls_ret (le_var (pv 6)))))))))
theorem b_House_reach_of (T : Txt K mg A) (N_reach : ∀ C S, M_reach A C S → MethOk P w K mg base CX0 1 "reach" C S) (N_rules_for : ∀ C S, M_rules_for A C S → MethOkN P w K mg base 1 "rules_for" [false] C S) {f : Addr} (cdv : Value) (Ar : Around) (outer : List Env) (s : Shared) (H : Hp) (E : XK) (F0 : Hp) (hr : Room 1 (Ar.deeper (PyProof.Rows.envOfC "House.reach_of" (defScope s_House_reach_of) s.heap.objs.size f cdv))) : LSs (cxOf CX0 P w K mg base ["self", "p", "number", "rule"] "House.reach_of" (defScope s_House_reach_of) f cdv Ar outer s H E).nox F0 H (defBody s_House_reach_of) (d_House_reach_of A) := by
  have nd := sc_House_reach_of.nd
  have hu : (cxOf CX0 P w K mg base ["self", "p", "number", "rule"] "House.reach_of" (defScope s_House_reach_of) f cdv Ar outer s H E).nox.A.units + 64 < cLine := hr.units
  have hv : (cxOf CX0 P w K mg base ["self", "p", "number", "rule"] "House.reach_of" (defScope s_House_reach_of) f cdv Ar outer s H E).nox.A.units + 65 < cLine := room1 hr
  exact (lss_one (ls_ret (le_blt (b_maxL rfl) (by rfl) T.g_max (by decide +kernel) (lab_cons (lb (le_add (lb (le_lst (la_cons le_int la_nil))) (lb (le_lc (own := [("number", 2), ("rule", 3)]) rfl nd (li_any (le_methN (le_var (pv 0)) N_rules_for (hr.mono (by decide)) (lam_sh (le_var (pv 1)) lam_nil))) (blkOk_by (N := ["self", "p", "number", "rule"]) (sc := defScope s_House_reach_of) (by decide +kernel)) (fun _ _ _ _ _ => (pg_tup rfl (pgs_cons (pg_name (i := 2) nd rfl (Or.inl rfl)) (pgs_cons (pg_name (i := 3) nd rfl (Or.inl rfl)) pgs_nil)))) (lg_t (lgs_cons (lg_n (i := 2)) (lgs_cons (lg_n (i := 3)) lgs_nil))) (by decide) (fun _ _ _ _ _ => lts_nil) (fun _ _ _ _ _ => (le_meth0 (CX := CX0) (E := E0) (le_var (pv 3)) N_reach (hr.mono (by decide)) pass0)))))) lab_nil))))
theorem b_Most_text (T : Txt K mg A) (N_shown : ∀ C S, M_shown A C S → MethOk P w K mg base CX0 1 "shown" C S) {f : Addr} (cdv : Value) (Ar : Around) (outer : List Env) (s : Shared) (H : Hp) (E : XK) (F0 : Hp) (hr : Room 1 (Ar.deeper (PyProof.Rows.envOfC "Most.text" (defScope s_Most_text) s.heap.objs.size f cdv))) : LSs (cxOf CX0 P w K mg base ["self"] "Most.text" (defScope s_Most_text) f cdv Ar outer s H E).nox F0 H (defBody s_Most_text) (d_Most_text A) := by
  have nd := sc_Most_text.nd
  have hu : (cxOf CX0 P w K mg base ["self"] "Most.text" (defScope s_Most_text) f cdv Ar outer s H E).nox.A.units + 64 < cLine := hr.units
  have hv : (cxOf CX0 P w K mg base ["self"] "Most.text" (defScope s_Most_text) f cdv Ar outer s H E).nox.A.units + 65 < cLine := room1 hr
  exact (lss_one (ls_ret (le_meth (CX := CX0) (E := E0) (le_var (pv 0)) N_shown (hr.mono (by decide)) pass0 (la_cons (le_str (l := [109, 111, 115, 116]) (by decide +kernel) (by decide +kernel)) la_nil))))
theorem b_Least_text (T : Txt K mg A) (N_shown : ∀ C S, M_shown A C S → MethOk P w K mg base CX0 1 "shown" C S) {f : Addr} (cdv : Value) (Ar : Around) (outer : List Env) (s : Shared) (H : Hp) (E : XK) (F0 : Hp) (hr : Room 1 (Ar.deeper (PyProof.Rows.envOfC "Least.text" (defScope s_Least_text) s.heap.objs.size f cdv))) : LSs (cxOf CX0 P w K mg base ["self"] "Least.text" (defScope s_Least_text) f cdv Ar outer s H E).nox F0 H (defBody s_Least_text) (d_Least_text A) := by
  have nd := sc_Least_text.nd
  have hu : (cxOf CX0 P w K mg base ["self"] "Least.text" (defScope s_Least_text) f cdv Ar outer s H E).nox.A.units + 64 < cLine := hr.units
  have hv : (cxOf CX0 P w K mg base ["self"] "Least.text" (defScope s_Least_text) f cdv Ar outer s H E).nox.A.units + 65 < cLine := room1 hr
  exact (lss_one (ls_ret (le_meth (CX := CX0) (E := E0) (le_var (pv 0)) N_shown (hr.mono (by decide)) pass0 (la_cons (le_str (l := [108, 101, 97, 115, 116]) (by decide +kernel) (by decide +kernel)) la_nil))))
theorem b_l_refused (T : Txt K mg A) (Y_place_of : ∀ C S, MX_place_of A C S → MethOkX P w K mg base 1 "place_of" [false] C S) {f : Addr} (cdv : Value) (Ar : Around) (outer : List Env) (s : Shared) (H : Hp) (E : XK) (F0 : Hp) (hr : Room 1 (Ar.deeper (PyProof.Rows.envOfC "_law_refused" (defScope s_l_refused) s.heap.objs.size f cdv))) : LSs (cxOf CX0 P w K mg base ["_law_house", "_law_name_here", "_law_error", "e"] "_law_refused" (defScope s_l_refused) f cdv Ar outer s H E).nox F0 H (defBody s_l_refused) (d_l_refused A) := by
  have nd := sc_l_refused.nd
  have hu : (cxOf CX0 P w K mg base ["_law_house", "_law_name_here", "_law_error", "e"] "_law_refused" (defScope s_l_refused) f cdv Ar outer s H E).nox.A.units + 64 < cLine := hr.units
  have hv : (cxOf CX0 P w K mg base ["_law_house", "_law_name_here", "_law_error", "e"] "_law_refused" (defScope s_l_refused) f cdv Ar outer s H E).nox.A.units + 65 < cLine := room1 hr
  exact (lss_cons (ls_asg (fun _ h => ps_set (i := 2) nd rfl (Or.inl rfl) h) lg_n le_non)
  (lss_tryK (i := 3) (j := 2) rfl rfl nd rfl rfl ⟨by rfl, by decide, Or.inl T.m_RotaError⟩ T.xm_RotaError (lsx_expr (lex_meth (fun _ _ => (le_var (pv 0))) Y_place_of (hr.mono (by decide)) (fun _ _ => (lam_sh (le_var (pv 1)) lam_nil)))) (fun _ _ _ => (ls_asg (fun _ h => ps_set (i := 2) nd rfl (Or.inl rfl) h) (lg_n (i := 2)) (le_var (pv 3))))
  lss_never
  (fun a C F1 H1 hm hA => (lss_cons (ls_if (lt_val (le_isVT T.kx hA (by rfl) T.g_isinstance (by decide +kernel) (le_var (pv 2)) (pa_cls T.m_Faulty (by rfl) (pa_cls T.m_NoDay (by rfl) (pa_cls T.m_NoHouse (by rfl) (pa_cls T.m_NoRow (by rfl) (pa_cls T.m_NoRule (by rfl) (pa_cls T.m_TooWide (by rfl) pa_cls0)))))) (by simp) (by simp)))
  (lss_one (ls_ret le_bl))
  lss_nil)
  (lss_one (ls_ret (le_and (le_isV T.kx T.kb hA (by rfl) T.g_isinstance (by decide +kernel) (le_var (pv 2)) (le_cls T.m_NoName rfl)) (le_one (le_isV T.kx T.kb hA (by rfl) T.g_isinstance (by decide +kernel) (le_var (pv 2)) (le_verr (by rfl) T.g_ValueError (by decide +kernel)))))))))))
theorem b_l_rule (T : Txt K mg A) (M_Least : MkG P w K mg base "Least" A.cLeast 1 (I_Tally A)) (M_Most : MkG P w K mg base "Most" A.cMost 1 (I_Tally A)) (M_Never : MkG P w K mg base "Never" A.cNever 1 (I_Never A)) {f : Addr} (cdv : Value) (Ar : Around) (outer : List Env) (s : Shared) (H : Hp) (E : XK) (F0 : Hp) (hr : Room 2 (Ar.deeper (PyProof.Rows.envOfC "_law_rule" (defScope s_l_rule) s.heap.objs.size f cdv))) : LSs (cxOf CX0 P w K mg base ["_law_cell", "_law_letter", "_law_many", "_law_number", "_law_words"] "_law_rule" (defScope s_l_rule) f cdv Ar outer s H E).nox F0 H (defBody s_l_rule) (d_l_rule A) := by
  have nd := sc_l_rule.nd
  have hu : (cxOf CX0 P w K mg base ["_law_cell", "_law_letter", "_law_many", "_law_number", "_law_words"] "_law_rule" (defScope s_l_rule) f cdv Ar outer s H E).nox.A.units + 64 < cLine := hr.units
  have hv : (cxOf CX0 P w K mg base ["_law_cell", "_law_letter", "_law_many", "_law_number", "_law_words"] "_law_rule" (defScope s_l_rule) f cdv Ar outer s H E).nox.A.units + 65 < cLine := room1 hr
  exact (lss_cons (ls_asg (fun _ h => ps_set (i := 1) nd rfl (Or.inl rfl) h) lg_n (le_ix (lb (le_str (l := [65, 66, 67, 68, 69, 70, 71, 72, 73, 74, 75, 76, 77, 78, 79, 80, 81, 82, 83, 84, 85, 86, 87, 88, 89, 90]) (by decide +kernel) (by decide +kernel))) (lb (le_mod (lb (le_fdiv (lb_var (pv 0)) (lb le_int))) (lb le_int)))))
  (lss_cons (ls_asg (fun _ h => ps_set (i := 2) nd rfl (Or.inl rfl) h) lg_n (le_add (lb le_int) (lb (le_mod (lb (le_fdiv (lb_var (pv 0)) (lb le_int))) (lb le_int)))))
  (lss_cons (ls_if (lt_c1 (c_eq hu) (lb (le_mod (lb_var (pv 0)) (lb le_int))) (lb le_int))
  (lss_one (ls_ret (le_tup (la_cons (le_makeG M_Never (hr.mono (by decide)) (by rfl) pass0 (la_cons (le_mulS (lb_var (pv 1)) (lb_var (pv 2))) la_nil)) (la_cons (le_add (lb (le_str (l := [110, 101, 118, 101, 114, 32]) (by decide +kernel) (by decide +kernel))) (lb (le_mulS (lb_var (pv 1)) (lb_var (pv 2))))) (la_cons (le_var (pv 2)) la_nil))))))
  lss_nil)
  (lss_cons (ls_asg (fun _ h => ps_set (i := 3) nd rfl (Or.inl rfl) h) lg_n (le_mod (lb (le_fdiv (lb_var (pv 0)) (lb le_int))) (lb le_int)))
  (lss_cons (ls_asg (fun _ h => ps_set (i := 4) nd rfl (Or.inl rfl) h) lg_n (le_add (lb (le_add (lb (le_add (lb (le_add (lb (le_bty b_strOf (by rfl) T.g_str (by decide +kernel) (lab_cons (lb_var (pv 3)) lab_nil))) (lb (le_str (l := [32, 111, 102, 32]) (by decide +kernel) (by decide +kernel))))) (lb_var (pv 1)))) (lb (le_str (l := [32, 105, 110, 32]) (by decide +kernel) (by decide +kernel))))) (lb (le_bty b_strOf (by rfl) T.g_str (by decide +kernel) (lab_cons (lb_var (pv 2)) lab_nil)))))
  (lss_cons (ls_if (lt_c1 (c_eq hu) (lb (le_mod (lb_var (pv 0)) (lb le_int))) (lb le_int))
  (lss_one (ls_ret (le_tup (la_cons (le_makeG M_Most (hr.mono (by decide)) (by rfl) pass0 (la_cons (le_var (pv 3)) (la_cons (le_var (pv 1)) (la_cons (le_var (pv 2)) la_nil)))) (la_cons (le_add (lb (le_str (l := [109, 111, 115, 116, 32]) (by decide +kernel) (by decide +kernel))) (lb_var (pv 4))) (la_cons (le_var (pv 2)) la_nil))))))
  lss_nil)
  (lss_one (ls_ret (le_tup (la_cons (le_makeG M_Least (hr.mono (by decide)) (by rfl) pass0 (la_cons (le_var (pv 3)) (la_cons (le_var (pv 1)) (la_cons (le_var (pv 2)) la_nil)))) (la_cons (le_add (lb (le_str (l := [108, 101, 97, 115, 116, 32]) (by decide +kernel) (by decide +kernel))) (lb_var (pv 4))) (la_cons (le_var (pv 2)) la_nil))))))))))))
theorem b_l_person (T : Txt K mg A) (F_l_whole : FnG P w K mg base "_law_whole" 1 (S_l_whole A)) (N_reach_of : ∀ C S, M_reach_of A C S → MethOk P w K mg base CX0 2 "reach_of" C S) (N_rules_for : ∀ C S, M_rules_for A C S → MethOkN P w K mg base 1 "rules_for" [false] C S) (N_text : ∀ C S, M_text A C S → MethOk P w K mg base CX0 2 "text" C S) {f : Addr} (cdv : Value) (Ar : Around) (outer : List Env) (s : Shared) (H : Hp) (E : XK) (F0 : Hp) (hr : Room 2 (Ar.deeper (PyProof.Rows.envOfC "_law_person" (defScope s_l_person) s.heap.objs.size f cdv))) : LSs (cxOf CX0 P w K mg base ["_law_house", "_law_p", "_law_bound", "_law_found", "_law_one", "_law_due", "_law_reach"] "_law_person" (defScope s_l_person) f cdv Ar outer s H E).nox F0 H (defBody s_l_person) (d_l_person A) := by
  have nd := sc_l_person.nd
  have hu : (cxOf CX0 P w K mg base ["_law_house", "_law_p", "_law_bound", "_law_found", "_law_one", "_law_due", "_law_reach"] "_law_person" (defScope s_l_person) f cdv Ar outer s H E).nox.A.units + 64 < cLine := hr.units
  have hv : (cxOf CX0 P w K mg base ["_law_house", "_law_p", "_law_bound", "_law_found", "_law_one", "_law_due", "_law_reach"] "_law_person" (defScope s_l_person) f cdv Ar outer s H E).nox.A.units + 65 < cLine := room1 hr
  exact (lss_cons (ls_asg (fun _ h => ps_set (i := 3) nd rfl (Or.inl rfl) h) lg_n (le_methN (le_var (pv 0)) N_rules_for (hr.mono (by decide)) (lam_sh (le_var (pv 1)) lam_nil)))
  (lss_cons (ls_if (lt_bool (lw_or (lt_not (lt_val (le_blt b_isi (by rfl) T.g_isinstance (by decide +kernel) (lab_cons (lb_var (pv 3)) (lab_cons (lb (le_btv rfl T.g_list (by decide +kernel))) lab_nil))))) (lw_or1 (lt_c1 (c_ne hu) (lb (le_blt b_len (by rfl) T.g_len (by decide +kernel) (lab_cons (lb_var (pv 3)) lab_nil))) (lb (le_blt b_len (by rfl) T.g_len (by decide +kernel) (lab_cons (lb_var (pv 2)) lab_nil)))))))
  (lss_one (ls_ret le_bl))
  lss_nil)
  (lss_cons (ls_for PassesOwn.never rfl (li_zip (by rfl) T.g_zip (la_cons (le_var (pv 3)) (la_cons (le_var (pv 2)) la_nil))) (pg_tup rfl (pgs_cons (pg_name (i := 4) nd rfl (Or.inl rfl)) (pgs_cons (pg_name (i := 5) nd rfl (Or.inl rfl)) pgs_nil))) (lg_t (lgs_cons (lg_n (i := 4)) (lgs_cons (lg_n (i := 5)) lgs_nil)))
  (lss_cons (ls_if (lt_bool (lw_or (lt_not (lt_val (le_blt b_isi (by rfl) T.g_isinstance (by decide +kernel) (lab_cons (lb_var (pv 4)) (lab_cons (lb (le_btv rfl T.g_tuple (by decide +kernel))) lab_nil))))) (lw_or (lt_c1 (c_ne hu) (lb (le_blt b_len (by rfl) T.g_len (by decide +kernel) (lab_cons (lb_var (pv 4)) lab_nil))) (lb le_int)) (lw_or1 (lt_not (lt_val (le_callG F_l_whole (hr.mono (by decide)) (by rfl) pass0 (la_cons (le_ix (lb_var (pv 4)) (lb le_int)) la_nil))))))))
  (lss_one (ls_ret le_bl))
  lss_nil)
  (lss_one (ls_if (lt_bool (lw_or (lt_c1 (c_ne hu) (lb (le_ix (lb_var (pv 4)) (lb le_int))) (lb (le_ix (lb_var (pv 5)) (lb le_int)))) (lw_or1 (lt_c1 (c_ne hu) (lb (le_meth0 (CX := CX0) (E := E0) (le_ix (lb_var (pv 4)) (lb le_int)) N_text (hr.mono (by decide)) pass0)) (lb (le_ix (lb_var (pv 5)) (lb le_int)))))))
  (lss_one (ls_ret le_bl))
  lss_nil))))
  (lss_cons (ls_asg (fun _ h => ps_set (i := 6) nd rfl (Or.inl rfl) h) lg_n (le_meth (CX := CX0) (E := E0) (le_var (pv 0)) N_reach_of (hr.mono (by decide)) pass0 (la_cons (le_var (pv 1)) la_nil)))
  (lss_one (ls_ret (le_and (le_callG F_l_whole (hr.mono (by decide)) (by rfl) pass0 (la_cons (le_var (pv 6)) la_nil)) (le_one (le_c1 (c_eq hu) (lb_var (pv 6)) (lb (le_blt (b_maxL rfl) (by rfl) T.g_max (by decide +kernel) (lab_cons (lb (le_add (lb (le_lst (la_cons le_int la_nil))) (lb (le_lc (own := [("_law_due", 5)]) rfl nd (li_any (le_var (pv 2))) (blkOk_by (N := ["_law_house", "_law_p", "_law_bound", "_law_found", "_law_one", "_law_due", "_law_reach"]) (sc := defScope s_l_person) (by decide +kernel)) (fun _ _ _ _ _ => (pg_name (i := 5) nd rfl (Or.inl rfl))) (lg_n (i := 5)) (by decide) (fun _ _ _ _ _ => lts_nil) (fun _ _ _ _ _ => (le_ix (lb_var (pv 5)) (lb le_int))))))) lab_nil))))))))))))
theorem b_law (T : Txt K mg A) (F_l_cell_at : FnG P w K mg base "_law_cell_at" 1 (S_l_cell_at A)) (F_l_name : FnG P w K mg base "_law_name" 1 (S_l_name A)) (F_l_person : FnG P w K mg base "_law_person" 3 (S_l_person A)) (F_l_refused : FnG P w K mg base "_law_refused" 2 (S_l_refused A)) (F_l_rule : FnG P w K mg base "_law_rule" 3 (S_l_rule A)) (M_House : MkGM P w K mg base "House" A.cHouse 1 [false, false, false, true, false, false, true, true] (I_House A)) (M_Person : MkG P w K mg base "Person" A.cPerson 1 (I_Person A)) (N_plain : ∀ C S, M_plain A C S → MethOk P w K mg base CX0 1 "plain" C S) (N_rules_for : ∀ C S, M_rules_for A C S → MethOkN P w K mg base 1 "rules_for" [false] C S) (Y_place_of : ∀ C S, MX_place_of A C S → MethOkX P w K mg base 1 "place_of" [false] C S) {f : Addr} (cdv : Value) (Ar : Around) (outer : List Env) (s : Shared) (H : Hp) (E : XK) (F0 : Hp) (hr : Room 3 (Ar.deeper (PyProof.Rows.envOfC "law" (defScope s_law) s.heap.objs.size f cdv))) : LSs (cxOf CX0 P w K mg base ["_law_script", "_law_many", "_law_names", "_law_p", "_law_rules", "_law_told", "_law_cell", "_law_rule_here", "_law_words", "_law_reach", "_law_name_here", "_law_pairs", "_law_plain", "_law_persons", "_law_house", "_law_mine", "_law_bound", "_law_k", "_law_found"] "law" (defScope s_law) f cdv Ar outer s H E).nox F0 H (defBody s_law) (d_law A) := by
  have nd := sc_law.nd
  have hu : (cxOf CX0 P w K mg base ["_law_script", "_law_many", "_law_names", "_law_p", "_law_rules", "_law_told", "_law_cell", "_law_rule_here", "_law_words", "_law_reach", "_law_name_here", "_law_pairs", "_law_plain", "_law_persons", "_law_house", "_law_mine", "_law_bound", "_law_k", "_law_found"] "law" (defScope s_law) f cdv Ar outer s H E).nox.A.units + 64 < cLine := hr.units
  have hv : (cxOf CX0 P w K mg base ["_law_script", "_law_many", "_law_names", "_law_p", "_law_rules", "_law_told", "_law_cell", "_law_rule_here", "_law_words", "_law_reach", "_law_name_here", "_law_pairs", "_law_plain", "_law_persons", "_law_house", "_law_mine", "_law_bound", "_law_k", "_law_found"] "law" (defScope s_law) f cdv Ar outer s H E).nox.A.units + 65 < cLine := room1 hr
  exact (lss_cons (ls_asg (fun _ h => ps_set (i := 1) nd rfl (Or.inl rfl) h) lg_n (le_mod (lb (le_callG F_l_cell_at (hr.mono (by decide)) (by rfl) pass0 (la_cons (le_var (pv 0)) (la_cons le_int la_nil)))) (lb le_int)))
  (lss_cons (ls_setLc (i := 2) (own := [("_law_p", 3)]) rfl nd rfl rfl (sw_true rfl rfl rfl (by decide +kernel)) (li_rng1 (by rfl) T.g_range (lab_cons (lb_var (pv 1)) lab_nil)) (blkOk_by (N := ["_law_script", "_law_many", "_law_names", "_law_p", "_law_rules", "_law_told", "_law_cell", "_law_rule_here", "_law_words", "_law_reach", "_law_name_here", "_law_pairs", "_law_plain", "_law_persons", "_law_house", "_law_mine", "_law_bound", "_law_k", "_law_found"]) (sc := defScope s_law) (by decide +kernel)) (fun _ _ _ _ _ => (pg_name (i := 3) nd rfl (Or.inl rfl))) (lg_n (i := 3)) (by decide) (fun _ _ _ _ _ => lts_nil) (fun _ _ _ _ _ => (le_callG F_l_name (hr.mono (by decide)) (by rfl) pass0 (la_cons (le_callG F_l_cell_at (hr.mono (by decide)) (by rfl) pass0 (la_cons (le_var (pv 0)) (la_cons le_int la_nil))) (la_cons (le_var (pv 3)) la_nil)))))
  (lss_cons (ls_setN (i := 4) (fun _ h => ps_set (i := 4) nd rfl (Or.inl rfl) h) (ln_lst la_nil))
  (lss_cons (ls_setN (i := 5) (fun _ h => ps_set (i := 5) nd rfl (Or.inr rfl) h) (ln_lst la_nil))
  (lss_cons (ls_for PassesOwn.never rfl (li_any (le_sl (lb_var (pv 0)) (lo_some le_int) (lo_some le_int))) (pg_name (i := 6) nd rfl (Or.inl rfl)) (lg_n (i := 6))
  (lss_cons (ls_asg (fun _ h => ps_asg h (pg_tup rfl (pgs_cons (pg_name (i := 7) nd rfl (Or.inl rfl)) (pgs_cons (pg_name (i := 8) nd rfl (Or.inl rfl)) (pgs_cons (pg_name (i := 9) nd rfl (Or.inl rfl)) pgs_nil))))) (lg_t (lgs_cons (lg_n (i := 7)) (lgs_cons (lg_n (i := 8)) (lgs_cons (lg_n (i := 9)) lgs_nil)))) (le_callG F_l_rule (hr.mono (by decide)) (by rfl) pass0 (la_cons (le_fdiv (lb_var (pv 6)) (lb le_int)) la_nil)))
  (lss_cons (ls_asg (fun _ h => ps_set (i := 10) nd rfl (Or.inl rfl) h) lg_n (le_str (l := [97, 108, 108]) (by decide +kernel) (by decide +kernel)))
  (lss_cons (ls_if (lt_bool (lw_and (lt_c1 c_gt (lb_var (pv 1)) (lb le_int)) (lw_and1 (lt_c1 c_gt (lb (le_mod (lb_var (pv 6)) (lb le_int))) (lb le_int)))))
  (lss_one (ls_asg (fun _ h => ps_set (i := 10) nd rfl (Or.inl rfl) h) lg_n (le_ix (lb_var (pv 2)) (lb (le_mod (lb (le_fdiv (lb_var (pv 6)) (lb le_int))) (lb_var (pv 1)))))))
  lss_nil)
  (lss_cons (ls_app (i := 4) (pv 4) (le_tup (la_cons (le_var (pv 10)) (la_cons (le_var (pv 7)) la_nil))) (fun _ h => pe_bm PySem.F.plainAttrs_list PySem.F.slot_list_append PySem.F.type_list_append mt_append (pv 4) (pa_cons h pa_nil)))
  (lss_one (ls_app (i := 5) (pv 5) (le_tup (la_cons (le_var (pv 10)) (la_cons (le_var (pv 8)) (la_cons (le_var (pv 9)) la_nil)))) (fun _ h => pe_bm PySem.F.plainAttrs_list PySem.F.slot_list_append PySem.F.type_list_append mt_append (pv 5) (pa_cons h pa_nil)))))))))
  (lss_cons (ls_setN (i := 11) (fun _ h => ps_set (i := 11) nd rfl (Or.inl rfl) h) (ln_lst la_nil))
  (lss_cons (ls_if (lt_bool (lw_and (lt_c1 c_gt (lb_var (pv 1)) (lb le_int)) (lw_and1 (lt_c1 (c_eq hu) (lb (le_mod (lb (le_fdiv (lb (le_callG F_l_cell_at (hr.mono (by decide)) (by rfl) pass0 (la_cons (le_var (pv 0)) (la_cons le_int la_nil)))) (lb le_int))) (lb le_int))) (lb le_int)))))
  (lss_one (ls_setN (i := 11) (fun _ h => ps_set (i := 11) nd rfl (Or.inl rfl) h) (ln_lst (la_cons (le_tup (la_cons (le_str (l := [97, 112, 97, 114, 116]) (by decide +kernel) (by decide +kernel)) (la_cons (le_ix (lb_var (pv 2)) (lb le_int)) (la_cons (le_ix (lb_var (pv 2)) (lb (le_sub (lb_var (pv 1)) (lb le_int)))) la_nil)))) la_nil))))
  lss_nil)
  (lss_cons (ls_asg (fun _ h => ps_set (i := 12) nd rfl (Or.inl rfl) h) lg_n (le_and (le_c1 (c_eq0 hu) (lb_var (pv 4)) (lb (le_lst la_nil))) (le_one (le_c1 (c_eq0 hu) (lb_var (pv 11)) (lb (le_lst la_nil))))))
  (lss_cons (ls_setLcN (i := 13) (own := [("_law_name_here", 10)]) rfl nd rfl rfl (sw_true rfl rfl rfl (by decide +kernel)) (li_any (le_var (pv 2))) (blkOk_by (N := ["_law_script", "_law_many", "_law_names", "_law_p", "_law_rules", "_law_told", "_law_cell", "_law_rule_here", "_law_words", "_law_reach", "_law_name_here", "_law_pairs", "_law_plain", "_law_persons", "_law_house", "_law_mine", "_law_bound", "_law_k", "_law_found"]) (sc := defScope s_law) (by decide +kernel)) (fun _ _ _ _ _ => (pg_name (i := 10) nd rfl (Or.inl rfl))) (lg_n (i := 10)) (by decide) (fun _ _ _ _ _ => lts_nil) (fun _ _ _ _ _ => (le_makeG M_Person (hr.mono (by decide)) (by rfl) pass0 (la_cons (le_var (pv 10)) (la_cons (le_str (l := []) (by decide +kernel) (by decide +kernel)) (la_cons le_int (la_cons le_int (la_cons (le_str (l := []) (by decide +kernel) (by decide +kernel)) la_nil))))))))
  (lss_cons (ls_asg (fun _ h => ps_set (i := 14) nd rfl (Or.inl rfl) h) lg_n (le_makeGM M_House (hr.mono (by decide)) (by rfl) pass0 (lam_sh le_int (lam_sh (le_str (l := [68]) (by decide +kernel) (by decide +kernel)) (lam_sh (le_lst la_nil) (lam_bo (lb_var (pv 13)) (lam_sh (le_lst la_nil) (lam_sh (le_lst la_nil) (lam_bo (lb_var (pv 4)) (lam_bo (lb_var (pv 11)) lam_nil))))))))))
  (lss_cons (ls_clr (i := 4) (pe_bm0 PySem.F.plainAttrs_list PySem.F.slot_list_clear PySem.F.type_list_clear mt_clear (pv 4)))
  (lss_cons (ls_clr (i := 13) (pe_bm0 PySem.F.plainAttrs_list PySem.F.slot_list_clear PySem.F.type_list_clear mt_clear (pv 13)))
  (lss_cons (ls_clr (i := 11) (pe_bm0 PySem.F.plainAttrs_list PySem.F.slot_list_clear PySem.F.type_list_clear mt_clear (pv 11)))
  (lss_cons (ls_for PassesOwn.never rfl (li_rng1 (by rfl) T.g_range (lab_cons (lb_var (pv 1)) lab_nil)) (pg_name (i := 3) nd rfl (Or.inl rfl)) (lg_n (i := 3))
  (lss_cons (ls_asg (fun _ h => ps_set (i := 15) nd rfl (Or.inr rfl) h) lg_n (le_tup (la_cons (le_str (l := [97, 108, 108]) (by decide +kernel) (by decide +kernel)) (la_cons (le_ix (lb_var (pv 2)) (lb_var (pv 3))) la_nil))))
  (lss_cons (ls_setLc (i := 16) (own := [("_law_k", 17)]) rfl nd rfl rfl (sw_true rfl rfl rfl (by decide +kernel)) (li_rng1 (by rfl) T.g_range (lab_cons (lb (le_blt b_len (by rfl) T.g_len (by decide +kernel) (lab_cons (lb_var (pv 5)) lab_nil))) lab_nil)) (blkOk_by (N := ["_law_script", "_law_many", "_law_names", "_law_p", "_law_rules", "_law_told", "_law_cell", "_law_rule_here", "_law_words", "_law_reach", "_law_name_here", "_law_pairs", "_law_plain", "_law_persons", "_law_house", "_law_mine", "_law_bound", "_law_k", "_law_found"]) (sc := defScope s_law) (by decide +kernel)) (fun _ _ _ _ _ => (pg_name (i := 17) nd rfl (Or.inl rfl))) (lg_n (i := 17)) (by decide) (fun _ _ _ _ _ => lts_one (lt_c1 c_in (lb (le_ix (lb (le_ix (lb_var (pv 5)) (lb_var (pv 17)))) (lb le_int))) (lb_var (pv 15)))) (fun _ _ _ _ _ => (le_tup (la_cons (le_var (pv 17)) (la_cons (le_ix (lb (le_ix (lb_var (pv 5)) (lb_var (pv 17)))) (lb le_int)) (la_cons (le_ix (lb (le_ix (lb_var (pv 5)) (lb_var (pv 17)))) (lb le_int)) la_nil))))))
  (lss_cons (ls_if (lt_bool (lw_or (lt_not (lt_val (le_callG F_l_person (hr.mono (by decide)) (by rfl) pass0 (la_cons (le_var (pv 14)) (la_cons (le_var (pv 3)) (la_cons (le_var (pv 16)) la_nil)))))) (lw_or1 (lt_c1 (c_ne hu) (lb (le_ofX (lex_meth (fun _ _ => (le_var (pv 14))) Y_place_of (hr.mono (by decide)) (fun _ _ => (lam_sh (le_ix (lb_var (pv 2)) (lb_var (pv 3))) lam_nil))) takes0 xout0)) (lb_var (pv 3))))))
  (lss_one (ls_ret le_bl))
  lss_nil)
  (lss_cons (ls_clrN (ln_methN (le_var (pv 14)) N_rules_for (hr.mono (by decide)) (lam_sh (le_var (pv 3)) lam_nil)) (fun _ h1 => pe_bm0 PySem.F.plainAttrs_list PySem.F.slot_list_clear PySem.F.type_list_clear mt_clear h1))
  (lss_one (ls_if (lt_not (lt_val (le_callG F_l_person (hr.mono (by decide)) (by rfl) pass0 (la_cons (le_var (pv 14)) (la_cons (le_var (pv 3)) (la_cons (le_var (pv 16)) la_nil))))))
  (lss_one (ls_ret le_bl))
  lss_nil)))))))
  (lss_cons (ls_asg (fun _ h => ps_set (i := 18) nd rfl (Or.inl rfl) h) lg_n (le_meth0 (CX := CX0) (E := E0) (le_var (pv 14)) N_plain (hr.mono (by decide)) pass0))
  (lss_cons (ls_if (lt_bool (lw_or (lt_not (lt_val (le_blt b_isi (by rfl) T.g_isinstance (by decide +kernel) (lab_cons (lb_var (pv 18)) (lab_cons (lb (le_btv rfl T.g_bool (by decide +kernel))) lab_nil))))) (lw_or1 (lt_c1 (c_ne hu) (lb_var (pv 18)) (lb_var (pv 12))))))
  (lss_one (ls_ret le_bl))
  lss_nil)
  (lss_one (ls_ret (le_callG F_l_refused (hr.mono (by decide)) (by rfl) pass0 (la_cons (le_var (pv 14)) (la_cons (le_add (lb (le_ix (lb (le_add (lb_var (pv 2)) (lb (le_lst (la_cons (le_str (l := [97]) (by decide +kernel) (by decide +kernel)) la_nil))))) (lb le_int))) (lb (le_str (l := [122]) (by decide +kernel) (by decide +kernel)))) la_nil)))))))))))))))))))))
end
end K22
end
section
local macro_rules | `(tactic| walk_at "dl0") => `(tactic| simp only [DL.startR, DL.startRM, DL.slM, List.map_cons, List.map_nil, List.length_cons, List.length_nil, List.replicate_succ, List.replicate_zero, List.cons_append, List.nil_append, Nat.reduceAdd, Nat.reduceSub, Nat.zero_add, Nat.sub_self])
local macro_rules | `(tactic| walk_at "dl") => `(tactic| simp only [↓DL.q_var0, ↓DL.q_varS, ↓DL.q_varB0, ↓DL.q_varB0o, ↓DL.q_noL, ↓DL.q_noO, ↓DL.q_varBS, ↓DL.q_c, ↓DL.q_op, ↓DL.q_opK1, ↓DL.q_opK2, ↓DL.q_un, ↓DL.q_unK, ↓DL.q_add_ii, ↓DL.q_add_ss, ↓DL.q_add_ll, ↓DL.q_sub, ↓DL.q_mul, ↓DL.q_mod, ↓DL.q_fdiv, ↓DL.q_pow, ↓DL.q_neg, ↓DL.q_eq_bb, ↓DL.q_eq_ii, ↓DL.q_eq_ss, ↓DL.q_eq_lst, ↓DL.q_eq_tup, ↓DL.q_ne_bb, ↓DL.q_ne_ii, ↓DL.q_ne_ss, ↓DL.q_ne_lst, ↓DL.q_ne_tup, ↓DL.q_lt, ↓DL.q_le, ↓DL.q_gt, ↓DL.q_ge, ↓DL.q_isN, ↓DL.q_in_s, ↓DL.q_in_int_lst, ↓DL.q_in_int_tup, ↓DL.q_in_str_lst, ↓DL.q_in_str_tup, ↓DL.q_tst, ↓DL.q_tstK, ↓DL.q_tru, ↓DL.q_truK, ↓DL.q_teT, ↓DL.q_bT, ↓DL.q_andT, ↓DL.q_andK, ↓DL.q_orT, ↓DL.q_orK, ↓DL.q_notT, ↓DL.q_notK, ↓DL.q_veT, ↓DL.q_cT, ↓DL.q_andVK1, ↓DL.q_andVK, ↓DL.q_andV, ↓DL.q_orVK1, ↓DL.q_orVK, ↓DL.q_orV, ↓DL.q_notVK1, ↓DL.q_notVK, ↓DL.q_notV, ↓DL.q_ifEK, ↓DL.q_if, ↓DL.q_stT, ↓DL.q_ifSK, ↓DL.q_ifS, ↓DL.q_nil, ↓DL.q_cons, ↓DL.q_consK1, ↓DL.q_consK2, ↓DL.q_tup, ↓DL.q_tupK, ↓DL.q_lst, ↓DL.q_lstK0, ↓DL.q_sgnK, ↓DL.q_ix_l, ↓DL.q_ix_t, ↓DL.q_ix_s, ↓DL.q_noPart, ↓DL.q_someK, ↓DL.q_partK, ↓DL.q_part, ↓DL.q_sl, ↓DL.q_slK1, ↓DL.q_slK2, ↓DL.q_slK3, ↓DL.q_cut_l, ↓DL.q_cut_s, ↓DL.q_rvK3, ↓DL.q_rvK2, ↓DL.q_rvK1, ↓DL.q_rv, ↓DL.q_rev_l, ↓DL.q_rev_s, ↓DL.q_seq, ↓DL.q_next, ↓DL.q_brk, ↓DL.q_cont, ↓DL.q_dropK, ↓DL.q_drop, ↓DL.q_ret, ↓DL.q_retN, ↓DL.q_gNK, ↓DL.q_gN0, ↓DL.q_gNS, ↓DL.q_gNil, ↓DL.q_gCK, ↓DL.q_gCons, ↓DL.q_gT, ↓DL.q_asgK, ↓DL.q_asg, ↓DL.q_putS0, ↓DL.q_putSS, ↓DL.q_setNK, ↓DL.q_setN, ↓DL.q_getO0, ↓DL.q_getOS, ↓DL.q_appK2, ↓DL.q_appK1, ↓DL.q_appD, ↓DL.q_app, ↓DL.q_frzK, ↓DL.q_frz, ↓DL.q_apK, ↓DL.q_call, ↓DL.q_objK, ↓DL.q_mkK, ↓DL.q_make, ↓DL.q_argK, ↓DL.q_args, ↓DL.q_itK, ↓DL.q_it, ↓DL.q_rngK1, ↓DL.q_rng1, ↓DL.q_rng1A, ↓DL.q_rngK2, ↓DL.q_rng2, ↓DL.q_rng2A, ↓DL.q_zipK3, ↓DL.q_zipK2, ↓DL.q_zipK1, ↓DL.q_zip, ↓DL.q_zipA, ↓DL.q_enumK, ↓DL.q_enum, ↓DL.q_enumA, ↓DL.q_forK, ↓DL.q_for, ↓DL.q_lstK, ↓DL.q_lcK, ↓DL.q_lc, ↓DL.q_yes, ↓DL.q_fldK, ↓DL.q_fldC, ↓DL.q_onFld, ↓DL.q_methK, ↓DL.q_meth, ↓DL.q_onMeth, ↓DL.q_methK2, ↓DL.q_len_s, ↓DL.q_len_l, ↓DL.q_len_t, ↓DL.q_sumK, ↓DL.q_sum, ↓DL.q_allK, ↓DL.q_all, ↓DL.q_anyK, ↓DL.q_any, ↓DL.q_max2, ↓DL.q_min2, ↓DL.q_abs, ↓DL.q_list_l, ↓DL.q_list_t, ↓DL.q_blK, ↓DL.q_isiK, ↓DL.q_isi, ↓DL.q_joinK4, ↓DL.q_joinK3, ↓DL.q_joinK2, ↓DL.q_joinK1, ↓DL.q_join, ↓DL.q_joinV, ↓DL.q_inK, ↓DL.q_inOne, ↓DL.q_inCK, ↓DL.q_inCons, ↓DL.q_bitAnd, ↓DL.q_shr, ↓DL.q_stI, ↓DL.q_stIK1, ↓DL.q_stID, ↓DL.q_stIK2, ↓DL.q_stIK3, ↓DL.q_chain, ↓DL.q_chK1, ↓DL.q_chK2, ↓DL.q_chK3, ↓DL.q_chK4, ↓DL.q_chT, ↓DL.q_isB, ↓DL.q_inT, ↓DL.q_varB0b, ↓DL.q_clr, ↓DL.q_clrK, ↓DL.q_retOK, ↓DL.q_retO, ↓DL.q_retL, ↓DL.q_appN, ↓DL.q_appNK1, ↓DL.q_appNK2, ↓DL.q_clrN, ↓DL.q_clrNK, ↓DL.q_addL, ↓DL.q_slL, ↓DL.q_slLK1, ↓DL.q_slLK2, ↓DL.q_slLK3, ↓DL.q_cutL, ↓DL.onBl_bl, ↓DL.onInt_int, ↓DL.onStr_str, ↓DL.onOpt_some, ↓DL.ifB_true, ↓DL.ifB_false, DL.onBl_bl, DL.onInt_int, DL.onStr_str, DL.onOpt_some, DL.ifB_true, DL.ifB_false, DL.tyD_bl, DL.tyD_int, DL.tyD_str, DL.tyD_lst, DL.tyD_tup, DL.tyD_non, DL.truD_bl, DL.truD_int, DL.truD_str, DL.truD_lst, DL.q_it_lst, DL.q_it_tup, DL.q_it_s, DL.q_zi_l, DL.q_zi_s, DL.strsD_map, DL.intsD_map, DL.blsD_map, DL.kb1, DL.kb2, DL.kb3, DL.kb4, DL.kb5, DL.kb6, DL.kb7, DL.kb8, DL.kb9, DL.kb10, DL.kb11, DL.kb12, Bool.not_true, Bool.not_false, decide_true, decide_false, true_and])
local macro_rules | `(tactic| walk_at "dq") => `(tactic| simp only [K22.r_person, K22.r_house, K22.r_never, K22.r_tally, K22.r_place, K22.r_rules, K22.r_reachof, K22.r_plain, K22.r_nreach, K22.r_treach, K22.r_ntext, K22.r_mtext, K22.r_ltext, K22.r_shown, K22.r_cell, K22.r_whole, K22.r_name, K22.r_lrule, K22.r_refused, K22.r_lperson, K22.mem_1, K22.mem_3a, K22.mem_3b, K22.mem_3c, K22.mem_4a, K22.mem_4c, K22.mem_4d, K22.numsD, K22.rotaD, K22.persD, List.lookup, true_and, beq_self_eq_true, DL.fn_arcs_costs, DL.fe_arcs_costs, DL.fn_arcs_house, DL.fe_arcs_house, DL.fn_arcs_many, DL.fe_arcs_many, DL.fn_arcs_marks, DL.fe_arcs_marks, DL.fn_arcs_needs, DL.fe_arcs_needs, DL.fn_arcs_whole, DL.fe_arcs_whole, DL.fn_begin_kept, DL.fe_begin_kept, DL.fn_begin_most, DL.fe_begin_most, DL.fn_begin_rules, DL.fe_begin_rules, DL.fn_carried_level, DL.fe_carried_level, DL.fn_carried_most, DL.fe_carried_most, DL.fn_carried_name, DL.fe_carried_name, DL.fn_carried_past, DL.fe_carried_past, DL.fn_carried_skills, DL.fe_carried_skills, DL.fn_carried_weight, DL.fe_carried_weight, DL.fn_carried_wishes, DL.fe_carried_wishes, DL.fn_costs_arcs, DL.fe_costs_arcs, DL.fn_costs_house, DL.fe_costs_house, DL.fn_costs_many, DL.fe_costs_many, DL.fn_costs_marks, DL.fe_costs_marks, DL.fn_costs_needs, DL.fe_costs_needs, DL.fn_costs_whole, DL.fe_costs_whole, DL.fn_days_kinds, DL.fe_days_kinds, DL.fn_days_leave, DL.fe_days_leave, DL.fn_days_many, DL.fe_days_many, DL.fn_days_marks, DL.fe_days_marks, DL.fn_days_needs, DL.fe_days_needs, DL.fn_days_pairs, DL.fe_days_pairs, DL.fn_days_persons, DL.fe_days_persons, DL.fn_days_rules, DL.fe_days_rules, DL.fn_days_wishes, DL.fe_days_wishes, DL.fn_flows_net, DL.fe_flows_net, DL.fn_flows_prices, DL.fe_flows_prices, DL.fn_flows_spare, DL.fe_flows_spare, DL.fn_flows_touching, DL.fe_flows_touching, DL.fn_house_arcs, DL.fe_house_arcs, DL.fn_house_costs, DL.fe_house_costs, DL.fn_house_many, DL.fe_house_many, DL.fn_house_marks, DL.fe_house_marks, DL.fn_house_needs, DL.fe_house_needs, DL.fn_house_whole, DL.fe_house_whole, DL.fn_kept_begin, DL.fe_kept_begin, DL.fn_kept_most, DL.fe_kept_most, DL.fn_kept_rules, DL.fe_kept_rules, DL.fn_kinds_days, DL.fe_kinds_days, DL.fn_kinds_leave, DL.fe_kinds_leave, DL.fn_kinds_needs, DL.fe_kinds_needs, DL.fn_kinds_pairs, DL.fe_kinds_pairs, DL.fn_kinds_persons, DL.fe_kinds_persons, DL.fn_kinds_rules, DL.fe_kinds_rules, DL.fn_kinds_wishes, DL.fe_kinds_wishes, DL.fn_leave_days, DL.fe_leave_days, DL.fn_leave_kinds, DL.fe_leave_kinds, DL.fn_leave_needs, DL.fe_leave_needs, DL.fn_leave_pairs, DL.fe_leave_pairs, DL.fn_leave_persons, DL.fe_leave_persons, DL.fn_leave_rules, DL.fe_leave_rules, DL.fn_leave_wishes, DL.fe_leave_wishes, DL.fn_left_right, DL.fe_left_right, DL.fn_level_carried, DL.fe_level_carried, DL.fn_many_arcs, DL.fe_many_arcs, DL.fn_many_costs, DL.fe_many_costs, DL.fn_many_days, DL.fe_many_days, DL.fn_many_house, DL.fe_many_house, DL.fn_many_marks, DL.fe_many_marks, DL.fn_many_needs, DL.fe_many_needs, DL.fn_many_whole, DL.fe_many_whole, DL.fn_marks_arcs, DL.fe_marks_arcs, DL.fn_marks_costs, DL.fe_marks_costs, DL.fn_marks_days, DL.fe_marks_days, DL.fn_marks_house, DL.fe_marks_house, DL.fn_marks_many, DL.fe_marks_many, DL.fn_marks_needs, DL.fe_marks_needs, DL.fn_marks_whole, DL.fe_marks_whole, DL.fn_most_begin, DL.fe_most_begin, DL.fn_most_carried, DL.fe_most_carried, DL.fn_most_kept, DL.fe_most_kept, DL.fn_most_name, DL.fe_most_name, DL.fn_most_past, DL.fe_most_past, DL.fn_most_rules, DL.fe_most_rules, DL.fn_most_skills, DL.fe_most_skills, DL.fn_name_carried, DL.fe_name_carried, DL.fn_name_most, DL.fe_name_most, DL.fn_name_past, DL.fe_name_past, DL.fn_name_skills, DL.fe_name_skills, DL.fn_needs_arcs, DL.fe_needs_arcs, DL.fn_needs_costs, DL.fe_needs_costs, DL.fn_needs_days, DL.fe_needs_days, DL.fn_needs_house, DL.fe_needs_house, DL.fn_needs_kinds, DL.fe_needs_kinds, DL.fn_needs_leave, DL.fe_needs_leave, DL.fn_needs_many, DL.fe_needs_many, DL.fn_needs_marks, DL.fe_needs_marks, DL.fn_needs_pairs, DL.fe_needs_pairs, DL.fn_needs_persons, DL.fe_needs_persons, DL.fn_needs_rules, DL.fe_needs_rules, DL.fn_needs_whole, DL.fe_needs_whole, DL.fn_needs_wishes, DL.fe_needs_wishes, DL.fn_net_flows, DL.fe_net_flows, DL.fn_net_prices, DL.fe_net_prices, DL.fn_net_spare, DL.fe_net_spare, DL.fn_net_touching, DL.fe_net_touching, DL.fn_pairs_days, DL.fe_pairs_days, DL.fn_pairs_kinds, DL.fe_pairs_kinds, DL.fn_pairs_leave, DL.fe_pairs_leave, DL.fn_pairs_needs, DL.fe_pairs_needs, DL.fn_pairs_persons, DL.fe_pairs_persons, DL.fn_pairs_rules, DL.fe_pairs_rules, DL.fn_pairs_wishes, DL.fe_pairs_wishes, DL.fn_paper_rota, DL.fe_paper_rota, DL.fn_paper_total, DL.fe_paper_total, DL.fn_past_carried, DL.fe_past_carried, DL.fn_past_most, DL.fe_past_most, DL.fn_past_name, DL.fe_past_name, DL.fn_past_skills, DL.fe_past_skills, DL.fn_persons_days, DL.fe_persons_days, DL.fn_persons_kinds, DL.fe_persons_kinds, DL.fn_persons_leave, DL.fe_persons_leave, DL.fn_persons_needs, DL.fe_persons_needs, DL.fn_persons_pairs, DL.fe_persons_pairs, DL.fn_persons_rules, DL.fe_persons_rules, DL.fn_persons_wishes, DL.fe_persons_wishes, DL.fn_prices_flows, DL.fe_prices_flows, DL.fn_prices_net, DL.fe_prices_net, DL.fn_prices_spare, DL.fe_prices_spare, DL.fn_prices_touching, DL.fe_prices_touching, DL.fn_right_left, DL.fe_right_left, DL.fn_rota_paper, DL.fe_rota_paper, DL.fn_rota_total, DL.fe_rota_total, DL.fn_rules_begin, DL.fe_rules_begin, DL.fn_rules_days, DL.fe_rules_days, DL.fn_rules_kept, DL.fe_rules_kept, DL.fn_rules_kinds, DL.fe_rules_kinds, DL.fn_rules_leave, DL.fe_rules_leave, DL.fn_rules_most, DL.fe_rules_most, DL.fn_rules_needs, DL.fe_rules_needs, DL.fn_rules_pairs, DL.fe_rules_pairs, DL.fn_rules_persons, DL.fe_rules_persons, DL.fn_rules_wishes, DL.fe_rules_wishes, DL.fn_skills_carried, DL.fe_skills_carried, DL.fn_skills_most, DL.fe_skills_most, DL.fn_skills_name, DL.fe_skills_name, DL.fn_skills_past, DL.fe_skills_past, DL.fn_spare_flows, DL.fe_spare_flows, DL.fn_spare_net, DL.fe_spare_net, DL.fn_spare_prices, DL.fe_spare_prices, DL.fn_spare_touching, DL.fe_spare_touching, DL.fn_total_paper, DL.fe_total_paper, DL.fn_total_rota, DL.fe_total_rota, DL.fn_touching_flows, DL.fe_touching_flows, DL.fn_touching_net, DL.fe_touching_net, DL.fn_touching_prices, DL.fe_touching_prices, DL.fn_touching_spare, DL.fe_touching_spare, DL.fn_weight_carried, DL.fe_weight_carried, DL.fn_weight_wishes, DL.fe_weight_wishes, DL.fn_whole_arcs, DL.fe_whole_arcs, DL.fn_whole_costs, DL.fe_whole_costs, DL.fn_whole_house, DL.fe_whole_house, DL.fn_whole_many, DL.fe_whole_many, DL.fn_whole_marks, DL.fe_whole_marks, DL.fn_whole_needs, DL.fe_whole_needs, DL.fn_wishes_carried, DL.fe_wishes_carried, DL.fn_wishes_days, DL.fe_wishes_days, DL.fn_wishes_kinds, DL.fe_wishes_kinds, DL.fn_wishes_leave, DL.fe_wishes_leave, DL.fn_wishes_needs, DL.fe_wishes_needs, DL.fn_wishes_pairs, DL.fe_wishes_pairs, DL.fn_wishes_persons, DL.fe_wishes_persons, DL.fn_wishes_rules, DL.fe_wishes_rules, DL.fn_wishes_weight, DL.fe_wishes_weight, DL.fm_bad_arcs, DL.fm_bad_begin, DL.fm_bad_carried, DL.fm_bad_costs, DL.fm_bad_days, DL.fm_bad_flows, DL.fm_bad_house, DL.fm_bad_inner, DL.fm_bad_kept, DL.fm_bad_kinds, DL.fm_bad_leave, DL.fm_bad_left, DL.fm_bad_level, DL.fm_bad_many, DL.fm_bad_marks, DL.fm_bad_most, DL.fm_bad_name, DL.fm_bad_needs, DL.fm_bad_net, DL.fm_bad_pages, DL.fm_bad_pairs, DL.fm_bad_paper, DL.fm_bad_past, DL.fm_bad_persons, DL.fm_bad_places, DL.fm_bad_prices, DL.fm_bad_right, DL.fm_bad_rota, DL.fm_bad_rules, DL.fm_bad_skills, DL.fm_bad_spare, DL.fm_bad_total, DL.fm_bad_touching, DL.fm_bad_weight, DL.fm_bad_whole, DL.fm_bad_wishes, DL.fm_bad_word, DL.fm_reach_arcs, DL.fm_reach_begin, DL.fm_reach_carried, DL.fm_reach_costs, DL.fm_reach_days, DL.fm_reach_flows, DL.fm_reach_house, DL.fm_reach_inner, DL.fm_reach_kept, DL.fm_reach_kinds, DL.fm_reach_leave, DL.fm_reach_left, DL.fm_reach_level, DL.fm_reach_many, DL.fm_reach_marks, DL.fm_reach_most, DL.fm_reach_name, DL.fm_reach_needs, DL.fm_reach_net, DL.fm_reach_pages, DL.fm_reach_pairs, DL.fm_reach_paper, DL.fm_reach_past, DL.fm_reach_persons, DL.fm_reach_places, DL.fm_reach_prices, DL.fm_reach_right, DL.fm_reach_rota, DL.fm_reach_rules, DL.fm_reach_skills, DL.fm_reach_spare, DL.fm_reach_total, DL.fm_reach_touching, DL.fm_reach_weight, DL.fm_reach_whole, DL.fm_reach_wishes, DL.fm_reach_word, DL.fm_text_arcs, DL.fm_text_begin, DL.fm_text_carried, DL.fm_text_costs, DL.fm_text_days, DL.fm_text_flows, DL.fm_text_house, DL.fm_text_inner, DL.fm_text_kept, DL.fm_text_kinds, DL.fm_text_leave, DL.fm_text_left, DL.fm_text_level, DL.fm_text_many, DL.fm_text_marks, DL.fm_text_most, DL.fm_text_name, DL.fm_text_needs, DL.fm_text_net, DL.fm_text_pages, DL.fm_text_pairs, DL.fm_text_paper, DL.fm_text_past, DL.fm_text_persons, DL.fm_text_places, DL.fm_text_prices, DL.fm_text_right, DL.fm_text_rota, DL.fm_text_rules, DL.fm_text_skills, DL.fm_text_spare, DL.fm_text_total, DL.fm_text_touching, DL.fm_text_weight, DL.fm_text_whole, DL.fm_text_wishes, DL.fm_text_word, DL.fm_height_arcs, DL.fm_height_begin, DL.fm_height_carried, DL.fm_height_costs, DL.fm_height_days, DL.fm_height_flows, DL.fm_height_house, DL.fm_height_inner, DL.fm_height_kept, DL.fm_height_kinds, DL.fm_height_leave, DL.fm_height_left, DL.fm_height_level, DL.fm_height_many, DL.fm_height_marks, DL.fm_height_most, DL.fm_height_name, DL.fm_height_needs, DL.fm_height_net, DL.fm_height_pages, DL.fm_height_pairs, DL.fm_height_paper, DL.fm_height_past, DL.fm_height_persons, DL.fm_height_places, DL.fm_height_prices, DL.fm_height_right, DL.fm_height_rota, DL.fm_height_rules, DL.fm_height_skills, DL.fm_height_spare, DL.fm_height_total, DL.fm_height_touching, DL.fm_height_weight, DL.fm_height_whole, DL.fm_height_wishes, DL.fm_height_word, DL.fm_joint_arcs, DL.fm_joint_begin, DL.fm_joint_carried, DL.fm_joint_costs, DL.fm_joint_days, DL.fm_joint_flows, DL.fm_joint_house, DL.fm_joint_inner, DL.fm_joint_kept, DL.fm_joint_kinds, DL.fm_joint_leave, DL.fm_joint_left, DL.fm_joint_level, DL.fm_joint_many, DL.fm_joint_marks, DL.fm_joint_most, DL.fm_joint_name, DL.fm_joint_needs, DL.fm_joint_net, DL.fm_joint_pages, DL.fm_joint_pairs, DL.fm_joint_paper, DL.fm_joint_past, DL.fm_joint_persons, DL.fm_joint_places, DL.fm_joint_prices, DL.fm_joint_right, DL.fm_joint_rota, DL.fm_joint_rules, DL.fm_joint_skills, DL.fm_joint_spare, DL.fm_joint_total, DL.fm_joint_touching, DL.fm_joint_weight, DL.fm_joint_whole, DL.fm_joint_wishes, DL.fm_joint_word, DL.fm_counted_arcs, DL.fm_counted_begin, DL.fm_counted_carried, DL.fm_counted_costs, DL.fm_counted_days, DL.fm_counted_flows, DL.fm_counted_house, DL.fm_counted_inner, DL.fm_counted_kept, DL.fm_counted_kinds, DL.fm_counted_leave, DL.fm_counted_left, DL.fm_counted_level, DL.fm_counted_many, DL.fm_counted_marks, DL.fm_counted_most, DL.fm_counted_name, DL.fm_counted_needs, DL.fm_counted_net, DL.fm_counted_pages, DL.fm_counted_pairs, DL.fm_counted_paper, DL.fm_counted_past, DL.fm_counted_persons, DL.fm_counted_places, DL.fm_counted_prices, DL.fm_counted_right, DL.fm_counted_rota, DL.fm_counted_rules, DL.fm_counted_skills, DL.fm_counted_spare, DL.fm_counted_total, DL.fm_counted_touching, DL.fm_counted_weight, DL.fm_counted_whole, DL.fm_counted_wishes, DL.fm_counted_word, DL.fm_shown_arcs, DL.fm_shown_begin, DL.fm_shown_carried, DL.fm_shown_costs, DL.fm_shown_days, DL.fm_shown_flows, DL.fm_shown_house, DL.fm_shown_inner, DL.fm_shown_kept, DL.fm_shown_kinds, DL.fm_shown_leave, DL.fm_shown_left, DL.fm_shown_level, DL.fm_shown_many, DL.fm_shown_marks, DL.fm_shown_most, DL.fm_shown_name, DL.fm_shown_needs, DL.fm_shown_net, DL.fm_shown_pages, DL.fm_shown_pairs, DL.fm_shown_paper, DL.fm_shown_past, DL.fm_shown_persons, DL.fm_shown_places, DL.fm_shown_prices, DL.fm_shown_right, DL.fm_shown_rota, DL.fm_shown_rules, DL.fm_shown_skills, DL.fm_shown_spare, DL.fm_shown_total, DL.fm_shown_touching, DL.fm_shown_weight, DL.fm_shown_whole, DL.fm_shown_wishes, DL.fm_shown_word, DL.fm_need_arcs, DL.fm_need_begin, DL.fm_need_carried, DL.fm_need_costs, DL.fm_need_days, DL.fm_need_flows, DL.fm_need_house, DL.fm_need_inner, DL.fm_need_kept, DL.fm_need_kinds, DL.fm_need_leave, DL.fm_need_left, DL.fm_need_level, DL.fm_need_many, DL.fm_need_marks, DL.fm_need_most, DL.fm_need_name, DL.fm_need_needs, DL.fm_need_net, DL.fm_need_pages, DL.fm_need_pairs, DL.fm_need_paper, DL.fm_need_past, DL.fm_need_persons, DL.fm_need_places, DL.fm_need_prices, DL.fm_need_right, DL.fm_need_rota, DL.fm_need_rules, DL.fm_need_skills, DL.fm_need_spare, DL.fm_need_total, DL.fm_need_touching, DL.fm_need_weight, DL.fm_need_whole, DL.fm_need_wishes, DL.fm_need_word, DL.fm_may_arcs, DL.fm_may_begin, DL.fm_may_carried, DL.fm_may_costs, DL.fm_may_days, DL.fm_may_flows, DL.fm_may_house, DL.fm_may_inner, DL.fm_may_kept, DL.fm_may_kinds, DL.fm_may_leave, DL.fm_may_left, DL.fm_may_level, DL.fm_may_many, DL.fm_may_marks, DL.fm_may_most, DL.fm_may_name, DL.fm_may_needs, DL.fm_may_net, DL.fm_may_pages, DL.fm_may_pairs, DL.fm_may_paper, DL.fm_may_past, DL.fm_may_persons, DL.fm_may_places, DL.fm_may_prices, DL.fm_may_right, DL.fm_may_rota, DL.fm_may_rules, DL.fm_may_skills, DL.fm_may_spare, DL.fm_may_total, DL.fm_may_touching, DL.fm_may_weight, DL.fm_may_whole, DL.fm_may_wishes, DL.fm_may_word, DL.fm_place_of_arcs, DL.fm_place_of_begin, DL.fm_place_of_carried, DL.fm_place_of_costs, DL.fm_place_of_days, DL.fm_place_of_flows, DL.fm_place_of_house, DL.fm_place_of_inner, DL.fm_place_of_kept, DL.fm_place_of_kinds, DL.fm_place_of_leave, DL.fm_place_of_left, DL.fm_place_of_level, DL.fm_place_of_many, DL.fm_place_of_marks, DL.fm_place_of_most, DL.fm_place_of_name, DL.fm_place_of_needs, DL.fm_place_of_net, DL.fm_place_of_pages, DL.fm_place_of_pairs, DL.fm_place_of_paper, DL.fm_place_of_past, DL.fm_place_of_persons, DL.fm_place_of_places, DL.fm_place_of_prices, DL.fm_place_of_right, DL.fm_place_of_rota, DL.fm_place_of_rules, DL.fm_place_of_skills, DL.fm_place_of_spare, DL.fm_place_of_total, DL.fm_place_of_touching, DL.fm_place_of_weight, DL.fm_place_of_whole, DL.fm_place_of_wishes, DL.fm_place_of_word, DL.fm_rules_for_arcs, DL.fm_rules_for_begin, DL.fm_rules_for_carried, DL.fm_rules_for_costs, DL.fm_rules_for_days, DL.fm_rules_for_flows, DL.fm_rules_for_house, DL.fm_rules_for_inner, DL.fm_rules_for_kept, DL.fm_rules_for_kinds, DL.fm_rules_for_leave, DL.fm_rules_for_left, DL.fm_rules_for_level, DL.fm_rules_for_many, DL.fm_rules_for_marks, DL.fm_rules_for_most, DL.fm_rules_for_name, DL.fm_rules_for_needs, DL.fm_rules_for_net, DL.fm_rules_for_pages, DL.fm_rules_for_pairs, DL.fm_rules_for_paper, DL.fm_rules_for_past, DL.fm_rules_for_persons, DL.fm_rules_for_places, DL.fm_rules_for_prices, DL.fm_rules_for_right, DL.fm_rules_for_rota, DL.fm_rules_for_rules, DL.fm_rules_for_skills, DL.fm_rules_for_spare, DL.fm_rules_for_total, DL.fm_rules_for_touching, DL.fm_rules_for_weight, DL.fm_rules_for_whole, DL.fm_rules_for_wishes, DL.fm_rules_for_word, DL.fm_reach_of_arcs, DL.fm_reach_of_begin, DL.fm_reach_of_carried, DL.fm_reach_of_costs, DL.fm_reach_of_days, DL.fm_reach_of_flows, DL.fm_reach_of_house, DL.fm_reach_of_inner, DL.fm_reach_of_kept, DL.fm_reach_of_kinds, DL.fm_reach_of_leave, DL.fm_reach_of_left, DL.fm_reach_of_level, DL.fm_reach_of_many, DL.fm_reach_of_marks, DL.fm_reach_of_most, DL.fm_reach_of_name, DL.fm_reach_of_needs, DL.fm_reach_of_net, DL.fm_reach_of_pages, DL.fm_reach_of_pairs, DL.fm_reach_of_paper, DL.fm_reach_of_past, DL.fm_reach_of_persons, DL.fm_reach_of_places, DL.fm_reach_of_prices, DL.fm_reach_of_right, DL.fm_reach_of_rota, DL.fm_reach_of_rules, DL.fm_reach_of_skills, DL.fm_reach_of_spare, DL.fm_reach_of_total, DL.fm_reach_of_touching, DL.fm_reach_of_weight, DL.fm_reach_of_whole, DL.fm_reach_of_wishes, DL.fm_reach_of_word, DL.fm_plain_arcs, DL.fm_plain_begin, DL.fm_plain_carried, DL.fm_plain_costs, DL.fm_plain_days, DL.fm_plain_flows, DL.fm_plain_house, DL.fm_plain_inner, DL.fm_plain_kept, DL.fm_plain_kinds, DL.fm_plain_leave, DL.fm_plain_left, DL.fm_plain_level, DL.fm_plain_many, DL.fm_plain_marks, DL.fm_plain_most, DL.fm_plain_name, DL.fm_plain_needs, DL.fm_plain_net, DL.fm_plain_pages, DL.fm_plain_pairs, DL.fm_plain_paper, DL.fm_plain_past, DL.fm_plain_persons, DL.fm_plain_places, DL.fm_plain_prices, DL.fm_plain_right, DL.fm_plain_rota, DL.fm_plain_rules, DL.fm_plain_skills, DL.fm_plain_spare, DL.fm_plain_total, DL.fm_plain_touching, DL.fm_plain_weight, DL.fm_plain_whole, DL.fm_plain_wishes, DL.fm_plain_word, DL.fm_of_count_arcs, DL.fm_of_count_begin, DL.fm_of_count_carried, DL.fm_of_count_costs, DL.fm_of_count_days, DL.fm_of_count_flows, DL.fm_of_count_house, DL.fm_of_count_inner, DL.fm_of_count_kept, DL.fm_of_count_kinds, DL.fm_of_count_leave, DL.fm_of_count_left, DL.fm_of_count_level, DL.fm_of_count_many, DL.fm_of_count_marks, DL.fm_of_count_most, DL.fm_of_count_name, DL.fm_of_count_needs, DL.fm_of_count_net, DL.fm_of_count_pages, DL.fm_of_count_pairs, DL.fm_of_count_paper, DL.fm_of_count_past, DL.fm_of_count_persons, DL.fm_of_count_places, DL.fm_of_count_prices, DL.fm_of_count_right, DL.fm_of_count_rota, DL.fm_of_count_rules, DL.fm_of_count_skills, DL.fm_of_count_spare, DL.fm_of_count_total, DL.fm_of_count_touching, DL.fm_of_count_weight, DL.fm_of_count_whole, DL.fm_of_count_wishes, DL.fm_of_count_word, DL.fm_of_mark_arcs, DL.fm_of_mark_begin, DL.fm_of_mark_carried, DL.fm_of_mark_costs, DL.fm_of_mark_days, DL.fm_of_mark_flows, DL.fm_of_mark_house, DL.fm_of_mark_inner, DL.fm_of_mark_kept, DL.fm_of_mark_kinds, DL.fm_of_mark_leave, DL.fm_of_mark_left, DL.fm_of_mark_level, DL.fm_of_mark_many, DL.fm_of_mark_marks, DL.fm_of_mark_most, DL.fm_of_mark_name, DL.fm_of_mark_needs, DL.fm_of_mark_net, DL.fm_of_mark_pages, DL.fm_of_mark_pairs, DL.fm_of_mark_paper, DL.fm_of_mark_past, DL.fm_of_mark_persons, DL.fm_of_mark_places, DL.fm_of_mark_prices, DL.fm_of_mark_right, DL.fm_of_mark_rota, DL.fm_of_mark_rules, DL.fm_of_mark_skills, DL.fm_of_mark_spare, DL.fm_of_mark_total, DL.fm_of_mark_touching, DL.fm_of_mark_weight, DL.fm_of_mark_whole, DL.fm_of_mark_wishes, DL.fm_of_mark_word, DL.fm_floor_arcs, DL.fm_floor_begin, DL.fm_floor_carried, DL.fm_floor_costs, DL.fm_floor_days, DL.fm_floor_flows, DL.fm_floor_house, DL.fm_floor_inner, DL.fm_floor_kept, DL.fm_floor_kinds, DL.fm_floor_leave, DL.fm_floor_left, DL.fm_floor_level, DL.fm_floor_many, DL.fm_floor_marks, DL.fm_floor_most, DL.fm_floor_name, DL.fm_floor_needs, DL.fm_floor_net, DL.fm_floor_pages, DL.fm_floor_pairs, DL.fm_floor_paper, DL.fm_floor_past, DL.fm_floor_persons, DL.fm_floor_places, DL.fm_floor_prices, DL.fm_floor_right, DL.fm_floor_rota, DL.fm_floor_rules, DL.fm_floor_skills, DL.fm_floor_spare, DL.fm_floor_total, DL.fm_floor_touching, DL.fm_floor_weight, DL.fm_floor_whole, DL.fm_floor_wishes, DL.fm_floor_word, DL.fm_stands_arcs, DL.fm_stands_begin, DL.fm_stands_carried, DL.fm_stands_costs, DL.fm_stands_days, DL.fm_stands_flows, DL.fm_stands_house, DL.fm_stands_inner, DL.fm_stands_kept, DL.fm_stands_kinds, DL.fm_stands_leave, DL.fm_stands_left, DL.fm_stands_level, DL.fm_stands_many, DL.fm_stands_marks, DL.fm_stands_most, DL.fm_stands_name, DL.fm_stands_needs, DL.fm_stands_net, DL.fm_stands_pages, DL.fm_stands_pairs, DL.fm_stands_paper, DL.fm_stands_past, DL.fm_stands_persons, DL.fm_stands_places, DL.fm_stands_prices, DL.fm_stands_right, DL.fm_stands_rota, DL.fm_stands_rules, DL.fm_stands_skills, DL.fm_stands_spare, DL.fm_stands_total, DL.fm_stands_touching, DL.fm_stands_weight, DL.fm_stands_whole, DL.fm_stands_wishes, DL.fm_stands_word, DL.putD, List.lookup, if_false, if_true, ite_true, ite_false, true_and, beq_self_eq_true, DL.len0, DL.len1, DL.len2, DL.len3, DL.len4, DL.ixz0, DL.ixz1, DL.ixz2, DL.ixz3, DL.ixz4, Option.map_some, DL.q_lenS, DL.q_lenSK, DL.q_lenSK2, DL.q_rvL, DL.q_rvLK1, DL.q_rvLK2, DL.q_ins, DL.q_insK1, DL.q_insK2, DL.q_insK3, DL.q_gL, DL.q_pop, DL.q_appMk, ↓DL.q_ltA_i, ↓DL.q_ltA_t, ↓DL.q_isiC, ↓DL.q_mk0, ↓DL.q_isiT, ↓DL.q_isiTK, ↓DL.q_mulW, ↓DL.q_powW, ↓DL.q_int_i, ↓DL.q_int_b, DL.q_itB0, DL.q_itB0s, DL.q_itBS, DL.q_varS0b, DL.q_varS0s, DL.q_varSSb, DL.q_slT, DL.q_slT1, DL.q_slT2, DL.q_slT3, DL.q_cutT, DL.q_mulS, DL.q_strOf, DL.q_pt, DL.q_ptS0, DL.q_ptG, DL.q_ptSS, DL.q_nth0, DL.q_nthS, DL.q_lenT, DL.q_lenTG, DL.q_isiT1, DL.q_isiTG, DL.q_clrP, DL.q_clrP0, DL.q_clrP2, DL.q_appP, DL.q_appP0, DL.q_appP2, DL.q_appP4, DL.q_consS, DL.q_consSK, DL.q_consS1, DL.q_consO, DL.q_consOK, DL.q_geS, DL.q_getN0, DL.q_getNS, DL.q_setNl, DL.q_setNlK, DL.q_pn, DL.q_ptK, DL.q_clrNl, DL.q_clrN1, DL.q_clrN2, DL.q_appNl, DL.q_appN1, DL.q_appN2, DL.q_appN4, DL.q_popD, DL.q_callX, DL.q_callXK, DL.q_methX, DL.q_methXK, DL.q_methXK2, DL.q_raise, DL.q_isX, DL.q_isXK1, DL.q_isXK2f, DL.q_isXK2t, DL.q_isXT, DL.q_isXTK, DL.q_tryR, DL.q_getK0, DL.q_getKS, DL.q_dnew0, DL.q_dnew1, DL.q_dnK1, DL.q_dnK2, DL.q_dmv, DL.q_dmvK, DL.q_dmvK2, DL.q_dput, DL.q_dpK1, DL.q_dpK2, DL.q_dpK3, DL.q_tInK, DL.q_tInK1, DL.q_tInK2t, DL.q_tInK2f, DL.q_lenK, DL.q_lenK1, DL.q_forKd, DL.q_forKd1, DL.q_sortK, DL.q_sortK1, DL.q_eq0, ↓DL.q_var0, ↓DL.q_varS, ↓DL.q_varB0, ↓DL.q_varB0o, ↓DL.q_noL, ↓DL.q_noO, ↓DL.q_varBS, ↓DL.q_c, ↓DL.q_op, ↓DL.q_opK1, ↓DL.q_opK2, ↓DL.q_un, ↓DL.q_unK, ↓DL.q_add_ii, ↓DL.q_add_ss, ↓DL.q_add_ll, ↓DL.q_sub, ↓DL.q_mul, ↓DL.q_mod, ↓DL.q_fdiv, ↓DL.q_pow, ↓DL.q_neg, ↓DL.q_eq_bb, ↓DL.q_eq_ii, ↓DL.q_eq_ss, ↓DL.q_eq_lst, ↓DL.q_eq_tup, ↓DL.q_ne_bb, ↓DL.q_ne_ii, ↓DL.q_ne_ss, ↓DL.q_ne_lst, ↓DL.q_ne_tup, ↓DL.q_lt, ↓DL.q_le, ↓DL.q_gt, ↓DL.q_ge, ↓DL.q_isN, ↓DL.q_in_s, ↓DL.q_in_int_lst, ↓DL.q_in_int_tup, ↓DL.q_in_str_lst, ↓DL.q_in_str_tup, ↓DL.q_tst, ↓DL.q_tstK, ↓DL.q_tru, ↓DL.q_truK, ↓DL.q_teT, ↓DL.q_bT, ↓DL.q_andT, ↓DL.q_andK, ↓DL.q_orT, ↓DL.q_orK, ↓DL.q_notT, ↓DL.q_notK, ↓DL.q_veT, ↓DL.q_cT, ↓DL.q_andVK1, ↓DL.q_andVK, ↓DL.q_andV, ↓DL.q_orVK1, ↓DL.q_orVK, ↓DL.q_orV, ↓DL.q_notVK1, ↓DL.q_notVK, ↓DL.q_notV, ↓DL.q_ifEK, ↓DL.q_if, ↓DL.q_stT, ↓DL.q_ifSK, ↓DL.q_ifS, ↓DL.q_nil, ↓DL.q_cons, ↓DL.q_consK1, ↓DL.q_consK2, ↓DL.q_tup, ↓DL.q_tupK, ↓DL.q_lst, ↓DL.q_lstK0, ↓DL.q_sgnK, ↓DL.q_ix_l, ↓DL.q_ix_t, ↓DL.q_ix_s, ↓DL.q_noPart, ↓DL.q_someK, ↓DL.q_partK, ↓DL.q_part, ↓DL.q_sl, ↓DL.q_slK1, ↓DL.q_slK2, ↓DL.q_slK3, ↓DL.q_cut_l, ↓DL.q_cut_s, ↓DL.q_rvK3, ↓DL.q_rvK2, ↓DL.q_rvK1, ↓DL.q_rv, ↓DL.q_rev_l, ↓DL.q_rev_s, ↓DL.q_seq, ↓DL.q_next, ↓DL.q_brk, ↓DL.q_cont, ↓DL.q_dropK, ↓DL.q_drop, ↓DL.q_ret, ↓DL.q_retN, ↓DL.q_gNK, ↓DL.q_gN0, ↓DL.q_gNS, ↓DL.q_gNil, ↓DL.q_gCK, ↓DL.q_gCons, ↓DL.q_gT, ↓DL.q_asgK, ↓DL.q_asg, ↓DL.q_putS0, ↓DL.q_putSS, ↓DL.q_setNK, ↓DL.q_setN, ↓DL.q_getO0, ↓DL.q_getOS, ↓DL.q_appK2, ↓DL.q_appK1, ↓DL.q_appD, ↓DL.q_app, ↓DL.q_frzK, ↓DL.q_frz, ↓DL.q_apK, ↓DL.q_call, ↓DL.q_objK, ↓DL.q_mkK, ↓DL.q_make, ↓DL.q_argK, ↓DL.q_args, ↓DL.q_itK, ↓DL.q_it, ↓DL.q_rngK1, ↓DL.q_rng1, ↓DL.q_rng1A, ↓DL.q_rngK2, ↓DL.q_rng2, ↓DL.q_rng2A, ↓DL.q_zipK3, ↓DL.q_zipK2, ↓DL.q_zipK1, ↓DL.q_zip, ↓DL.q_zipA, ↓DL.q_enumK, ↓DL.q_enum, ↓DL.q_enumA, ↓DL.q_forK, ↓DL.q_for, ↓DL.q_lstK, ↓DL.q_lcK, ↓DL.q_lc, ↓DL.q_yes, ↓DL.q_fldK, ↓DL.q_fldC, ↓DL.q_onFld, ↓DL.q_methK, ↓DL.q_meth, ↓DL.q_onMeth, ↓DL.q_methK2, ↓DL.q_len_s, ↓DL.q_len_l, ↓DL.q_len_t, ↓DL.q_sumK, ↓DL.q_sum, ↓DL.q_allK, ↓DL.q_all, ↓DL.q_anyK, ↓DL.q_any, ↓DL.q_max2, ↓DL.q_min2, ↓DL.q_abs, ↓DL.q_list_l, ↓DL.q_list_t, ↓DL.q_blK, ↓DL.q_isiK, ↓DL.q_isi, ↓DL.q_joinK4, ↓DL.q_joinK3, ↓DL.q_joinK2, ↓DL.q_joinK1, ↓DL.q_join, ↓DL.q_joinV, ↓DL.q_inK, ↓DL.q_inOne, ↓DL.q_inCK, ↓DL.q_inCons, ↓DL.q_bitAnd, ↓DL.q_shr, ↓DL.q_stI, ↓DL.q_stIK1, ↓DL.q_stID, ↓DL.q_stIK2, ↓DL.q_stIK3, ↓DL.q_chain, ↓DL.q_chK1, ↓DL.q_chK2, ↓DL.q_chK3, ↓DL.q_chK4, ↓DL.q_chT, ↓DL.q_isB, ↓DL.q_inT, ↓DL.q_varB0b, ↓DL.q_clr, ↓DL.q_clrK, ↓DL.q_retOK, ↓DL.q_retO, ↓DL.q_retL, ↓DL.q_appN, ↓DL.q_appNK1, ↓DL.q_appNK2, ↓DL.q_clrN, ↓DL.q_clrNK, ↓DL.q_addL, ↓DL.q_slL, ↓DL.q_slLK1, ↓DL.q_slLK2, ↓DL.q_slLK3, ↓DL.q_cutL, ↓DL.onBl_bl, ↓DL.onInt_int, ↓DL.onStr_str, ↓DL.onOpt_some, ↓DL.ifB_true, ↓DL.ifB_false, DL.onBl_bl, DL.onInt_int, DL.onStr_str, DL.onOpt_some, DL.ifB_true, DL.ifB_false, DL.tyD_bl, DL.tyD_int, DL.tyD_str, DL.tyD_lst, DL.tyD_tup, DL.tyD_non, DL.truD_bl, DL.truD_int, DL.truD_str, DL.truD_lst, DL.q_it_lst, DL.q_it_tup, DL.q_it_s, DL.q_zi_l, DL.q_zi_s, DL.strsD_map, DL.intsD_map, DL.blsD_map, DL.kb1, DL.kb2, DL.kb3, DL.kb4, DL.kb5, DL.kb6, DL.kb7, DL.kb8, DL.kb9, DL.kb10, DL.kb11, DL.kb12, Bool.not_true, Bool.not_false, decide_true, decide_false, true_and])
local macro_rules | `(tactic| walk_at "tq") => `(tactic| try (walk_at "dq"))
local macro_rules | `(tactic| walk_at "sz") => `(tactic| first | decide | omega | (rw [DL.szl]; simp only [List.length_append, List.length_cons, List.length_nil, List.length_map, DL.rngD_len]; first | done | omega))
namespace K22
open PySem L2 DL
theorem sem_Person___init__ (A : Ad) : ∀ ds Q, I_Person A ds Q → d_Person___init__ A (.no :: (ds.map Sl.sh ++ List.replicate (["self", "name", "skills", "most", "carried", "past"].length - (ds.length + 1)) Sl.no)) [] Q := by
  intro ds Q h
  unfold I_Person at h
  split at h <;> first | exact False.elim h | skip
  unfold d_Person___init__
  walk_at "dl0"
  walk_at "dq"
  exact ⟨by simp, by simp, by simp, by simp, by simp, h⟩
theorem sem_House___init__ (A : Ad) : ∀ ds Q, I_House A ds Q → d_House___init__ A (.no :: (slM [false, false, false, true, false, false, true, true] ds ++ List.replicate (["self", "days", "kinds", "needs", "persons", "leave", "wishes", "rules", "pairs"].length - (ds.length + 1)) Sl.no)) [] Q := by
  intro ds Q h
  unfold I_House at h
  split at h <;> first | exact False.elim h | skip
  unfold d_House___init__
  walk_at "dl0"
  walk_at "dq"
  exact ⟨by simp, by simp, by simp, by simp, by simp, by simp, by simp, by simp, h⟩
theorem sem_l_cell_at (A : Ad) : ∀ ds Q, S_l_cell_at A ds Q → d_l_cell_at A { nx := fun _ => Q .non, rt := Q } (startR ["_law_script", "_law_k"] ds) := by
  intro ds Q h
  unfold S_l_cell_at at h
  split at h <;> first | exact False.elim h | skip
  rename_i xs k
  obtain ⟨ns, rfl, h0, h⟩ := h
  unfold d_l_cell_at
  walk_at "dl0"
  walk_at "dq"
  refine ifB_dec (fun g => ?_) (fun g => ?_)
  · walk_at "dl"
    have g' : k.toNat < ns.length := by rw [List.length_map] at g; omega
    rw [ixD_nat _ h0, List.getElem?_map]
    simp only [List.getD, g', List.getElem?_eq_getElem, Option.map_some, Option.getD_some] at h ⊢
    walk_at "dl"
    exact h
  · walk_at "dl"
    have g' : ns.length ≤ k.toNat := by rw [List.length_map] at g; omega
    simp only [List.getD, List.getElem?_eq_none g', Option.getD_none] at h
    exact h
theorem sem_l_whole (A : Ad) : ∀ ds Q, S_l_whole A ds Q → d_l_whole A { nx := fun _ => Q .non, rt := Q } (startR ["_law_found"] ds) := by
  intro ds Q h
  unfold S_l_whole at h
  split at h <;> first | exact False.elim h | skip
  unfold d_l_whole
  walk_at "dl0"
  walk_at "dl"
  exact h
theorem sem_l_name (A : Ad) : ∀ ds Q, S_l_name A ds Q → d_l_name A { nx := fun _ => Q .non, rt := Q } (startR ["_law_cell", "_law_p", "_law_some", "_law_body", "_law_k", "_law_at", "_law_name_here"] ds) := by
  intro ds Q h
  unfold S_l_name at h
  split at h <;> first | exact False.elim h | skip
  rename_i c p
  unfold d_l_name
  walk_at "dl0"
  walk_at "dq"
  have m0 := Int.emod_nonneg (c / 3) (show (8 : Int) ≠ 0 by decide)
  have m1 := Int.emod_lt_of_pos (c / 3) (show (0 : Int) < 8 by decide)
  refine ⟨⟨by decide, by decide⟩, by decide, ⟨by omega, by omega⟩, by rw [rngD_len, szl]; omega, ?_⟩
  refine lcD_map (bodyF c) ?_ dgN_mono dYes_mono ?_
  · intro x hx Q' hQ
    obtain ⟨k, rfl, hk⟩ := rngD_mem hx
    simp only [wipeR, List.set]
    walk_at "dq"
    refine ⟨.inl (by decide), ⟨by omega, by omega⟩, by decide, ?_⟩
    rw [ltr_ix (Int.emod_nonneg _ (by decide)) (Int.emod_lt_of_pos _ (by decide))]
    walk_at "dq"
    exact hQ
  rw [body_map]
  have bl := bodyT_len c
  walk_at "dq"
  simp only [sum_ones, joinT_nil_signs, List.length_nil, List.length_map, Nat.mul_zero, Nat.add_zero]
  have a0 := Int.emod_nonneg (c / 7) (show ((bodyT c).length : Int) + 1 ≠ 0 by omega)
  refine ⟨by omega, ⟨by decide, by decide⟩, by omega, by decide, ?_⟩
  rw [ltr_ix (Int.emod_nonneg _ (by decide)) (Int.emod_lt_of_pos _ (by decide))]
  walk_at "dq"
  rw [cut_to _ a0, cut_from _ a0]
  have nl := nameN_len c p
  have eN : (bodyT c).take (c / 7 % ((bodyT c).length + 1)).toNat ++ [ltr ((c + p) % 26)] ++ (bodyT c).drop (c / 7 % ((bodyT c).length + 1)).toNat = nameN c p := rfl
  rw [eN]
  refine ⟨by rw [szl]; simp only [List.length_cons, List.length_nil, List.length_take]; omega, by rw [szl]; simp only [List.length_append, List.length_cons, List.length_nil, List.length_take, List.length_drop]; omega, ?_⟩
  unfold nameT at h
  refine ifB_dec (fun q => ?_) (fun q => ?_)
  · walk_at "dq"
    rw [if_pos q] at h
    exact h
  · walk_at "dq"
    rw [if_neg q] at h
    exact h
theorem sem_House_place_of (A : Ad) : ∀ ds Q Xc, S_House_place_of A ds Q Xc → d_House_place_of A Xc { nx := fun _ => Q .non, rt := Q } (startRM ["self", "name", "p"] [false, false] ds) := by
  intro ds Q Xc h
  unfold S_House_place_of at h
  split at h <;> first | exact False.elim h | skip
  rename_i x nm
  obtain ⟨d, ks, ns, ps, lv, ws, rs, pr, rfl, hl, h1, h2⟩ := h
  unfold d_House_place_of houseD
  walk_at "dl0"
  walk_at "tq"
  refine ⟨by simp only [inLine, List.length_map]; omega, ?_⟩
  refine forD_ind (fun i ρ => ∃ t : Sl, ρ = [.sh (houseD A d ks ns ps lv ws rs pr), .sh (.str nm), t] ∧ nm ∉ (ps.take i).map (·.name)) ⟨_, rfl, by simp⟩ ?_ dgN_mono ?_
  · rintro i x ρ hx ⟨t, rfl, hn⟩
    obtain ⟨rfl, hi⟩ := rngD_get hx
    rw [List.length_map] at hi
    have hi : i < ps.length := by omega
    rw [take_get (List.getElem?_eq_getElem hi), List.map_append, zero_add_nat]
    unfold houseD
    walk_at "tq"
    intro nx hnx
    rw [ixD_ofNat, List.getElem?_map, List.getElem?_eq_getElem hi, Option.map_some]
    unfold persD
    walk_at "tq"
    refine ifB_dec (fun q => ?_) (fun q => ?_)
    · walk_at "tq"
      refine h1 i (by rw [List.getElem?_map, List.getElem?_eq_getElem hi, Option.map_some, q]) fun j hj e => ?_
      refine hn ?_
      rw [List.getElem?_map] at e
      obtain ⟨p, hp, ep⟩ := Option.map_eq_some_iff.mp e
      exact List.mem_map.mpr ⟨p, List.mem_of_getElem? (i := j) (by rw [List.getElem?_take_of_lt hj]; exact hp), ep⟩
    · walk_at "tq"
      refine hnx _ ⟨_, rfl, fun z => ?_⟩
      rcases List.mem_append.mp z with z | z
      · exact hn z
      · simp only [List.map_cons, List.map_nil, List.mem_singleton] at z
        exact q z.symm
  · rintro ρ ⟨t, rfl, hn⟩
    rw [rngD_len, List.length_map, Int.toNat_natCast, List.take_length] at hn
    walk_at "tq"
    exact h2 hn
theorem sem_Never___init__ (A : Ad) : ∀ ds Q, I_Never A ds Q → d_Never___init__ A (.no :: (ds.map Sl.sh ++ List.replicate (["self", "word"].length - (ds.length + 1)) Sl.no)) [] Q := by
  intro ds Q h
  unfold I_Never at h
  split at h <;> first | exact False.elim h | skip
  unfold d_Never___init__
  walk_at "dl0"
  walk_at "tq"
  exact ⟨by simp, h⟩
theorem sem_Tally___init__ (A : Ad) : ∀ ds Q, I_Tally A ds Q → d_Tally___init__ A (.no :: (ds.map Sl.sh ++ List.replicate (["self", "many", "marks", "days"].length - (ds.length + 1)) Sl.no)) [] Q := by
  intro ds Q h
  unfold I_Tally at h
  split at h <;> first | exact False.elim h | skip
  unfold d_Tally___init__
  walk_at "dl0"
  walk_at "tq"
  exact ⟨by simp, by simp, by simp, h⟩
theorem sem_Never_reach (A : Ad) : ∀ ds Q, S_Never_reach A ds Q → d_Never_reach A { nx := fun _ => Q .non, rt := Q } (startR ["self"] ds) := by
  intro ds Q h
  unfold S_Never_reach at h
  split at h <;> first | exact False.elim h | skip
  obtain ⟨w, rfl, h⟩ := h
  unfold d_Never_reach neverD
  walk_at "dl0"
  walk_at "tq"
  exact h
theorem sem_Never_text (A : Ad) : ∀ ds Q, S_Never_text A ds Q → d_Never_text A { nx := fun _ => Q .non, rt := Q } (startR ["self"] ds) := by
  intro ds Q h
  unfold S_Never_text at h
  split at h <;> first | exact False.elim h | skip
  obtain ⟨w, rfl, hw, h⟩ := h
  have hw : w.length ≤ 100 := hw
  unfold d_Never_text neverD
  walk_at "dl0"
  walk_at "tq"
  exact ⟨by walk_at "sz", h⟩
theorem sem_Tally_reach (A : Ad) : ∀ ds Q, S_Tally_reach A ds Q → d_Tally_reach A { nx := fun _ => Q .non, rt := Q } (startR ["self"] ds) := by
  intro ds Q h
  unfold S_Tally_reach at h
  split at h <;> first | exact False.elim h | skip
  obtain ⟨n, w, d, hx, h⟩ := h
  unfold d_Tally_reach
  rcases hx with rfl | rfl
  · unfold mostD
    walk_at "dl0"
    walk_at "tq"
    exact h
  · unfold leastD
    walk_at "dl0"
    walk_at "tq"
    exact h
theorem sem_House_plain (A : Ad) : ∀ ds Q, S_House_plain A ds Q → d_House_plain A { nx := fun _ => Q .non, rt := Q } (startR ["self"] ds) := by
  intro ds Q h
  unfold S_House_plain at h
  split at h <;> first | exact False.elim h | skip
  obtain ⟨d, ks, ns, ps, lv, ws, rs, pr, rfl, h⟩ := h
  unfold d_House_plain houseD
  walk_at "dl0"
  walk_at "tq"
  cases rs with
  | nil =>
    simp only [List.map_nil, List.isEmpty_nil]
    walk_at "tq"
    exact h
  | cons a l =>
    simp only [List.map_cons, List.isEmpty_cons]
    walk_at "tq"
    exact h
end K22
end
section
local macro_rules | `(tactic| walk_at "dl0") => `(tactic| simp only [DL.startR, DL.startRM, DL.slM, List.map_cons, List.map_nil, List.length_cons, List.length_nil, List.replicate_succ, List.replicate_zero, List.cons_append, List.nil_append, Nat.reduceAdd, Nat.reduceSub, Nat.zero_add, Nat.sub_self])
local macro_rules | `(tactic| walk_at "dl") => `(tactic| simp only [↓DL.q_var0, ↓DL.q_varS, ↓DL.q_varB0, ↓DL.q_varB0o, ↓DL.q_noL, ↓DL.q_noO, ↓DL.q_varBS, ↓DL.q_c, ↓DL.q_op, ↓DL.q_opK1, ↓DL.q_opK2, ↓DL.q_un, ↓DL.q_unK, ↓DL.q_add_ii, ↓DL.q_add_ss, ↓DL.q_add_ll, ↓DL.q_sub, ↓DL.q_mul, ↓DL.q_mod, ↓DL.q_fdiv, ↓DL.q_pow, ↓DL.q_neg, ↓DL.q_eq_bb, ↓DL.q_eq_ii, ↓DL.q_eq_ss, ↓DL.q_eq_lst, ↓DL.q_eq_tup, ↓DL.q_ne_bb, ↓DL.q_ne_ii, ↓DL.q_ne_ss, ↓DL.q_ne_lst, ↓DL.q_ne_tup, ↓DL.q_lt, ↓DL.q_le, ↓DL.q_gt, ↓DL.q_ge, ↓DL.q_isN, ↓DL.q_in_s, ↓DL.q_in_int_lst, ↓DL.q_in_int_tup, ↓DL.q_in_str_lst, ↓DL.q_in_str_tup, ↓DL.q_tst, ↓DL.q_tstK, ↓DL.q_tru, ↓DL.q_truK, ↓DL.q_teT, ↓DL.q_bT, ↓DL.q_andT, ↓DL.q_andK, ↓DL.q_orT, ↓DL.q_orK, ↓DL.q_notT, ↓DL.q_notK, ↓DL.q_veT, ↓DL.q_cT, ↓DL.q_andVK1, ↓DL.q_andVK, ↓DL.q_andV, ↓DL.q_orVK1, ↓DL.q_orVK, ↓DL.q_orV, ↓DL.q_notVK1, ↓DL.q_notVK, ↓DL.q_notV, ↓DL.q_ifEK, ↓DL.q_if, ↓DL.q_stT, ↓DL.q_ifSK, ↓DL.q_ifS, ↓DL.q_nil, ↓DL.q_cons, ↓DL.q_consK1, ↓DL.q_consK2, ↓DL.q_tup, ↓DL.q_tupK, ↓DL.q_lst, ↓DL.q_lstK0, ↓DL.q_sgnK, ↓DL.q_ix_l, ↓DL.q_ix_t, ↓DL.q_ix_s, ↓DL.q_noPart, ↓DL.q_someK, ↓DL.q_partK, ↓DL.q_part, ↓DL.q_sl, ↓DL.q_slK1, ↓DL.q_slK2, ↓DL.q_slK3, ↓DL.q_cut_l, ↓DL.q_cut_s, ↓DL.q_rvK3, ↓DL.q_rvK2, ↓DL.q_rvK1, ↓DL.q_rv, ↓DL.q_rev_l, ↓DL.q_rev_s, ↓DL.q_seq, ↓DL.q_next, ↓DL.q_brk, ↓DL.q_cont, ↓DL.q_dropK, ↓DL.q_drop, ↓DL.q_ret, ↓DL.q_retN, ↓DL.q_gNK, ↓DL.q_gN0, ↓DL.q_gNS, ↓DL.q_gNil, ↓DL.q_gCK, ↓DL.q_gCons, ↓DL.q_gT, ↓DL.q_asgK, ↓DL.q_asg, ↓DL.q_putS0, ↓DL.q_putSS, ↓DL.q_setNK, ↓DL.q_setN, ↓DL.q_getO0, ↓DL.q_getOS, ↓DL.q_appK2, ↓DL.q_appK1, ↓DL.q_appD, ↓DL.q_app, ↓DL.q_frzK, ↓DL.q_frz, ↓DL.q_apK, ↓DL.q_call, ↓DL.q_objK, ↓DL.q_mkK, ↓DL.q_make, ↓DL.q_argK, ↓DL.q_args, ↓DL.q_itK, ↓DL.q_it, ↓DL.q_rngK1, ↓DL.q_rng1, ↓DL.q_rng1A, ↓DL.q_rngK2, ↓DL.q_rng2, ↓DL.q_rng2A, ↓DL.q_zipK3, ↓DL.q_zipK2, ↓DL.q_zipK1, ↓DL.q_zip, ↓DL.q_zipA, ↓DL.q_enumK, ↓DL.q_enum, ↓DL.q_enumA, ↓DL.q_forK, ↓DL.q_for, ↓DL.q_lstK, ↓DL.q_lcK, ↓DL.q_lc, ↓DL.q_yes, ↓DL.q_fldK, ↓DL.q_fldC, ↓DL.q_onFld, ↓DL.q_methK, ↓DL.q_meth, ↓DL.q_onMeth, ↓DL.q_methK2, ↓DL.q_len_s, ↓DL.q_len_l, ↓DL.q_len_t, ↓DL.q_sumK, ↓DL.q_sum, ↓DL.q_allK, ↓DL.q_all, ↓DL.q_anyK, ↓DL.q_any, ↓DL.q_max2, ↓DL.q_min2, ↓DL.q_abs, ↓DL.q_list_l, ↓DL.q_list_t, ↓DL.q_blK, ↓DL.q_isiK, ↓DL.q_isi, ↓DL.q_joinK4, ↓DL.q_joinK3, ↓DL.q_joinK2, ↓DL.q_joinK1, ↓DL.q_join, ↓DL.q_joinV, ↓DL.q_inK, ↓DL.q_inOne, ↓DL.q_inCK, ↓DL.q_inCons, ↓DL.q_bitAnd, ↓DL.q_shr, ↓DL.q_stI, ↓DL.q_stIK1, ↓DL.q_stID, ↓DL.q_stIK2, ↓DL.q_stIK3, ↓DL.q_chain, ↓DL.q_chK1, ↓DL.q_chK2, ↓DL.q_chK3, ↓DL.q_chK4, ↓DL.q_chT, ↓DL.q_isB, ↓DL.q_inT, ↓DL.q_varB0b, ↓DL.q_clr, ↓DL.q_clrK, ↓DL.q_retOK, ↓DL.q_retO, ↓DL.q_retL, ↓DL.q_appN, ↓DL.q_appNK1, ↓DL.q_appNK2, ↓DL.q_clrN, ↓DL.q_clrNK, ↓DL.q_addL, ↓DL.q_slL, ↓DL.q_slLK1, ↓DL.q_slLK2, ↓DL.q_slLK3, ↓DL.q_cutL, ↓DL.onBl_bl, ↓DL.onInt_int, ↓DL.onStr_str, ↓DL.onOpt_some, ↓DL.ifB_true, ↓DL.ifB_false, DL.onBl_bl, DL.onInt_int, DL.onStr_str, DL.onOpt_some, DL.ifB_true, DL.ifB_false, DL.tyD_bl, DL.tyD_int, DL.tyD_str, DL.tyD_lst, DL.tyD_tup, DL.tyD_non, DL.truD_bl, DL.truD_int, DL.truD_str, DL.truD_lst, DL.q_it_lst, DL.q_it_tup, DL.q_it_s, DL.q_zi_l, DL.q_zi_s, DL.strsD_map, DL.intsD_map, DL.blsD_map, DL.kb1, DL.kb2, DL.kb3, DL.kb4, DL.kb5, DL.kb6, DL.kb7, DL.kb8, DL.kb9, DL.kb10, DL.kb11, DL.kb12, Bool.not_true, Bool.not_false, decide_true, decide_false, true_and])
local macro_rules | `(tactic| walk_at "dq") => `(tactic| simp only [K22.r_person, K22.r_house, K22.r_never, K22.r_tally, K22.r_place, K22.r_rules, K22.r_reachof, K22.r_plain, K22.r_nreach, K22.r_treach, K22.r_ntext, K22.r_mtext, K22.r_ltext, K22.r_shown, K22.r_cell, K22.r_whole, K22.r_name, K22.r_lrule, K22.r_refused, K22.r_lperson, K22.mem_1, K22.mem_3a, K22.mem_3b, K22.mem_3c, K22.mem_4a, K22.mem_4c, K22.mem_4d, K22.numsD, K22.rotaD, K22.persD, List.lookup, true_and, beq_self_eq_true, DL.fn_arcs_costs, DL.fe_arcs_costs, DL.fn_arcs_house, DL.fe_arcs_house, DL.fn_arcs_many, DL.fe_arcs_many, DL.fn_arcs_marks, DL.fe_arcs_marks, DL.fn_arcs_needs, DL.fe_arcs_needs, DL.fn_arcs_whole, DL.fe_arcs_whole, DL.fn_begin_kept, DL.fe_begin_kept, DL.fn_begin_most, DL.fe_begin_most, DL.fn_begin_rules, DL.fe_begin_rules, DL.fn_carried_level, DL.fe_carried_level, DL.fn_carried_most, DL.fe_carried_most, DL.fn_carried_name, DL.fe_carried_name, DL.fn_carried_past, DL.fe_carried_past, DL.fn_carried_skills, DL.fe_carried_skills, DL.fn_carried_weight, DL.fe_carried_weight, DL.fn_carried_wishes, DL.fe_carried_wishes, DL.fn_costs_arcs, DL.fe_costs_arcs, DL.fn_costs_house, DL.fe_costs_house, DL.fn_costs_many, DL.fe_costs_many, DL.fn_costs_marks, DL.fe_costs_marks, DL.fn_costs_needs, DL.fe_costs_needs, DL.fn_costs_whole, DL.fe_costs_whole, DL.fn_days_kinds, DL.fe_days_kinds, DL.fn_days_leave, DL.fe_days_leave, DL.fn_days_many, DL.fe_days_many, DL.fn_days_marks, DL.fe_days_marks, DL.fn_days_needs, DL.fe_days_needs, DL.fn_days_pairs, DL.fe_days_pairs, DL.fn_days_persons, DL.fe_days_persons, DL.fn_days_rules, DL.fe_days_rules, DL.fn_days_wishes, DL.fe_days_wishes, DL.fn_flows_net, DL.fe_flows_net, DL.fn_flows_prices, DL.fe_flows_prices, DL.fn_flows_spare, DL.fe_flows_spare, DL.fn_flows_touching, DL.fe_flows_touching, DL.fn_house_arcs, DL.fe_house_arcs, DL.fn_house_costs, DL.fe_house_costs, DL.fn_house_many, DL.fe_house_many, DL.fn_house_marks, DL.fe_house_marks, DL.fn_house_needs, DL.fe_house_needs, DL.fn_house_whole, DL.fe_house_whole, DL.fn_kept_begin, DL.fe_kept_begin, DL.fn_kept_most, DL.fe_kept_most, DL.fn_kept_rules, DL.fe_kept_rules, DL.fn_kinds_days, DL.fe_kinds_days, DL.fn_kinds_leave, DL.fe_kinds_leave, DL.fn_kinds_needs, DL.fe_kinds_needs, DL.fn_kinds_pairs, DL.fe_kinds_pairs, DL.fn_kinds_persons, DL.fe_kinds_persons, DL.fn_kinds_rules, DL.fe_kinds_rules, DL.fn_kinds_wishes, DL.fe_kinds_wishes, DL.fn_leave_days, DL.fe_leave_days, DL.fn_leave_kinds, DL.fe_leave_kinds, DL.fn_leave_needs, DL.fe_leave_needs, DL.fn_leave_pairs, DL.fe_leave_pairs, DL.fn_leave_persons, DL.fe_leave_persons, DL.fn_leave_rules, DL.fe_leave_rules, DL.fn_leave_wishes, DL.fe_leave_wishes, DL.fn_left_right, DL.fe_left_right, DL.fn_level_carried, DL.fe_level_carried, DL.fn_many_arcs, DL.fe_many_arcs, DL.fn_many_costs, DL.fe_many_costs, DL.fn_many_days, DL.fe_many_days, DL.fn_many_house, DL.fe_many_house, DL.fn_many_marks, DL.fe_many_marks, DL.fn_many_needs, DL.fe_many_needs, DL.fn_many_whole, DL.fe_many_whole, DL.fn_marks_arcs, DL.fe_marks_arcs, DL.fn_marks_costs, DL.fe_marks_costs, DL.fn_marks_days, DL.fe_marks_days, DL.fn_marks_house, DL.fe_marks_house, DL.fn_marks_many, DL.fe_marks_many, DL.fn_marks_needs, DL.fe_marks_needs, DL.fn_marks_whole, DL.fe_marks_whole, DL.fn_most_begin, DL.fe_most_begin, DL.fn_most_carried, DL.fe_most_carried, DL.fn_most_kept, DL.fe_most_kept, DL.fn_most_name, DL.fe_most_name, DL.fn_most_past, DL.fe_most_past, DL.fn_most_rules, DL.fe_most_rules, DL.fn_most_skills, DL.fe_most_skills, DL.fn_name_carried, DL.fe_name_carried, DL.fn_name_most, DL.fe_name_most, DL.fn_name_past, DL.fe_name_past, DL.fn_name_skills, DL.fe_name_skills, DL.fn_needs_arcs, DL.fe_needs_arcs, DL.fn_needs_costs, DL.fe_needs_costs, DL.fn_needs_days, DL.fe_needs_days, DL.fn_needs_house, DL.fe_needs_house, DL.fn_needs_kinds, DL.fe_needs_kinds, DL.fn_needs_leave, DL.fe_needs_leave, DL.fn_needs_many, DL.fe_needs_many, DL.fn_needs_marks, DL.fe_needs_marks, DL.fn_needs_pairs, DL.fe_needs_pairs, DL.fn_needs_persons, DL.fe_needs_persons, DL.fn_needs_rules, DL.fe_needs_rules, DL.fn_needs_whole, DL.fe_needs_whole, DL.fn_needs_wishes, DL.fe_needs_wishes, DL.fn_net_flows, DL.fe_net_flows, DL.fn_net_prices, DL.fe_net_prices, DL.fn_net_spare, DL.fe_net_spare, DL.fn_net_touching, DL.fe_net_touching, DL.fn_pairs_days, DL.fe_pairs_days, DL.fn_pairs_kinds, DL.fe_pairs_kinds, DL.fn_pairs_leave, DL.fe_pairs_leave, DL.fn_pairs_needs, DL.fe_pairs_needs, DL.fn_pairs_persons, DL.fe_pairs_persons, DL.fn_pairs_rules, DL.fe_pairs_rules, DL.fn_pairs_wishes, DL.fe_pairs_wishes, DL.fn_paper_rota, DL.fe_paper_rota, DL.fn_paper_total, DL.fe_paper_total, DL.fn_past_carried, DL.fe_past_carried, DL.fn_past_most, DL.fe_past_most, DL.fn_past_name, DL.fe_past_name, DL.fn_past_skills, DL.fe_past_skills, DL.fn_persons_days, DL.fe_persons_days, DL.fn_persons_kinds, DL.fe_persons_kinds, DL.fn_persons_leave, DL.fe_persons_leave, DL.fn_persons_needs, DL.fe_persons_needs, DL.fn_persons_pairs, DL.fe_persons_pairs, DL.fn_persons_rules, DL.fe_persons_rules, DL.fn_persons_wishes, DL.fe_persons_wishes, DL.fn_prices_flows, DL.fe_prices_flows, DL.fn_prices_net, DL.fe_prices_net, DL.fn_prices_spare, DL.fe_prices_spare, DL.fn_prices_touching, DL.fe_prices_touching, DL.fn_right_left, DL.fe_right_left, DL.fn_rota_paper, DL.fe_rota_paper, DL.fn_rota_total, DL.fe_rota_total, DL.fn_rules_begin, DL.fe_rules_begin, DL.fn_rules_days, DL.fe_rules_days, DL.fn_rules_kept, DL.fe_rules_kept, DL.fn_rules_kinds, DL.fe_rules_kinds, DL.fn_rules_leave, DL.fe_rules_leave, DL.fn_rules_most, DL.fe_rules_most, DL.fn_rules_needs, DL.fe_rules_needs, DL.fn_rules_pairs, DL.fe_rules_pairs, DL.fn_rules_persons, DL.fe_rules_persons, DL.fn_rules_wishes, DL.fe_rules_wishes, DL.fn_skills_carried, DL.fe_skills_carried, DL.fn_skills_most, DL.fe_skills_most, DL.fn_skills_name, DL.fe_skills_name, DL.fn_skills_past, DL.fe_skills_past, DL.fn_spare_flows, DL.fe_spare_flows, DL.fn_spare_net, DL.fe_spare_net, DL.fn_spare_prices, DL.fe_spare_prices, DL.fn_spare_touching, DL.fe_spare_touching, DL.fn_total_paper, DL.fe_total_paper, DL.fn_total_rota, DL.fe_total_rota, DL.fn_touching_flows, DL.fe_touching_flows, DL.fn_touching_net, DL.fe_touching_net, DL.fn_touching_prices, DL.fe_touching_prices, DL.fn_touching_spare, DL.fe_touching_spare, DL.fn_weight_carried, DL.fe_weight_carried, DL.fn_weight_wishes, DL.fe_weight_wishes, DL.fn_whole_arcs, DL.fe_whole_arcs, DL.fn_whole_costs, DL.fe_whole_costs, DL.fn_whole_house, DL.fe_whole_house, DL.fn_whole_many, DL.fe_whole_many, DL.fn_whole_marks, DL.fe_whole_marks, DL.fn_whole_needs, DL.fe_whole_needs, DL.fn_wishes_carried, DL.fe_wishes_carried, DL.fn_wishes_days, DL.fe_wishes_days, DL.fn_wishes_kinds, DL.fe_wishes_kinds, DL.fn_wishes_leave, DL.fe_wishes_leave, DL.fn_wishes_needs, DL.fe_wishes_needs, DL.fn_wishes_pairs, DL.fe_wishes_pairs, DL.fn_wishes_persons, DL.fe_wishes_persons, DL.fn_wishes_rules, DL.fe_wishes_rules, DL.fn_wishes_weight, DL.fe_wishes_weight, DL.fm_bad_arcs, DL.fm_bad_begin, DL.fm_bad_carried, DL.fm_bad_costs, DL.fm_bad_days, DL.fm_bad_flows, DL.fm_bad_house, DL.fm_bad_inner, DL.fm_bad_kept, DL.fm_bad_kinds, DL.fm_bad_leave, DL.fm_bad_left, DL.fm_bad_level, DL.fm_bad_many, DL.fm_bad_marks, DL.fm_bad_most, DL.fm_bad_name, DL.fm_bad_needs, DL.fm_bad_net, DL.fm_bad_pages, DL.fm_bad_pairs, DL.fm_bad_paper, DL.fm_bad_past, DL.fm_bad_persons, DL.fm_bad_places, DL.fm_bad_prices, DL.fm_bad_right, DL.fm_bad_rota, DL.fm_bad_rules, DL.fm_bad_skills, DL.fm_bad_spare, DL.fm_bad_total, DL.fm_bad_touching, DL.fm_bad_weight, DL.fm_bad_whole, DL.fm_bad_wishes, DL.fm_bad_word, DL.fm_reach_arcs, DL.fm_reach_begin, DL.fm_reach_carried, DL.fm_reach_costs, DL.fm_reach_days, DL.fm_reach_flows, DL.fm_reach_house, DL.fm_reach_inner, DL.fm_reach_kept, DL.fm_reach_kinds, DL.fm_reach_leave, DL.fm_reach_left, DL.fm_reach_level, DL.fm_reach_many, DL.fm_reach_marks, DL.fm_reach_most, DL.fm_reach_name, DL.fm_reach_needs, DL.fm_reach_net, DL.fm_reach_pages, DL.fm_reach_pairs, DL.fm_reach_paper, DL.fm_reach_past, DL.fm_reach_persons, DL.fm_reach_places, DL.fm_reach_prices, DL.fm_reach_right, DL.fm_reach_rota, DL.fm_reach_rules, DL.fm_reach_skills, DL.fm_reach_spare, DL.fm_reach_total, DL.fm_reach_touching, DL.fm_reach_weight, DL.fm_reach_whole, DL.fm_reach_wishes, DL.fm_reach_word, DL.fm_text_arcs, DL.fm_text_begin, DL.fm_text_carried, DL.fm_text_costs, DL.fm_text_days, DL.fm_text_flows, DL.fm_text_house, DL.fm_text_inner, DL.fm_text_kept, DL.fm_text_kinds, DL.fm_text_leave, DL.fm_text_left, DL.fm_text_level, DL.fm_text_many, DL.fm_text_marks, DL.fm_text_most, DL.fm_text_name, DL.fm_text_needs, DL.fm_text_net, DL.fm_text_pages, DL.fm_text_pairs, DL.fm_text_paper, DL.fm_text_past, DL.fm_text_persons, DL.fm_text_places, DL.fm_text_prices, DL.fm_text_right, DL.fm_text_rota, DL.fm_text_rules, DL.fm_text_skills, DL.fm_text_spare, DL.fm_text_total, DL.fm_text_touching, DL.fm_text_weight, DL.fm_text_whole, DL.fm_text_wishes, DL.fm_text_word, DL.fm_height_arcs, DL.fm_height_begin, DL.fm_height_carried, DL.fm_height_costs, DL.fm_height_days, DL.fm_height_flows, DL.fm_height_house, DL.fm_height_inner, DL.fm_height_kept, DL.fm_height_kinds, DL.fm_height_leave, DL.fm_height_left, DL.fm_height_level, DL.fm_height_many, DL.fm_height_marks, DL.fm_height_most, DL.fm_height_name, DL.fm_height_needs, DL.fm_height_net, DL.fm_height_pages, DL.fm_height_pairs, DL.fm_height_paper, DL.fm_height_past, DL.fm_height_persons, DL.fm_height_places, DL.fm_height_prices, DL.fm_height_right, DL.fm_height_rota, DL.fm_height_rules, DL.fm_height_skills, DL.fm_height_spare, DL.fm_height_total, DL.fm_height_touching, DL.fm_height_weight, DL.fm_height_whole, DL.fm_height_wishes, DL.fm_height_word, DL.fm_joint_arcs, DL.fm_joint_begin, DL.fm_joint_carried, DL.fm_joint_costs, DL.fm_joint_days, DL.fm_joint_flows, DL.fm_joint_house, DL.fm_joint_inner, DL.fm_joint_kept, DL.fm_joint_kinds, DL.fm_joint_leave, DL.fm_joint_left, DL.fm_joint_level, DL.fm_joint_many, DL.fm_joint_marks, DL.fm_joint_most, DL.fm_joint_name, DL.fm_joint_needs, DL.fm_joint_net, DL.fm_joint_pages, DL.fm_joint_pairs, DL.fm_joint_paper, DL.fm_joint_past, DL.fm_joint_persons, DL.fm_joint_places, DL.fm_joint_prices, DL.fm_joint_right, DL.fm_joint_rota, DL.fm_joint_rules, DL.fm_joint_skills, DL.fm_joint_spare, DL.fm_joint_total, DL.fm_joint_touching, DL.fm_joint_weight, DL.fm_joint_whole, DL.fm_joint_wishes, DL.fm_joint_word, DL.fm_counted_arcs, DL.fm_counted_begin, DL.fm_counted_carried, DL.fm_counted_costs, DL.fm_counted_days, DL.fm_counted_flows, DL.fm_counted_house, DL.fm_counted_inner, DL.fm_counted_kept, DL.fm_counted_kinds, DL.fm_counted_leave, DL.fm_counted_left, DL.fm_counted_level, DL.fm_counted_many, DL.fm_counted_marks, DL.fm_counted_most, DL.fm_counted_name, DL.fm_counted_needs, DL.fm_counted_net, DL.fm_counted_pages, DL.fm_counted_pairs, DL.fm_counted_paper, DL.fm_counted_past, DL.fm_counted_persons, DL.fm_counted_places, DL.fm_counted_prices, DL.fm_counted_right, DL.fm_counted_rota, DL.fm_counted_rules, DL.fm_counted_skills, DL.fm_counted_spare, DL.fm_counted_total, DL.fm_counted_touching, DL.fm_counted_weight, DL.fm_counted_whole, DL.fm_counted_wishes, DL.fm_counted_word, DL.fm_shown_arcs, DL.fm_shown_begin, DL.fm_shown_carried, DL.fm_shown_costs, DL.fm_shown_days, DL.fm_shown_flows, DL.fm_shown_house, DL.fm_shown_inner, DL.fm_shown_kept, DL.fm_shown_kinds, DL.fm_shown_leave, DL.fm_shown_left, DL.fm_shown_level, DL.fm_shown_many, DL.fm_shown_marks, DL.fm_shown_most, DL.fm_shown_name, DL.fm_shown_needs, DL.fm_shown_net, DL.fm_shown_pages, DL.fm_shown_pairs, DL.fm_shown_paper, DL.fm_shown_past, DL.fm_shown_persons, DL.fm_shown_places, DL.fm_shown_prices, DL.fm_shown_right, DL.fm_shown_rota, DL.fm_shown_rules, DL.fm_shown_skills, DL.fm_shown_spare, DL.fm_shown_total, DL.fm_shown_touching, DL.fm_shown_weight, DL.fm_shown_whole, DL.fm_shown_wishes, DL.fm_shown_word, DL.fm_need_arcs, DL.fm_need_begin, DL.fm_need_carried, DL.fm_need_costs, DL.fm_need_days, DL.fm_need_flows, DL.fm_need_house, DL.fm_need_inner, DL.fm_need_kept, DL.fm_need_kinds, DL.fm_need_leave, DL.fm_need_left, DL.fm_need_level, DL.fm_need_many, DL.fm_need_marks, DL.fm_need_most, DL.fm_need_name, DL.fm_need_needs, DL.fm_need_net, DL.fm_need_pages, DL.fm_need_pairs, DL.fm_need_paper, DL.fm_need_past, DL.fm_need_persons, DL.fm_need_places, DL.fm_need_prices, DL.fm_need_right, DL.fm_need_rota, DL.fm_need_rules, DL.fm_need_skills, DL.fm_need_spare, DL.fm_need_total, DL.fm_need_touching, DL.fm_need_weight, DL.fm_need_whole, DL.fm_need_wishes, DL.fm_need_word, DL.fm_may_arcs, DL.fm_may_begin, DL.fm_may_carried, DL.fm_may_costs, DL.fm_may_days, DL.fm_may_flows, DL.fm_may_house, DL.fm_may_inner, DL.fm_may_kept, DL.fm_may_kinds, DL.fm_may_leave, DL.fm_may_left, DL.fm_may_level, DL.fm_may_many, DL.fm_may_marks, DL.fm_may_most, DL.fm_may_name, DL.fm_may_needs, DL.fm_may_net, DL.fm_may_pages, DL.fm_may_pairs, DL.fm_may_paper, DL.fm_may_past, DL.fm_may_persons, DL.fm_may_places, DL.fm_may_prices, DL.fm_may_right, DL.fm_may_rota, DL.fm_may_rules, DL.fm_may_skills, DL.fm_may_spare, DL.fm_may_total, DL.fm_may_touching, DL.fm_may_weight, DL.fm_may_whole, DL.fm_may_wishes, DL.fm_may_word, DL.fm_place_of_arcs, DL.fm_place_of_begin, DL.fm_place_of_carried, DL.fm_place_of_costs, DL.fm_place_of_days, DL.fm_place_of_flows, DL.fm_place_of_house, DL.fm_place_of_inner, DL.fm_place_of_kept, DL.fm_place_of_kinds, DL.fm_place_of_leave, DL.fm_place_of_left, DL.fm_place_of_level, DL.fm_place_of_many, DL.fm_place_of_marks, DL.fm_place_of_most, DL.fm_place_of_name, DL.fm_place_of_needs, DL.fm_place_of_net, DL.fm_place_of_pages, DL.fm_place_of_pairs, DL.fm_place_of_paper, DL.fm_place_of_past, DL.fm_place_of_persons, DL.fm_place_of_places, DL.fm_place_of_prices, DL.fm_place_of_right, DL.fm_place_of_rota, DL.fm_place_of_rules, DL.fm_place_of_skills, DL.fm_place_of_spare, DL.fm_place_of_total, DL.fm_place_of_touching, DL.fm_place_of_weight, DL.fm_place_of_whole, DL.fm_place_of_wishes, DL.fm_place_of_word, DL.fm_rules_for_arcs, DL.fm_rules_for_begin, DL.fm_rules_for_carried, DL.fm_rules_for_costs, DL.fm_rules_for_days, DL.fm_rules_for_flows, DL.fm_rules_for_house, DL.fm_rules_for_inner, DL.fm_rules_for_kept, DL.fm_rules_for_kinds, DL.fm_rules_for_leave, DL.fm_rules_for_left, DL.fm_rules_for_level, DL.fm_rules_for_many, DL.fm_rules_for_marks, DL.fm_rules_for_most, DL.fm_rules_for_name, DL.fm_rules_for_needs, DL.fm_rules_for_net, DL.fm_rules_for_pages, DL.fm_rules_for_pairs, DL.fm_rules_for_paper, DL.fm_rules_for_past, DL.fm_rules_for_persons, DL.fm_rules_for_places, DL.fm_rules_for_prices, DL.fm_rules_for_right, DL.fm_rules_for_rota, DL.fm_rules_for_rules, DL.fm_rules_for_skills, DL.fm_rules_for_spare, DL.fm_rules_for_total, DL.fm_rules_for_touching, DL.fm_rules_for_weight, DL.fm_rules_for_whole, DL.fm_rules_for_wishes, DL.fm_rules_for_word, DL.fm_reach_of_arcs, DL.fm_reach_of_begin, DL.fm_reach_of_carried, DL.fm_reach_of_costs, DL.fm_reach_of_days, DL.fm_reach_of_flows, DL.fm_reach_of_house, DL.fm_reach_of_inner, DL.fm_reach_of_kept, DL.fm_reach_of_kinds, DL.fm_reach_of_leave, DL.fm_reach_of_left, DL.fm_reach_of_level, DL.fm_reach_of_many, DL.fm_reach_of_marks, DL.fm_reach_of_most, DL.fm_reach_of_name, DL.fm_reach_of_needs, DL.fm_reach_of_net, DL.fm_reach_of_pages, DL.fm_reach_of_pairs, DL.fm_reach_of_paper, DL.fm_reach_of_past, DL.fm_reach_of_persons, DL.fm_reach_of_places, DL.fm_reach_of_prices, DL.fm_reach_of_right, DL.fm_reach_of_rota, DL.fm_reach_of_rules, DL.fm_reach_of_skills, DL.fm_reach_of_spare, DL.fm_reach_of_total, DL.fm_reach_of_touching, DL.fm_reach_of_weight, DL.fm_reach_of_whole, DL.fm_reach_of_wishes, DL.fm_reach_of_word, DL.fm_plain_arcs, DL.fm_plain_begin, DL.fm_plain_carried, DL.fm_plain_costs, DL.fm_plain_days, DL.fm_plain_flows, DL.fm_plain_house, DL.fm_plain_inner, DL.fm_plain_kept, DL.fm_plain_kinds, DL.fm_plain_leave, DL.fm_plain_left, DL.fm_plain_level, DL.fm_plain_many, DL.fm_plain_marks, DL.fm_plain_most, DL.fm_plain_name, DL.fm_plain_needs, DL.fm_plain_net, DL.fm_plain_pages, DL.fm_plain_pairs, DL.fm_plain_paper, DL.fm_plain_past, DL.fm_plain_persons, DL.fm_plain_places, DL.fm_plain_prices, DL.fm_plain_right, DL.fm_plain_rota, DL.fm_plain_rules, DL.fm_plain_skills, DL.fm_plain_spare, DL.fm_plain_total, DL.fm_plain_touching, DL.fm_plain_weight, DL.fm_plain_whole, DL.fm_plain_wishes, DL.fm_plain_word, DL.fm_of_count_arcs, DL.fm_of_count_begin, DL.fm_of_count_carried, DL.fm_of_count_costs, DL.fm_of_count_days, DL.fm_of_count_flows, DL.fm_of_count_house, DL.fm_of_count_inner, DL.fm_of_count_kept, DL.fm_of_count_kinds, DL.fm_of_count_leave, DL.fm_of_count_left, DL.fm_of_count_level, DL.fm_of_count_many, DL.fm_of_count_marks, DL.fm_of_count_most, DL.fm_of_count_name, DL.fm_of_count_needs, DL.fm_of_count_net, DL.fm_of_count_pages, DL.fm_of_count_pairs, DL.fm_of_count_paper, DL.fm_of_count_past, DL.fm_of_count_persons, DL.fm_of_count_places, DL.fm_of_count_prices, DL.fm_of_count_right, DL.fm_of_count_rota, DL.fm_of_count_rules, DL.fm_of_count_skills, DL.fm_of_count_spare, DL.fm_of_count_total, DL.fm_of_count_touching, DL.fm_of_count_weight, DL.fm_of_count_whole, DL.fm_of_count_wishes, DL.fm_of_count_word, DL.fm_of_mark_arcs, DL.fm_of_mark_begin, DL.fm_of_mark_carried, DL.fm_of_mark_costs, DL.fm_of_mark_days, DL.fm_of_mark_flows, DL.fm_of_mark_house, DL.fm_of_mark_inner, DL.fm_of_mark_kept, DL.fm_of_mark_kinds, DL.fm_of_mark_leave, DL.fm_of_mark_left, DL.fm_of_mark_level, DL.fm_of_mark_many, DL.fm_of_mark_marks, DL.fm_of_mark_most, DL.fm_of_mark_name, DL.fm_of_mark_needs, DL.fm_of_mark_net, DL.fm_of_mark_pages, DL.fm_of_mark_pairs, DL.fm_of_mark_paper, DL.fm_of_mark_past, DL.fm_of_mark_persons, DL.fm_of_mark_places, DL.fm_of_mark_prices, DL.fm_of_mark_right, DL.fm_of_mark_rota, DL.fm_of_mark_rules, DL.fm_of_mark_skills, DL.fm_of_mark_spare, DL.fm_of_mark_total, DL.fm_of_mark_touching, DL.fm_of_mark_weight, DL.fm_of_mark_whole, DL.fm_of_mark_wishes, DL.fm_of_mark_word, DL.fm_floor_arcs, DL.fm_floor_begin, DL.fm_floor_carried, DL.fm_floor_costs, DL.fm_floor_days, DL.fm_floor_flows, DL.fm_floor_house, DL.fm_floor_inner, DL.fm_floor_kept, DL.fm_floor_kinds, DL.fm_floor_leave, DL.fm_floor_left, DL.fm_floor_level, DL.fm_floor_many, DL.fm_floor_marks, DL.fm_floor_most, DL.fm_floor_name, DL.fm_floor_needs, DL.fm_floor_net, DL.fm_floor_pages, DL.fm_floor_pairs, DL.fm_floor_paper, DL.fm_floor_past, DL.fm_floor_persons, DL.fm_floor_places, DL.fm_floor_prices, DL.fm_floor_right, DL.fm_floor_rota, DL.fm_floor_rules, DL.fm_floor_skills, DL.fm_floor_spare, DL.fm_floor_total, DL.fm_floor_touching, DL.fm_floor_weight, DL.fm_floor_whole, DL.fm_floor_wishes, DL.fm_floor_word, DL.fm_stands_arcs, DL.fm_stands_begin, DL.fm_stands_carried, DL.fm_stands_costs, DL.fm_stands_days, DL.fm_stands_flows, DL.fm_stands_house, DL.fm_stands_inner, DL.fm_stands_kept, DL.fm_stands_kinds, DL.fm_stands_leave, DL.fm_stands_left, DL.fm_stands_level, DL.fm_stands_many, DL.fm_stands_marks, DL.fm_stands_most, DL.fm_stands_name, DL.fm_stands_needs, DL.fm_stands_net, DL.fm_stands_pages, DL.fm_stands_pairs, DL.fm_stands_paper, DL.fm_stands_past, DL.fm_stands_persons, DL.fm_stands_places, DL.fm_stands_prices, DL.fm_stands_right, DL.fm_stands_rota, DL.fm_stands_rules, DL.fm_stands_skills, DL.fm_stands_spare, DL.fm_stands_total, DL.fm_stands_touching, DL.fm_stands_weight, DL.fm_stands_whole, DL.fm_stands_wishes, DL.fm_stands_word, DL.putD, List.lookup, if_false, if_true, ite_true, ite_false, true_and, beq_self_eq_true, DL.len0, DL.len1, DL.len2, DL.len3, DL.len4, DL.ixz0, DL.ixz1, DL.ixz2, DL.ixz3, DL.ixz4, Option.map_some, DL.q_lenS, DL.q_lenSK, DL.q_lenSK2, DL.q_rvL, DL.q_rvLK1, DL.q_rvLK2, DL.q_ins, DL.q_insK1, DL.q_insK2, DL.q_insK3, DL.q_gL, DL.q_pop, DL.q_appMk, ↓DL.q_ltA_i, ↓DL.q_ltA_t, ↓DL.q_isiC, ↓DL.q_mk0, ↓DL.q_isiT, ↓DL.q_isiTK, ↓DL.q_mulW, ↓DL.q_powW, ↓DL.q_int_i, ↓DL.q_int_b, DL.q_itB0, DL.q_itB0s, DL.q_itBS, DL.q_varS0b, DL.q_varS0s, DL.q_varSSb, DL.q_slT, DL.q_slT1, DL.q_slT2, DL.q_slT3, DL.q_cutT, DL.q_mulS, DL.q_strOf, DL.q_pt, DL.q_ptS0, DL.q_ptG, DL.q_ptSS, DL.q_nth0, DL.q_nthS, DL.q_lenT, DL.q_lenTG, DL.q_isiT1, DL.q_isiTG, DL.q_clrP, DL.q_clrP0, DL.q_clrP2, DL.q_appP, DL.q_appP0, DL.q_appP2, DL.q_appP4, DL.q_consS, DL.q_consSK, DL.q_consS1, DL.q_consO, DL.q_consOK, DL.q_geS, DL.q_getN0, DL.q_getNS, DL.q_setNl, DL.q_setNlK, DL.q_pn, DL.q_ptK, DL.q_clrNl, DL.q_clrN1, DL.q_clrN2, DL.q_appNl, DL.q_appN1, DL.q_appN2, DL.q_appN4, DL.q_popD, DL.q_callX, DL.q_callXK, DL.q_methX, DL.q_methXK, DL.q_methXK2, DL.q_raise, DL.q_isX, DL.q_isXK1, DL.q_isXK2f, DL.q_isXK2t, DL.q_isXT, DL.q_isXTK, DL.q_tryR, DL.q_getK0, DL.q_getKS, DL.q_dnew0, DL.q_dnew1, DL.q_dnK1, DL.q_dnK2, DL.q_dmv, DL.q_dmvK, DL.q_dmvK2, DL.q_dput, DL.q_dpK1, DL.q_dpK2, DL.q_dpK3, DL.q_tInK, DL.q_tInK1, DL.q_tInK2t, DL.q_tInK2f, DL.q_lenK, DL.q_lenK1, DL.q_forKd, DL.q_forKd1, DL.q_sortK, DL.q_sortK1, DL.q_eq0, ↓DL.q_var0, ↓DL.q_varS, ↓DL.q_varB0, ↓DL.q_varB0o, ↓DL.q_noL, ↓DL.q_noO, ↓DL.q_varBS, ↓DL.q_c, ↓DL.q_op, ↓DL.q_opK1, ↓DL.q_opK2, ↓DL.q_un, ↓DL.q_unK, ↓DL.q_add_ii, ↓DL.q_add_ss, ↓DL.q_add_ll, ↓DL.q_sub, ↓DL.q_mul, ↓DL.q_mod, ↓DL.q_fdiv, ↓DL.q_pow, ↓DL.q_neg, ↓DL.q_eq_bb, ↓DL.q_eq_ii, ↓DL.q_eq_ss, ↓DL.q_eq_lst, ↓DL.q_eq_tup, ↓DL.q_ne_bb, ↓DL.q_ne_ii, ↓DL.q_ne_ss, ↓DL.q_ne_lst, ↓DL.q_ne_tup, ↓DL.q_lt, ↓DL.q_le, ↓DL.q_gt, ↓DL.q_ge, ↓DL.q_isN, ↓DL.q_in_s, ↓DL.q_in_int_lst, ↓DL.q_in_int_tup, ↓DL.q_in_str_lst, ↓DL.q_in_str_tup, ↓DL.q_tst, ↓DL.q_tstK, ↓DL.q_tru, ↓DL.q_truK, ↓DL.q_teT, ↓DL.q_bT, ↓DL.q_andT, ↓DL.q_andK, ↓DL.q_orT, ↓DL.q_orK, ↓DL.q_notT, ↓DL.q_notK, ↓DL.q_veT, ↓DL.q_cT, ↓DL.q_andVK1, ↓DL.q_andVK, ↓DL.q_andV, ↓DL.q_orVK1, ↓DL.q_orVK, ↓DL.q_orV, ↓DL.q_notVK1, ↓DL.q_notVK, ↓DL.q_notV, ↓DL.q_ifEK, ↓DL.q_if, ↓DL.q_stT, ↓DL.q_ifSK, ↓DL.q_ifS, ↓DL.q_nil, ↓DL.q_cons, ↓DL.q_consK1, ↓DL.q_consK2, ↓DL.q_tup, ↓DL.q_tupK, ↓DL.q_lst, ↓DL.q_lstK0, ↓DL.q_sgnK, ↓DL.q_ix_l, ↓DL.q_ix_t, ↓DL.q_ix_s, ↓DL.q_noPart, ↓DL.q_someK, ↓DL.q_partK, ↓DL.q_part, ↓DL.q_sl, ↓DL.q_slK1, ↓DL.q_slK2, ↓DL.q_slK3, ↓DL.q_cut_l, ↓DL.q_cut_s, ↓DL.q_rvK3, ↓DL.q_rvK2, ↓DL.q_rvK1, ↓DL.q_rv, ↓DL.q_rev_l, ↓DL.q_rev_s, ↓DL.q_seq, ↓DL.q_next, ↓DL.q_brk, ↓DL.q_cont, ↓DL.q_dropK, ↓DL.q_drop, ↓DL.q_ret, ↓DL.q_retN, ↓DL.q_gNK, ↓DL.q_gN0, ↓DL.q_gNS, ↓DL.q_gNil, ↓DL.q_gCK, ↓DL.q_gCons, ↓DL.q_gT, ↓DL.q_asgK, ↓DL.q_asg, ↓DL.q_putS0, ↓DL.q_putSS, ↓DL.q_setNK, ↓DL.q_setN, ↓DL.q_getO0, ↓DL.q_getOS, ↓DL.q_appK2, ↓DL.q_appK1, ↓DL.q_appD, ↓DL.q_app, ↓DL.q_frzK, ↓DL.q_frz, ↓DL.q_apK, ↓DL.q_call, ↓DL.q_objK, ↓DL.q_mkK, ↓DL.q_make, ↓DL.q_argK, ↓DL.q_args, ↓DL.q_itK, ↓DL.q_it, ↓DL.q_rngK1, ↓DL.q_rng1, ↓DL.q_rng1A, ↓DL.q_rngK2, ↓DL.q_rng2, ↓DL.q_rng2A, ↓DL.q_zipK3, ↓DL.q_zipK2, ↓DL.q_zipK1, ↓DL.q_zip, ↓DL.q_zipA, ↓DL.q_enumK, ↓DL.q_enum, ↓DL.q_enumA, ↓DL.q_forK, ↓DL.q_for, ↓DL.q_lstK, ↓DL.q_lcK, ↓DL.q_lc, ↓DL.q_yes, ↓DL.q_fldK, ↓DL.q_fldC, ↓DL.q_onFld, ↓DL.q_methK, ↓DL.q_meth, ↓DL.q_onMeth, ↓DL.q_methK2, ↓DL.q_len_s, ↓DL.q_len_l, ↓DL.q_len_t, ↓DL.q_sumK, ↓DL.q_sum, ↓DL.q_allK, ↓DL.q_all, ↓DL.q_anyK, ↓DL.q_any, ↓DL.q_max2, ↓DL.q_min2, ↓DL.q_abs, ↓DL.q_list_l, ↓DL.q_list_t, ↓DL.q_blK, ↓DL.q_isiK, ↓DL.q_isi, ↓DL.q_joinK4, ↓DL.q_joinK3, ↓DL.q_joinK2, ↓DL.q_joinK1, ↓DL.q_join, ↓DL.q_joinV, ↓DL.q_inK, ↓DL.q_inOne, ↓DL.q_inCK, ↓DL.q_inCons, ↓DL.q_bitAnd, ↓DL.q_shr, ↓DL.q_stI, ↓DL.q_stIK1, ↓DL.q_stID, ↓DL.q_stIK2, ↓DL.q_stIK3, ↓DL.q_chain, ↓DL.q_chK1, ↓DL.q_chK2, ↓DL.q_chK3, ↓DL.q_chK4, ↓DL.q_chT, ↓DL.q_isB, ↓DL.q_inT, ↓DL.q_varB0b, ↓DL.q_clr, ↓DL.q_clrK, ↓DL.q_retOK, ↓DL.q_retO, ↓DL.q_retL, ↓DL.q_appN, ↓DL.q_appNK1, ↓DL.q_appNK2, ↓DL.q_clrN, ↓DL.q_clrNK, ↓DL.q_addL, ↓DL.q_slL, ↓DL.q_slLK1, ↓DL.q_slLK2, ↓DL.q_slLK3, ↓DL.q_cutL, ↓DL.onBl_bl, ↓DL.onInt_int, ↓DL.onStr_str, ↓DL.onOpt_some, ↓DL.ifB_true, ↓DL.ifB_false, DL.onBl_bl, DL.onInt_int, DL.onStr_str, DL.onOpt_some, DL.ifB_true, DL.ifB_false, DL.tyD_bl, DL.tyD_int, DL.tyD_str, DL.tyD_lst, DL.tyD_tup, DL.tyD_non, DL.truD_bl, DL.truD_int, DL.truD_str, DL.truD_lst, DL.q_it_lst, DL.q_it_tup, DL.q_it_s, DL.q_zi_l, DL.q_zi_s, DL.strsD_map, DL.intsD_map, DL.blsD_map, DL.kb1, DL.kb2, DL.kb3, DL.kb4, DL.kb5, DL.kb6, DL.kb7, DL.kb8, DL.kb9, DL.kb10, DL.kb11, DL.kb12, Bool.not_true, Bool.not_false, decide_true, decide_false, true_and])
local macro_rules | `(tactic| walk_at "tq") => `(tactic| try (walk_at "dq"))
local macro_rules | `(tactic| walk_at "sz") => `(tactic| first | decide | omega | (rw [DL.szl]; simp only [List.length_append, List.length_cons, List.length_nil, List.length_map, DL.rngD_len]; first | done | omega))
namespace K22
open PySem L2 DL
theorem sem_Tally_shown (A : Ad) : ∀ ds Q, S_Tally_shown A ds Q → d_Tally_shown A { nx := fun _ => Q .non, rt := Q } (startR ["self", "word"] ds) := by
  intro ds Q h
  unfold S_Tally_shown at h
  split at h <;> first | exact False.elim h | skip
  obtain ⟨n, w, d, hx, ⟨⟨hn, hd, hw⟩, hu⟩, h⟩ := h
  unfold d_Tally_shown
  unfold wordsT at h
  simp only [← List.append_assoc] at h
  rcases hx with rfl | rfl
  · unfold mostD
    walk_at "dl0"
    walk_at "tq"
    exact ⟨by walk_at "sz", by omega, by walk_at "sz", by walk_at "sz", by walk_at "sz", by walk_at "sz", by omega, by walk_at "sz", h⟩
  · unfold leastD
    walk_at "dl0"
    walk_at "tq"
    exact ⟨by walk_at "sz", by omega, by walk_at "sz", by walk_at "sz", by walk_at "sz", by walk_at "sz", by omega, by walk_at "sz", h⟩
theorem sem_Most_text (A : Ad) : ∀ ds Q, S_Most_text A ds Q → d_Most_text A { nx := fun _ => Q .non, rt := Q } (startR ["self"] ds) := by
  intro ds Q h
  unfold S_Most_text at h
  split at h <;> first | exact False.elim h | skip
  obtain ⟨n, w, d, rfl, hw, h⟩ := h
  unfold d_Most_text mostD
  walk_at "dl0"
  walk_at "tq"
  refine methAp_intro (by walk_at "dq") (.inl ⟨rfl, rfl⟩) ?_
  walk_at "tq"
  exact ⟨n, w, d, .inl rfl, ⟨hw, by decide⟩, h⟩
theorem sem_Least_text (A : Ad) : ∀ ds Q, S_Least_text A ds Q → d_Least_text A { nx := fun _ => Q .non, rt := Q } (startR ["self"] ds) := by
  intro ds Q h
  unfold S_Least_text at h
  split at h <;> first | exact False.elim h | skip
  obtain ⟨n, w, d, rfl, hw, h⟩ := h
  unfold d_Least_text leastD
  walk_at "dl0"
  walk_at "tq"
  refine methAp_intro (by walk_at "dq") (.inr ⟨rfl, rfl⟩) ?_
  walk_at "tq"
  exact ⟨n, w, d, .inr rfl, ⟨hw, by decide⟩, h⟩
theorem bound_take {nm : Tx} {rs : List (Tx × Rul)} {i : Nat} {r : Tx × Rul} (h : rs[i]? = some r) : bound nm (rs.take (i + 1)) = bound nm (rs.take i) ++ (if isB nm (i, r) then [(i, r)] else []) := by
  obtain ⟨hi, e⟩ := List.getElem?_eq_some_iff.mp h
  unfold bound
  rw [take_get h, List.length_append, List.length_take, Nat.min_eq_left (by omega)]
  show List.filter (isB nm) ((List.range (i + 1)).zip (rs.take i ++ [r])) = _
  rw [List.range_succ, List.zip_append (by rw [List.length_range, List.length_take]; omega), List.filter_append]
  congr 1
  show List.filter (isB nm) [(i, r)] = _
  rw [List.filter_cons, List.filter_nil]
theorem sem_House_rules_for (A : Ad) : ∀ ds Q, S_House_rules_for A ds Q → d_House_rules_for A { nx := fun _ => False, rt := fun _ => False, rn := Q } (startRM ["self", "p", "found", "number", "name", "rule"] [false, false] ds) := by
  intro ds Q h
  unfold S_House_rules_for at h
  split at h <;> first | exact False.elim h | skip
  rename_i x p
  obtain ⟨d, ks, ns, ps, lv, ws, rs, pr, q, rfl, ⟨hl, hp, hq⟩, h⟩ := h
  unfold d_House_rules_for houseD
  walk_at "dl0"
  walk_at "tq"
  refine ⟨by simp only [inLine, List.length_map]; omega, ?_⟩
  refine forD_ind (fun i ρ => ∃ t1 t2 t3 : Sl, ρ = [.sh (houseD A d ks ns ps lv ws rs pr), .sh (.int p), .ow (.lst ((bound q.name (rs.take i)).map (numD A))), t1, t2, t3] ) ⟨_, _, _, rfl⟩ ?_ dgN_mono ?_
  · rintro i x ρ hx ⟨t1, t2, t3, rfl⟩
    obtain ⟨rfl, hi⟩ := rngD_get hx
    rw [List.length_map] at hi
    have hi : i < rs.length := by omega
    have hr := List.getElem?_eq_getElem hi
    generalize rs[i] = r at hr
    have hn : ixD (ps.map (persD A)) p = some (persD A q) := by rw [ixD_nat _ hp, List.getElem?_map, hq]; rfl
    rw [bound_take hr, zero_add_nat]
    have bl : (bound q.name (rs.take i)).length ≤ 100 := by
      refine Nat.le_trans (List.length_filter_le _ _) ?_
      rw [List.length_zip, List.length_range, List.length_take]; omega
    unfold houseD
    walk_at "tq"
    intro nx hnx
    rw [ixD_ofNat, List.getElem?_map, hr, Option.map_some]
    unfold ruleP
    walk_at "tq"
    refine ⟨rfl, ?_⟩
    refine ifB_dec (fun g => ?_) (fun g => ?_)
    · walk_at "tq"
      have e : isB q.name (i, r) = true := by simp [isB, allT, g]
      rw [e, if_pos rfl, List.map_append] at hnx
      exact ⟨by walk_at "sz", hnx _ ⟨_, _, _, rfl⟩⟩
    · walk_at "tq"
      rw [hn]
      unfold persD
      walk_at "tq"
      refine ifB_dec (fun g2 => ?_) (fun g2 => ?_)
      · walk_at "tq"
        have e : isB q.name (i, r) = true := by simp [isB, g2]
        rw [e, if_pos rfl, List.map_append] at hnx
        exact ⟨by walk_at "sz", hnx _ ⟨_, _, _, rfl⟩⟩
      · walk_at "tq"
        have e : isB q.name (i, r) = false := by simp only [isB, allT, g, g2, decide_false, Bool.or_false]
        rw [e, if_neg (by decide), List.append_nil] at hnx
        exact hnx _ ⟨_, _, _, rfl⟩
  · rintro ρ ⟨t1, t2, t3, rfl⟩
    rw [rngD_len, List.length_map, Int.toNat_natCast, List.take_length]
    walk_at "tq"
    exact h
theorem sem_l_rule (A : Ad) : ∀ ds Q, S_l_rule A ds Q → d_l_rule A { nx := fun _ => Q .non, rt := Q } (startR ["_law_cell", "_law_letter", "_law_many", "_law_number", "_law_words"] ds) := by
  intro ds Q h
  unfold S_l_rule at h
  split at h <;> first | exact False.elim h | skip
  rename_i c
  unfold d_l_rule
  walk_at "dl0"
  walk_at "tq"
  refine ⟨by decide, by decide, ?_⟩
  have l0 := Int.emod_nonneg (c / 21) (show (26 : Int) ≠ 0 by decide)
  have l1 := Int.emod_lt_of_pos (c / 21) (show (0 : Int) < 26 by decide)
  have m0 := Int.emod_nonneg (c / 3) (show (7 : Int) ≠ 0 by decide)
  have m1 := Int.emod_lt_of_pos (c / 3) (show (0 : Int) < 7 by decide)
  have n0 := Int.emod_nonneg (c / 546) (show (8 : Int) ≠ 0 by decide)
  have n1 := Int.emod_lt_of_pos (c / 546) (show (0 : Int) < 8 by decide)
  obtain ⟨t, ht⟩ : ∃ t : Nat, ixD [65, 66, 67, 68, 69, 70, 71, 72, 73, 74, 75, 76, 77, 78, 79, 80, 81, 82, 83, 84, 85, 86, 87, 88, 89, 90] (c / 21 % 26) = some t := by
    rw [ixD_nat _ l0]
    refine ⟨_, List.getElem?_eq_getElem (by simp only [List.length_cons, List.length_nil]; omega)⟩
  rw [ht]
  walk_at "tq"
  refine ⟨⟨by decide, by decide⟩, by decide, by decide, ?_⟩
  refine ifB_dec (fun g => ?_) (fun g => ?_)
  · walk_at "tq"
    have rl : (repT (1 + c / 3 % 7).toNat [t]).length = (1 + c / 3 % 7).toNat := by rw [repT_len]; simp
    refine ⟨⟨by omega, by omega, by simp⟩, ⟨by omega, by omega, by simp⟩, by rw [rl, szl]; simp; omega, ?_⟩
    have := h (.never (repT (1 + c / 3 % 7).toNat [t])) (by show List.length _ ≤ 100; rw [rl]; omega)
    have er : reachR (.never (repT (1 + c / 3 % 7).toNat [t])) = 1 + c / 3 % 7 := by
      show ((List.length _ : Nat) : Int) = _
      rw [rl]; omega
    rw [er] at this
    exact this
  · walk_at "tq"
    refine ⟨⟨by decide, by decide⟩, by decide, by omega, by walk_at "sz", by walk_at "sz", by walk_at "sz", by omega, by walk_at "sz", by decide, ?_⟩
    refine ifB_dec (fun g2 => ?_) (fun g2 => ?_)
    · walk_at "tq"
      refine ⟨by walk_at "sz", ?_⟩
      have := h (.most (c / 546 % 8) [t] (1 + c / 3 % 7)) ⟨by omega, by omega, by simp⟩
      exact this
    · walk_at "tq"
      refine ⟨by walk_at "sz", ?_⟩
      have := h (.least (c / 546 % 8) [t] (1 + c / 3 % 7)) ⟨by omega, by omega, by simp⟩
      exact this
end K22
end
section
local macro_rules | `(tactic| walk_at "dl0") => `(tactic| simp only [DL.startR, DL.startRM, DL.slM, List.map_cons, List.map_nil, List.length_cons, List.length_nil, List.replicate_succ, List.replicate_zero, List.cons_append, List.nil_append, Nat.reduceAdd, Nat.reduceSub, Nat.zero_add, Nat.sub_self])
local macro_rules | `(tactic| walk_at "dl") => `(tactic| simp only [↓DL.q_var0, ↓DL.q_varS, ↓DL.q_varB0, ↓DL.q_varB0o, ↓DL.q_noL, ↓DL.q_noO, ↓DL.q_varBS, ↓DL.q_c, ↓DL.q_op, ↓DL.q_opK1, ↓DL.q_opK2, ↓DL.q_un, ↓DL.q_unK, ↓DL.q_add_ii, ↓DL.q_add_ss, ↓DL.q_add_ll, ↓DL.q_sub, ↓DL.q_mul, ↓DL.q_mod, ↓DL.q_fdiv, ↓DL.q_pow, ↓DL.q_neg, ↓DL.q_eq_bb, ↓DL.q_eq_ii, ↓DL.q_eq_ss, ↓DL.q_eq_lst, ↓DL.q_eq_tup, ↓DL.q_ne_bb, ↓DL.q_ne_ii, ↓DL.q_ne_ss, ↓DL.q_ne_lst, ↓DL.q_ne_tup, ↓DL.q_lt, ↓DL.q_le, ↓DL.q_gt, ↓DL.q_ge, ↓DL.q_isN, ↓DL.q_in_s, ↓DL.q_in_int_lst, ↓DL.q_in_int_tup, ↓DL.q_in_str_lst, ↓DL.q_in_str_tup, ↓DL.q_tst, ↓DL.q_tstK, ↓DL.q_tru, ↓DL.q_truK, ↓DL.q_teT, ↓DL.q_bT, ↓DL.q_andT, ↓DL.q_andK, ↓DL.q_orT, ↓DL.q_orK, ↓DL.q_notT, ↓DL.q_notK, ↓DL.q_veT, ↓DL.q_cT, ↓DL.q_andVK1, ↓DL.q_andVK, ↓DL.q_andV, ↓DL.q_orVK1, ↓DL.q_orVK, ↓DL.q_orV, ↓DL.q_notVK1, ↓DL.q_notVK, ↓DL.q_notV, ↓DL.q_ifEK, ↓DL.q_if, ↓DL.q_stT, ↓DL.q_ifSK, ↓DL.q_ifS, ↓DL.q_nil, ↓DL.q_cons, ↓DL.q_consK1, ↓DL.q_consK2, ↓DL.q_tup, ↓DL.q_tupK, ↓DL.q_lst, ↓DL.q_lstK0, ↓DL.q_sgnK, ↓DL.q_ix_l, ↓DL.q_ix_t, ↓DL.q_ix_s, ↓DL.q_noPart, ↓DL.q_someK, ↓DL.q_partK, ↓DL.q_part, ↓DL.q_sl, ↓DL.q_slK1, ↓DL.q_slK2, ↓DL.q_slK3, ↓DL.q_cut_l, ↓DL.q_cut_s, ↓DL.q_rvK3, ↓DL.q_rvK2, ↓DL.q_rvK1, ↓DL.q_rv, ↓DL.q_rev_l, ↓DL.q_rev_s, ↓DL.q_seq, ↓DL.q_next, ↓DL.q_brk, ↓DL.q_cont, ↓DL.q_dropK, ↓DL.q_drop, ↓DL.q_ret, ↓DL.q_retN, ↓DL.q_gNK, ↓DL.q_gN0, ↓DL.q_gNS, ↓DL.q_gNil, ↓DL.q_gCK, ↓DL.q_gCons, ↓DL.q_gT, ↓DL.q_asgK, ↓DL.q_asg, ↓DL.q_putS0, ↓DL.q_putSS, ↓DL.q_setNK, ↓DL.q_setN, ↓DL.q_getO0, ↓DL.q_getOS, ↓DL.q_appK2, ↓DL.q_appK1, ↓DL.q_appD, ↓DL.q_app, ↓DL.q_frzK, ↓DL.q_frz, ↓DL.q_apK, ↓DL.q_call, ↓DL.q_objK, ↓DL.q_mkK, ↓DL.q_make, ↓DL.q_argK, ↓DL.q_args, ↓DL.q_itK, ↓DL.q_it, ↓DL.q_rngK1, ↓DL.q_rng1, ↓DL.q_rng1A, ↓DL.q_rngK2, ↓DL.q_rng2, ↓DL.q_rng2A, ↓DL.q_zipK3, ↓DL.q_zipK2, ↓DL.q_zipK1, ↓DL.q_zip, ↓DL.q_zipA, ↓DL.q_enumK, ↓DL.q_enum, ↓DL.q_enumA, ↓DL.q_forK, ↓DL.q_for, ↓DL.q_lstK, ↓DL.q_lcK, ↓DL.q_lc, ↓DL.q_yes, ↓DL.q_fldK, ↓DL.q_fldC, ↓DL.q_onFld, ↓DL.q_methK, ↓DL.q_meth, ↓DL.q_onMeth, ↓DL.q_methK2, ↓DL.q_len_s, ↓DL.q_len_l, ↓DL.q_len_t, ↓DL.q_sumK, ↓DL.q_sum, ↓DL.q_allK, ↓DL.q_all, ↓DL.q_anyK, ↓DL.q_any, ↓DL.q_max2, ↓DL.q_min2, ↓DL.q_abs, ↓DL.q_list_l, ↓DL.q_list_t, ↓DL.q_blK, ↓DL.q_isiK, ↓DL.q_isi, ↓DL.q_joinK4, ↓DL.q_joinK3, ↓DL.q_joinK2, ↓DL.q_joinK1, ↓DL.q_join, ↓DL.q_joinV, ↓DL.q_inK, ↓DL.q_inOne, ↓DL.q_inCK, ↓DL.q_inCons, ↓DL.q_bitAnd, ↓DL.q_shr, ↓DL.q_stI, ↓DL.q_stIK1, ↓DL.q_stID, ↓DL.q_stIK2, ↓DL.q_stIK3, ↓DL.q_chain, ↓DL.q_chK1, ↓DL.q_chK2, ↓DL.q_chK3, ↓DL.q_chK4, ↓DL.q_chT, ↓DL.q_isB, ↓DL.q_inT, ↓DL.q_varB0b, ↓DL.q_clr, ↓DL.q_clrK, ↓DL.q_retOK, ↓DL.q_retO, ↓DL.q_retL, ↓DL.q_appN, ↓DL.q_appNK1, ↓DL.q_appNK2, ↓DL.q_clrN, ↓DL.q_clrNK, ↓DL.q_addL, ↓DL.q_slL, ↓DL.q_slLK1, ↓DL.q_slLK2, ↓DL.q_slLK3, ↓DL.q_cutL, ↓DL.onBl_bl, ↓DL.onInt_int, ↓DL.onStr_str, ↓DL.onOpt_some, ↓DL.ifB_true, ↓DL.ifB_false, DL.onBl_bl, DL.onInt_int, DL.onStr_str, DL.onOpt_some, DL.ifB_true, DL.ifB_false, DL.tyD_bl, DL.tyD_int, DL.tyD_str, DL.tyD_lst, DL.tyD_tup, DL.tyD_non, DL.truD_bl, DL.truD_int, DL.truD_str, DL.truD_lst, DL.q_it_lst, DL.q_it_tup, DL.q_it_s, DL.q_zi_l, DL.q_zi_s, DL.strsD_map, DL.intsD_map, DL.blsD_map, DL.kb1, DL.kb2, DL.kb3, DL.kb4, DL.kb5, DL.kb6, DL.kb7, DL.kb8, DL.kb9, DL.kb10, DL.kb11, DL.kb12, Bool.not_true, Bool.not_false, decide_true, decide_false, true_and])
local macro_rules | `(tactic| walk_at "dq") => `(tactic| simp only [K22.r_person, K22.r_house, K22.r_never, K22.r_tally, K22.r_place, K22.r_rules, K22.r_reachof, K22.r_plain, K22.r_nreach, K22.r_treach, K22.r_ntext, K22.r_mtext, K22.r_ltext, K22.r_shown, K22.r_cell, K22.r_whole, K22.r_name, K22.r_lrule, K22.r_refused, K22.r_lperson, K22.mem_1, K22.mem_3a, K22.mem_3b, K22.mem_3c, K22.mem_4a, K22.mem_4c, K22.mem_4d, K22.numsD, K22.rotaD, K22.persD, List.lookup, true_and, beq_self_eq_true, DL.fn_arcs_costs, DL.fe_arcs_costs, DL.fn_arcs_house, DL.fe_arcs_house, DL.fn_arcs_many, DL.fe_arcs_many, DL.fn_arcs_marks, DL.fe_arcs_marks, DL.fn_arcs_needs, DL.fe_arcs_needs, DL.fn_arcs_whole, DL.fe_arcs_whole, DL.fn_begin_kept, DL.fe_begin_kept, DL.fn_begin_most, DL.fe_begin_most, DL.fn_begin_rules, DL.fe_begin_rules, DL.fn_carried_level, DL.fe_carried_level, DL.fn_carried_most, DL.fe_carried_most, DL.fn_carried_name, DL.fe_carried_name, DL.fn_carried_past, DL.fe_carried_past, DL.fn_carried_skills, DL.fe_carried_skills, DL.fn_carried_weight, DL.fe_carried_weight, DL.fn_carried_wishes, DL.fe_carried_wishes, DL.fn_costs_arcs, DL.fe_costs_arcs, DL.fn_costs_house, DL.fe_costs_house, DL.fn_costs_many, DL.fe_costs_many, DL.fn_costs_marks, DL.fe_costs_marks, DL.fn_costs_needs, DL.fe_costs_needs, DL.fn_costs_whole, DL.fe_costs_whole, DL.fn_days_kinds, DL.fe_days_kinds, DL.fn_days_leave, DL.fe_days_leave, DL.fn_days_many, DL.fe_days_many, DL.fn_days_marks, DL.fe_days_marks, DL.fn_days_needs, DL.fe_days_needs, DL.fn_days_pairs, DL.fe_days_pairs, DL.fn_days_persons, DL.fe_days_persons, DL.fn_days_rules, DL.fe_days_rules, DL.fn_days_wishes, DL.fe_days_wishes, DL.fn_flows_net, DL.fe_flows_net, DL.fn_flows_prices, DL.fe_flows_prices, DL.fn_flows_spare, DL.fe_flows_spare, DL.fn_flows_touching, DL.fe_flows_touching, DL.fn_house_arcs, DL.fe_house_arcs, DL.fn_house_costs, DL.fe_house_costs, DL.fn_house_many, DL.fe_house_many, DL.fn_house_marks, DL.fe_house_marks, DL.fn_house_needs, DL.fe_house_needs, DL.fn_house_whole, DL.fe_house_whole, DL.fn_kept_begin, DL.fe_kept_begin, DL.fn_kept_most, DL.fe_kept_most, DL.fn_kept_rules, DL.fe_kept_rules, DL.fn_kinds_days, DL.fe_kinds_days, DL.fn_kinds_leave, DL.fe_kinds_leave, DL.fn_kinds_needs, DL.fe_kinds_needs, DL.fn_kinds_pairs, DL.fe_kinds_pairs, DL.fn_kinds_persons, DL.fe_kinds_persons, DL.fn_kinds_rules, DL.fe_kinds_rules, DL.fn_kinds_wishes, DL.fe_kinds_wishes, DL.fn_leave_days, DL.fe_leave_days, DL.fn_leave_kinds, DL.fe_leave_kinds, DL.fn_leave_needs, DL.fe_leave_needs, DL.fn_leave_pairs, DL.fe_leave_pairs, DL.fn_leave_persons, DL.fe_leave_persons, DL.fn_leave_rules, DL.fe_leave_rules, DL.fn_leave_wishes, DL.fe_leave_wishes, DL.fn_left_right, DL.fe_left_right, DL.fn_level_carried, DL.fe_level_carried, DL.fn_many_arcs, DL.fe_many_arcs, DL.fn_many_costs, DL.fe_many_costs, DL.fn_many_days, DL.fe_many_days, DL.fn_many_house, DL.fe_many_house, DL.fn_many_marks, DL.fe_many_marks, DL.fn_many_needs, DL.fe_many_needs, DL.fn_many_whole, DL.fe_many_whole, DL.fn_marks_arcs, DL.fe_marks_arcs, DL.fn_marks_costs, DL.fe_marks_costs, DL.fn_marks_days, DL.fe_marks_days, DL.fn_marks_house, DL.fe_marks_house, DL.fn_marks_many, DL.fe_marks_many, DL.fn_marks_needs, DL.fe_marks_needs, DL.fn_marks_whole, DL.fe_marks_whole, DL.fn_most_begin, DL.fe_most_begin, DL.fn_most_carried, DL.fe_most_carried, DL.fn_most_kept, DL.fe_most_kept, DL.fn_most_name, DL.fe_most_name, DL.fn_most_past, DL.fe_most_past, DL.fn_most_rules, DL.fe_most_rules, DL.fn_most_skills, DL.fe_most_skills, DL.fn_name_carried, DL.fe_name_carried, DL.fn_name_most, DL.fe_name_most, DL.fn_name_past, DL.fe_name_past, DL.fn_name_skills, DL.fe_name_skills, DL.fn_needs_arcs, DL.fe_needs_arcs, DL.fn_needs_costs, DL.fe_needs_costs, DL.fn_needs_days, DL.fe_needs_days, DL.fn_needs_house, DL.fe_needs_house, DL.fn_needs_kinds, DL.fe_needs_kinds, DL.fn_needs_leave, DL.fe_needs_leave, DL.fn_needs_many, DL.fe_needs_many, DL.fn_needs_marks, DL.fe_needs_marks, DL.fn_needs_pairs, DL.fe_needs_pairs, DL.fn_needs_persons, DL.fe_needs_persons, DL.fn_needs_rules, DL.fe_needs_rules, DL.fn_needs_whole, DL.fe_needs_whole, DL.fn_needs_wishes, DL.fe_needs_wishes, DL.fn_net_flows, DL.fe_net_flows, DL.fn_net_prices, DL.fe_net_prices, DL.fn_net_spare, DL.fe_net_spare, DL.fn_net_touching, DL.fe_net_touching, DL.fn_pairs_days, DL.fe_pairs_days, DL.fn_pairs_kinds, DL.fe_pairs_kinds, DL.fn_pairs_leave, DL.fe_pairs_leave, DL.fn_pairs_needs, DL.fe_pairs_needs, DL.fn_pairs_persons, DL.fe_pairs_persons, DL.fn_pairs_rules, DL.fe_pairs_rules, DL.fn_pairs_wishes, DL.fe_pairs_wishes, DL.fn_paper_rota, DL.fe_paper_rota, DL.fn_paper_total, DL.fe_paper_total, DL.fn_past_carried, DL.fe_past_carried, DL.fn_past_most, DL.fe_past_most, DL.fn_past_name, DL.fe_past_name, DL.fn_past_skills, DL.fe_past_skills, DL.fn_persons_days, DL.fe_persons_days, DL.fn_persons_kinds, DL.fe_persons_kinds, DL.fn_persons_leave, DL.fe_persons_leave, DL.fn_persons_needs, DL.fe_persons_needs, DL.fn_persons_pairs, DL.fe_persons_pairs, DL.fn_persons_rules, DL.fe_persons_rules, DL.fn_persons_wishes, DL.fe_persons_wishes, DL.fn_prices_flows, DL.fe_prices_flows, DL.fn_prices_net, DL.fe_prices_net, DL.fn_prices_spare, DL.fe_prices_spare, DL.fn_prices_touching, DL.fe_prices_touching, DL.fn_right_left, DL.fe_right_left, DL.fn_rota_paper, DL.fe_rota_paper, DL.fn_rota_total, DL.fe_rota_total, DL.fn_rules_begin, DL.fe_rules_begin, DL.fn_rules_days, DL.fe_rules_days, DL.fn_rules_kept, DL.fe_rules_kept, DL.fn_rules_kinds, DL.fe_rules_kinds, DL.fn_rules_leave, DL.fe_rules_leave, DL.fn_rules_most, DL.fe_rules_most, DL.fn_rules_needs, DL.fe_rules_needs, DL.fn_rules_pairs, DL.fe_rules_pairs, DL.fn_rules_persons, DL.fe_rules_persons, DL.fn_rules_wishes, DL.fe_rules_wishes, DL.fn_skills_carried, DL.fe_skills_carried, DL.fn_skills_most, DL.fe_skills_most, DL.fn_skills_name, DL.fe_skills_name, DL.fn_skills_past, DL.fe_skills_past, DL.fn_spare_flows, DL.fe_spare_flows, DL.fn_spare_net, DL.fe_spare_net, DL.fn_spare_prices, DL.fe_spare_prices, DL.fn_spare_touching, DL.fe_spare_touching, DL.fn_total_paper, DL.fe_total_paper, DL.fn_total_rota, DL.fe_total_rota, DL.fn_touching_flows, DL.fe_touching_flows, DL.fn_touching_net, DL.fe_touching_net, DL.fn_touching_prices, DL.fe_touching_prices, DL.fn_touching_spare, DL.fe_touching_spare, DL.fn_weight_carried, DL.fe_weight_carried, DL.fn_weight_wishes, DL.fe_weight_wishes, DL.fn_whole_arcs, DL.fe_whole_arcs, DL.fn_whole_costs, DL.fe_whole_costs, DL.fn_whole_house, DL.fe_whole_house, DL.fn_whole_many, DL.fe_whole_many, DL.fn_whole_marks, DL.fe_whole_marks, DL.fn_whole_needs, DL.fe_whole_needs, DL.fn_wishes_carried, DL.fe_wishes_carried, DL.fn_wishes_days, DL.fe_wishes_days, DL.fn_wishes_kinds, DL.fe_wishes_kinds, DL.fn_wishes_leave, DL.fe_wishes_leave, DL.fn_wishes_needs, DL.fe_wishes_needs, DL.fn_wishes_pairs, DL.fe_wishes_pairs, DL.fn_wishes_persons, DL.fe_wishes_persons, DL.fn_wishes_rules, DL.fe_wishes_rules, DL.fn_wishes_weight, DL.fe_wishes_weight, DL.fm_bad_arcs, DL.fm_bad_begin, DL.fm_bad_carried, DL.fm_bad_costs, DL.fm_bad_days, DL.fm_bad_flows, DL.fm_bad_house, DL.fm_bad_inner, DL.fm_bad_kept, DL.fm_bad_kinds, DL.fm_bad_leave, DL.fm_bad_left, DL.fm_bad_level, DL.fm_bad_many, DL.fm_bad_marks, DL.fm_bad_most, DL.fm_bad_name, DL.fm_bad_needs, DL.fm_bad_net, DL.fm_bad_pages, DL.fm_bad_pairs, DL.fm_bad_paper, DL.fm_bad_past, DL.fm_bad_persons, DL.fm_bad_places, DL.fm_bad_prices, DL.fm_bad_right, DL.fm_bad_rota, DL.fm_bad_rules, DL.fm_bad_skills, DL.fm_bad_spare, DL.fm_bad_total, DL.fm_bad_touching, DL.fm_bad_weight, DL.fm_bad_whole, DL.fm_bad_wishes, DL.fm_bad_word, DL.fm_reach_arcs, DL.fm_reach_begin, DL.fm_reach_carried, DL.fm_reach_costs, DL.fm_reach_days, DL.fm_reach_flows, DL.fm_reach_house, DL.fm_reach_inner, DL.fm_reach_kept, DL.fm_reach_kinds, DL.fm_reach_leave, DL.fm_reach_left, DL.fm_reach_level, DL.fm_reach_many, DL.fm_reach_marks, DL.fm_reach_most, DL.fm_reach_name, DL.fm_reach_needs, DL.fm_reach_net, DL.fm_reach_pages, DL.fm_reach_pairs, DL.fm_reach_paper, DL.fm_reach_past, DL.fm_reach_persons, DL.fm_reach_places, DL.fm_reach_prices, DL.fm_reach_right, DL.fm_reach_rota, DL.fm_reach_rules, DL.fm_reach_skills, DL.fm_reach_spare, DL.fm_reach_total, DL.fm_reach_touching, DL.fm_reach_weight, DL.fm_reach_whole, DL.fm_reach_wishes, DL.fm_reach_word, DL.fm_text_arcs, DL.fm_text_begin, DL.fm_text_carried, DL.fm_text_costs, DL.fm_text_days, DL.fm_text_flows, DL.fm_text_house, DL.fm_text_inner, DL.fm_text_kept, DL.fm_text_kinds, DL.fm_text_leave, DL.fm_text_left, DL.fm_text_level, DL.fm_text_many, DL.fm_text_marks, DL.fm_text_most, DL.fm_text_name, DL.fm_text_needs, DL.fm_text_net, DL.fm_text_pages, DL.fm_text_pairs, DL.fm_text_paper, DL.fm_text_past, DL.fm_text_persons, DL.fm_text_places, DL.fm_text_prices, DL.fm_text_right, DL.fm_text_rota, DL.fm_text_rules, DL.fm_text_skills, DL.fm_text_spare, DL.fm_text_total, DL.fm_text_touching, DL.fm_text_weight, DL.fm_text_whole, DL.fm_text_wishes, DL.fm_text_word, DL.fm_height_arcs, DL.fm_height_begin, DL.fm_height_carried, DL.fm_height_costs, DL.fm_height_days, DL.fm_height_flows, DL.fm_height_house, DL.fm_height_inner, DL.fm_height_kept, DL.fm_height_kinds, DL.fm_height_leave, DL.fm_height_left, DL.fm_height_level, DL.fm_height_many, DL.fm_height_marks, DL.fm_height_most, DL.fm_height_name, DL.fm_height_needs, DL.fm_height_net, DL.fm_height_pages, DL.fm_height_pairs, DL.fm_height_paper, DL.fm_height_past, DL.fm_height_persons, DL.fm_height_places, DL.fm_height_prices, DL.fm_height_right, DL.fm_height_rota, DL.fm_height_rules, DL.fm_height_skills, DL.fm_height_spare, DL.fm_height_total, DL.fm_height_touching, DL.fm_height_weight, DL.fm_height_whole, DL.fm_height_wishes, DL.fm_height_word, DL.fm_joint_arcs, DL.fm_joint_begin, DL.fm_joint_carried, DL.fm_joint_costs, DL.fm_joint_days, DL.fm_joint_flows, DL.fm_joint_house, DL.fm_joint_inner, DL.fm_joint_kept, DL.fm_joint_kinds, DL.fm_joint_leave, DL.fm_joint_left, DL.fm_joint_level, DL.fm_joint_many, DL.fm_joint_marks, DL.fm_joint_most, DL.fm_joint_name, DL.fm_joint_needs, DL.fm_joint_net, DL.fm_joint_pages, DL.fm_joint_pairs, DL.fm_joint_paper, DL.fm_joint_past, DL.fm_joint_persons, DL.fm_joint_places, DL.fm_joint_prices, DL.fm_joint_right, DL.fm_joint_rota, DL.fm_joint_rules, DL.fm_joint_skills, DL.fm_joint_spare, DL.fm_joint_total, DL.fm_joint_touching, DL.fm_joint_weight, DL.fm_joint_whole, DL.fm_joint_wishes, DL.fm_joint_word, DL.fm_counted_arcs, DL.fm_counted_begin, DL.fm_counted_carried, DL.fm_counted_costs, DL.fm_counted_days, DL.fm_counted_flows, DL.fm_counted_house, DL.fm_counted_inner, DL.fm_counted_kept, DL.fm_counted_kinds, DL.fm_counted_leave, DL.fm_counted_left, DL.fm_counted_level, DL.fm_counted_many, DL.fm_counted_marks, DL.fm_counted_most, DL.fm_counted_name, DL.fm_counted_needs, DL.fm_counted_net, DL.fm_counted_pages, DL.fm_counted_pairs, DL.fm_counted_paper, DL.fm_counted_past, DL.fm_counted_persons, DL.fm_counted_places, DL.fm_counted_prices, DL.fm_counted_right, DL.fm_counted_rota, DL.fm_counted_rules, DL.fm_counted_skills, DL.fm_counted_spare, DL.fm_counted_total, DL.fm_counted_touching, DL.fm_counted_weight, DL.fm_counted_whole, DL.fm_counted_wishes, DL.fm_counted_word, DL.fm_shown_arcs, DL.fm_shown_begin, DL.fm_shown_carried, DL.fm_shown_costs, DL.fm_shown_days, DL.fm_shown_flows, DL.fm_shown_house, DL.fm_shown_inner, DL.fm_shown_kept, DL.fm_shown_kinds, DL.fm_shown_leave, DL.fm_shown_left, DL.fm_shown_level, DL.fm_shown_many, DL.fm_shown_marks, DL.fm_shown_most, DL.fm_shown_name, DL.fm_shown_needs, DL.fm_shown_net, DL.fm_shown_pages, DL.fm_shown_pairs, DL.fm_shown_paper, DL.fm_shown_past, DL.fm_shown_persons, DL.fm_shown_places, DL.fm_shown_prices, DL.fm_shown_right, DL.fm_shown_rota, DL.fm_shown_rules, DL.fm_shown_skills, DL.fm_shown_spare, DL.fm_shown_total, DL.fm_shown_touching, DL.fm_shown_weight, DL.fm_shown_whole, DL.fm_shown_wishes, DL.fm_shown_word, DL.fm_need_arcs, DL.fm_need_begin, DL.fm_need_carried, DL.fm_need_costs, DL.fm_need_days, DL.fm_need_flows, DL.fm_need_house, DL.fm_need_inner, DL.fm_need_kept, DL.fm_need_kinds, DL.fm_need_leave, DL.fm_need_left, DL.fm_need_level, DL.fm_need_many, DL.fm_need_marks, DL.fm_need_most, DL.fm_need_name, DL.fm_need_needs, DL.fm_need_net, DL.fm_need_pages, DL.fm_need_pairs, DL.fm_need_paper, DL.fm_need_past, DL.fm_need_persons, DL.fm_need_places, DL.fm_need_prices, DL.fm_need_right, DL.fm_need_rota, DL.fm_need_rules, DL.fm_need_skills, DL.fm_need_spare, DL.fm_need_total, DL.fm_need_touching, DL.fm_need_weight, DL.fm_need_whole, DL.fm_need_wishes, DL.fm_need_word, DL.fm_may_arcs, DL.fm_may_begin, DL.fm_may_carried, DL.fm_may_costs, DL.fm_may_days, DL.fm_may_flows, DL.fm_may_house, DL.fm_may_inner, DL.fm_may_kept, DL.fm_may_kinds, DL.fm_may_leave, DL.fm_may_left, DL.fm_may_level, DL.fm_may_many, DL.fm_may_marks, DL.fm_may_most, DL.fm_may_name, DL.fm_may_needs, DL.fm_may_net, DL.fm_may_pages, DL.fm_may_pairs, DL.fm_may_paper, DL.fm_may_past, DL.fm_may_persons, DL.fm_may_places, DL.fm_may_prices, DL.fm_may_right, DL.fm_may_rota, DL.fm_may_rules, DL.fm_may_skills, DL.fm_may_spare, DL.fm_may_total, DL.fm_may_touching, DL.fm_may_weight, DL.fm_may_whole, DL.fm_may_wishes, DL.fm_may_word, DL.fm_place_of_arcs, DL.fm_place_of_begin, DL.fm_place_of_carried, DL.fm_place_of_costs, DL.fm_place_of_days, DL.fm_place_of_flows, DL.fm_place_of_house, DL.fm_place_of_inner, DL.fm_place_of_kept, DL.fm_place_of_kinds, DL.fm_place_of_leave, DL.fm_place_of_left, DL.fm_place_of_level, DL.fm_place_of_many, DL.fm_place_of_marks, DL.fm_place_of_most, DL.fm_place_of_name, DL.fm_place_of_needs, DL.fm_place_of_net, DL.fm_place_of_pages, DL.fm_place_of_pairs, DL.fm_place_of_paper, DL.fm_place_of_past, DL.fm_place_of_persons, DL.fm_place_of_places, DL.fm_place_of_prices, DL.fm_place_of_right, DL.fm_place_of_rota, DL.fm_place_of_rules, DL.fm_place_of_skills, DL.fm_place_of_spare, DL.fm_place_of_total, DL.fm_place_of_touching, DL.fm_place_of_weight, DL.fm_place_of_whole, DL.fm_place_of_wishes, DL.fm_place_of_word, DL.fm_rules_for_arcs, DL.fm_rules_for_begin, DL.fm_rules_for_carried, DL.fm_rules_for_costs, DL.fm_rules_for_days, DL.fm_rules_for_flows, DL.fm_rules_for_house, DL.fm_rules_for_inner, DL.fm_rules_for_kept, DL.fm_rules_for_kinds, DL.fm_rules_for_leave, DL.fm_rules_for_left, DL.fm_rules_for_level, DL.fm_rules_for_many, DL.fm_rules_for_marks, DL.fm_rules_for_most, DL.fm_rules_for_name, DL.fm_rules_for_needs, DL.fm_rules_for_net, DL.fm_rules_for_pages, DL.fm_rules_for_pairs, DL.fm_rules_for_paper, DL.fm_rules_for_past, DL.fm_rules_for_persons, DL.fm_rules_for_places, DL.fm_rules_for_prices, DL.fm_rules_for_right, DL.fm_rules_for_rota, DL.fm_rules_for_rules, DL.fm_rules_for_skills, DL.fm_rules_for_spare, DL.fm_rules_for_total, DL.fm_rules_for_touching, DL.fm_rules_for_weight, DL.fm_rules_for_whole, DL.fm_rules_for_wishes, DL.fm_rules_for_word, DL.fm_reach_of_arcs, DL.fm_reach_of_begin, DL.fm_reach_of_carried, DL.fm_reach_of_costs, DL.fm_reach_of_days, DL.fm_reach_of_flows, DL.fm_reach_of_house, DL.fm_reach_of_inner, DL.fm_reach_of_kept, DL.fm_reach_of_kinds, DL.fm_reach_of_leave, DL.fm_reach_of_left, DL.fm_reach_of_level, DL.fm_reach_of_many, DL.fm_reach_of_marks, DL.fm_reach_of_most, DL.fm_reach_of_name, DL.fm_reach_of_needs, DL.fm_reach_of_net, DL.fm_reach_of_pages, DL.fm_reach_of_pairs, DL.fm_reach_of_paper, DL.fm_reach_of_past, DL.fm_reach_of_persons, DL.fm_reach_of_places, DL.fm_reach_of_prices, DL.fm_reach_of_right, DL.fm_reach_of_rota, DL.fm_reach_of_rules, DL.fm_reach_of_skills, DL.fm_reach_of_spare, DL.fm_reach_of_total, DL.fm_reach_of_touching, DL.fm_reach_of_weight, DL.fm_reach_of_whole, DL.fm_reach_of_wishes, DL.fm_reach_of_word, DL.fm_plain_arcs, DL.fm_plain_begin, DL.fm_plain_carried, DL.fm_plain_costs, DL.fm_plain_days, DL.fm_plain_flows, DL.fm_plain_house, DL.fm_plain_inner, DL.fm_plain_kept, DL.fm_plain_kinds, DL.fm_plain_leave, DL.fm_plain_left, DL.fm_plain_level, DL.fm_plain_many, DL.fm_plain_marks, DL.fm_plain_most, DL.fm_plain_name, DL.fm_plain_needs, DL.fm_plain_net, DL.fm_plain_pages, DL.fm_plain_pairs, DL.fm_plain_paper, DL.fm_plain_past, DL.fm_plain_persons, DL.fm_plain_places, DL.fm_plain_prices, DL.fm_plain_right, DL.fm_plain_rota, DL.fm_plain_rules, DL.fm_plain_skills, DL.fm_plain_spare, DL.fm_plain_total, DL.fm_plain_touching, DL.fm_plain_weight, DL.fm_plain_whole, DL.fm_plain_wishes, DL.fm_plain_word, DL.fm_of_count_arcs, DL.fm_of_count_begin, DL.fm_of_count_carried, DL.fm_of_count_costs, DL.fm_of_count_days, DL.fm_of_count_flows, DL.fm_of_count_house, DL.fm_of_count_inner, DL.fm_of_count_kept, DL.fm_of_count_kinds, DL.fm_of_count_leave, DL.fm_of_count_left, DL.fm_of_count_level, DL.fm_of_count_many, DL.fm_of_count_marks, DL.fm_of_count_most, DL.fm_of_count_name, DL.fm_of_count_needs, DL.fm_of_count_net, DL.fm_of_count_pages, DL.fm_of_count_pairs, DL.fm_of_count_paper, DL.fm_of_count_past, DL.fm_of_count_persons, DL.fm_of_count_places, DL.fm_of_count_prices, DL.fm_of_count_right, DL.fm_of_count_rota, DL.fm_of_count_rules, DL.fm_of_count_skills, DL.fm_of_count_spare, DL.fm_of_count_total, DL.fm_of_count_touching, DL.fm_of_count_weight, DL.fm_of_count_whole, DL.fm_of_count_wishes, DL.fm_of_count_word, DL.fm_of_mark_arcs, DL.fm_of_mark_begin, DL.fm_of_mark_carried, DL.fm_of_mark_costs, DL.fm_of_mark_days, DL.fm_of_mark_flows, DL.fm_of_mark_house, DL.fm_of_mark_inner, DL.fm_of_mark_kept, DL.fm_of_mark_kinds, DL.fm_of_mark_leave, DL.fm_of_mark_left, DL.fm_of_mark_level, DL.fm_of_mark_many, DL.fm_of_mark_marks, DL.fm_of_mark_most, DL.fm_of_mark_name, DL.fm_of_mark_needs, DL.fm_of_mark_net, DL.fm_of_mark_pages, DL.fm_of_mark_pairs, DL.fm_of_mark_paper, DL.fm_of_mark_past, DL.fm_of_mark_persons, DL.fm_of_mark_places, DL.fm_of_mark_prices, DL.fm_of_mark_right, DL.fm_of_mark_rota, DL.fm_of_mark_rules, DL.fm_of_mark_skills, DL.fm_of_mark_spare, DL.fm_of_mark_total, DL.fm_of_mark_touching, DL.fm_of_mark_weight, DL.fm_of_mark_whole, DL.fm_of_mark_wishes, DL.fm_of_mark_word, DL.fm_floor_arcs, DL.fm_floor_begin, DL.fm_floor_carried, DL.fm_floor_costs, DL.fm_floor_days, DL.fm_floor_flows, DL.fm_floor_house, DL.fm_floor_inner, DL.fm_floor_kept, DL.fm_floor_kinds, DL.fm_floor_leave, DL.fm_floor_left, DL.fm_floor_level, DL.fm_floor_many, DL.fm_floor_marks, DL.fm_floor_most, DL.fm_floor_name, DL.fm_floor_needs, DL.fm_floor_net, DL.fm_floor_pages, DL.fm_floor_pairs, DL.fm_floor_paper, DL.fm_floor_past, DL.fm_floor_persons, DL.fm_floor_places, DL.fm_floor_prices, DL.fm_floor_right, DL.fm_floor_rota, DL.fm_floor_rules, DL.fm_floor_skills, DL.fm_floor_spare, DL.fm_floor_total, DL.fm_floor_touching, DL.fm_floor_weight, DL.fm_floor_whole, DL.fm_floor_wishes, DL.fm_floor_word, DL.fm_stands_arcs, DL.fm_stands_begin, DL.fm_stands_carried, DL.fm_stands_costs, DL.fm_stands_days, DL.fm_stands_flows, DL.fm_stands_house, DL.fm_stands_inner, DL.fm_stands_kept, DL.fm_stands_kinds, DL.fm_stands_leave, DL.fm_stands_left, DL.fm_stands_level, DL.fm_stands_many, DL.fm_stands_marks, DL.fm_stands_most, DL.fm_stands_name, DL.fm_stands_needs, DL.fm_stands_net, DL.fm_stands_pages, DL.fm_stands_pairs, DL.fm_stands_paper, DL.fm_stands_past, DL.fm_stands_persons, DL.fm_stands_places, DL.fm_stands_prices, DL.fm_stands_right, DL.fm_stands_rota, DL.fm_stands_rules, DL.fm_stands_skills, DL.fm_stands_spare, DL.fm_stands_total, DL.fm_stands_touching, DL.fm_stands_weight, DL.fm_stands_whole, DL.fm_stands_wishes, DL.fm_stands_word, DL.putD, List.lookup, if_false, if_true, ite_true, ite_false, true_and, beq_self_eq_true, DL.len0, DL.len1, DL.len2, DL.len3, DL.len4, DL.ixz0, DL.ixz1, DL.ixz2, DL.ixz3, DL.ixz4, Option.map_some, DL.q_lenS, DL.q_lenSK, DL.q_lenSK2, DL.q_rvL, DL.q_rvLK1, DL.q_rvLK2, DL.q_ins, DL.q_insK1, DL.q_insK2, DL.q_insK3, DL.q_gL, DL.q_pop, DL.q_appMk, ↓DL.q_ltA_i, ↓DL.q_ltA_t, ↓DL.q_isiC, ↓DL.q_mk0, ↓DL.q_isiT, ↓DL.q_isiTK, ↓DL.q_mulW, ↓DL.q_powW, ↓DL.q_int_i, ↓DL.q_int_b, DL.q_itB0, DL.q_itB0s, DL.q_itBS, DL.q_varS0b, DL.q_varS0s, DL.q_varSSb, DL.q_slT, DL.q_slT1, DL.q_slT2, DL.q_slT3, DL.q_cutT, DL.q_mulS, DL.q_strOf, DL.q_pt, DL.q_ptS0, DL.q_ptG, DL.q_ptSS, DL.q_nth0, DL.q_nthS, DL.q_lenT, DL.q_lenTG, DL.q_isiT1, DL.q_isiTG, DL.q_clrP, DL.q_clrP0, DL.q_clrP2, DL.q_appP, DL.q_appP0, DL.q_appP2, DL.q_appP4, DL.q_consS, DL.q_consSK, DL.q_consS1, DL.q_consO, DL.q_consOK, DL.q_geS, DL.q_getN0, DL.q_getNS, DL.q_setNl, DL.q_setNlK, DL.q_pn, DL.q_ptK, DL.q_clrNl, DL.q_clrN1, DL.q_clrN2, DL.q_appNl, DL.q_appN1, DL.q_appN2, DL.q_appN4, DL.q_popD, DL.q_callX, DL.q_callXK, DL.q_methX, DL.q_methXK, DL.q_methXK2, DL.q_raise, DL.q_isX, DL.q_isXK1, DL.q_isXK2f, DL.q_isXK2t, DL.q_isXT, DL.q_isXTK, DL.q_tryR, DL.q_getK0, DL.q_getKS, DL.q_dnew0, DL.q_dnew1, DL.q_dnK1, DL.q_dnK2, DL.q_dmv, DL.q_dmvK, DL.q_dmvK2, DL.q_dput, DL.q_dpK1, DL.q_dpK2, DL.q_dpK3, DL.q_tInK, DL.q_tInK1, DL.q_tInK2t, DL.q_tInK2f, DL.q_lenK, DL.q_lenK1, DL.q_forKd, DL.q_forKd1, DL.q_sortK, DL.q_sortK1, DL.q_eq0, ↓DL.q_var0, ↓DL.q_varS, ↓DL.q_varB0, ↓DL.q_varB0o, ↓DL.q_noL, ↓DL.q_noO, ↓DL.q_varBS, ↓DL.q_c, ↓DL.q_op, ↓DL.q_opK1, ↓DL.q_opK2, ↓DL.q_un, ↓DL.q_unK, ↓DL.q_add_ii, ↓DL.q_add_ss, ↓DL.q_add_ll, ↓DL.q_sub, ↓DL.q_mul, ↓DL.q_mod, ↓DL.q_fdiv, ↓DL.q_pow, ↓DL.q_neg, ↓DL.q_eq_bb, ↓DL.q_eq_ii, ↓DL.q_eq_ss, ↓DL.q_eq_lst, ↓DL.q_eq_tup, ↓DL.q_ne_bb, ↓DL.q_ne_ii, ↓DL.q_ne_ss, ↓DL.q_ne_lst, ↓DL.q_ne_tup, ↓DL.q_lt, ↓DL.q_le, ↓DL.q_gt, ↓DL.q_ge, ↓DL.q_isN, ↓DL.q_in_s, ↓DL.q_in_int_lst, ↓DL.q_in_int_tup, ↓DL.q_in_str_lst, ↓DL.q_in_str_tup, ↓DL.q_tst, ↓DL.q_tstK, ↓DL.q_tru, ↓DL.q_truK, ↓DL.q_teT, ↓DL.q_bT, ↓DL.q_andT, ↓DL.q_andK, ↓DL.q_orT, ↓DL.q_orK, ↓DL.q_notT, ↓DL.q_notK, ↓DL.q_veT, ↓DL.q_cT, ↓DL.q_andVK1, ↓DL.q_andVK, ↓DL.q_andV, ↓DL.q_orVK1, ↓DL.q_orVK, ↓DL.q_orV, ↓DL.q_notVK1, ↓DL.q_notVK, ↓DL.q_notV, ↓DL.q_ifEK, ↓DL.q_if, ↓DL.q_stT, ↓DL.q_ifSK, ↓DL.q_ifS, ↓DL.q_nil, ↓DL.q_cons, ↓DL.q_consK1, ↓DL.q_consK2, ↓DL.q_tup, ↓DL.q_tupK, ↓DL.q_lst, ↓DL.q_lstK0, ↓DL.q_sgnK, ↓DL.q_ix_l, ↓DL.q_ix_t, ↓DL.q_ix_s, ↓DL.q_noPart, ↓DL.q_someK, ↓DL.q_partK, ↓DL.q_part, ↓DL.q_sl, ↓DL.q_slK1, ↓DL.q_slK2, ↓DL.q_slK3, ↓DL.q_cut_l, ↓DL.q_cut_s, ↓DL.q_rvK3, ↓DL.q_rvK2, ↓DL.q_rvK1, ↓DL.q_rv, ↓DL.q_rev_l, ↓DL.q_rev_s, ↓DL.q_seq, ↓DL.q_next, ↓DL.q_brk, ↓DL.q_cont, ↓DL.q_dropK, ↓DL.q_drop, ↓DL.q_ret, ↓DL.q_retN, ↓DL.q_gNK, ↓DL.q_gN0, ↓DL.q_gNS, ↓DL.q_gNil, ↓DL.q_gCK, ↓DL.q_gCons, ↓DL.q_gT, ↓DL.q_asgK, ↓DL.q_asg, ↓DL.q_putS0, ↓DL.q_putSS, ↓DL.q_setNK, ↓DL.q_setN, ↓DL.q_getO0, ↓DL.q_getOS, ↓DL.q_appK2, ↓DL.q_appK1, ↓DL.q_appD, ↓DL.q_app, ↓DL.q_frzK, ↓DL.q_frz, ↓DL.q_apK, ↓DL.q_call, ↓DL.q_objK, ↓DL.q_mkK, ↓DL.q_make, ↓DL.q_argK, ↓DL.q_args, ↓DL.q_itK, ↓DL.q_it, ↓DL.q_rngK1, ↓DL.q_rng1, ↓DL.q_rng1A, ↓DL.q_rngK2, ↓DL.q_rng2, ↓DL.q_rng2A, ↓DL.q_zipK3, ↓DL.q_zipK2, ↓DL.q_zipK1, ↓DL.q_zip, ↓DL.q_zipA, ↓DL.q_enumK, ↓DL.q_enum, ↓DL.q_enumA, ↓DL.q_forK, ↓DL.q_for, ↓DL.q_lstK, ↓DL.q_lcK, ↓DL.q_lc, ↓DL.q_yes, ↓DL.q_fldK, ↓DL.q_fldC, ↓DL.q_onFld, ↓DL.q_methK, ↓DL.q_meth, ↓DL.q_onMeth, ↓DL.q_methK2, ↓DL.q_len_s, ↓DL.q_len_l, ↓DL.q_len_t, ↓DL.q_sumK, ↓DL.q_sum, ↓DL.q_allK, ↓DL.q_all, ↓DL.q_anyK, ↓DL.q_any, ↓DL.q_max2, ↓DL.q_min2, ↓DL.q_abs, ↓DL.q_list_l, ↓DL.q_list_t, ↓DL.q_blK, ↓DL.q_isiK, ↓DL.q_isi, ↓DL.q_joinK4, ↓DL.q_joinK3, ↓DL.q_joinK2, ↓DL.q_joinK1, ↓DL.q_join, ↓DL.q_joinV, ↓DL.q_inK, ↓DL.q_inOne, ↓DL.q_inCK, ↓DL.q_inCons, ↓DL.q_bitAnd, ↓DL.q_shr, ↓DL.q_stI, ↓DL.q_stIK1, ↓DL.q_stID, ↓DL.q_stIK2, ↓DL.q_stIK3, ↓DL.q_chain, ↓DL.q_chK1, ↓DL.q_chK2, ↓DL.q_chK3, ↓DL.q_chK4, ↓DL.q_chT, ↓DL.q_isB, ↓DL.q_inT, ↓DL.q_varB0b, ↓DL.q_clr, ↓DL.q_clrK, ↓DL.q_retOK, ↓DL.q_retO, ↓DL.q_retL, ↓DL.q_appN, ↓DL.q_appNK1, ↓DL.q_appNK2, ↓DL.q_clrN, ↓DL.q_clrNK, ↓DL.q_addL, ↓DL.q_slL, ↓DL.q_slLK1, ↓DL.q_slLK2, ↓DL.q_slLK3, ↓DL.q_cutL, ↓DL.onBl_bl, ↓DL.onInt_int, ↓DL.onStr_str, ↓DL.onOpt_some, ↓DL.ifB_true, ↓DL.ifB_false, DL.onBl_bl, DL.onInt_int, DL.onStr_str, DL.onOpt_some, DL.ifB_true, DL.ifB_false, DL.tyD_bl, DL.tyD_int, DL.tyD_str, DL.tyD_lst, DL.tyD_tup, DL.tyD_non, DL.truD_bl, DL.truD_int, DL.truD_str, DL.truD_lst, DL.q_it_lst, DL.q_it_tup, DL.q_it_s, DL.q_zi_l, DL.q_zi_s, DL.strsD_map, DL.intsD_map, DL.blsD_map, DL.kb1, DL.kb2, DL.kb3, DL.kb4, DL.kb5, DL.kb6, DL.kb7, DL.kb8, DL.kb9, DL.kb10, DL.kb11, DL.kb12, Bool.not_true, Bool.not_false, decide_true, decide_false, true_and])
local macro_rules | `(tactic| walk_at "tq") => `(tactic| try (walk_at "dq"))
local macro_rules | `(tactic| walk_at "sz") => `(tactic| first | decide | omega | (rw [DL.szl]; simp only [List.length_append, List.length_cons, List.length_nil, List.length_map, DL.rngD_len]; first | done | omega))
namespace K22
open PySem L2 DL
theorem bound_mem {nm : Tx} {rs : List (Tx × Rul)} {z : Nat × (Tx × Rul)} (h : z ∈ bound nm rs) : z.2 ∈ rs := by
  have := (List.mem_filter.mp h).1
  exact (List.of_mem_zip (show (z.1, z.2) ∈ _ from this)).2
theorem bound_len (nm : Tx) (rs : List (Tx × Rul)) : (bound nm rs).length ≤ rs.length := by
  refine Nat.le_trans (List.length_filter_le _ _) ?_
  rw [List.length_zip, List.length_range]; omega
def pairZ (A : Ad) (z : Nat × (Tx × Rul)) : D := .tup [numD A z, toldD z]
theorem zip_maps {A : Ad} {l : List (Nat × (Tx × Rul))} : ((l.map (numD A)).zip (l.map toldD)).map (fun p : D × D => D.tup [p.1, p.2]) = l.map (pairZ A) := by
  induction l with
  | nil => rfl
  | cons a l ih => simp only [List.map_cons, List.zip_cons_cons, ih, pairZ]
theorem on_text {A : Ad} {r : Rul} {ρ : Rh} {P : D → Prop} (hr : okRul r) (h : P (.str (textR r))) : onMeth (ruleD A r) (M_text A) (Str.ofString "text") dNil ρ P := by
  cases r with
  | never w =>
    unfold ruleD neverD
    walk_at "tq"
    refine methAp_intro (by walk_at "dq") (.inl ⟨rfl, rfl⟩) ?_
    walk_at "tq"
    exact ⟨w, rfl, hr, h⟩
  | most n w d =>
    unfold ruleD mostD
    walk_at "tq"
    refine methAp_intro (by walk_at "dq") (.inr (.inl ⟨rfl, rfl⟩)) ?_
    walk_at "tq"
    exact ⟨n, w, d, rfl, hr, h⟩
  | least n w d =>
    unfold ruleD leastD
    walk_at "tq"
    refine methAp_intro (by walk_at "dq") (.inr (.inr ⟨rfl, rfl⟩)) ?_
    walk_at "tq"
    exact ⟨n, w, d, rfl, hr, h⟩
theorem top_max {l : List Int} {m : Int} (h1 : m ∈ l) (h2 : ∀ y, y ∈ l → y ≤ m) : topOf m l := ⟨h1, h2⟩
theorem top_un {l : List Int} {m n : Int} (h1 : topOf m l) (h2 : topOf n l) : m = n := Int.le_antisymm (h2.2 _ h1.1) (h1.2 _ h2.1)
theorem sem_House_reach_of (A : Ad) : ∀ ds Q, S_House_reach_of A ds Q → d_House_reach_of A { nx := fun _ => Q .non, rt := Q } (startR ["self", "p", "number", "rule"] ds) := by
  intro ds Q h
  unfold S_House_reach_of at h
  split at h <;> first | exact False.elim h | skip
  rename_i x p
  obtain ⟨d, ks, ns, ps, lv, ws, rs, pr, q, rfl, ⟨hl, hp, hq⟩, h⟩ := h
  unfold d_House_reach_of houseD
  walk_at "dl0"
  walk_at "tq"
  refine methAp_intro (by walk_at "dq") ⟨rfl, rfl⟩ ?_
  walk_at "tq"
  refine ⟨d, ks, ns, ps, lv, ws, rs, pr, q, rfl, ⟨hl, hp, hq⟩, ?_⟩
  walk_at "tq"
  have bl := bound_len q.name rs
  refine ⟨by rw [List.length_map, szl]; omega, ?_⟩
  refine lcD_of (numD A) (fun z => .int (reachQ z)) ?_ (dgT_mono (dgCons_mono dgN_mono (dgCons_mono dgN_mono dgNil_mono))) dYes_mono ?_
  · intro z hz Q' hQ
    simp only [wipeR, List.set]
    unfold numD
    walk_at "tq"
    refine ⟨rfl, ?_⟩
    obtain ⟨i, nm, r⟩ := z
    cases r with
    | never w =>
      refine methAp_intro (by walk_at "dq") (.inl ⟨rfl, rfl⟩) ?_
      walk_at "tq"
      exact ⟨w, rfl, hQ⟩
    | most n w d =>
      refine methAp_intro (by walk_at "dq") (.inr (.inl ⟨rfl, rfl⟩)) ?_
      walk_at "tq"
      exact ⟨n, w, d, .inl rfl, hQ⟩
    | least n w d =>
      refine methAp_intro (by walk_at "dq") (.inr (.inr ⟨rfl, rfl⟩)) ?_
      walk_at "tq"
      exact ⟨n, w, d, .inr rfl, hQ⟩
  walk_at "tq"
  refine ⟨by rw [szl]; simp; omega, 1 :: (bound q.name rs).map reachQ, by simp, by simp, fun m h1 h2 => h m (top_max h1 h2)⟩
theorem sem_l_refused (A : Ad) : ∀ ds Q, S_l_refused A ds Q → d_l_refused A { nx := fun _ => Q .non, rt := Q } (startR ["_law_house", "_law_name_here", "_law_error", "e"] ds) := by
  intro ds Q h
  unfold S_l_refused at h
  split at h <;> first | exact False.elim h | skip
  rename_i x nm
  obtain ⟨d, ks, ns, ps, lv, ws, rs, pr, rfl, ⟨hl, hn⟩, h⟩ := h
  unfold d_l_refused
  walk_at "dl0"
  walk_at "tq"
  rw [q_tryK]
  refine ⟨trivial, by show 3 < 4; decide, ?_⟩
  unfold houseD
  walk_at "tq"
  refine methApX_intro (by walk_at "dq") ⟨rfl, rfl⟩ ?_
  walk_at "tq"
  refine ⟨d, ks, ns, ps, lv, ws, rs, pr, rfl, hl, ?_, ?_⟩
  · intro p z
    exact absurd (List.mem_of_getElem? z) hn
  intro _
  refine ⟨by simp [caught_RotaError], rfl, fun e => ?_⟩
  simp only [List.set_cons_zero, List.set_cons_succ]
  walk_at "tq"
  refine ⟨fun _ => false, by simp [kinX], ?_⟩
  rw [show ([A.cFaulty, A.cNoDay, A.cNoHouse, A.cNoRow, A.cNoRule, A.cTooWide] : List Addr).any (fun _ => false) = false from rfl]
  walk_at "tq"
  refine ⟨true, by simp [kinX], ?_⟩
  walk_at "tq"
  refine ⟨true, by simp [kinB], ?_⟩
  exact h
theorem sem_l_person (A : Ad) : ∀ ds Q, S_l_person A ds Q → d_l_person A { nx := fun _ => Q .non, rt := Q } (startR ["_law_house", "_law_p", "_law_bound", "_law_found", "_law_one", "_law_due", "_law_reach"] ds) := by
  intro ds Q h
  unfold S_l_person at h
  split at h <;> first | exact False.elim h | skip
  rename_i x p y
  obtain ⟨d, ks, ns, ps, lv, ws, rs, pr, q, rfl, rfl, ⟨hl, ⟨hp, hq⟩, hr⟩, h⟩ := h
  unfold d_l_person houseD
  walk_at "dl0"
  walk_at "tq"
  refine methAp_intro (by walk_at "dq") ⟨rfl, rfl⟩ ?_
  walk_at "tq"
  refine ⟨d, ks, ns, ps, lv, ws, rs, pr, q, rfl, ⟨hl, hp, hq⟩, ?_⟩
  walk_at "tq"
  have bl := bound_len q.name rs
  rw [show (!decide (((List.map (numD A) (bound q.name rs)).length : Int) = ((List.map toldD (bound q.name rs)).length : Int))) = false by simp]
  walk_at "tq"
  rw [zip_maps]
  refine forD_ind (fun i ρ => ∃ t1 t2 : Sl, ρ = [.sh (houseD A d ks ns ps lv ws rs pr), .sh (.int p), .sh (.lst ((bound q.name rs).map toldD)), .sh (.lst ((bound q.name rs).map (numD A))), t1, t2, .no]) ⟨_, _, rfl⟩ ?_ (dgT_mono (dgCons_mono dgN_mono (dgCons_mono dgN_mono dgNil_mono))) ?_
  · rintro i x ρ hx ⟨t1, t2, rfl⟩
    obtain ⟨z, hz, rfl⟩ := map_get hx
    have hm := hr _ (bound_mem (List.mem_of_getElem? hz))
    unfold houseD pairZ numD toldD
    walk_at "tq"
    refine ⟨rfl, fun nx hnx => ?_⟩
    rw [show (!decide ((([D.int (z.1 : Nat), ruleD A z.2.2] : List D).length : Int) = 2)) = false from rfl]
    walk_at "tq"
    refine on_text hm ?_
    walk_at "tq"
    exact hnx _ ⟨_, _, rfl⟩
  · rintro ρ ⟨t1, t2, rfl⟩
    unfold houseD
    walk_at "tq"
    refine methAp_intro (by walk_at "dq") ⟨rfl, rfl⟩ ?_
    walk_at "tq"
    refine ⟨d, ks, ns, ps, lv, ws, rs, pr, q, rfl, ⟨hl, hp, hq⟩, fun m hm => ?_⟩
    walk_at "tq"
    refine ⟨by rw [szl]; simp; omega, ?_⟩
    refine lcD_of toldD (fun z => .int (reachQ z)) ?_ dgN_mono dYes_mono ?_
    · intro z hz Q' hQ
      simp only [wipeR, List.set]
      unfold toldD
      walk_at "tq"
      exact hQ
    walk_at "tq"
    refine ⟨by rw [szl]; simp; omega, 1 :: (bound q.name rs).map reachQ, by simp, by simp, fun m2 h1 h2 => ?_⟩
    rw [top_un hm (top_max h1 h2)]
    walk_at "tq"
    exact h
end K22
end
section
set_option maxHeartbeats 0
local macro_rules | `(tactic| walk_at "dl0") => `(tactic| simp only [DL.startR, DL.startRM, DL.slM, List.map_cons, List.map_nil, List.length_cons, List.length_nil, List.replicate_succ, List.replicate_zero, List.cons_append, List.nil_append, Nat.reduceAdd, Nat.reduceSub, Nat.zero_add, Nat.sub_self])
local macro_rules | `(tactic| walk_at "dl") => `(tactic| simp only [↓DL.q_var0, ↓DL.q_varS, ↓DL.q_varB0, ↓DL.q_varB0o, ↓DL.q_noL, ↓DL.q_noO, ↓DL.q_varBS, ↓DL.q_c, ↓DL.q_op, ↓DL.q_opK1, ↓DL.q_opK2, ↓DL.q_un, ↓DL.q_unK, ↓DL.q_add_ii, ↓DL.q_add_ss, ↓DL.q_add_ll, ↓DL.q_sub, ↓DL.q_mul, ↓DL.q_mod, ↓DL.q_fdiv, ↓DL.q_pow, ↓DL.q_neg, ↓DL.q_eq_bb, ↓DL.q_eq_ii, ↓DL.q_eq_ss, ↓DL.q_eq_lst, ↓DL.q_eq_tup, ↓DL.q_ne_bb, ↓DL.q_ne_ii, ↓DL.q_ne_ss, ↓DL.q_ne_lst, ↓DL.q_ne_tup, ↓DL.q_lt, ↓DL.q_le, ↓DL.q_gt, ↓DL.q_ge, ↓DL.q_isN, ↓DL.q_in_s, ↓DL.q_in_int_lst, ↓DL.q_in_int_tup, ↓DL.q_in_str_lst, ↓DL.q_in_str_tup, ↓DL.q_tst, ↓DL.q_tstK, ↓DL.q_tru, ↓DL.q_truK, ↓DL.q_teT, ↓DL.q_bT, ↓DL.q_andT, ↓DL.q_andK, ↓DL.q_orT, ↓DL.q_orK, ↓DL.q_notT, ↓DL.q_notK, ↓DL.q_veT, ↓DL.q_cT, ↓DL.q_andVK1, ↓DL.q_andVK, ↓DL.q_andV, ↓DL.q_orVK1, ↓DL.q_orVK, ↓DL.q_orV, ↓DL.q_notVK1, ↓DL.q_notVK, ↓DL.q_notV, ↓DL.q_ifEK, ↓DL.q_if, ↓DL.q_stT, ↓DL.q_ifSK, ↓DL.q_ifS, ↓DL.q_nil, ↓DL.q_cons, ↓DL.q_consK1, ↓DL.q_consK2, ↓DL.q_tup, ↓DL.q_tupK, ↓DL.q_lst, ↓DL.q_lstK0, ↓DL.q_sgnK, ↓DL.q_ix_l, ↓DL.q_ix_t, ↓DL.q_ix_s, ↓DL.q_noPart, ↓DL.q_someK, ↓DL.q_partK, ↓DL.q_part, ↓DL.q_sl, ↓DL.q_slK1, ↓DL.q_slK2, ↓DL.q_slK3, ↓DL.q_cut_l, ↓DL.q_cut_s, ↓DL.q_rvK3, ↓DL.q_rvK2, ↓DL.q_rvK1, ↓DL.q_rv, ↓DL.q_rev_l, ↓DL.q_rev_s, ↓DL.q_seq, ↓DL.q_next, ↓DL.q_brk, ↓DL.q_cont, ↓DL.q_dropK, ↓DL.q_drop, ↓DL.q_ret, ↓DL.q_retN, ↓DL.q_gNK, ↓DL.q_gN0, ↓DL.q_gNS, ↓DL.q_gNil, ↓DL.q_gCK, ↓DL.q_gCons, ↓DL.q_gT, ↓DL.q_asgK, ↓DL.q_asg, ↓DL.q_putS0, ↓DL.q_putSS, ↓DL.q_setNK, ↓DL.q_setN, ↓DL.q_getO0, ↓DL.q_getOS, ↓DL.q_appK2, ↓DL.q_appK1, ↓DL.q_appD, ↓DL.q_app, ↓DL.q_frzK, ↓DL.q_frz, ↓DL.q_apK, ↓DL.q_call, ↓DL.q_objK, ↓DL.q_mkK, ↓DL.q_make, ↓DL.q_argK, ↓DL.q_args, ↓DL.q_itK, ↓DL.q_it, ↓DL.q_rngK1, ↓DL.q_rng1, ↓DL.q_rng1A, ↓DL.q_rngK2, ↓DL.q_rng2, ↓DL.q_rng2A, ↓DL.q_zipK3, ↓DL.q_zipK2, ↓DL.q_zipK1, ↓DL.q_zip, ↓DL.q_zipA, ↓DL.q_enumK, ↓DL.q_enum, ↓DL.q_enumA, ↓DL.q_forK, ↓DL.q_for, ↓DL.q_lstK, ↓DL.q_lcK, ↓DL.q_lc, ↓DL.q_yes, ↓DL.q_fldK, ↓DL.q_fldC, ↓DL.q_onFld, ↓DL.q_methK, ↓DL.q_meth, ↓DL.q_onMeth, ↓DL.q_methK2, ↓DL.q_len_s, ↓DL.q_len_l, ↓DL.q_len_t, ↓DL.q_sumK, ↓DL.q_sum, ↓DL.q_allK, ↓DL.q_all, ↓DL.q_anyK, ↓DL.q_any, ↓DL.q_max2, ↓DL.q_min2, ↓DL.q_abs, ↓DL.q_list_l, ↓DL.q_list_t, ↓DL.q_blK, ↓DL.q_isiK, ↓DL.q_isi, ↓DL.q_joinK4, ↓DL.q_joinK3, ↓DL.q_joinK2, ↓DL.q_joinK1, ↓DL.q_join, ↓DL.q_joinV, ↓DL.q_inK, ↓DL.q_inOne, ↓DL.q_inCK, ↓DL.q_inCons, ↓DL.q_bitAnd, ↓DL.q_shr, ↓DL.q_stI, ↓DL.q_stIK1, ↓DL.q_stID, ↓DL.q_stIK2, ↓DL.q_stIK3, ↓DL.q_chain, ↓DL.q_chK1, ↓DL.q_chK2, ↓DL.q_chK3, ↓DL.q_chK4, ↓DL.q_chT, ↓DL.q_isB, ↓DL.q_inT, ↓DL.q_varB0b, ↓DL.q_clr, ↓DL.q_clrK, ↓DL.q_retOK, ↓DL.q_retO, ↓DL.q_retL, ↓DL.q_appN, ↓DL.q_appNK1, ↓DL.q_appNK2, ↓DL.q_clrN, ↓DL.q_clrNK, ↓DL.q_addL, ↓DL.q_slL, ↓DL.q_slLK1, ↓DL.q_slLK2, ↓DL.q_slLK3, ↓DL.q_cutL, ↓DL.onBl_bl, ↓DL.onInt_int, ↓DL.onStr_str, ↓DL.onOpt_some, ↓DL.ifB_true, ↓DL.ifB_false, DL.onBl_bl, DL.onInt_int, DL.onStr_str, DL.onOpt_some, DL.ifB_true, DL.ifB_false, DL.tyD_bl, DL.tyD_int, DL.tyD_str, DL.tyD_lst, DL.tyD_tup, DL.tyD_non, DL.truD_bl, DL.truD_int, DL.truD_str, DL.truD_lst, DL.q_it_lst, DL.q_it_tup, DL.q_it_s, DL.q_zi_l, DL.q_zi_s, DL.strsD_map, DL.intsD_map, DL.blsD_map, DL.kb1, DL.kb2, DL.kb3, DL.kb4, DL.kb5, DL.kb6, DL.kb7, DL.kb8, DL.kb9, DL.kb10, DL.kb11, DL.kb12, Bool.not_true, Bool.not_false, decide_true, decide_false, true_and])
local macro_rules | `(tactic| walk_at "dq") => `(tactic| simp only [K22.r_person, K22.r_house, K22.r_never, K22.r_tally, K22.r_place, K22.r_rules, K22.r_reachof, K22.r_plain, K22.r_nreach, K22.r_treach, K22.r_ntext, K22.r_mtext, K22.r_ltext, K22.r_shown, K22.r_cell, K22.r_whole, K22.r_name, K22.r_lrule, K22.r_refused, K22.r_lperson, K22.mem_1, K22.mem_3a, K22.mem_3b, K22.mem_3c, K22.mem_4a, K22.mem_4c, K22.mem_4d, K22.numsD, K22.rotaD, K22.persD, List.lookup, true_and, beq_self_eq_true, DL.fn_arcs_costs, DL.fe_arcs_costs, DL.fn_arcs_house, DL.fe_arcs_house, DL.fn_arcs_many, DL.fe_arcs_many, DL.fn_arcs_marks, DL.fe_arcs_marks, DL.fn_arcs_needs, DL.fe_arcs_needs, DL.fn_arcs_whole, DL.fe_arcs_whole, DL.fn_begin_kept, DL.fe_begin_kept, DL.fn_begin_most, DL.fe_begin_most, DL.fn_begin_rules, DL.fe_begin_rules, DL.fn_carried_level, DL.fe_carried_level, DL.fn_carried_most, DL.fe_carried_most, DL.fn_carried_name, DL.fe_carried_name, DL.fn_carried_past, DL.fe_carried_past, DL.fn_carried_skills, DL.fe_carried_skills, DL.fn_carried_weight, DL.fe_carried_weight, DL.fn_carried_wishes, DL.fe_carried_wishes, DL.fn_costs_arcs, DL.fe_costs_arcs, DL.fn_costs_house, DL.fe_costs_house, DL.fn_costs_many, DL.fe_costs_many, DL.fn_costs_marks, DL.fe_costs_marks, DL.fn_costs_needs, DL.fe_costs_needs, DL.fn_costs_whole, DL.fe_costs_whole, DL.fn_days_kinds, DL.fe_days_kinds, DL.fn_days_leave, DL.fe_days_leave, DL.fn_days_many, DL.fe_days_many, DL.fn_days_marks, DL.fe_days_marks, DL.fn_days_needs, DL.fe_days_needs, DL.fn_days_pairs, DL.fe_days_pairs, DL.fn_days_persons, DL.fe_days_persons, DL.fn_days_rules, DL.fe_days_rules, DL.fn_days_wishes, DL.fe_days_wishes, DL.fn_flows_net, DL.fe_flows_net, DL.fn_flows_prices, DL.fe_flows_prices, DL.fn_flows_spare, DL.fe_flows_spare, DL.fn_flows_touching, DL.fe_flows_touching, DL.fn_house_arcs, DL.fe_house_arcs, DL.fn_house_costs, DL.fe_house_costs, DL.fn_house_many, DL.fe_house_many, DL.fn_house_marks, DL.fe_house_marks, DL.fn_house_needs, DL.fe_house_needs, DL.fn_house_whole, DL.fe_house_whole, DL.fn_kept_begin, DL.fe_kept_begin, DL.fn_kept_most, DL.fe_kept_most, DL.fn_kept_rules, DL.fe_kept_rules, DL.fn_kinds_days, DL.fe_kinds_days, DL.fn_kinds_leave, DL.fe_kinds_leave, DL.fn_kinds_needs, DL.fe_kinds_needs, DL.fn_kinds_pairs, DL.fe_kinds_pairs, DL.fn_kinds_persons, DL.fe_kinds_persons, DL.fn_kinds_rules, DL.fe_kinds_rules, DL.fn_kinds_wishes, DL.fe_kinds_wishes, DL.fn_leave_days, DL.fe_leave_days, DL.fn_leave_kinds, DL.fe_leave_kinds, DL.fn_leave_needs, DL.fe_leave_needs, DL.fn_leave_pairs, DL.fe_leave_pairs, DL.fn_leave_persons, DL.fe_leave_persons, DL.fn_leave_rules, DL.fe_leave_rules, DL.fn_leave_wishes, DL.fe_leave_wishes, DL.fn_left_right, DL.fe_left_right, DL.fn_level_carried, DL.fe_level_carried, DL.fn_many_arcs, DL.fe_many_arcs, DL.fn_many_costs, DL.fe_many_costs, DL.fn_many_days, DL.fe_many_days, DL.fn_many_house, DL.fe_many_house, DL.fn_many_marks, DL.fe_many_marks, DL.fn_many_needs, DL.fe_many_needs, DL.fn_many_whole, DL.fe_many_whole, DL.fn_marks_arcs, DL.fe_marks_arcs, DL.fn_marks_costs, DL.fe_marks_costs, DL.fn_marks_days, DL.fe_marks_days, DL.fn_marks_house, DL.fe_marks_house, DL.fn_marks_many, DL.fe_marks_many, DL.fn_marks_needs, DL.fe_marks_needs, DL.fn_marks_whole, DL.fe_marks_whole, DL.fn_most_begin, DL.fe_most_begin, DL.fn_most_carried, DL.fe_most_carried, DL.fn_most_kept, DL.fe_most_kept, DL.fn_most_name, DL.fe_most_name, DL.fn_most_past, DL.fe_most_past, DL.fn_most_rules, DL.fe_most_rules, DL.fn_most_skills, DL.fe_most_skills, DL.fn_name_carried, DL.fe_name_carried, DL.fn_name_most, DL.fe_name_most, DL.fn_name_past, DL.fe_name_past, DL.fn_name_skills, DL.fe_name_skills, DL.fn_needs_arcs, DL.fe_needs_arcs, DL.fn_needs_costs, DL.fe_needs_costs, DL.fn_needs_days, DL.fe_needs_days, DL.fn_needs_house, DL.fe_needs_house, DL.fn_needs_kinds, DL.fe_needs_kinds, DL.fn_needs_leave, DL.fe_needs_leave, DL.fn_needs_many, DL.fe_needs_many, DL.fn_needs_marks, DL.fe_needs_marks, DL.fn_needs_pairs, DL.fe_needs_pairs, DL.fn_needs_persons, DL.fe_needs_persons, DL.fn_needs_rules, DL.fe_needs_rules, DL.fn_needs_whole, DL.fe_needs_whole, DL.fn_needs_wishes, DL.fe_needs_wishes, DL.fn_net_flows, DL.fe_net_flows, DL.fn_net_prices, DL.fe_net_prices, DL.fn_net_spare, DL.fe_net_spare, DL.fn_net_touching, DL.fe_net_touching, DL.fn_pairs_days, DL.fe_pairs_days, DL.fn_pairs_kinds, DL.fe_pairs_kinds, DL.fn_pairs_leave, DL.fe_pairs_leave, DL.fn_pairs_needs, DL.fe_pairs_needs, DL.fn_pairs_persons, DL.fe_pairs_persons, DL.fn_pairs_rules, DL.fe_pairs_rules, DL.fn_pairs_wishes, DL.fe_pairs_wishes, DL.fn_paper_rota, DL.fe_paper_rota, DL.fn_paper_total, DL.fe_paper_total, DL.fn_past_carried, DL.fe_past_carried, DL.fn_past_most, DL.fe_past_most, DL.fn_past_name, DL.fe_past_name, DL.fn_past_skills, DL.fe_past_skills, DL.fn_persons_days, DL.fe_persons_days, DL.fn_persons_kinds, DL.fe_persons_kinds, DL.fn_persons_leave, DL.fe_persons_leave, DL.fn_persons_needs, DL.fe_persons_needs, DL.fn_persons_pairs, DL.fe_persons_pairs, DL.fn_persons_rules, DL.fe_persons_rules, DL.fn_persons_wishes, DL.fe_persons_wishes, DL.fn_prices_flows, DL.fe_prices_flows, DL.fn_prices_net, DL.fe_prices_net, DL.fn_prices_spare, DL.fe_prices_spare, DL.fn_prices_touching, DL.fe_prices_touching, DL.fn_right_left, DL.fe_right_left, DL.fn_rota_paper, DL.fe_rota_paper, DL.fn_rota_total, DL.fe_rota_total, DL.fn_rules_begin, DL.fe_rules_begin, DL.fn_rules_days, DL.fe_rules_days, DL.fn_rules_kept, DL.fe_rules_kept, DL.fn_rules_kinds, DL.fe_rules_kinds, DL.fn_rules_leave, DL.fe_rules_leave, DL.fn_rules_most, DL.fe_rules_most, DL.fn_rules_needs, DL.fe_rules_needs, DL.fn_rules_pairs, DL.fe_rules_pairs, DL.fn_rules_persons, DL.fe_rules_persons, DL.fn_rules_wishes, DL.fe_rules_wishes, DL.fn_skills_carried, DL.fe_skills_carried, DL.fn_skills_most, DL.fe_skills_most, DL.fn_skills_name, DL.fe_skills_name, DL.fn_skills_past, DL.fe_skills_past, DL.fn_spare_flows, DL.fe_spare_flows, DL.fn_spare_net, DL.fe_spare_net, DL.fn_spare_prices, DL.fe_spare_prices, DL.fn_spare_touching, DL.fe_spare_touching, DL.fn_total_paper, DL.fe_total_paper, DL.fn_total_rota, DL.fe_total_rota, DL.fn_touching_flows, DL.fe_touching_flows, DL.fn_touching_net, DL.fe_touching_net, DL.fn_touching_prices, DL.fe_touching_prices, DL.fn_touching_spare, DL.fe_touching_spare, DL.fn_weight_carried, DL.fe_weight_carried, DL.fn_weight_wishes, DL.fe_weight_wishes, DL.fn_whole_arcs, DL.fe_whole_arcs, DL.fn_whole_costs, DL.fe_whole_costs, DL.fn_whole_house, DL.fe_whole_house, DL.fn_whole_many, DL.fe_whole_many, DL.fn_whole_marks, DL.fe_whole_marks, DL.fn_whole_needs, DL.fe_whole_needs, DL.fn_wishes_carried, DL.fe_wishes_carried, DL.fn_wishes_days, DL.fe_wishes_days, DL.fn_wishes_kinds, DL.fe_wishes_kinds, DL.fn_wishes_leave, DL.fe_wishes_leave, DL.fn_wishes_needs, DL.fe_wishes_needs, DL.fn_wishes_pairs, DL.fe_wishes_pairs, DL.fn_wishes_persons, DL.fe_wishes_persons, DL.fn_wishes_rules, DL.fe_wishes_rules, DL.fn_wishes_weight, DL.fe_wishes_weight, DL.fm_bad_arcs, DL.fm_bad_begin, DL.fm_bad_carried, DL.fm_bad_costs, DL.fm_bad_days, DL.fm_bad_flows, DL.fm_bad_house, DL.fm_bad_inner, DL.fm_bad_kept, DL.fm_bad_kinds, DL.fm_bad_leave, DL.fm_bad_left, DL.fm_bad_level, DL.fm_bad_many, DL.fm_bad_marks, DL.fm_bad_most, DL.fm_bad_name, DL.fm_bad_needs, DL.fm_bad_net, DL.fm_bad_pages, DL.fm_bad_pairs, DL.fm_bad_paper, DL.fm_bad_past, DL.fm_bad_persons, DL.fm_bad_places, DL.fm_bad_prices, DL.fm_bad_right, DL.fm_bad_rota, DL.fm_bad_rules, DL.fm_bad_skills, DL.fm_bad_spare, DL.fm_bad_total, DL.fm_bad_touching, DL.fm_bad_weight, DL.fm_bad_whole, DL.fm_bad_wishes, DL.fm_bad_word, DL.fm_reach_arcs, DL.fm_reach_begin, DL.fm_reach_carried, DL.fm_reach_costs, DL.fm_reach_days, DL.fm_reach_flows, DL.fm_reach_house, DL.fm_reach_inner, DL.fm_reach_kept, DL.fm_reach_kinds, DL.fm_reach_leave, DL.fm_reach_left, DL.fm_reach_level, DL.fm_reach_many, DL.fm_reach_marks, DL.fm_reach_most, DL.fm_reach_name, DL.fm_reach_needs, DL.fm_reach_net, DL.fm_reach_pages, DL.fm_reach_pairs, DL.fm_reach_paper, DL.fm_reach_past, DL.fm_reach_persons, DL.fm_reach_places, DL.fm_reach_prices, DL.fm_reach_right, DL.fm_reach_rota, DL.fm_reach_rules, DL.fm_reach_skills, DL.fm_reach_spare, DL.fm_reach_total, DL.fm_reach_touching, DL.fm_reach_weight, DL.fm_reach_whole, DL.fm_reach_wishes, DL.fm_reach_word, DL.fm_text_arcs, DL.fm_text_begin, DL.fm_text_carried, DL.fm_text_costs, DL.fm_text_days, DL.fm_text_flows, DL.fm_text_house, DL.fm_text_inner, DL.fm_text_kept, DL.fm_text_kinds, DL.fm_text_leave, DL.fm_text_left, DL.fm_text_level, DL.fm_text_many, DL.fm_text_marks, DL.fm_text_most, DL.fm_text_name, DL.fm_text_needs, DL.fm_text_net, DL.fm_text_pages, DL.fm_text_pairs, DL.fm_text_paper, DL.fm_text_past, DL.fm_text_persons, DL.fm_text_places, DL.fm_text_prices, DL.fm_text_right, DL.fm_text_rota, DL.fm_text_rules, DL.fm_text_skills, DL.fm_text_spare, DL.fm_text_total, DL.fm_text_touching, DL.fm_text_weight, DL.fm_text_whole, DL.fm_text_wishes, DL.fm_text_word, DL.fm_height_arcs, DL.fm_height_begin, DL.fm_height_carried, DL.fm_height_costs, DL.fm_height_days, DL.fm_height_flows, DL.fm_height_house, DL.fm_height_inner, DL.fm_height_kept, DL.fm_height_kinds, DL.fm_height_leave, DL.fm_height_left, DL.fm_height_level, DL.fm_height_many, DL.fm_height_marks, DL.fm_height_most, DL.fm_height_name, DL.fm_height_needs, DL.fm_height_net, DL.fm_height_pages, DL.fm_height_pairs, DL.fm_height_paper, DL.fm_height_past, DL.fm_height_persons, DL.fm_height_places, DL.fm_height_prices, DL.fm_height_right, DL.fm_height_rota, DL.fm_height_rules, DL.fm_height_skills, DL.fm_height_spare, DL.fm_height_total, DL.fm_height_touching, DL.fm_height_weight, DL.fm_height_whole, DL.fm_height_wishes, DL.fm_height_word, DL.fm_joint_arcs, DL.fm_joint_begin, DL.fm_joint_carried, DL.fm_joint_costs, DL.fm_joint_days, DL.fm_joint_flows, DL.fm_joint_house, DL.fm_joint_inner, DL.fm_joint_kept, DL.fm_joint_kinds, DL.fm_joint_leave, DL.fm_joint_left, DL.fm_joint_level, DL.fm_joint_many, DL.fm_joint_marks, DL.fm_joint_most, DL.fm_joint_name, DL.fm_joint_needs, DL.fm_joint_net, DL.fm_joint_pages, DL.fm_joint_pairs, DL.fm_joint_paper, DL.fm_joint_past, DL.fm_joint_persons, DL.fm_joint_places, DL.fm_joint_prices, DL.fm_joint_right, DL.fm_joint_rota, DL.fm_joint_rules, DL.fm_joint_skills, DL.fm_joint_spare, DL.fm_joint_total, DL.fm_joint_touching, DL.fm_joint_weight, DL.fm_joint_whole, DL.fm_joint_wishes, DL.fm_joint_word, DL.fm_counted_arcs, DL.fm_counted_begin, DL.fm_counted_carried, DL.fm_counted_costs, DL.fm_counted_days, DL.fm_counted_flows, DL.fm_counted_house, DL.fm_counted_inner, DL.fm_counted_kept, DL.fm_counted_kinds, DL.fm_counted_leave, DL.fm_counted_left, DL.fm_counted_level, DL.fm_counted_many, DL.fm_counted_marks, DL.fm_counted_most, DL.fm_counted_name, DL.fm_counted_needs, DL.fm_counted_net, DL.fm_counted_pages, DL.fm_counted_pairs, DL.fm_counted_paper, DL.fm_counted_past, DL.fm_counted_persons, DL.fm_counted_places, DL.fm_counted_prices, DL.fm_counted_right, DL.fm_counted_rota, DL.fm_counted_rules, DL.fm_counted_skills, DL.fm_counted_spare, DL.fm_counted_total, DL.fm_counted_touching, DL.fm_counted_weight, DL.fm_counted_whole, DL.fm_counted_wishes, DL.fm_counted_word, DL.fm_shown_arcs, DL.fm_shown_begin, DL.fm_shown_carried, DL.fm_shown_costs, DL.fm_shown_days, DL.fm_shown_flows, DL.fm_shown_house, DL.fm_shown_inner, DL.fm_shown_kept, DL.fm_shown_kinds, DL.fm_shown_leave, DL.fm_shown_left, DL.fm_shown_level, DL.fm_shown_many, DL.fm_shown_marks, DL.fm_shown_most, DL.fm_shown_name, DL.fm_shown_needs, DL.fm_shown_net, DL.fm_shown_pages, DL.fm_shown_pairs, DL.fm_shown_paper, DL.fm_shown_past, DL.fm_shown_persons, DL.fm_shown_places, DL.fm_shown_prices, DL.fm_shown_right, DL.fm_shown_rota, DL.fm_shown_rules, DL.fm_shown_skills, DL.fm_shown_spare, DL.fm_shown_total, DL.fm_shown_touching, DL.fm_shown_weight, DL.fm_shown_whole, DL.fm_shown_wishes, DL.fm_shown_word, DL.fm_need_arcs, DL.fm_need_begin, DL.fm_need_carried, DL.fm_need_costs, DL.fm_need_days, DL.fm_need_flows, DL.fm_need_house, DL.fm_need_inner, DL.fm_need_kept, DL.fm_need_kinds, DL.fm_need_leave, DL.fm_need_left, DL.fm_need_level, DL.fm_need_many, DL.fm_need_marks, DL.fm_need_most, DL.fm_need_name, DL.fm_need_needs, DL.fm_need_net, DL.fm_need_pages, DL.fm_need_pairs, DL.fm_need_paper, DL.fm_need_past, DL.fm_need_persons, DL.fm_need_places, DL.fm_need_prices, DL.fm_need_right, DL.fm_need_rota, DL.fm_need_rules, DL.fm_need_skills, DL.fm_need_spare, DL.fm_need_total, DL.fm_need_touching, DL.fm_need_weight, DL.fm_need_whole, DL.fm_need_wishes, DL.fm_need_word, DL.fm_may_arcs, DL.fm_may_begin, DL.fm_may_carried, DL.fm_may_costs, DL.fm_may_days, DL.fm_may_flows, DL.fm_may_house, DL.fm_may_inner, DL.fm_may_kept, DL.fm_may_kinds, DL.fm_may_leave, DL.fm_may_left, DL.fm_may_level, DL.fm_may_many, DL.fm_may_marks, DL.fm_may_most, DL.fm_may_name, DL.fm_may_needs, DL.fm_may_net, DL.fm_may_pages, DL.fm_may_pairs, DL.fm_may_paper, DL.fm_may_past, DL.fm_may_persons, DL.fm_may_places, DL.fm_may_prices, DL.fm_may_right, DL.fm_may_rota, DL.fm_may_rules, DL.fm_may_skills, DL.fm_may_spare, DL.fm_may_total, DL.fm_may_touching, DL.fm_may_weight, DL.fm_may_whole, DL.fm_may_wishes, DL.fm_may_word, DL.fm_place_of_arcs, DL.fm_place_of_begin, DL.fm_place_of_carried, DL.fm_place_of_costs, DL.fm_place_of_days, DL.fm_place_of_flows, DL.fm_place_of_house, DL.fm_place_of_inner, DL.fm_place_of_kept, DL.fm_place_of_kinds, DL.fm_place_of_leave, DL.fm_place_of_left, DL.fm_place_of_level, DL.fm_place_of_many, DL.fm_place_of_marks, DL.fm_place_of_most, DL.fm_place_of_name, DL.fm_place_of_needs, DL.fm_place_of_net, DL.fm_place_of_pages, DL.fm_place_of_pairs, DL.fm_place_of_paper, DL.fm_place_of_past, DL.fm_place_of_persons, DL.fm_place_of_places, DL.fm_place_of_prices, DL.fm_place_of_right, DL.fm_place_of_rota, DL.fm_place_of_rules, DL.fm_place_of_skills, DL.fm_place_of_spare, DL.fm_place_of_total, DL.fm_place_of_touching, DL.fm_place_of_weight, DL.fm_place_of_whole, DL.fm_place_of_wishes, DL.fm_place_of_word, DL.fm_rules_for_arcs, DL.fm_rules_for_begin, DL.fm_rules_for_carried, DL.fm_rules_for_costs, DL.fm_rules_for_days, DL.fm_rules_for_flows, DL.fm_rules_for_house, DL.fm_rules_for_inner, DL.fm_rules_for_kept, DL.fm_rules_for_kinds, DL.fm_rules_for_leave, DL.fm_rules_for_left, DL.fm_rules_for_level, DL.fm_rules_for_many, DL.fm_rules_for_marks, DL.fm_rules_for_most, DL.fm_rules_for_name, DL.fm_rules_for_needs, DL.fm_rules_for_net, DL.fm_rules_for_pages, DL.fm_rules_for_pairs, DL.fm_rules_for_paper, DL.fm_rules_for_past, DL.fm_rules_for_persons, DL.fm_rules_for_places, DL.fm_rules_for_prices, DL.fm_rules_for_right, DL.fm_rules_for_rota, DL.fm_rules_for_rules, DL.fm_rules_for_skills, DL.fm_rules_for_spare, DL.fm_rules_for_total, DL.fm_rules_for_touching, DL.fm_rules_for_weight, DL.fm_rules_for_whole, DL.fm_rules_for_wishes, DL.fm_rules_for_word, DL.fm_reach_of_arcs, DL.fm_reach_of_begin, DL.fm_reach_of_carried, DL.fm_reach_of_costs, DL.fm_reach_of_days, DL.fm_reach_of_flows, DL.fm_reach_of_house, DL.fm_reach_of_inner, DL.fm_reach_of_kept, DL.fm_reach_of_kinds, DL.fm_reach_of_leave, DL.fm_reach_of_left, DL.fm_reach_of_level, DL.fm_reach_of_many, DL.fm_reach_of_marks, DL.fm_reach_of_most, DL.fm_reach_of_name, DL.fm_reach_of_needs, DL.fm_reach_of_net, DL.fm_reach_of_pages, DL.fm_reach_of_pairs, DL.fm_reach_of_paper, DL.fm_reach_of_past, DL.fm_reach_of_persons, DL.fm_reach_of_places, DL.fm_reach_of_prices, DL.fm_reach_of_right, DL.fm_reach_of_rota, DL.fm_reach_of_rules, DL.fm_reach_of_skills, DL.fm_reach_of_spare, DL.fm_reach_of_total, DL.fm_reach_of_touching, DL.fm_reach_of_weight, DL.fm_reach_of_whole, DL.fm_reach_of_wishes, DL.fm_reach_of_word, DL.fm_plain_arcs, DL.fm_plain_begin, DL.fm_plain_carried, DL.fm_plain_costs, DL.fm_plain_days, DL.fm_plain_flows, DL.fm_plain_house, DL.fm_plain_inner, DL.fm_plain_kept, DL.fm_plain_kinds, DL.fm_plain_leave, DL.fm_plain_left, DL.fm_plain_level, DL.fm_plain_many, DL.fm_plain_marks, DL.fm_plain_most, DL.fm_plain_name, DL.fm_plain_needs, DL.fm_plain_net, DL.fm_plain_pages, DL.fm_plain_pairs, DL.fm_plain_paper, DL.fm_plain_past, DL.fm_plain_persons, DL.fm_plain_places, DL.fm_plain_prices, DL.fm_plain_right, DL.fm_plain_rota, DL.fm_plain_rules, DL.fm_plain_skills, DL.fm_plain_spare, DL.fm_plain_total, DL.fm_plain_touching, DL.fm_plain_weight, DL.fm_plain_whole, DL.fm_plain_wishes, DL.fm_plain_word, DL.fm_of_count_arcs, DL.fm_of_count_begin, DL.fm_of_count_carried, DL.fm_of_count_costs, DL.fm_of_count_days, DL.fm_of_count_flows, DL.fm_of_count_house, DL.fm_of_count_inner, DL.fm_of_count_kept, DL.fm_of_count_kinds, DL.fm_of_count_leave, DL.fm_of_count_left, DL.fm_of_count_level, DL.fm_of_count_many, DL.fm_of_count_marks, DL.fm_of_count_most, DL.fm_of_count_name, DL.fm_of_count_needs, DL.fm_of_count_net, DL.fm_of_count_pages, DL.fm_of_count_pairs, DL.fm_of_count_paper, DL.fm_of_count_past, DL.fm_of_count_persons, DL.fm_of_count_places, DL.fm_of_count_prices, DL.fm_of_count_right, DL.fm_of_count_rota, DL.fm_of_count_rules, DL.fm_of_count_skills, DL.fm_of_count_spare, DL.fm_of_count_total, DL.fm_of_count_touching, DL.fm_of_count_weight, DL.fm_of_count_whole, DL.fm_of_count_wishes, DL.fm_of_count_word, DL.fm_of_mark_arcs, DL.fm_of_mark_begin, DL.fm_of_mark_carried, DL.fm_of_mark_costs, DL.fm_of_mark_days, DL.fm_of_mark_flows, DL.fm_of_mark_house, DL.fm_of_mark_inner, DL.fm_of_mark_kept, DL.fm_of_mark_kinds, DL.fm_of_mark_leave, DL.fm_of_mark_left, DL.fm_of_mark_level, DL.fm_of_mark_many, DL.fm_of_mark_marks, DL.fm_of_mark_most, DL.fm_of_mark_name, DL.fm_of_mark_needs, DL.fm_of_mark_net, DL.fm_of_mark_pages, DL.fm_of_mark_pairs, DL.fm_of_mark_paper, DL.fm_of_mark_past, DL.fm_of_mark_persons, DL.fm_of_mark_places, DL.fm_of_mark_prices, DL.fm_of_mark_right, DL.fm_of_mark_rota, DL.fm_of_mark_rules, DL.fm_of_mark_skills, DL.fm_of_mark_spare, DL.fm_of_mark_total, DL.fm_of_mark_touching, DL.fm_of_mark_weight, DL.fm_of_mark_whole, DL.fm_of_mark_wishes, DL.fm_of_mark_word, DL.fm_floor_arcs, DL.fm_floor_begin, DL.fm_floor_carried, DL.fm_floor_costs, DL.fm_floor_days, DL.fm_floor_flows, DL.fm_floor_house, DL.fm_floor_inner, DL.fm_floor_kept, DL.fm_floor_kinds, DL.fm_floor_leave, DL.fm_floor_left, DL.fm_floor_level, DL.fm_floor_many, DL.fm_floor_marks, DL.fm_floor_most, DL.fm_floor_name, DL.fm_floor_needs, DL.fm_floor_net, DL.fm_floor_pages, DL.fm_floor_pairs, DL.fm_floor_paper, DL.fm_floor_past, DL.fm_floor_persons, DL.fm_floor_places, DL.fm_floor_prices, DL.fm_floor_right, DL.fm_floor_rota, DL.fm_floor_rules, DL.fm_floor_skills, DL.fm_floor_spare, DL.fm_floor_total, DL.fm_floor_touching, DL.fm_floor_weight, DL.fm_floor_whole, DL.fm_floor_wishes, DL.fm_floor_word, DL.fm_stands_arcs, DL.fm_stands_begin, DL.fm_stands_carried, DL.fm_stands_costs, DL.fm_stands_days, DL.fm_stands_flows, DL.fm_stands_house, DL.fm_stands_inner, DL.fm_stands_kept, DL.fm_stands_kinds, DL.fm_stands_leave, DL.fm_stands_left, DL.fm_stands_level, DL.fm_stands_many, DL.fm_stands_marks, DL.fm_stands_most, DL.fm_stands_name, DL.fm_stands_needs, DL.fm_stands_net, DL.fm_stands_pages, DL.fm_stands_pairs, DL.fm_stands_paper, DL.fm_stands_past, DL.fm_stands_persons, DL.fm_stands_places, DL.fm_stands_prices, DL.fm_stands_right, DL.fm_stands_rota, DL.fm_stands_rules, DL.fm_stands_skills, DL.fm_stands_spare, DL.fm_stands_total, DL.fm_stands_touching, DL.fm_stands_weight, DL.fm_stands_whole, DL.fm_stands_wishes, DL.fm_stands_word, DL.putD, List.lookup, if_false, if_true, ite_true, ite_false, true_and, beq_self_eq_true, DL.len0, DL.len1, DL.len2, DL.len3, DL.len4, DL.ixz0, DL.ixz1, DL.ixz2, DL.ixz3, DL.ixz4, Option.map_some, DL.q_lenS, DL.q_lenSK, DL.q_lenSK2, DL.q_rvL, DL.q_rvLK1, DL.q_rvLK2, DL.q_ins, DL.q_insK1, DL.q_insK2, DL.q_insK3, DL.q_gL, DL.q_pop, DL.q_appMk, ↓DL.q_ltA_i, ↓DL.q_ltA_t, ↓DL.q_isiC, ↓DL.q_mk0, ↓DL.q_isiT, ↓DL.q_isiTK, ↓DL.q_mulW, ↓DL.q_powW, ↓DL.q_int_i, ↓DL.q_int_b, DL.q_itB0, DL.q_itB0s, DL.q_itBS, DL.q_varS0b, DL.q_varS0s, DL.q_varSSb, DL.q_slT, DL.q_slT1, DL.q_slT2, DL.q_slT3, DL.q_cutT, DL.q_mulS, DL.q_strOf, DL.q_pt, DL.q_ptS0, DL.q_ptG, DL.q_ptSS, DL.q_nth0, DL.q_nthS, DL.q_lenT, DL.q_lenTG, DL.q_isiT1, DL.q_isiTG, DL.q_clrP, DL.q_clrP0, DL.q_clrP2, DL.q_appP, DL.q_appP0, DL.q_appP2, DL.q_appP4, DL.q_consS, DL.q_consSK, DL.q_consS1, DL.q_consO, DL.q_consOK, DL.q_geS, DL.q_getN0, DL.q_getNS, DL.q_setNl, DL.q_setNlK, DL.q_pn, DL.q_ptK, DL.q_clrNl, DL.q_clrN1, DL.q_clrN2, DL.q_appNl, DL.q_appN1, DL.q_appN2, DL.q_appN4, DL.q_popD, DL.q_callX, DL.q_callXK, DL.q_methX, DL.q_methXK, DL.q_methXK2, DL.q_raise, DL.q_isX, DL.q_isXK1, DL.q_isXK2f, DL.q_isXK2t, DL.q_isXT, DL.q_isXTK, DL.q_tryR, DL.q_getK0, DL.q_getKS, DL.q_dnew0, DL.q_dnew1, DL.q_dnK1, DL.q_dnK2, DL.q_dmv, DL.q_dmvK, DL.q_dmvK2, DL.q_dput, DL.q_dpK1, DL.q_dpK2, DL.q_dpK3, DL.q_tInK, DL.q_tInK1, DL.q_tInK2t, DL.q_tInK2f, DL.q_lenK, DL.q_lenK1, DL.q_forKd, DL.q_forKd1, DL.q_sortK, DL.q_sortK1, DL.q_eq0, ↓DL.q_var0, ↓DL.q_varS, ↓DL.q_varB0, ↓DL.q_varB0o, ↓DL.q_noL, ↓DL.q_noO, ↓DL.q_varBS, ↓DL.q_c, ↓DL.q_op, ↓DL.q_opK1, ↓DL.q_opK2, ↓DL.q_un, ↓DL.q_unK, ↓DL.q_add_ii, ↓DL.q_add_ss, ↓DL.q_add_ll, ↓DL.q_sub, ↓DL.q_mul, ↓DL.q_mod, ↓DL.q_fdiv, ↓DL.q_pow, ↓DL.q_neg, ↓DL.q_eq_bb, ↓DL.q_eq_ii, ↓DL.q_eq_ss, ↓DL.q_eq_lst, ↓DL.q_eq_tup, ↓DL.q_ne_bb, ↓DL.q_ne_ii, ↓DL.q_ne_ss, ↓DL.q_ne_lst, ↓DL.q_ne_tup, ↓DL.q_lt, ↓DL.q_le, ↓DL.q_gt, ↓DL.q_ge, ↓DL.q_isN, ↓DL.q_in_s, ↓DL.q_in_int_lst, ↓DL.q_in_int_tup, ↓DL.q_in_str_lst, ↓DL.q_in_str_tup, ↓DL.q_tst, ↓DL.q_tstK, ↓DL.q_tru, ↓DL.q_truK, ↓DL.q_teT, ↓DL.q_bT, ↓DL.q_andT, ↓DL.q_andK, ↓DL.q_orT, ↓DL.q_orK, ↓DL.q_notT, ↓DL.q_notK, ↓DL.q_veT, ↓DL.q_cT, ↓DL.q_andVK1, ↓DL.q_andVK, ↓DL.q_andV, ↓DL.q_orVK1, ↓DL.q_orVK, ↓DL.q_orV, ↓DL.q_notVK1, ↓DL.q_notVK, ↓DL.q_notV, ↓DL.q_ifEK, ↓DL.q_if, ↓DL.q_stT, ↓DL.q_ifSK, ↓DL.q_ifS, ↓DL.q_nil, ↓DL.q_cons, ↓DL.q_consK1, ↓DL.q_consK2, ↓DL.q_tup, ↓DL.q_tupK, ↓DL.q_lst, ↓DL.q_lstK0, ↓DL.q_sgnK, ↓DL.q_ix_l, ↓DL.q_ix_t, ↓DL.q_ix_s, ↓DL.q_noPart, ↓DL.q_someK, ↓DL.q_partK, ↓DL.q_part, ↓DL.q_sl, ↓DL.q_slK1, ↓DL.q_slK2, ↓DL.q_slK3, ↓DL.q_cut_l, ↓DL.q_cut_s, ↓DL.q_rvK3, ↓DL.q_rvK2, ↓DL.q_rvK1, ↓DL.q_rv, ↓DL.q_rev_l, ↓DL.q_rev_s, ↓DL.q_seq, ↓DL.q_next, ↓DL.q_brk, ↓DL.q_cont, ↓DL.q_dropK, ↓DL.q_drop, ↓DL.q_ret, ↓DL.q_retN, ↓DL.q_gNK, ↓DL.q_gN0, ↓DL.q_gNS, ↓DL.q_gNil, ↓DL.q_gCK, ↓DL.q_gCons, ↓DL.q_gT, ↓DL.q_asgK, ↓DL.q_asg, ↓DL.q_putS0, ↓DL.q_putSS, ↓DL.q_setNK, ↓DL.q_setN, ↓DL.q_getO0, ↓DL.q_getOS, ↓DL.q_appK2, ↓DL.q_appK1, ↓DL.q_appD, ↓DL.q_app, ↓DL.q_frzK, ↓DL.q_frz, ↓DL.q_apK, ↓DL.q_call, ↓DL.q_objK, ↓DL.q_mkK, ↓DL.q_make, ↓DL.q_argK, ↓DL.q_args, ↓DL.q_itK, ↓DL.q_it, ↓DL.q_rngK1, ↓DL.q_rng1, ↓DL.q_rng1A, ↓DL.q_rngK2, ↓DL.q_rng2, ↓DL.q_rng2A, ↓DL.q_zipK3, ↓DL.q_zipK2, ↓DL.q_zipK1, ↓DL.q_zip, ↓DL.q_zipA, ↓DL.q_enumK, ↓DL.q_enum, ↓DL.q_enumA, ↓DL.q_forK, ↓DL.q_for, ↓DL.q_lstK, ↓DL.q_lcK, ↓DL.q_lc, ↓DL.q_yes, ↓DL.q_fldK, ↓DL.q_fldC, ↓DL.q_onFld, ↓DL.q_methK, ↓DL.q_meth, ↓DL.q_onMeth, ↓DL.q_methK2, ↓DL.q_len_s, ↓DL.q_len_l, ↓DL.q_len_t, ↓DL.q_sumK, ↓DL.q_sum, ↓DL.q_allK, ↓DL.q_all, ↓DL.q_anyK, ↓DL.q_any, ↓DL.q_max2, ↓DL.q_min2, ↓DL.q_abs, ↓DL.q_list_l, ↓DL.q_list_t, ↓DL.q_blK, ↓DL.q_isiK, ↓DL.q_isi, ↓DL.q_joinK4, ↓DL.q_joinK3, ↓DL.q_joinK2, ↓DL.q_joinK1, ↓DL.q_join, ↓DL.q_joinV, ↓DL.q_inK, ↓DL.q_inOne, ↓DL.q_inCK, ↓DL.q_inCons, ↓DL.q_bitAnd, ↓DL.q_shr, ↓DL.q_stI, ↓DL.q_stIK1, ↓DL.q_stID, ↓DL.q_stIK2, ↓DL.q_stIK3, ↓DL.q_chain, ↓DL.q_chK1, ↓DL.q_chK2, ↓DL.q_chK3, ↓DL.q_chK4, ↓DL.q_chT, ↓DL.q_isB, ↓DL.q_inT, ↓DL.q_varB0b, ↓DL.q_clr, ↓DL.q_clrK, ↓DL.q_retOK, ↓DL.q_retO, ↓DL.q_retL, ↓DL.q_appN, ↓DL.q_appNK1, ↓DL.q_appNK2, ↓DL.q_clrN, ↓DL.q_clrNK, ↓DL.q_addL, ↓DL.q_slL, ↓DL.q_slLK1, ↓DL.q_slLK2, ↓DL.q_slLK3, ↓DL.q_cutL, ↓DL.onBl_bl, ↓DL.onInt_int, ↓DL.onStr_str, ↓DL.onOpt_some, ↓DL.ifB_true, ↓DL.ifB_false, DL.onBl_bl, DL.onInt_int, DL.onStr_str, DL.onOpt_some, DL.ifB_true, DL.ifB_false, DL.tyD_bl, DL.tyD_int, DL.tyD_str, DL.tyD_lst, DL.tyD_tup, DL.tyD_non, DL.truD_bl, DL.truD_int, DL.truD_str, DL.truD_lst, DL.q_it_lst, DL.q_it_tup, DL.q_it_s, DL.q_zi_l, DL.q_zi_s, DL.strsD_map, DL.intsD_map, DL.blsD_map, DL.kb1, DL.kb2, DL.kb3, DL.kb4, DL.kb5, DL.kb6, DL.kb7, DL.kb8, DL.kb9, DL.kb10, DL.kb11, DL.kb12, Bool.not_true, Bool.not_false, decide_true, decide_false, true_and])
local macro_rules | `(tactic| walk_at "tq") => `(tactic| try (walk_at "dq"))
local macro_rules | `(tactic| walk_at "sz") => `(tactic| first | decide | omega | (rw [DL.szl]; simp only [List.length_append, List.length_cons, List.length_nil, List.length_map, DL.rngD_len]; first | done | omega))
namespace K22
open PySem L2 DL
def toldP (p : Tx × Rul) : D := .tup [.str p.1, .str (textR p.2), .int (reachR p.2)]
def namesL (c : Int) (n : Nat) : List Tx := (List.range n).map fun (i : Nat) => nameT c i
def perN (nm : Tx) : Pers := ⟨nm, [], 3, 0, []⟩
theorem any_strs (l : List Tx) (u : Tx) : ((l.map D.str).any fun y => eqD y (.str u)) = decide (u ∈ l) := by
  rw [List.any_map]
  induction l with
  | nil => rfl
  | cons a l ih =>
    rw [List.any_cons, ih]
    show (eqD (.str a) (.str u) || _) = _
    rw [eqD_str]
    by_cases g : a = u
    · subst g; simp
    · have : ¬ u = a := fun z => g z.symm
      simp [g, this]
def dflt : Tx × Rul := ([], .never [])
def tstB (nm : Tx) (rs : List (Tx × Rul)) : D → Bool
  | .int k => isB nm (k.toNat, rs.getD k.toNat dflt)
  | _ => false
def toB (rs : List (Tx × Rul)) : D → D
  | .int k => toldD (k.toNat, rs.getD k.toNat dflt)
  | _ => .non
theorem bound_range (nm : Tx) (rs : List (Tx × Rul)) : bound nm rs = ((List.range rs.length).map fun k => (k, rs.getD k dflt)).filter (isB nm) := by
  unfold bound
  congr 1
  refine List.ext_getElem (by simp) fun i h1 h2 => ?_
  rw [List.getElem_zip, List.getElem_map, List.getElem_range]
  have h3 : i < rs.length := by simpa using h2
  simp only [List.getD, List.getElem?_eq_getElem h3, Option.getD_some]
theorem bound_rng (nm : Tx) (rs : List (Tx × Rul)) : ((rngD 0 rs.length).filter (tstB nm rs)).map (toB rs) = (bound nm rs).map toldD := by
  rw [bound_range]
  have e : rngD 0 rs.length = (List.range rs.length).map fun (i : Nat) => D.int (0 + (i : Int)) := rfl
  rw [e, List.filter_map, List.filter_map, List.map_map, List.map_map]
  have e1 : (tstB nm rs ∘ fun (i : Nat) => D.int (0 + (i : Int))) = (isB nm ∘ fun k => (k, rs.getD k dflt)) := by
    funext k
    show isB nm ((0 + (k : Int)).toNat, rs.getD (0 + (k : Int)).toNat dflt) = _
    rw [zero_add_nat, Int.toNat_natCast]; rfl
  rw [e1]
  refine List.map_congr_left fun k _ => ?_
  show toldD ((0 + (k : Int)).toNat, rs.getD (0 + (k : Int)).toNat dflt) = _
  rw [zero_add_nat, Int.toNat_natCast]; rfl
theorem names_get {c : Int} {n p : Nat} {nm : Tx} (h : (namesL c n)[p]? = some nm) : p < n ∧ nm = nameT c p := by
  unfold namesL at h
  rw [List.getElem?_map] at h
  obtain ⟨i, hi, e⟩ := Option.map_eq_some_iff.mp h
  obtain ⟨h1, h2⟩ := List.getElem?_eq_some_iff.mp hi
  rw [List.getElem_range] at h2
  subst h2
  exact ⟨by simpa using h1, e.symm⟩
theorem names_un {c : Int} {n p j : Nat} {nm : Tx} (hn : n ≤ 26) (h : (namesL c n)[p]? = some nm) (g : (namesL c n)[j]? = some nm) : p = j := by
  obtain ⟨h1, h2⟩ := names_get h
  obtain ⟨g1, g2⟩ := names_get g
  have := nameT_inj (c := c) (p := p) (q := j) (by omega) (by omega) (h2.symm.trans g2)
  omega
theorem names_z {c : Int} {n : Nat} : nameT c 0 ++ [122] ∉ namesL c n := fun h => by
  obtain ⟨p, _, e⟩ := List.mem_map.mp h
  have l := congrArg List.length e
  unfold nameT at e l
  by_cases a : nameN c p = [97, 108, 108]
  · by_cases b : nameN c 0 = [97, 108, 108]
    · rw [if_pos a, if_pos b] at l
      simp at l
    · rw [if_pos a, if_neg b] at e
      have := congrArg List.getLast? e
      simp at this
  · by_cases b : nameN c 0 = [97, 108, 108]
    · have hb := congrArg List.length b
      rw [if_neg a, if_pos b] at l
      rw [nameN_len] at hb
      simp only [nameN_len, List.length_append, List.length_cons, List.length_nil] at l hb
      omega
    · rw [if_neg a, if_neg b] at l
      simp only [nameN_len, List.length_append, List.length_cons, List.length_nil] at l
      omega
theorem sem_law (A : Ad) : ∀ ds Q, S_law A ds Q → d_law A { nx := fun _ => Q .non, rt := Q } (startR ["_law_script", "_law_many", "_law_names", "_law_p", "_law_rules", "_law_told", "_law_cell", "_law_rule_here", "_law_words", "_law_reach", "_law_name_here", "_law_pairs", "_law_plain", "_law_persons", "_law_house", "_law_mine", "_law_bound", "_law_k", "_law_found"] ds) := by
  intro ds Q h
  unfold S_law S_theLaw at h
  split at h <;> first | exact False.elim h | skip
  rename_i xs
  split at h <;> first | exact False.elim h | skip
  rename_i ns hns
  obtain ⟨hl, h⟩ := h
  have hns := intsD_eq hns
  subst hns
  unfold d_law
  walk_at "dl0"
  walk_at "tq"
  refine ⟨ns, rfl, by decide, by decide, ?_⟩
  have m0 := Int.emod_nonneg (ns.getD (Int.toNat 0) 0) (show (9 : Int) ≠ 0 by decide)
  have m1 := Int.emod_lt_of_pos (ns.getD (Int.toNat 0) 0) (show (0 : Int) < 9 by decide)
  generalize ns.getD (Int.toNat 0) 0 % 9 = m at m0 m1
  refine ⟨by simp only [inLine]; omega, by rw [rngD_len, szl]; omega, ?_⟩
  have e : rngD 0 m.toNat = (List.range m.toNat).map fun (i : Nat) => D.int (0 + (i : Int)) := rfl
  rw [e]
  refine lcD_of (fun (i : Nat) => D.int (0 + (i : Int))) (fun i => .str (nameT (ns.getD (Int.toNat 1) 0) i)) ?_ dgN_mono dYes_mono ?_
  · intro i hi Q' hQ
    simp only [wipeR, List.set]
    rw [zero_add_nat]
    walk_at "tq"
    exact ⟨ns, rfl, by decide, hQ⟩
  rw [show (List.range m.toNat).map (fun (i : Nat) => D.str (nameT (ns.getD (Int.toNat 1) 0) i)) = (namesL (ns.getD (Int.toNat 1) 0) m.toNat).map D.str by rw [namesL, List.map_map]; rfl]
  generalize ns.getD (Int.toNat 1) 0 = c1
  clear e
  have hnl : (namesL c1 m.toNat).length = m.toNat := by simp [namesL]
  walk_at "tq"
  have cl : (cut (ns.map D.int) (some 2) (some 10)).length ≤ 8 := by
    rw [cut_both _ (by decide) (by decide), List.length_drop, List.length_take]
    have e8 : (10 : Int).toNat = 10 := rfl
    have e4 : (2 : Int).toNat = 2 := rfl
    omega
  refine forD_ind (fun i ρ => ∃ (rs : List (Tx × Rul)) (a6 a7 a8 a9 a10 : Sl), ρ = [.sh (.lst (ns.map D.int)), .sh (.int m), .sh (.lst ((namesL c1 m.toNat).map D.str)), .no, .ow (.lst (rs.map (ruleP A))), .ow (.lst (rs.map toldP)), a6, a7, a8, a9, a10, .no, .no, .no, .no, .no, .no, .no, .no] ∧ rs.length ≤ i ∧ ∀ r ∈ rs, okRul r.2)
    ⟨[], _, _, _, _, _, rfl, by simp, by simp⟩ ?_ dgN_mono ?_
  · rintro i x ρ hx ⟨rs, a6, a7, a8, a9, a10, rfl, hrl, hr⟩
    have hi := (List.getElem?_eq_some_iff.mp hx).1
    obtain ⟨cell, _, rfl⟩ := List.mem_map.mp (cut_sub _ _ _ _ (List.mem_of_getElem? hx))
    walk_at "tq"
    intro nx hnx
    refine ⟨⟨by decide, by decide⟩, fun r hok => ⟨rfl, ?_⟩⟩
    refine and_fin (fun ρ => ∃ nm : Tx, ρ = [.sh (.lst (ns.map D.int)), .sh (.int m), .sh (.lst ((namesL c1 m.toNat).map D.str)), .no, .ow (.lst (rs.map (ruleP A))), .ow (.lst (rs.map toldP)), .sh (.int cell), .sh (ruleD A r), .sh (.str (textR r)), .sh (.int (reachR r)), .sh (.str nm), .no, .no, .no, .no, .no, .no, .no, .no]) (2 < cell % 10) ?_ ?_ ?_ ?_
    · rintro ρ ⟨nm, rfl⟩
      walk_at "tq"
      refine ⟨by walk_at "sz", by walk_at "sz", ?_⟩
      have e1 : rs.map (ruleP A) ++ [D.tup [.str nm, ruleD A r]] = (rs ++ [(nm, r)]).map (ruleP A) := by rw [List.map_append]; rfl
      have e2 : rs.map toldP ++ [D.tup [.str nm, .str (textR r), .int (reachR r)]] = (rs ++ [(nm, r)]).map toldP := by rw [List.map_append]; rfl
      rw [e1, e2]
      refine hnx _ ⟨rs ++ [(nm, r)], _, _, _, _, _, rfl, by simp; omega, fun z hz => ?_⟩
      rcases List.mem_append.mp hz with hz | hz
      · exact hr z hz
      · simp only [List.mem_singleton] at hz
        subst hz; exact hok
    · intro _ PB hT hF
      walk_at "tq"
      refine ⟨by decide, ?_⟩
      by_cases g : 2 < cell % 10
      · rw [decide_eq_true g]; exact hT g
      · rw [decide_eq_false g]; exact hF g
    · intro hm _ nx hnx
      have hm : 0 < m := of_decide_eq_true hm
      walk_at "tq"
      have b0 := Int.emod_nonneg (cell / 10) (show m ≠ 0 by omega)
      have b1 := Int.emod_lt_of_pos (cell / 10) hm
      have en : ixD ((namesL c1 m.toNat).map D.str) (cell / 10 % m) = some (.str ((namesL c1 m.toNat)[(cell / 10 % m).toNat]'(by omega))) := by
        rw [ixD_nat _ b0, List.getElem?_map, List.getElem?_eq_getElem (by omega), Option.map_some]
      rw [en]
      walk_at "tq"
      exact ⟨⟨by decide, by decide⟩, hm, hnx _ ⟨_, rfl⟩⟩
    · intro nx hnx
      walk_at "tq"
      exact hnx _ ⟨_, rfl⟩
  · rintro ρ ⟨rs, a6, a7, a8, a9, a10, rfl, hrl, hr⟩
    have hrl : rs.length ≤ 8 := by omega
    walk_at "tq"
    refine and_fin (fun ρ => ∃ pr : List D, ρ = [.sh (.lst (ns.map D.int)), .sh (.int m), .sh (.lst ((namesL c1 m.toNat).map D.str)), .no, .ow (.lst (rs.map (ruleP A))), .ow (.lst (rs.map toldP)), a6, a7, a8, a9, a10, .ow (.lst pr), .no, .no, .no, .no, .no, .no, .no]) (ns.getD 0 0 / 9 % 2 = 1) ?_ ?_ ?_ ?_
    · rintro ρ ⟨pr, rfl⟩
      walk_at "tq"
      refine vand_fin pr.isEmpty ?_ ?_
      · walk_at "tq"
        refine ⟨by rw [List.length_map, szl]; omega, ?_⟩
        refine lcD_of D.str (fun nm => persD A (perN nm)) ?_ dgN_mono dYes_mono ?_
        · intro nm _ Q' hQ
          simp only [wipeR, List.set]
          walk_at "tq"
          exact hQ
        rw [show (namesL c1 m.toNat).map (fun nm => persD A (perN nm)) = ((namesL c1 m.toNat).map perN).map (persD A) by rw [List.map_map]; rfl]
        walk_at "tq"
        refine ⟨by simp only [inLine]; omega, ?_⟩
        have hpn : ((namesL c1 m.toNat).map perN).map (·.name) = namesL c1 m.toNat := by rw [List.map_map]; exact List.map_id _
        refine forD_ind (fun i ρ => ∃ t3 t15 t16 t17 : Sl, ρ = [.sh (.lst (ns.map D.int)), .sh (.int m), .sh (.lst ((namesL c1 m.toNat).map D.str)), t3, .ow (.lst []), .ow (.lst (rs.map toldP)), a6, a7, a8, a9, a10, .ow (.lst []), .sh (.bl ((rs.map (ruleP A)).isEmpty && pr.isEmpty)), .ow (.lst []), .sh (houseD A 2 [68] [] ((namesL c1 m.toNat).map perN) [] [] rs pr), t15, t16, t17, .no]) ⟨_, _, _, _, rfl⟩ ?_ dgN_mono ?_
        · rintro i x ρ hx ⟨t3, t15, t16, t17, rfl⟩
          obtain ⟨rfl, hi⟩ := rngD_get hx
          rw [zero_add_nat]
          have hi2 : i < (namesL c1 m.toNat).length := by omega
          obtain ⟨nm, hnm⟩ : ∃ nm, (namesL c1 m.toNat)[i]? = some nm := ⟨_, List.getElem?_eq_getElem hi2⟩
          have en : ixD ((namesL c1 m.toNat).map D.str) (i : Int) = some (.str nm) := by
            rw [ixD_ofNat, List.getElem?_map, hnm]; rfl
          walk_at "tq"
          intro nx hnx
          rw [en]
          walk_at "tq"
          rw [List.length_map, Int.toNat_natCast]
          refine ⟨by simp only [inLine]; omega, by rw [rngD_len, szl]; omega, ?_⟩
          refine lcD_ft (tstB nm rs) (toB rs) ?_ ?_
          · intro x hx Y N hY hN
            obtain ⟨k, rfl, hk⟩ := rngD_mem hx
            have hk2 : k < rs.length := by omega
            have ek : ixD (rs.map toldP) (0 + (k : Int)) = some (toldP (rs.getD k dflt)) := by
              rw [zero_add_nat, ixD_ofNat, List.getElem?_map, List.getElem?_eq_getElem hk2]
              simp only [List.getD, List.getElem?_eq_getElem hk2, Option.getD_some, Option.map_some]
            have eY : tstB nm rs (.int (0 + (k : Int))) = isB nm (k, rs.getD k dflt) := by
              show isB nm ((0 + (k : Int)).toNat, rs.getD (0 + (k : Int)).toNat dflt) = _
              rw [zero_add_nat, Int.toNat_natCast]
            have eB : toB rs (.int (0 + (k : Int))) = toldD (k, rs.getD k dflt) := by
              show toldD ((0 + (k : Int)).toNat, rs.getD (0 + (k : Int)).toNat dflt) = _
              rw [zero_add_nat, Int.toNat_natCast]
            rw [eY, eB] at hY
            rw [eY] at hN
            generalize rs.getD k dflt = r at ek hY hN
            simp only [wipeR, List.set]
            walk_at "tq"
            rw [ek]
            rw [show toldP r = D.tup [.str r.1, .str (textR r.2), .int (reachR r.2)] from rfl]
            walk_at "tq"
            refine ⟨rfl, ?_⟩
            rw [if_neg (by decide), show ([D.str [97, 108, 108], D.str nm] : List D) = [allT, nm].map D.str from rfl, any_strs]
            have ei : decide (r.1 ∈ [allT, nm]) = isB nm (k, r) := by simp only [isB, List.mem_cons, List.not_mem_nil, or_false, Bool.decide_or]
            rw [ei]
            refine ifB_intro (fun g => ?_) (fun g => hN g)
            walk_at "tq"
            rw [ek]
            rw [show toldP r = D.tup [.str r.1, .str (textR r.2), .int (reachR r.2)] from rfl]
            walk_at "tq"
            rw [ek]
            rw [show toldP r = D.tup [.str r.1, .str (textR r.2), .int (reachR r.2)] from rfl]
            walk_at "tq"
            rw [zero_add_nat]
            exact hY g
          rw [bound_rng]
          have hq : ((namesL c1 m.toNat).map perN)[i]? = some (perN nm) := by rw [List.getElem?_map, hnm]; rfl
          walk_at "tq"
          refine ⟨2, [68], [], (namesL c1 m.toNat).map perN, [], [], rs, pr, perN nm, rfl, rfl, ⟨by omega, ⟨by omega, by rw [Int.toNat_natCast]; exact hq⟩, hr⟩, ?_⟩
          walk_at "tq"
          unfold houseD
          walk_at "tq"
          refine methApX_intro (by walk_at "dq") ⟨rfl, rfl⟩ ?_
          walk_at "tq"
          rw [en]
          walk_at "tq"
          refine ⟨2, [68], [], (namesL c1 m.toNat).map perN, [], [], rs, pr, rfl, by rw [List.length_map]; omega, fun p hp _ => ?_, fun z => absurd (by rw [hpn]; exact List.mem_of_getElem? hnm) z⟩
          rw [hpn] at hp
          rw [← names_un (by omega) hnm hp]
          walk_at "tq"
          refine methAp_intro (by walk_at "dq") ⟨rfl, rfl⟩ ?_
          walk_at "tq"
          refine ⟨2, [68], [], (namesL c1 m.toNat).map perN, [], [], rs, pr, perN nm, rfl, ⟨by omega, by omega, by rw [Int.toNat_natCast]; exact hq⟩, ?_⟩
          walk_at "tq"
          refine ⟨2, [68], [], (namesL c1 m.toNat).map perN, [], [], rs, pr, perN nm, rfl, rfl, ⟨by omega, ⟨by omega, by rw [Int.toNat_natCast]; exact hq⟩, hr⟩, ?_⟩
          walk_at "tq"
          exact hnx _ ⟨_, _, _, _, rfl⟩
        · rintro ρ ⟨t3, t15, t16, t17, rfl⟩
          walk_at "tq"
          unfold houseD
          walk_at "tq"
          refine methAp_intro (by walk_at "dq") ⟨rfl, rfl⟩ ?_
          walk_at "tq"
          refine ⟨2, [68], [], (namesL c1 m.toNat).map perN, [], [], rs, pr, rfl, ?_⟩
          walk_at "tq"
          rw [show ((rs.map (ruleP A)).isEmpty) = rs.isEmpty by cases rs <;> rfl]
          rw [show (!((rs.isEmpty && pr.isEmpty) == (rs.isEmpty && pr.isEmpty))) = false by cases (rs.isEmpty && pr.isEmpty) <;> rfl]
          walk_at "tq"
          refine ⟨by rw [List.length_map, szl]; simp; omega, ?_⟩
          cases hm : m.toNat with
          | zero =>
            rw [show ixD ((namesL c1 0).map D.str ++ [D.str [97]]) 0 = some (.str [97]) from rfl]
            walk_at "tq"
            refine ⟨by rw [szl]; decide, 2, [68], [], (namesL c1 0).map perN, [], [], rs, pr, rfl, ⟨by simp [namesL], by simp [namesL]⟩, ?_⟩
            exact h
          | succ n =>
            rw [show ixD ((namesL c1 (n + 1)).map D.str ++ [D.str [97]]) 0 = some (.str (nameT c1 0)) by
              rw [show (0 : Int) = ((0 : Nat) : Int) from rfl, ixD_ofNat]; simp [namesL, List.range_succ_eq_map]]
            walk_at "tq"
            have nl := nameT_len c1 0
            refine ⟨by rw [szl]; simp; omega, 2, [68], [], (namesL c1 (n + 1)).map perN, [], [], rs, pr, rfl, ⟨by simp [namesL]; omega, ?_⟩, ?_⟩
            · rw [show ((namesL c1 (n + 1)).map perN).map (·.name) = namesL c1 (n + 1) by rw [List.map_map]; exact List.map_id _]
              exact names_z
            · exact h
      · intro _ P' hP
        walk_at "tq"
        exact hP
    · intro _ PB hT hF
      walk_at "tq"
      refine ⟨ns, rfl, by decide, ⟨by decide, by decide⟩, by decide, ?_⟩
      show PB (decide (ns.getD 0 0 / 9 % 2 = 1))
      by_cases g : ns.getD 0 0 / 9 % 2 = 1
      · rw [decide_eq_true g]; exact hT g
      · rw [decide_eq_false g]; exact hF g
    · intro hm _ nx hnx
      have hm : 1 < m := of_decide_eq_true hm
      walk_at "tq"
      have en : ∀ k : Int, 0 ≤ k → k < m → ∃ t, ixD ((namesL c1 m.toNat).map D.str) k = some (.str t) := fun k h0 h1 => by
        refine ⟨(namesL c1 m.toNat)[k.toNat]'(by omega), ?_⟩
        rw [ixD_nat _ h0, List.getElem?_map, List.getElem?_eq_getElem (by omega), Option.map_some]
      obtain ⟨t0, e0⟩ := en 0 (by decide) (by omega)
      obtain ⟨t1, e1⟩ := en (m - 1) (by omega) (by omega)
      rw [e0]
      walk_at "tq"
      rw [e1]
      walk_at "tq"
      exact hnx _ ⟨_, rfl⟩
    · intro nx hnx
      walk_at "tq"
      exact hnx _ ⟨_, rfl⟩
end K22
end
section
set_option maxHeartbeats 0
namespace K22
open PySem L2 DL
section
variable {P : Program} {w : World} {K : PySem.W.Frag} {mg : Str → Option Value} {base : Heap} {A : Ad}
theorem ok_Person___init__ (T : Txt K mg A) {f : Addr} {fd : FuncData} (F : Fun K "__init__" "Person.__init__" s_Person___init__ f fd) : FnOk P w K mg base CX0 1 f fd ["self", "name", "skills", "most", "carried", "past"] (lowInit K A.cPerson (I_Person A)) :=
  init_ok F sc_Person___init__ (by
    intro ds P h
    unfold I_Person at h
    split at h <;> first | rfl | exact False.elim h) (fun cdv Ar outer s H E F0 H0 x dx hr => b_Person___init__ T cdv Ar outer s H E F0 H0 x dx hr) (sem_Person___init__ A)
theorem ok_House___init__ (T : Txt K mg A) {f : Addr} {fd : FuncData} (F : Fun K "__init__" "House.__init__" s_House___init__ f fd) : FnOk P w K mg base CX0 1 f fd ["self", "days", "kinds", "needs", "persons", "leave", "wishes", "rules", "pairs"] (lowInitM K A.cHouse [false, false, false, true, false, false, true, true] (I_House A)) :=
  init_okM (ms := [false, false, false, true, false, false, true, true]) F sc_House___init__ (by
    intro ds P h
    unfold I_House at h
    split at h <;> first | rfl | exact False.elim h) (fun cdv Ar outer s H E F0 H0 x dx hr => b_House___init__ T cdv Ar outer s H E F0 H0 x dx hr) (sem_House___init__ A)
theorem ok_House_place_of (T : Txt K mg A) {f : Addr} {fd : FuncData} (F : Fun K "place_of" "House.place_of" s_House_place_of f fd) : FnOk P w K mg base (L2.CX P w) 1 f fd ["self", "name"] (lowSpX K [false, false] (S_House_place_of A)) :=
  fn_okX (ms := [false, false]) F sc_House_place_of (by
    intro ds P Xc h
    unfold S_House_place_of at h
    split at h <;> first | rfl | exact False.elim h) (fun cdv Ar outer s H E F0 Xc hr hE => b_House_place_of T cdv Ar outer s H E F0 Xc hr hE) (sem_House_place_of A)
theorem ok_House_rules_for (T : Txt K mg A) {f : Addr} {fd : FuncData} (F : Fun K "rules_for" "House.rules_for" s_House_rules_for f fd) : FnOk P w K mg base CX0 1 f fd ["self", "p"] (lowSpN K [false, false] (S_House_rules_for A)) :=
  fn_okN (ms := [false, false]) F sc_House_rules_for (by
    intro ds P h
    unfold S_House_rules_for at h
    split at h <;> first | rfl | exact False.elim h) (fun cdv Ar outer s H E F0 hr => b_House_rules_for T cdv Ar outer s H E F0 hr) (sem_House_rules_for A)
theorem ok_House_plain (T : Txt K mg A) {f : Addr} {fd : FuncData} (F : Fun K "plain" "House.plain" s_House_plain f fd) : FnOk P w K mg base CX0 1 f fd ["self"] (lowSp K (S_House_plain A)) :=
  fn_ok F sc_House_plain (by
    intro ds P h
    unfold S_House_plain at h
    split at h <;> first | rfl | exact False.elim h) (fun cdv Ar outer s H E F0 hr => b_House_plain T cdv Ar outer s H E F0 hr) (sem_House_plain A)
theorem ok_Never___init__ (T : Txt K mg A) {f : Addr} {fd : FuncData} (F : Fun K "__init__" "Never.__init__" s_Never___init__ f fd) : FnOk P w K mg base CX0 1 f fd ["self", "word"] (lowInit K A.cNever (I_Never A)) :=
  init_ok F sc_Never___init__ (by
    intro ds P h
    unfold I_Never at h
    split at h <;> first | rfl | exact False.elim h) (fun cdv Ar outer s H E F0 H0 x dx hr => b_Never___init__ T cdv Ar outer s H E F0 H0 x dx hr) (sem_Never___init__ A)
theorem ok_Never_reach (T : Txt K mg A) {f : Addr} {fd : FuncData} (F : Fun K "reach" "Never.reach" s_Never_reach f fd) : FnOk P w K mg base CX0 1 f fd ["self"] (lowSp K (S_Never_reach A)) :=
  fn_ok F sc_Never_reach (by
    intro ds P h
    unfold S_Never_reach at h
    split at h <;> first | rfl | exact False.elim h) (fun cdv Ar outer s H E F0 hr => b_Never_reach T cdv Ar outer s H E F0 hr) (sem_Never_reach A)
theorem ok_Never_text (T : Txt K mg A) {f : Addr} {fd : FuncData} (F : Fun K "text" "Never.text" s_Never_text f fd) : FnOk P w K mg base CX0 1 f fd ["self"] (lowSp K (S_Never_text A)) :=
  fn_ok F sc_Never_text (by
    intro ds P h
    unfold S_Never_text at h
    split at h <;> first | rfl | exact False.elim h) (fun cdv Ar outer s H E F0 hr => b_Never_text T cdv Ar outer s H E F0 hr) (sem_Never_text A)
theorem ok_Least___init__ (T : Txt K mg A) {f : Addr} {fd : FuncData} (F : Fun K "__init__" "Tally.__init__" s_Tally___init__ f fd) : FnOk P w K mg base CX0 1 f fd ["self", "many", "marks", "days"] (lowInit K A.cLeast (I_Tally A)) :=
  init_ok F sc_Tally___init__ (by
    intro ds P h
    unfold I_Tally at h
    split at h <;> first | rfl | exact False.elim h) (fun cdv Ar outer s H E F0 H0 x dx hr => b_Least___init__ T cdv Ar outer s H E F0 H0 x dx hr) (sem_Tally___init__ A)
theorem ok_Most___init__ (T : Txt K mg A) {f : Addr} {fd : FuncData} (F : Fun K "__init__" "Tally.__init__" s_Tally___init__ f fd) : FnOk P w K mg base CX0 1 f fd ["self", "many", "marks", "days"] (lowInit K A.cMost (I_Tally A)) :=
  init_ok F sc_Tally___init__ (by
    intro ds P h
    unfold I_Tally at h
    split at h <;> first | rfl | exact False.elim h) (fun cdv Ar outer s H E F0 H0 x dx hr => b_Most___init__ T cdv Ar outer s H E F0 H0 x dx hr) (sem_Tally___init__ A)
theorem ok_Tally_reach (T : Txt K mg A) {f : Addr} {fd : FuncData} (F : Fun K "reach" "Tally.reach" s_Tally_reach f fd) : FnOk P w K mg base CX0 1 f fd ["self"] (lowSp K (S_Tally_reach A)) :=
  fn_ok F sc_Tally_reach (by
    intro ds P h
    unfold S_Tally_reach at h
    split at h <;> first | rfl | exact False.elim h) (fun cdv Ar outer s H E F0 hr => b_Tally_reach T cdv Ar outer s H E F0 hr) (sem_Tally_reach A)
theorem ok_Tally_shown (T : Txt K mg A) {f : Addr} {fd : FuncData} (F : Fun K "shown" "Tally.shown" s_Tally_shown f fd) : FnOk P w K mg base CX0 1 f fd ["self", "word"] (lowSp K (S_Tally_shown A)) :=
  fn_ok F sc_Tally_shown (by
    intro ds P h
    unfold S_Tally_shown at h
    split at h <;> first | rfl | exact False.elim h) (fun cdv Ar outer s H E F0 hr => b_Tally_shown T cdv Ar outer s H E F0 hr) (sem_Tally_shown A)
theorem ok_l_cell_at (T : Txt K mg A) {f : Addr} {fd : FuncData} (F : Fun K "_law_cell_at" "_law_cell_at" s_l_cell_at f fd) : FnOk P w K mg base CX0 1 f fd ["_law_script", "_law_k"] (lowSp K (S_l_cell_at A)) :=
  fn_ok F sc_l_cell_at (by
    intro ds P h
    unfold S_l_cell_at at h
    split at h <;> first | rfl | exact False.elim h) (fun cdv Ar outer s H E F0 hr => b_l_cell_at T cdv Ar outer s H E F0 hr) (sem_l_cell_at A)
theorem ok_l_whole (T : Txt K mg A) {f : Addr} {fd : FuncData} (F : Fun K "_law_whole" "_law_whole" s_l_whole f fd) : FnOk P w K mg base CX0 1 f fd ["_law_found"] (lowSp K (S_l_whole A)) :=
  fn_ok F sc_l_whole (by
    intro ds P h
    unfold S_l_whole at h
    split at h <;> first | rfl | exact False.elim h) (fun cdv Ar outer s H E F0 hr => b_l_whole T cdv Ar outer s H E F0 hr) (sem_l_whole A)
theorem ok_l_name (T : Txt K mg A) {f : Addr} {fd : FuncData} (F : Fun K "_law_name" "_law_name" s_l_name f fd) : FnOk P w K mg base CX0 1 f fd ["_law_cell", "_law_p"] (lowSp K (S_l_name A)) :=
  fn_ok F sc_l_name (by
    intro ds P h
    unfold S_l_name at h
    split at h <;> first | rfl | exact False.elim h) (fun cdv Ar outer s H E F0 hr => b_l_name T cdv Ar outer s H E F0 hr) (sem_l_name A)
theorem ok_House_reach_of (T : Txt K mg A) (N_reach : ∀ C S, M_reach A C S → MethOk P w K mg base CX0 1 "reach" C S) (N_rules_for : ∀ C S, M_rules_for A C S → MethOkN P w K mg base 1 "rules_for" [false] C S) {f : Addr} {fd : FuncData} (F : Fun K "reach_of" "House.reach_of" s_House_reach_of f fd) : FnOk P w K mg base CX0 2 f fd ["self", "p"] (lowSp K (S_House_reach_of A)) :=
  fn_ok F sc_House_reach_of (by
    intro ds P h
    unfold S_House_reach_of at h
    split at h <;> first | rfl | exact False.elim h) (fun cdv Ar outer s H E F0 hr => b_House_reach_of T N_reach N_rules_for cdv Ar outer s H E F0 hr) (sem_House_reach_of A)
theorem ok_Most_text (T : Txt K mg A) (N_shown : ∀ C S, M_shown A C S → MethOk P w K mg base CX0 1 "shown" C S) {f : Addr} {fd : FuncData} (F : Fun K "text" "Most.text" s_Most_text f fd) : FnOk P w K mg base CX0 2 f fd ["self"] (lowSp K (S_Most_text A)) :=
  fn_ok F sc_Most_text (by
    intro ds P h
    unfold S_Most_text at h
    split at h <;> first | rfl | exact False.elim h) (fun cdv Ar outer s H E F0 hr => b_Most_text T N_shown cdv Ar outer s H E F0 hr) (sem_Most_text A)
theorem ok_Least_text (T : Txt K mg A) (N_shown : ∀ C S, M_shown A C S → MethOk P w K mg base CX0 1 "shown" C S) {f : Addr} {fd : FuncData} (F : Fun K "text" "Least.text" s_Least_text f fd) : FnOk P w K mg base CX0 2 f fd ["self"] (lowSp K (S_Least_text A)) :=
  fn_ok F sc_Least_text (by
    intro ds P h
    unfold S_Least_text at h
    split at h <;> first | rfl | exact False.elim h) (fun cdv Ar outer s H E F0 hr => b_Least_text T N_shown cdv Ar outer s H E F0 hr) (sem_Least_text A)
theorem ok_l_refused (T : Txt K mg A) (Y_place_of : ∀ C S, MX_place_of A C S → MethOkX P w K mg base 1 "place_of" [false] C S) {f : Addr} {fd : FuncData} (F : Fun K "_law_refused" "_law_refused" s_l_refused f fd) : FnOk P w K mg base CX0 2 f fd ["_law_house", "_law_name_here"] (lowSp K (S_l_refused A)) :=
  fn_ok F sc_l_refused (by
    intro ds P h
    unfold S_l_refused at h
    split at h <;> first | rfl | exact False.elim h) (fun cdv Ar outer s H E F0 hr => b_l_refused T Y_place_of cdv Ar outer s H E F0 hr) (sem_l_refused A)
theorem ok_l_rule (T : Txt K mg A) (M_Least : MkG P w K mg base "Least" A.cLeast 1 (I_Tally A)) (M_Most : MkG P w K mg base "Most" A.cMost 1 (I_Tally A)) (M_Never : MkG P w K mg base "Never" A.cNever 1 (I_Never A)) {f : Addr} {fd : FuncData} (F : Fun K "_law_rule" "_law_rule" s_l_rule f fd) : FnOk P w K mg base CX0 3 f fd ["_law_cell"] (lowSp K (S_l_rule A)) :=
  fn_ok F sc_l_rule (by
    intro ds P h
    unfold S_l_rule at h
    split at h <;> first | rfl | exact False.elim h) (fun cdv Ar outer s H E F0 hr => b_l_rule T M_Least M_Most M_Never cdv Ar outer s H E F0 hr) (sem_l_rule A)
theorem ok_l_person (T : Txt K mg A) (F_l_whole : FnG P w K mg base "_law_whole" 1 (S_l_whole A)) (N_reach_of : ∀ C S, M_reach_of A C S → MethOk P w K mg base CX0 2 "reach_of" C S) (N_rules_for : ∀ C S, M_rules_for A C S → MethOkN P w K mg base 1 "rules_for" [false] C S) (N_text : ∀ C S, M_text A C S → MethOk P w K mg base CX0 2 "text" C S) {f : Addr} {fd : FuncData} (F : Fun K "_law_person" "_law_person" s_l_person f fd) : FnOk P w K mg base CX0 3 f fd ["_law_house", "_law_p", "_law_bound"] (lowSp K (S_l_person A)) :=
  fn_ok F sc_l_person (by
    intro ds P h
    unfold S_l_person at h
    split at h <;> first | rfl | exact False.elim h) (fun cdv Ar outer s H E F0 hr => b_l_person T F_l_whole N_reach_of N_rules_for N_text cdv Ar outer s H E F0 hr) (sem_l_person A)
theorem ok_law (T : Txt K mg A) (F_l_cell_at : FnG P w K mg base "_law_cell_at" 1 (S_l_cell_at A)) (F_l_name : FnG P w K mg base "_law_name" 1 (S_l_name A)) (F_l_person : FnG P w K mg base "_law_person" 3 (S_l_person A)) (F_l_refused : FnG P w K mg base "_law_refused" 2 (S_l_refused A)) (F_l_rule : FnG P w K mg base "_law_rule" 3 (S_l_rule A)) (M_House : MkGM P w K mg base "House" A.cHouse 1 [false, false, false, true, false, false, true, true] (I_House A)) (M_Person : MkG P w K mg base "Person" A.cPerson 1 (I_Person A)) (N_plain : ∀ C S, M_plain A C S → MethOk P w K mg base CX0 1 "plain" C S) (N_rules_for : ∀ C S, M_rules_for A C S → MethOkN P w K mg base 1 "rules_for" [false] C S) (Y_place_of : ∀ C S, MX_place_of A C S → MethOkX P w K mg base 1 "place_of" [false] C S) {f : Addr} {fd : FuncData} (F : Fun K "law" "law" s_law f fd) : FnOk P w K mg base CX0 4 f fd ["_law_script"] (lowSp K (S_law A)) :=
  fn_ok F sc_law (by
    intro ds P h
    unfold S_law S_theLaw at h
    split at h <;> first | rfl | exact False.elim h) (fun cdv Ar outer s H E F0 hr => b_law T F_l_cell_at F_l_name F_l_person F_l_refused F_l_rule M_House M_Person N_plain N_rules_for Y_place_of cdv Ar outer s H E F0 hr) (sem_law A)
end
theorem all_mk0 {l : PySem.W.OpenLaw} {w : World} {K : PySem.W.Frag} {h : Heap} {mg : Str → Option Value} {fa f0 f1 f2 f3 f4 f5 f6 f7 f8 f9 f10 f11 f12 f13 f14 f15 f16 f17 f18 f19 f20 : Addr} (A : Ad) (X : K.In h) (G : h.Ns mainGlobals mg) (hfa : mg "law" = some (.ref fa))
    {od0 an0 : Option Addr} {sl0 : Array (Option Value)} {oc0 kV0 dc0 pm0 cd0 ct0 : Value}
    {od1 an1 : Option Addr} {sl1 : Array (Option Value)} {oc1 kV1 dc1 pm1 cd1 ct1 : Value}
    {od2 an2 : Option Addr} {sl2 : Array (Option Value)} {oc2 kV2 dc2 pm2 cd2 ct2 : Value}
    {od3 an3 : Option Addr} {sl3 : Array (Option Value)} {oc3 kV3 dc3 pm3 cd3 ct3 : Value}
    {od4 an4 : Option Addr} {sl4 : Array (Option Value)} {oc4 kV4 dc4 pm4 cd4 ct4 : Value}
    {od5 an5 : Option Addr} {sl5 : Array (Option Value)} {oc5 kV5 dc5 pm5 cd5 ct5 : Value}
    {od6 an6 : Option Addr} {sl6 : Array (Option Value)} {oc6 kV6 dc6 pm6 cd6 ct6 : Value}
    {od7 an7 : Option Addr} {sl7 : Array (Option Value)} {oc7 kV7 dc7 pm7 cd7 ct7 : Value}
    {od8 an8 : Option Addr} {sl8 : Array (Option Value)} {oc8 kV8 dc8 pm8 cd8 ct8 : Value}
    {od9 an9 : Option Addr} {sl9 : Array (Option Value)} {oc9 kV9 dc9 pm9 cd9 ct9 : Value}
    {od10 an10 : Option Addr} {sl10 : Array (Option Value)} {oc10 kV10 dc10 pm10 cd10 ct10 : Value}
    {od11 an11 : Option Addr} {sl11 : Array (Option Value)} {oc11 kV11 dc11 pm11 cd11 ct11 : Value}
    {od12 an12 : Option Addr} {sl12 : Array (Option Value)} {oc12 kV12 dc12 pm12 cd12 ct12 : Value}
    {od13 an13 : Option Addr} {sl13 : Array (Option Value)} {oc13 kV13 dc13 pm13 cd13 ct13 : Value}
    {od14 an14 : Option Addr} {sl14 : Array (Option Value)} {oc14 kV14 dc14 pm14 cd14 ct14 : Value}
    {od15 an15 : Option Addr} {sl15 : Array (Option Value)} {oc15 kV15 dc15 pm15 cd15 ct15 : Value}
    {od16 an16 : Option Addr} {sl16 : Array (Option Value)} {oc16 kV16 dc16 pm16 cd16 ct16 : Value}
    {od17 an17 : Option Addr} {sl17 : Array (Option Value)} {oc17 kV17 dc17 pm17 cd17 ct17 : Value}
    {od18 an18 : Option Addr} {sl18 : Array (Option Value)} {oc18 kV18 dc18 pm18 cd18 ct18 : Value}
    {od19 an19 : Option Addr} {sl19 : Array (Option Value)} {oc19 kV19 dc19 pm19 cd19 ct19 : Value}
    {od20 an20 : Option Addr} {sl20 : Array (Option Value)} {oc20 kV20 dc20 pm20 cd20 ct20 : Value}
    (aC_RotaError : PySem.W.nsIn K mainGlobals "RotaError" = some (some (.ref A.cRotaError)))
    (aC_NoRule : PySem.W.nsIn K mainGlobals "NoRule" = some (some (.ref A.cNoRule)))
    (aC_NoName : PySem.W.nsIn K mainGlobals "NoName" = some (some (.ref A.cNoName)))
    (aC_NoDay : PySem.W.nsIn K mainGlobals "NoDay" = some (some (.ref A.cNoDay)))
    (aC_NoRow : PySem.W.nsIn K mainGlobals "NoRow" = some (some (.ref A.cNoRow)))
    (aC_TooWide : PySem.W.nsIn K mainGlobals "TooWide" = some (some (.ref A.cTooWide)))
    (aC_NoHouse : PySem.W.nsIn K mainGlobals "NoHouse" = some (some (.ref A.cNoHouse)))
    (aC_Faulty : PySem.W.nsIn K mainGlobals "Faulty" = some (some (.ref A.cFaulty)))
    (aC_Person : PySem.W.nsIn K mainGlobals "Person" = some (some (.ref A.cPerson)))
    (aC_House : PySem.W.nsIn K mainGlobals "House" = some (some (.ref A.cHouse)))
    (aC_Rule : PySem.W.nsIn K mainGlobals "Rule" = some (some (.ref A.cRule)))
    (aC_Never : PySem.W.nsIn K mainGlobals "Never" = some (some (.ref A.cNever)))
    (aC_Tally : PySem.W.nsIn K mainGlobals "Tally" = some (some (.ref A.cTally)))
    (aC_Most : PySem.W.nsIn K mainGlobals "Most" = some (some (.ref A.cMost)))
    (aC_Least : PySem.W.nsIn K mainGlobals "Least" = some (some (.ref A.cLeast)))
    (a0 : PySem.W.findIn K (.ref A.cPerson) "__init__" = some (some (.ref f0)))
    (i0 : PySem.W.isFn K (.ref f0) = true)
    (l0 : K.lookup f0 = some ⟨oc0, od0, .func (PySem.W.fnOf "__init__" "Person.__init__" (defArgs s_Person___init__) (defBody s_Person___init__) (defScope s_Person___init__) .none kV0 dc0 pm0 an0 cd0 ct0), sl0⟩)
    (c0 : PySem.W.codeIn K cd0 "Person.__init__" = true)
    (k0 : PySem.W.keepIn K (.ref f0) = true)
    (a1 : PySem.W.findIn K (.ref A.cHouse) "__init__" = some (some (.ref f1)))
    (i1 : PySem.W.isFn K (.ref f1) = true)
    (l1 : K.lookup f1 = some ⟨oc1, od1, .func (PySem.W.fnOf "__init__" "House.__init__" (defArgs s_House___init__) (defBody s_House___init__) (defScope s_House___init__) .none kV1 dc1 pm1 an1 cd1 ct1), sl1⟩)
    (c1 : PySem.W.codeIn K cd1 "House.__init__" = true)
    (k1 : PySem.W.keepIn K (.ref f1) = true)
    (a2 : PySem.W.findIn K (.ref A.cHouse) "place_of" = some (some (.ref f2)))
    (i2 : PySem.W.isFn K (.ref f2) = true)
    (l2 : K.lookup f2 = some ⟨oc2, od2, .func (PySem.W.fnOf "place_of" "House.place_of" (defArgs s_House_place_of) (defBody s_House_place_of) (defScope s_House_place_of) .none kV2 dc2 pm2 an2 cd2 ct2), sl2⟩)
    (c2 : PySem.W.codeIn K cd2 "House.place_of" = true)
    (k2 : PySem.W.keepIn K (.ref f2) = true)
    (a3 : PySem.W.findIn K (.ref A.cHouse) "rules_for" = some (some (.ref f3)))
    (i3 : PySem.W.isFn K (.ref f3) = true)
    (l3 : K.lookup f3 = some ⟨oc3, od3, .func (PySem.W.fnOf "rules_for" "House.rules_for" (defArgs s_House_rules_for) (defBody s_House_rules_for) (defScope s_House_rules_for) .none kV3 dc3 pm3 an3 cd3 ct3), sl3⟩)
    (c3 : PySem.W.codeIn K cd3 "House.rules_for" = true)
    (k3 : PySem.W.keepIn K (.ref f3) = true)
    (a4 : PySem.W.findIn K (.ref A.cHouse) "plain" = some (some (.ref f4)))
    (i4 : PySem.W.isFn K (.ref f4) = true)
    (l4 : K.lookup f4 = some ⟨oc4, od4, .func (PySem.W.fnOf "plain" "House.plain" (defArgs s_House_plain) (defBody s_House_plain) (defScope s_House_plain) .none kV4 dc4 pm4 an4 cd4 ct4), sl4⟩)
    (c4 : PySem.W.codeIn K cd4 "House.plain" = true)
    (k4 : PySem.W.keepIn K (.ref f4) = true)
    (a5 : PySem.W.findIn K (.ref A.cNever) "__init__" = some (some (.ref f5)))
    (i5 : PySem.W.isFn K (.ref f5) = true)
    (l5 : K.lookup f5 = some ⟨oc5, od5, .func (PySem.W.fnOf "__init__" "Never.__init__" (defArgs s_Never___init__) (defBody s_Never___init__) (defScope s_Never___init__) .none kV5 dc5 pm5 an5 cd5 ct5), sl5⟩)
    (c5 : PySem.W.codeIn K cd5 "Never.__init__" = true)
    (k5 : PySem.W.keepIn K (.ref f5) = true)
    (a6 : PySem.W.findIn K (.ref A.cNever) "reach" = some (some (.ref f6)))
    (i6 : PySem.W.isFn K (.ref f6) = true)
    (l6 : K.lookup f6 = some ⟨oc6, od6, .func (PySem.W.fnOf "reach" "Never.reach" (defArgs s_Never_reach) (defBody s_Never_reach) (defScope s_Never_reach) .none kV6 dc6 pm6 an6 cd6 ct6), sl6⟩)
    (c6 : PySem.W.codeIn K cd6 "Never.reach" = true)
    (k6 : PySem.W.keepIn K (.ref f6) = true)
    (a7 : PySem.W.findIn K (.ref A.cNever) "text" = some (some (.ref f7)))
    (i7 : PySem.W.isFn K (.ref f7) = true)
    (l7 : K.lookup f7 = some ⟨oc7, od7, .func (PySem.W.fnOf "text" "Never.text" (defArgs s_Never_text) (defBody s_Never_text) (defScope s_Never_text) .none kV7 dc7 pm7 an7 cd7 ct7), sl7⟩)
    (c7 : PySem.W.codeIn K cd7 "Never.text" = true)
    (k7 : PySem.W.keepIn K (.ref f7) = true)
    (a8 : PySem.W.findIn K (.ref A.cTally) "__init__" = some (some (.ref f8)))
    (i8 : PySem.W.isFn K (.ref f8) = true)
    (l8 : K.lookup f8 = some ⟨oc8, od8, .func (PySem.W.fnOf "__init__" "Tally.__init__" (defArgs s_Tally___init__) (defBody s_Tally___init__) (defScope s_Tally___init__) .none kV8 dc8 pm8 an8 cd8 ct8), sl8⟩)
    (c8 : PySem.W.codeIn K cd8 "Tally.__init__" = true)
    (k8 : PySem.W.keepIn K (.ref f8) = true)
    (a9 : PySem.W.findIn K (.ref A.cTally) "reach" = some (some (.ref f9)))
    (i9 : PySem.W.isFn K (.ref f9) = true)
    (l9 : K.lookup f9 = some ⟨oc9, od9, .func (PySem.W.fnOf "reach" "Tally.reach" (defArgs s_Tally_reach) (defBody s_Tally_reach) (defScope s_Tally_reach) .none kV9 dc9 pm9 an9 cd9 ct9), sl9⟩)
    (c9 : PySem.W.codeIn K cd9 "Tally.reach" = true)
    (k9 : PySem.W.keepIn K (.ref f9) = true)
    (a10 : PySem.W.findIn K (.ref A.cTally) "shown" = some (some (.ref f10)))
    (i10 : PySem.W.isFn K (.ref f10) = true)
    (l10 : K.lookup f10 = some ⟨oc10, od10, .func (PySem.W.fnOf "shown" "Tally.shown" (defArgs s_Tally_shown) (defBody s_Tally_shown) (defScope s_Tally_shown) .none kV10 dc10 pm10 an10 cd10 ct10), sl10⟩)
    (c10 : PySem.W.codeIn K cd10 "Tally.shown" = true)
    (k10 : PySem.W.keepIn K (.ref f10) = true)
    (a11 : PySem.W.nsIn K mainGlobals "_law_cell_at" = some (some (.ref f11)))
    (l11 : K.lookup f11 = some ⟨oc11, od11, .func (PySem.W.fnOf "_law_cell_at" "_law_cell_at" (defArgs s_l_cell_at) (defBody s_l_cell_at) (defScope s_l_cell_at) .none kV11 dc11 pm11 an11 cd11 ct11), sl11⟩)
    (c11 : PySem.W.codeIn K cd11 "_law_cell_at" = true)
    (k11 : PySem.W.keepIn K (.ref f11) = true)
    (a12 : PySem.W.nsIn K mainGlobals "_law_whole" = some (some (.ref f12)))
    (l12 : K.lookup f12 = some ⟨oc12, od12, .func (PySem.W.fnOf "_law_whole" "_law_whole" (defArgs s_l_whole) (defBody s_l_whole) (defScope s_l_whole) .none kV12 dc12 pm12 an12 cd12 ct12), sl12⟩)
    (c12 : PySem.W.codeIn K cd12 "_law_whole" = true)
    (k12 : PySem.W.keepIn K (.ref f12) = true)
    (a13 : PySem.W.nsIn K mainGlobals "_law_name" = some (some (.ref f13)))
    (l13 : K.lookup f13 = some ⟨oc13, od13, .func (PySem.W.fnOf "_law_name" "_law_name" (defArgs s_l_name) (defBody s_l_name) (defScope s_l_name) .none kV13 dc13 pm13 an13 cd13 ct13), sl13⟩)
    (c13 : PySem.W.codeIn K cd13 "_law_name" = true)
    (k13 : PySem.W.keepIn K (.ref f13) = true)
    (a14 : PySem.W.findIn K (.ref A.cHouse) "reach_of" = some (some (.ref f14)))
    (i14 : PySem.W.isFn K (.ref f14) = true)
    (l14 : K.lookup f14 = some ⟨oc14, od14, .func (PySem.W.fnOf "reach_of" "House.reach_of" (defArgs s_House_reach_of) (defBody s_House_reach_of) (defScope s_House_reach_of) .none kV14 dc14 pm14 an14 cd14 ct14), sl14⟩)
    (c14 : PySem.W.codeIn K cd14 "House.reach_of" = true)
    (k14 : PySem.W.keepIn K (.ref f14) = true)
    (a15 : PySem.W.findIn K (.ref A.cMost) "text" = some (some (.ref f15)))
    (i15 : PySem.W.isFn K (.ref f15) = true)
    (l15 : K.lookup f15 = some ⟨oc15, od15, .func (PySem.W.fnOf "text" "Most.text" (defArgs s_Most_text) (defBody s_Most_text) (defScope s_Most_text) .none kV15 dc15 pm15 an15 cd15 ct15), sl15⟩)
    (c15 : PySem.W.codeIn K cd15 "Most.text" = true)
    (k15 : PySem.W.keepIn K (.ref f15) = true)
    (a16 : PySem.W.findIn K (.ref A.cLeast) "text" = some (some (.ref f16)))
    (i16 : PySem.W.isFn K (.ref f16) = true)
    (l16 : K.lookup f16 = some ⟨oc16, od16, .func (PySem.W.fnOf "text" "Least.text" (defArgs s_Least_text) (defBody s_Least_text) (defScope s_Least_text) .none kV16 dc16 pm16 an16 cd16 ct16), sl16⟩)
    (c16 : PySem.W.codeIn K cd16 "Least.text" = true)
    (k16 : PySem.W.keepIn K (.ref f16) = true)
    (a17 : PySem.W.nsIn K mainGlobals "_law_refused" = some (some (.ref f17)))
    (l17 : K.lookup f17 = some ⟨oc17, od17, .func (PySem.W.fnOf "_law_refused" "_law_refused" (defArgs s_l_refused) (defBody s_l_refused) (defScope s_l_refused) .none kV17 dc17 pm17 an17 cd17 ct17), sl17⟩)
    (c17 : PySem.W.codeIn K cd17 "_law_refused" = true)
    (k17 : PySem.W.keepIn K (.ref f17) = true)
    (a18 : PySem.W.nsIn K mainGlobals "_law_rule" = some (some (.ref f18)))
    (l18 : K.lookup f18 = some ⟨oc18, od18, .func (PySem.W.fnOf "_law_rule" "_law_rule" (defArgs s_l_rule) (defBody s_l_rule) (defScope s_l_rule) .none kV18 dc18 pm18 an18 cd18 ct18), sl18⟩)
    (c18 : PySem.W.codeIn K cd18 "_law_rule" = true)
    (k18 : PySem.W.keepIn K (.ref f18) = true)
    (a19 : PySem.W.nsIn K mainGlobals "_law_person" = some (some (.ref f19)))
    (l19 : K.lookup f19 = some ⟨oc19, od19, .func (PySem.W.fnOf "_law_person" "_law_person" (defArgs s_l_person) (defBody s_l_person) (defScope s_l_person) .none kV19 dc19 pm19 an19 cd19 ct19), sl19⟩)
    (c19 : PySem.W.codeIn K cd19 "_law_person" = true)
    (k19 : PySem.W.keepIn K (.ref f19) = true)
    (a20 : PySem.W.nsIn K mainGlobals "law" = some (some (.ref f20)))
    (l20 : K.lookup f20 = some ⟨oc20, od20, .func (PySem.W.fnOf "law" "law" (defArgs s_law) (defBody s_law) (defScope s_law) .none kV20 dc20 pm20 an20 cd20 ct20), sl20⟩)
    (c20 : PySem.W.codeIn K cd20 "law" = true)
    (k20 : PySem.W.keepIn K (.ref f20) = true)
    (h_Most_reach : PySem.W.findIn K (.ref A.cMost) "reach" = some (some (.ref f9)))
    (h_Least_reach : PySem.W.findIn K (.ref A.cLeast) "reach" = some (some (.ref f9)))
    (h_Most_shown : PySem.W.findIn K (.ref A.cMost) "shown" = some (some (.ref f10)))
    (h_Least_shown : PySem.W.findIn K (.ref A.cLeast) "shown" = some (some (.ref f10)))
    (mk_House : PySem.W.makesIn K A.cHouse = true)
    (kc_House : PySem.W.keepIn K (.ref A.cHouse) = true)
    (h_Least___init__ : PySem.W.findIn K (.ref A.cLeast) "__init__" = some (some (.ref f8)))
    (mk_Least : PySem.W.makesIn K A.cLeast = true)
    (kc_Least : PySem.W.keepIn K (.ref A.cLeast) = true)
    (h_Most___init__ : PySem.W.findIn K (.ref A.cMost) "__init__" = some (some (.ref f8)))
    (mk_Most : PySem.W.makesIn K A.cMost = true)
    (kc_Most : PySem.W.keepIn K (.ref A.cMost) = true)
    (mk_Never : PySem.W.makesIn K A.cNever = true)
    (kc_Never : PySem.W.keepIn K (.ref A.cNever) = true)
    (mk_Person : PySem.W.makesIn K A.cPerson = true)
    (kc_Person : PySem.W.keepIn K (.ref A.cPerson) = true)
    (pg_House : PySem.W.plainGet K A.cHouse Str.empty = true)
    (hd_House : PySem.W.hasDictIn K A.cHouse = true)
    (po_House : PySem.W.plainOver K A.cHouse = true)
    (sa_House : PySem.W.findIn K (.ref A.cHouse) "__setattr__" = some (some (.builtin "object.__setattr__")))
    (pg_Least : PySem.W.plainGet K A.cLeast Str.empty = true)
    (hd_Least : PySem.W.hasDictIn K A.cLeast = true)
    (po_Least : PySem.W.plainOver K A.cLeast = true)
    (sa_Least : PySem.W.findIn K (.ref A.cLeast) "__setattr__" = some (some (.builtin "object.__setattr__")))
    (pg_Most : PySem.W.plainGet K A.cMost Str.empty = true)
    (hd_Most : PySem.W.hasDictIn K A.cMost = true)
    (po_Most : PySem.W.plainOver K A.cMost = true)
    (sa_Most : PySem.W.findIn K (.ref A.cMost) "__setattr__" = some (some (.builtin "object.__setattr__")))
    (pg_Never : PySem.W.plainGet K A.cNever Str.empty = true)
    (hd_Never : PySem.W.hasDictIn K A.cNever = true)
    (po_Never : PySem.W.plainOver K A.cNever = true)
    (sa_Never : PySem.W.findIn K (.ref A.cNever) "__setattr__" = some (some (.builtin "object.__setattr__")))
    (pg_Person : PySem.W.plainGet K A.cPerson Str.empty = true)
    (hd_Person : PySem.W.hasDictIn K A.cPerson = true)
    (po_Person : PySem.W.plainOver K A.cPerson = true)
    (sa_Person : PySem.W.findIn K (.ref A.cPerson) "__setattr__" = some (some (.builtin "object.__setattr__")))
    (pg_Tally : PySem.W.plainGet K A.cTally Str.empty = true)
    (hd_Tally : PySem.W.hasDictIn K A.cTally = true)
    (po_Tally : PySem.W.plainOver K A.cTally = true)
    (sa_Tally : PySem.W.findIn K (.ref A.cTally) "__setattr__" = some (some (.builtin "object.__setattr__")))
    (g_ValueError : PySem.W.nsIn K mainGlobals "ValueError" = some none)
    (g_bool : PySem.W.nsIn K mainGlobals "bool" = some none)
    (g_int : PySem.W.nsIn K mainGlobals "int" = some none)
    (g_isinstance : PySem.W.nsIn K mainGlobals "isinstance" = some none)
    (g_len : PySem.W.nsIn K mainGlobals "len" = some none)
    (g_list : PySem.W.nsIn K mainGlobals "list" = some none)
    (g_max : PySem.W.nsIn K mainGlobals "max" = some none)
    (g_range : PySem.W.nsIn K mainGlobals "range" = some none)
    (g_str : PySem.W.nsIn K mainGlobals "str" = some none)
    (g_tuple : PySem.W.nsIn K mainGlobals "tuple" = some none)
    (g_zip : PySem.W.nsIn K mainGlobals "zip" = some none)
    (n_Person_carried : PySem.W.findIn K (.ref A.cPerson) "carried" = some none)
    (n_House_days : PySem.W.findIn K (.ref A.cHouse) "days" = some none)
    (n_Least_days : PySem.W.findIn K (.ref A.cLeast) "days" = some none)
    (n_Most_days : PySem.W.findIn K (.ref A.cMost) "days" = some none)
    (n_Tally_days : PySem.W.findIn K (.ref A.cTally) "days" = some none)
    (n_House_kinds : PySem.W.findIn K (.ref A.cHouse) "kinds" = some none)
    (n_House_leave : PySem.W.findIn K (.ref A.cHouse) "leave" = some none)
    (n_Least_many : PySem.W.findIn K (.ref A.cLeast) "many" = some none)
    (n_Most_many : PySem.W.findIn K (.ref A.cMost) "many" = some none)
    (n_Tally_many : PySem.W.findIn K (.ref A.cTally) "many" = some none)
    (n_Least_marks : PySem.W.findIn K (.ref A.cLeast) "marks" = some none)
    (n_Most_marks : PySem.W.findIn K (.ref A.cMost) "marks" = some none)
    (n_Tally_marks : PySem.W.findIn K (.ref A.cTally) "marks" = some none)
    (n_Person_most : PySem.W.findIn K (.ref A.cPerson) "most" = some none)
    (n_Person_name : PySem.W.findIn K (.ref A.cPerson) "name" = some none)
    (n_House_needs : PySem.W.findIn K (.ref A.cHouse) "needs" = some none)
    (n_House_pairs : PySem.W.findIn K (.ref A.cHouse) "pairs" = some none)
    (n_Person_past : PySem.W.findIn K (.ref A.cPerson) "past" = some none)
    (n_House_persons : PySem.W.findIn K (.ref A.cHouse) "persons" = some none)
    (n_House_rules : PySem.W.findIn K (.ref A.cHouse) "rules" = some none)
    (n_Person_skills : PySem.W.findIn K (.ref A.cPerson) "skills" = some none)
    (n_House_wishes : PySem.W.findIn K (.ref A.cHouse) "wishes" = some none)
    (n_Never_word : PySem.W.findIn K (.ref A.cNever) "word" = some none)
    (xs_NoName : PySem.W.subIn K (.ref A.cNoName) (.type "BaseException") = some true)
    (xe_NoName : PySem.W.excIn K A.cNoName [.type "ValueError", .type "Exception", .type "BaseException", .type "object"] "ValueError.__new__" = true)
    (kc_NoName : PySem.W.keepIn K (.ref A.cNoName) = true)
    (ky_NoName : PySem.W.typeIn K (.ref A.cNoName) = some (.type "type"))
    (xg_NoName : PySem.W.findIn K (.ref A.cNoName) "__getattribute__" = some (some (.builtin "BaseException.__getattribute__")))
    (xk_NoName : PySem.W.findIn K (.ref A.cNoName) "__getattr__" = some none)
    (hd_NoName : PySem.W.hasDictIn K A.cNoName = true)
    (ka_NoName : PySem.W.findIn K (.ref A.cNoName) "__class__" = some (some (.builtin "object.__class__")))
    (km_NoName : PySem.W.mroIn K A.cNoName (.type "object") = some true)
    (kn : PySem.W.specialIn K (.builtin "object.__class__") "__get__" = some (some (.builtin "getset_descriptor.__get__")))
    (kt : PySem.W.takesIn K (.builtin "object.__class__") = some true)
    (xv_NoName : PySem.W.subIn K (.ref A.cNoName) (.type "ValueError") = some true)
    (ks_Faulty : PySem.W.subIn K (.ref A.cFaulty) (.ref A.cFaulty) = some true)
    (ky_Faulty : PySem.W.typeIn K (.ref A.cFaulty) = some (.type "type"))
    (kq_Faulty : PySem.W.isClsIn K A.cFaulty = true)
    (ks_NoDay : PySem.W.subIn K (.ref A.cNoDay) (.ref A.cNoDay) = some true)
    (ky_NoDay : PySem.W.typeIn K (.ref A.cNoDay) = some (.type "type"))
    (kq_NoDay : PySem.W.isClsIn K A.cNoDay = true)
    (ks_NoHouse : PySem.W.subIn K (.ref A.cNoHouse) (.ref A.cNoHouse) = some true)
    (ky_NoHouse : PySem.W.typeIn K (.ref A.cNoHouse) = some (.type "type"))
    (kq_NoHouse : PySem.W.isClsIn K A.cNoHouse = true)
    (ks_NoName : PySem.W.subIn K (.ref A.cNoName) (.ref A.cNoName) = some true)
    (kq_NoName : PySem.W.isClsIn K A.cNoName = true)
    (ks_NoRow : PySem.W.subIn K (.ref A.cNoRow) (.ref A.cNoRow) = some true)
    (ky_NoRow : PySem.W.typeIn K (.ref A.cNoRow) = some (.type "type"))
    (kq_NoRow : PySem.W.isClsIn K A.cNoRow = true)
    (ks_NoRule : PySem.W.subIn K (.ref A.cNoRule) (.ref A.cNoRule) = some true)
    (ky_NoRule : PySem.W.typeIn K (.ref A.cNoRule) = some (.type "type"))
    (kq_NoRule : PySem.W.isClsIn K A.cNoRule = true)
    (ks_TooWide : PySem.W.subIn K (.ref A.cTooWide) (.ref A.cTooWide) = some true)
    (ky_TooWide : PySem.W.typeIn K (.ref A.cTooWide) = some (.type "type"))
    (kq_TooWide : PySem.W.isClsIn K A.cTooWide = true)
    (kxx_0 : PySem.W.subIn K (.ref A.cNoName) (.ref A.cFaulty) = some false)
    (kxx_1 : PySem.W.subIn K (.ref A.cNoName) (.ref A.cNoDay) = some false)
    (kxx_2 : PySem.W.subIn K (.ref A.cNoName) (.ref A.cNoHouse) = some false)
    (kxx_3 : PySem.W.subIn K (.ref A.cNoName) (.ref A.cNoName) = some true)
    (kxx_4 : PySem.W.subIn K (.ref A.cNoName) (.ref A.cNoRow) = some false)
    (kxx_5 : PySem.W.subIn K (.ref A.cNoName) (.ref A.cNoRule) = some false)
    (kxx_6 : PySem.W.subIn K (.ref A.cNoName) (.ref A.cTooWide) = some false)
    (xs_RotaError : PySem.W.subIn K (.ref A.cRotaError) (.type "BaseException") = some true)
    (hd_RotaError : PySem.W.hasDictIn K A.cRotaError = true)
    (ky_RotaError : PySem.W.typeIn K (.ref A.cRotaError) = some (.type "type"))
    (xr_NoName_RotaError : PySem.W.subIn K (.ref A.cNoName) (.ref A.cRotaError) = some true) :
    ∃ fd : FuncData, (∀ (s : Shared) (v : Value), BindsTo s fd ⟨[v], []⟩ [("_law_script", v)]) ∧ ∀ base : Heap, K.In base → base.Ns mainGlobals mg → FnOk l.prog w K mg base CX0 4 fa fd ["_law_script"] (lowSp K (S_law A)) := by
  have e := hfa.symm.trans (PySem.W.mg_of X G a20)
  cases e
  have ec_NoName : ExcC K A.cNoName := ⟨xg_NoName, xk_NoName, xs_NoName, hd_NoName, ka_NoName, kn, kt, km_NoName⟩
  have cau_RotaError : Caught K (.ref A.cRotaError) (caught_RotaError A) := by
    intro p hp
    simp only [caught_RotaError, List.mem_cons, List.not_mem_nil, or_false] at hp
    rcases hp with rfl
    · exact PySem.W.exm_ref xs_RotaError hd_RotaError ky_RotaError xr_NoName_RotaError
  have kinxok : KinX K (kinX A) := by
    intro p hp
    simp only [kinX, List.mem_cons, List.not_mem_nil, or_false] at hp
    rcases hp with rfl | rfl | rfl | rfl | rfl | rfl | rfl
    · exact ⟨ec_NoName, kit_of_sub kxx_0 ks_Faulty ky_Faulty kq_Faulty⟩
    · exact ⟨ec_NoName, kit_of_sub kxx_1 ks_NoDay ky_NoDay kq_NoDay⟩
    · exact ⟨ec_NoName, kit_of_sub kxx_2 ks_NoHouse ky_NoHouse kq_NoHouse⟩
    · exact ⟨ec_NoName, kit_of_sub kxx_3 ks_NoName ky_NoName kq_NoName⟩
    · exact ⟨ec_NoName, kit_of_sub kxx_4 ks_NoRow ky_NoRow kq_NoRow⟩
    · exact ⟨ec_NoName, kit_of_sub kxx_5 ks_NoRule ky_NoRule kq_NoRule⟩
    · exact ⟨ec_NoName, kit_of_sub kxx_6 ks_TooWide ky_TooWide kq_TooWide⟩
  have kinbok : KinB K (kinB A) := by
    intro p hp
    simp only [kinB, List.mem_cons, List.not_mem_nil, or_false] at hp
    rcases hp with rfl
    · exact ⟨ec_NoName, kit_ve xv_NoName⟩
  have ecok : ∀ C, C ∈ caught_RotaError A → ExcC K C := by
    intro p hp
    simp only [caught_RotaError, List.mem_cons, List.not_mem_nil, or_false] at hp
    rcases hp with rfl
    · exact ec_NoName
  have T : Txt K mg A := ⟨PySem.W.mg_none_of X G g_ValueError, PySem.W.mg_none_of X G g_bool, PySem.W.mg_none_of X G g_int, PySem.W.mg_none_of X G g_isinstance, PySem.W.mg_none_of X G g_len, PySem.W.mg_none_of X G g_list, PySem.W.mg_none_of X G g_max, PySem.W.mg_none_of X G g_range, PySem.W.mg_none_of X G g_str, PySem.W.mg_none_of X G g_tuple, PySem.W.mg_none_of X G g_zip, PySem.W.mg_of X G aC_RotaError, PySem.W.mg_of X G aC_NoRule, PySem.W.mg_of X G aC_NoName, PySem.W.mg_of X G aC_NoDay, PySem.W.mg_of X G aC_NoRow, PySem.W.mg_of X G aC_TooWide, PySem.W.mg_of X G aC_NoHouse, PySem.W.mg_of X G aC_Faulty, PySem.W.mg_of X G aC_Person, PySem.W.mg_of X G aC_House, PySem.W.mg_of X G aC_Rule, PySem.W.mg_of X G aC_Never, PySem.W.mg_of X G aC_Tally, PySem.W.mg_of X G aC_Most, PySem.W.mg_of X G aC_Least, ⟨pg_House, hd_House, po_House, sa_House⟩, ⟨pg_Least, hd_Least, po_Least, sa_Least⟩, ⟨pg_Most, hd_Most, po_Most, sa_Most⟩, ⟨pg_Never, hd_Never, po_Never, sa_Never⟩, ⟨pg_Person, hd_Person, po_Person, sa_Person⟩, ⟨pg_Tally, hd_Tally, po_Tally, sa_Tally⟩, n_Person_carried, n_House_days, n_Least_days, n_Most_days, n_Tally_days, n_House_kinds, n_House_leave, n_Least_many, n_Most_many, n_Tally_many, n_Least_marks, n_Most_marks, n_Tally_marks, n_Person_most, n_Person_name, n_House_needs, n_House_pairs, n_Person_past, n_House_persons, n_House_rules, n_Person_skills, n_House_wishes, n_Never_word, ⟨PySem.W.mg_of X G aC_NoName, xe_NoName, kc_NoName, xs_NoName, ky_NoName⟩, cau_RotaError, kinxok, kinbok, ecok⟩
  have FF0 := fun_mk (st := s_Person___init__) l0 c0 k0
  have b0 := FF0.binds (ps := ["self", "name", "skills", "most", "carried", "past"]) fun _ _ _ _ _ _ us hl => match us, hl with | [_, _, _, _, _, _], _ => rfl
  have FF1 := fun_mk (st := s_House___init__) l1 c1 k1
  have b1 := FF1.binds (ps := ["self", "days", "kinds", "needs", "persons", "leave", "wishes", "rules", "pairs"]) fun _ _ _ _ _ _ us hl => match us, hl with | [_, _, _, _, _, _, _, _, _], _ => rfl
  have FF2 := fun_mk (st := s_House_place_of) l2 c2 k2
  have b2 := FF2.binds (ps := ["self", "name"]) fun _ _ _ _ _ _ us hl => match us, hl with | [_, _], _ => rfl
  have FF3 := fun_mk (st := s_House_rules_for) l3 c3 k3
  have b3 := FF3.binds (ps := ["self", "p"]) fun _ _ _ _ _ _ us hl => match us, hl with | [_, _], _ => rfl
  have FF4 := fun_mk (st := s_House_plain) l4 c4 k4
  have b4 := FF4.binds (ps := ["self"]) fun _ _ _ _ _ _ us hl => match us, hl with | [_], _ => rfl
  have FF5 := fun_mk (st := s_Never___init__) l5 c5 k5
  have b5 := FF5.binds (ps := ["self", "word"]) fun _ _ _ _ _ _ us hl => match us, hl with | [_, _], _ => rfl
  have FF6 := fun_mk (st := s_Never_reach) l6 c6 k6
  have b6 := FF6.binds (ps := ["self"]) fun _ _ _ _ _ _ us hl => match us, hl with | [_], _ => rfl
  have FF7 := fun_mk (st := s_Never_text) l7 c7 k7
  have b7 := FF7.binds (ps := ["self"]) fun _ _ _ _ _ _ us hl => match us, hl with | [_], _ => rfl
  have FF8 := fun_mk (st := s_Tally___init__) l8 c8 k8
  have b8 := FF8.binds (ps := ["self", "many", "marks", "days"]) fun _ _ _ _ _ _ us hl => match us, hl with | [_, _, _, _], _ => rfl
  have FF9 := fun_mk (st := s_Tally_reach) l9 c9 k9
  have b9 := FF9.binds (ps := ["self"]) fun _ _ _ _ _ _ us hl => match us, hl with | [_], _ => rfl
  have FF10 := fun_mk (st := s_Tally_shown) l10 c10 k10
  have b10 := FF10.binds (ps := ["self", "word"]) fun _ _ _ _ _ _ us hl => match us, hl with | [_, _], _ => rfl
  have FF11 := fun_mk (st := s_l_cell_at) l11 c11 k11
  have b11 := FF11.binds (ps := ["_law_script", "_law_k"]) fun _ _ _ _ _ _ us hl => match us, hl with | [_, _], _ => rfl
  have FF12 := fun_mk (st := s_l_whole) l12 c12 k12
  have b12 := FF12.binds (ps := ["_law_found"]) fun _ _ _ _ _ _ us hl => match us, hl with | [_], _ => rfl
  have FF13 := fun_mk (st := s_l_name) l13 c13 k13
  have b13 := FF13.binds (ps := ["_law_cell", "_law_p"]) fun _ _ _ _ _ _ us hl => match us, hl with | [_, _], _ => rfl
  have FF14 := fun_mk (st := s_House_reach_of) l14 c14 k14
  have b14 := FF14.binds (ps := ["self", "p"]) fun _ _ _ _ _ _ us hl => match us, hl with | [_, _], _ => rfl
  have FF15 := fun_mk (st := s_Most_text) l15 c15 k15
  have b15 := FF15.binds (ps := ["self"]) fun _ _ _ _ _ _ us hl => match us, hl with | [_], _ => rfl
  have FF16 := fun_mk (st := s_Least_text) l16 c16 k16
  have b16 := FF16.binds (ps := ["self"]) fun _ _ _ _ _ _ us hl => match us, hl with | [_], _ => rfl
  have FF17 := fun_mk (st := s_l_refused) l17 c17 k17
  have b17 := FF17.binds (ps := ["_law_house", "_law_name_here"]) fun _ _ _ _ _ _ us hl => match us, hl with | [_, _], _ => rfl
  have FF18 := fun_mk (st := s_l_rule) l18 c18 k18
  have b18 := FF18.binds (ps := ["_law_cell"]) fun _ _ _ _ _ _ us hl => match us, hl with | [_], _ => rfl
  have FF19 := fun_mk (st := s_l_person) l19 c19 k19
  have b19 := FF19.binds (ps := ["_law_house", "_law_p", "_law_bound"]) fun _ _ _ _ _ _ us hl => match us, hl with | [_, _, _], _ => rfl
  have FF20 := fun_mk (st := s_law) l20 c20 k20
  have b20 := FF20.binds (ps := ["_law_script"]) fun _ _ _ _ _ _ us hl => match us, hl with | [_], _ => rfl
  refine ⟨PySem.W.fnOf "law" "law" (defArgs s_law) (defBody s_law) (defScope s_law) .none kV20 dc20 pm20 an20 cd20 ct20, ?_, fun base _ _ => ?_⟩
  rotate_left
  have ok0_Person := ok_Person___init__ (P := l.prog) (w := w) (base := base) T FF0
  have M_Person : MkG l.prog w K mg base "Person" A.cPerson 1 (I_Person A) := ⟨_, _, _, ⟨mk_Person, a0, i0, kc_Person⟩, ok0_Person, T.m_Person, b0⟩
  have ok1_House := ok_House___init__ (P := l.prog) (w := w) (base := base) T FF1
  have M_House : MkGM l.prog w K mg base "House" A.cHouse 1 [false, false, false, true, false, false, true, true] (I_House A) := ⟨_, _, _, ⟨mk_House, a1, i1, kc_House⟩, ok1_House, T.m_House, b1⟩
  have ok2 := ok_House_place_of (P := l.prog) (w := w) (base := base) T FF2
  have ok3 := ok_House_rules_for (P := l.prog) (w := w) (base := base) T FF3
  have ok4 := ok_House_plain (P := l.prog) (w := w) (base := base) T FF4
  have ok5_Never := ok_Never___init__ (P := l.prog) (w := w) (base := base) T FF5
  have M_Never : MkG l.prog w K mg base "Never" A.cNever 1 (I_Never A) := ⟨_, _, _, ⟨mk_Never, a5, i5, kc_Never⟩, ok5_Never, T.m_Never, b5⟩
  have ok6 := ok_Never_reach (P := l.prog) (w := w) (base := base) T FF6
  have ok7 := ok_Never_text (P := l.prog) (w := w) (base := base) T FF7
  have ok8_Least := ok_Least___init__ (P := l.prog) (w := w) (base := base) T FF8
  have M_Least : MkG l.prog w K mg base "Least" A.cLeast 1 (I_Tally A) := ⟨_, _, _, ⟨mk_Least, h_Least___init__, i8, kc_Least⟩, ok8_Least, T.m_Least, b8⟩
  have ok8_Most := ok_Most___init__ (P := l.prog) (w := w) (base := base) T FF8
  have M_Most : MkG l.prog w K mg base "Most" A.cMost 1 (I_Tally A) := ⟨_, _, _, ⟨mk_Most, h_Most___init__, i8, kc_Most⟩, ok8_Most, T.m_Most, b8⟩
  have ok9 := ok_Tally_reach (P := l.prog) (w := w) (base := base) T FF9
  have ok10 := ok_Tally_shown (P := l.prog) (w := w) (base := base) T FF10
  have ok11 := ok_l_cell_at (P := l.prog) (w := w) (base := base) T FF11
  have F_l_cell_at : FnG l.prog w K mg base "_law_cell_at" 1 (S_l_cell_at A) := ⟨_, _, _, ok11, PySem.W.mg_of X G a11, k11, b11⟩
  have ok12 := ok_l_whole (P := l.prog) (w := w) (base := base) T FF12
  have F_l_whole : FnG l.prog w K mg base "_law_whole" 1 (S_l_whole A) := ⟨_, _, _, ok12, PySem.W.mg_of X G a12, k12, b12⟩
  have ok13 := ok_l_name (P := l.prog) (w := w) (base := base) T FF13
  have F_l_name : FnG l.prog w K mg base "_law_name" 1 (S_l_name A) := ⟨_, _, _, ok13, PySem.W.mg_of X G a13, k13, b13⟩
  have N_reach : ∀ C S, M_reach A C S → MethOk l.prog w K mg base CX0 1 "reach" C S := by
    intro C S h
    unfold M_reach at h
    rcases h with ⟨rfl, rfl⟩ | ⟨rfl, rfl⟩ | ⟨rfl, rfl⟩
    · exact ⟨T.cl_Never, _, _, _, ⟨a6, i6, k6⟩, ok6.mono (by decide), b6⟩
    · exact ⟨T.cl_Most, _, _, _, ⟨h_Most_reach, i9, k9⟩, ok9.mono (by decide), b9⟩
    · exact ⟨T.cl_Least, _, _, _, ⟨h_Least_reach, i9, k9⟩, ok9.mono (by decide), b9⟩
  have N_rules_for : ∀ C S, M_rules_for A C S → MethOkN l.prog w K mg base 1 "rules_for" [false] C S := by
    intro C S h
    unfold M_rules_for at h
    rcases h with ⟨rfl, rfl⟩
    · exact ⟨T.cl_House, _, _, _, ⟨a3, i3, k3⟩, ok3.mono (by decide), b3⟩
  have ok14 := ok_House_reach_of (P := l.prog) (w := w) (base := base) T N_reach N_rules_for FF14
  have N_shown : ∀ C S, M_shown A C S → MethOk l.prog w K mg base CX0 1 "shown" C S := by
    intro C S h
    unfold M_shown at h
    rcases h with ⟨rfl, rfl⟩ | ⟨rfl, rfl⟩
    · exact ⟨T.cl_Most, _, _, _, ⟨h_Most_shown, i10, k10⟩, ok10.mono (by decide), b10⟩
    · exact ⟨T.cl_Least, _, _, _, ⟨h_Least_shown, i10, k10⟩, ok10.mono (by decide), b10⟩
  have ok15 := ok_Most_text (P := l.prog) (w := w) (base := base) T N_shown FF15
  have ok16 := ok_Least_text (P := l.prog) (w := w) (base := base) T N_shown FF16
  have Y_place_of : ∀ C S, MX_place_of A C S → MethOkX l.prog w K mg base 1 "place_of" [false] C S := by
    intro C S h
    unfold MX_place_of at h
    rcases h with ⟨rfl, rfl⟩
    · exact ⟨T.cl_House, _, _, _, ⟨a2, i2, k2⟩, ok2.mono (by decide), b2⟩
  have ok17 := ok_l_refused (P := l.prog) (w := w) (base := base) T Y_place_of FF17
  have F_l_refused : FnG l.prog w K mg base "_law_refused" 2 (S_l_refused A) := ⟨_, _, _, ok17, PySem.W.mg_of X G a17, k17, b17⟩
  have ok18 := ok_l_rule (P := l.prog) (w := w) (base := base) T M_Least M_Most M_Never FF18
  have F_l_rule : FnG l.prog w K mg base "_law_rule" 3 (S_l_rule A) := ⟨_, _, _, ok18, PySem.W.mg_of X G a18, k18, b18⟩
  have N_reach_of : ∀ C S, M_reach_of A C S → MethOk l.prog w K mg base CX0 2 "reach_of" C S := by
    intro C S h
    unfold M_reach_of at h
    rcases h with ⟨rfl, rfl⟩
    · exact ⟨T.cl_House, _, _, _, ⟨a14, i14, k14⟩, ok14.mono (by decide), b14⟩
  have N_text : ∀ C S, M_text A C S → MethOk l.prog w K mg base CX0 2 "text" C S := by
    intro C S h
    unfold M_text at h
    rcases h with ⟨rfl, rfl⟩ | ⟨rfl, rfl⟩ | ⟨rfl, rfl⟩
    · exact ⟨T.cl_Never, _, _, _, ⟨a7, i7, k7⟩, ok7.mono (by decide), b7⟩
    · exact ⟨T.cl_Most, _, _, _, ⟨a15, i15, k15⟩, ok15.mono (by decide), b15⟩
    · exact ⟨T.cl_Least, _, _, _, ⟨a16, i16, k16⟩, ok16.mono (by decide), b16⟩
  have ok19 := ok_l_person (P := l.prog) (w := w) (base := base) T F_l_whole N_reach_of N_rules_for N_text FF19
  have F_l_person : FnG l.prog w K mg base "_law_person" 3 (S_l_person A) := ⟨_, _, _, ok19, PySem.W.mg_of X G a19, k19, b19⟩
  have N_plain : ∀ C S, M_plain A C S → MethOk l.prog w K mg base CX0 1 "plain" C S := by
    intro C S h
    unfold M_plain at h
    rcases h with ⟨rfl, rfl⟩
    · exact ⟨T.cl_House, _, _, _, ⟨a4, i4, k4⟩, ok4.mono (by decide), b4⟩
  exact ok_law T F_l_cell_at F_l_name F_l_person F_l_refused F_l_rule M_House M_Person N_plain N_rules_for Y_place_of FF20
  exact fun s v => .of_eq rfl
theorem all_mk {l : PySem.W.OpenLaw} {w : World} {K : PySem.W.Frag} {h : Heap} {mg : Str → Option Value} {fa zRotaError zNoRule zNoName zNoDay zNoRow zTooWide zNoHouse zFaulty zPerson zHouse zRule zNever zTally zMost zLeast f0 f1 f2 f3 f4 f5 f6 f7 f8 f9 f10 f11 f12 f13 f14 f15 f16 f17 f18 f19 f20 : Addr} (X : K.In h) (G : h.Ns mainGlobals mg) (hfa : mg "law" = some (.ref fa))
    {od0 an0 : Option Addr} {sl0 : Array (Option Value)} {oc0 kV0 dc0 pm0 cd0 ct0 : Value}
    {od1 an1 : Option Addr} {sl1 : Array (Option Value)} {oc1 kV1 dc1 pm1 cd1 ct1 : Value}
    {od2 an2 : Option Addr} {sl2 : Array (Option Value)} {oc2 kV2 dc2 pm2 cd2 ct2 : Value}
    {od3 an3 : Option Addr} {sl3 : Array (Option Value)} {oc3 kV3 dc3 pm3 cd3 ct3 : Value}
    {od4 an4 : Option Addr} {sl4 : Array (Option Value)} {oc4 kV4 dc4 pm4 cd4 ct4 : Value}
    {od5 an5 : Option Addr} {sl5 : Array (Option Value)} {oc5 kV5 dc5 pm5 cd5 ct5 : Value}
    {od6 an6 : Option Addr} {sl6 : Array (Option Value)} {oc6 kV6 dc6 pm6 cd6 ct6 : Value}
    {od7 an7 : Option Addr} {sl7 : Array (Option Value)} {oc7 kV7 dc7 pm7 cd7 ct7 : Value}
    {od8 an8 : Option Addr} {sl8 : Array (Option Value)} {oc8 kV8 dc8 pm8 cd8 ct8 : Value}
    {od9 an9 : Option Addr} {sl9 : Array (Option Value)} {oc9 kV9 dc9 pm9 cd9 ct9 : Value}
    {od10 an10 : Option Addr} {sl10 : Array (Option Value)} {oc10 kV10 dc10 pm10 cd10 ct10 : Value}
    {od11 an11 : Option Addr} {sl11 : Array (Option Value)} {oc11 kV11 dc11 pm11 cd11 ct11 : Value}
    {od12 an12 : Option Addr} {sl12 : Array (Option Value)} {oc12 kV12 dc12 pm12 cd12 ct12 : Value}
    {od13 an13 : Option Addr} {sl13 : Array (Option Value)} {oc13 kV13 dc13 pm13 cd13 ct13 : Value}
    {od14 an14 : Option Addr} {sl14 : Array (Option Value)} {oc14 kV14 dc14 pm14 cd14 ct14 : Value}
    {od15 an15 : Option Addr} {sl15 : Array (Option Value)} {oc15 kV15 dc15 pm15 cd15 ct15 : Value}
    {od16 an16 : Option Addr} {sl16 : Array (Option Value)} {oc16 kV16 dc16 pm16 cd16 ct16 : Value}
    {od17 an17 : Option Addr} {sl17 : Array (Option Value)} {oc17 kV17 dc17 pm17 cd17 ct17 : Value}
    {od18 an18 : Option Addr} {sl18 : Array (Option Value)} {oc18 kV18 dc18 pm18 cd18 ct18 : Value}
    {od19 an19 : Option Addr} {sl19 : Array (Option Value)} {oc19 kV19 dc19 pm19 cd19 ct19 : Value}
    {od20 an20 : Option Addr} {sl20 : Array (Option Value)} {oc20 kV20 dc20 pm20 cd20 ct20 : Value}
    (aC_RotaError : PySem.W.nsIn K mainGlobals "RotaError" = some (some (.ref zRotaError)))
    (aC_NoRule : PySem.W.nsIn K mainGlobals "NoRule" = some (some (.ref zNoRule)))
    (aC_NoName : PySem.W.nsIn K mainGlobals "NoName" = some (some (.ref zNoName)))
    (aC_NoDay : PySem.W.nsIn K mainGlobals "NoDay" = some (some (.ref zNoDay)))
    (aC_NoRow : PySem.W.nsIn K mainGlobals "NoRow" = some (some (.ref zNoRow)))
    (aC_TooWide : PySem.W.nsIn K mainGlobals "TooWide" = some (some (.ref zTooWide)))
    (aC_NoHouse : PySem.W.nsIn K mainGlobals "NoHouse" = some (some (.ref zNoHouse)))
    (aC_Faulty : PySem.W.nsIn K mainGlobals "Faulty" = some (some (.ref zFaulty)))
    (aC_Person : PySem.W.nsIn K mainGlobals "Person" = some (some (.ref zPerson)))
    (aC_House : PySem.W.nsIn K mainGlobals "House" = some (some (.ref zHouse)))
    (aC_Rule : PySem.W.nsIn K mainGlobals "Rule" = some (some (.ref zRule)))
    (aC_Never : PySem.W.nsIn K mainGlobals "Never" = some (some (.ref zNever)))
    (aC_Tally : PySem.W.nsIn K mainGlobals "Tally" = some (some (.ref zTally)))
    (aC_Most : PySem.W.nsIn K mainGlobals "Most" = some (some (.ref zMost)))
    (aC_Least : PySem.W.nsIn K mainGlobals "Least" = some (some (.ref zLeast)))
    (a0 : PySem.W.findIn K (.ref zPerson) "__init__" = some (some (.ref f0)))
    (i0 : PySem.W.isFn K (.ref f0) = true)
    (l0 : K.lookup f0 = some ⟨oc0, od0, .func (PySem.W.fnOf "__init__" "Person.__init__" (defArgs s_Person___init__) (defBody s_Person___init__) (defScope s_Person___init__) .none kV0 dc0 pm0 an0 cd0 ct0), sl0⟩)
    (c0 : PySem.W.codeIn K cd0 "Person.__init__" = true)
    (k0 : PySem.W.keepIn K (.ref f0) = true)
    (a1 : PySem.W.findIn K (.ref zHouse) "__init__" = some (some (.ref f1)))
    (i1 : PySem.W.isFn K (.ref f1) = true)
    (l1 : K.lookup f1 = some ⟨oc1, od1, .func (PySem.W.fnOf "__init__" "House.__init__" (defArgs s_House___init__) (defBody s_House___init__) (defScope s_House___init__) .none kV1 dc1 pm1 an1 cd1 ct1), sl1⟩)
    (c1 : PySem.W.codeIn K cd1 "House.__init__" = true)
    (k1 : PySem.W.keepIn K (.ref f1) = true)
    (a2 : PySem.W.findIn K (.ref zHouse) "place_of" = some (some (.ref f2)))
    (i2 : PySem.W.isFn K (.ref f2) = true)
    (l2 : K.lookup f2 = some ⟨oc2, od2, .func (PySem.W.fnOf "place_of" "House.place_of" (defArgs s_House_place_of) (defBody s_House_place_of) (defScope s_House_place_of) .none kV2 dc2 pm2 an2 cd2 ct2), sl2⟩)
    (c2 : PySem.W.codeIn K cd2 "House.place_of" = true)
    (k2 : PySem.W.keepIn K (.ref f2) = true)
    (a3 : PySem.W.findIn K (.ref zHouse) "rules_for" = some (some (.ref f3)))
    (i3 : PySem.W.isFn K (.ref f3) = true)
    (l3 : K.lookup f3 = some ⟨oc3, od3, .func (PySem.W.fnOf "rules_for" "House.rules_for" (defArgs s_House_rules_for) (defBody s_House_rules_for) (defScope s_House_rules_for) .none kV3 dc3 pm3 an3 cd3 ct3), sl3⟩)
    (c3 : PySem.W.codeIn K cd3 "House.rules_for" = true)
    (k3 : PySem.W.keepIn K (.ref f3) = true)
    (a4 : PySem.W.findIn K (.ref zHouse) "plain" = some (some (.ref f4)))
    (i4 : PySem.W.isFn K (.ref f4) = true)
    (l4 : K.lookup f4 = some ⟨oc4, od4, .func (PySem.W.fnOf "plain" "House.plain" (defArgs s_House_plain) (defBody s_House_plain) (defScope s_House_plain) .none kV4 dc4 pm4 an4 cd4 ct4), sl4⟩)
    (c4 : PySem.W.codeIn K cd4 "House.plain" = true)
    (k4 : PySem.W.keepIn K (.ref f4) = true)
    (a5 : PySem.W.findIn K (.ref zNever) "__init__" = some (some (.ref f5)))
    (i5 : PySem.W.isFn K (.ref f5) = true)
    (l5 : K.lookup f5 = some ⟨oc5, od5, .func (PySem.W.fnOf "__init__" "Never.__init__" (defArgs s_Never___init__) (defBody s_Never___init__) (defScope s_Never___init__) .none kV5 dc5 pm5 an5 cd5 ct5), sl5⟩)
    (c5 : PySem.W.codeIn K cd5 "Never.__init__" = true)
    (k5 : PySem.W.keepIn K (.ref f5) = true)
    (a6 : PySem.W.findIn K (.ref zNever) "reach" = some (some (.ref f6)))
    (i6 : PySem.W.isFn K (.ref f6) = true)
    (l6 : K.lookup f6 = some ⟨oc6, od6, .func (PySem.W.fnOf "reach" "Never.reach" (defArgs s_Never_reach) (defBody s_Never_reach) (defScope s_Never_reach) .none kV6 dc6 pm6 an6 cd6 ct6), sl6⟩)
    (c6 : PySem.W.codeIn K cd6 "Never.reach" = true)
    (k6 : PySem.W.keepIn K (.ref f6) = true)
    (a7 : PySem.W.findIn K (.ref zNever) "text" = some (some (.ref f7)))
    (i7 : PySem.W.isFn K (.ref f7) = true)
    (l7 : K.lookup f7 = some ⟨oc7, od7, .func (PySem.W.fnOf "text" "Never.text" (defArgs s_Never_text) (defBody s_Never_text) (defScope s_Never_text) .none kV7 dc7 pm7 an7 cd7 ct7), sl7⟩)
    (c7 : PySem.W.codeIn K cd7 "Never.text" = true)
    (k7 : PySem.W.keepIn K (.ref f7) = true)
    (a8 : PySem.W.findIn K (.ref zTally) "__init__" = some (some (.ref f8)))
    (i8 : PySem.W.isFn K (.ref f8) = true)
    (l8 : K.lookup f8 = some ⟨oc8, od8, .func (PySem.W.fnOf "__init__" "Tally.__init__" (defArgs s_Tally___init__) (defBody s_Tally___init__) (defScope s_Tally___init__) .none kV8 dc8 pm8 an8 cd8 ct8), sl8⟩)
    (c8 : PySem.W.codeIn K cd8 "Tally.__init__" = true)
    (k8 : PySem.W.keepIn K (.ref f8) = true)
    (a9 : PySem.W.findIn K (.ref zTally) "reach" = some (some (.ref f9)))
    (i9 : PySem.W.isFn K (.ref f9) = true)
    (l9 : K.lookup f9 = some ⟨oc9, od9, .func (PySem.W.fnOf "reach" "Tally.reach" (defArgs s_Tally_reach) (defBody s_Tally_reach) (defScope s_Tally_reach) .none kV9 dc9 pm9 an9 cd9 ct9), sl9⟩)
    (c9 : PySem.W.codeIn K cd9 "Tally.reach" = true)
    (k9 : PySem.W.keepIn K (.ref f9) = true)
    (a10 : PySem.W.findIn K (.ref zTally) "shown" = some (some (.ref f10)))
    (i10 : PySem.W.isFn K (.ref f10) = true)
    (l10 : K.lookup f10 = some ⟨oc10, od10, .func (PySem.W.fnOf "shown" "Tally.shown" (defArgs s_Tally_shown) (defBody s_Tally_shown) (defScope s_Tally_shown) .none kV10 dc10 pm10 an10 cd10 ct10), sl10⟩)
    (c10 : PySem.W.codeIn K cd10 "Tally.shown" = true)
    (k10 : PySem.W.keepIn K (.ref f10) = true)
    (a11 : PySem.W.nsIn K mainGlobals "_law_cell_at" = some (some (.ref f11)))
    (l11 : K.lookup f11 = some ⟨oc11, od11, .func (PySem.W.fnOf "_law_cell_at" "_law_cell_at" (defArgs s_l_cell_at) (defBody s_l_cell_at) (defScope s_l_cell_at) .none kV11 dc11 pm11 an11 cd11 ct11), sl11⟩)
    (c11 : PySem.W.codeIn K cd11 "_law_cell_at" = true)
    (k11 : PySem.W.keepIn K (.ref f11) = true)
    (a12 : PySem.W.nsIn K mainGlobals "_law_whole" = some (some (.ref f12)))
    (l12 : K.lookup f12 = some ⟨oc12, od12, .func (PySem.W.fnOf "_law_whole" "_law_whole" (defArgs s_l_whole) (defBody s_l_whole) (defScope s_l_whole) .none kV12 dc12 pm12 an12 cd12 ct12), sl12⟩)
    (c12 : PySem.W.codeIn K cd12 "_law_whole" = true)
    (k12 : PySem.W.keepIn K (.ref f12) = true)
    (a13 : PySem.W.nsIn K mainGlobals "_law_name" = some (some (.ref f13)))
    (l13 : K.lookup f13 = some ⟨oc13, od13, .func (PySem.W.fnOf "_law_name" "_law_name" (defArgs s_l_name) (defBody s_l_name) (defScope s_l_name) .none kV13 dc13 pm13 an13 cd13 ct13), sl13⟩)
    (c13 : PySem.W.codeIn K cd13 "_law_name" = true)
    (k13 : PySem.W.keepIn K (.ref f13) = true)
    (a14 : PySem.W.findIn K (.ref zHouse) "reach_of" = some (some (.ref f14)))
    (i14 : PySem.W.isFn K (.ref f14) = true)
    (l14 : K.lookup f14 = some ⟨oc14, od14, .func (PySem.W.fnOf "reach_of" "House.reach_of" (defArgs s_House_reach_of) (defBody s_House_reach_of) (defScope s_House_reach_of) .none kV14 dc14 pm14 an14 cd14 ct14), sl14⟩)
    (c14 : PySem.W.codeIn K cd14 "House.reach_of" = true)
    (k14 : PySem.W.keepIn K (.ref f14) = true)
    (a15 : PySem.W.findIn K (.ref zMost) "text" = some (some (.ref f15)))
    (i15 : PySem.W.isFn K (.ref f15) = true)
    (l15 : K.lookup f15 = some ⟨oc15, od15, .func (PySem.W.fnOf "text" "Most.text" (defArgs s_Most_text) (defBody s_Most_text) (defScope s_Most_text) .none kV15 dc15 pm15 an15 cd15 ct15), sl15⟩)
    (c15 : PySem.W.codeIn K cd15 "Most.text" = true)
    (k15 : PySem.W.keepIn K (.ref f15) = true)
    (a16 : PySem.W.findIn K (.ref zLeast) "text" = some (some (.ref f16)))
    (i16 : PySem.W.isFn K (.ref f16) = true)
    (l16 : K.lookup f16 = some ⟨oc16, od16, .func (PySem.W.fnOf "text" "Least.text" (defArgs s_Least_text) (defBody s_Least_text) (defScope s_Least_text) .none kV16 dc16 pm16 an16 cd16 ct16), sl16⟩)
    (c16 : PySem.W.codeIn K cd16 "Least.text" = true)
    (k16 : PySem.W.keepIn K (.ref f16) = true)
    (a17 : PySem.W.nsIn K mainGlobals "_law_refused" = some (some (.ref f17)))
    (l17 : K.lookup f17 = some ⟨oc17, od17, .func (PySem.W.fnOf "_law_refused" "_law_refused" (defArgs s_l_refused) (defBody s_l_refused) (defScope s_l_refused) .none kV17 dc17 pm17 an17 cd17 ct17), sl17⟩)
    (c17 : PySem.W.codeIn K cd17 "_law_refused" = true)
    (k17 : PySem.W.keepIn K (.ref f17) = true)
    (a18 : PySem.W.nsIn K mainGlobals "_law_rule" = some (some (.ref f18)))
    (l18 : K.lookup f18 = some ⟨oc18, od18, .func (PySem.W.fnOf "_law_rule" "_law_rule" (defArgs s_l_rule) (defBody s_l_rule) (defScope s_l_rule) .none kV18 dc18 pm18 an18 cd18 ct18), sl18⟩)
    (c18 : PySem.W.codeIn K cd18 "_law_rule" = true)
    (k18 : PySem.W.keepIn K (.ref f18) = true)
    (a19 : PySem.W.nsIn K mainGlobals "_law_person" = some (some (.ref f19)))
    (l19 : K.lookup f19 = some ⟨oc19, od19, .func (PySem.W.fnOf "_law_person" "_law_person" (defArgs s_l_person) (defBody s_l_person) (defScope s_l_person) .none kV19 dc19 pm19 an19 cd19 ct19), sl19⟩)
    (c19 : PySem.W.codeIn K cd19 "_law_person" = true)
    (k19 : PySem.W.keepIn K (.ref f19) = true)
    (a20 : PySem.W.nsIn K mainGlobals "law" = some (some (.ref f20)))
    (l20 : K.lookup f20 = some ⟨oc20, od20, .func (PySem.W.fnOf "law" "law" (defArgs s_law) (defBody s_law) (defScope s_law) .none kV20 dc20 pm20 an20 cd20 ct20), sl20⟩)
    (c20 : PySem.W.codeIn K cd20 "law" = true)
    (k20 : PySem.W.keepIn K (.ref f20) = true)
    (h_Most_reach : PySem.W.findIn K (.ref zMost) "reach" = some (some (.ref f9)))
    (h_Least_reach : PySem.W.findIn K (.ref zLeast) "reach" = some (some (.ref f9)))
    (h_Most_shown : PySem.W.findIn K (.ref zMost) "shown" = some (some (.ref f10)))
    (h_Least_shown : PySem.W.findIn K (.ref zLeast) "shown" = some (some (.ref f10)))
    (mk_House : PySem.W.makesIn K zHouse = true)
    (kc_House : PySem.W.keepIn K (.ref zHouse) = true)
    (h_Least___init__ : PySem.W.findIn K (.ref zLeast) "__init__" = some (some (.ref f8)))
    (mk_Least : PySem.W.makesIn K zLeast = true)
    (kc_Least : PySem.W.keepIn K (.ref zLeast) = true)
    (h_Most___init__ : PySem.W.findIn K (.ref zMost) "__init__" = some (some (.ref f8)))
    (mk_Most : PySem.W.makesIn K zMost = true)
    (kc_Most : PySem.W.keepIn K (.ref zMost) = true)
    (mk_Never : PySem.W.makesIn K zNever = true)
    (kc_Never : PySem.W.keepIn K (.ref zNever) = true)
    (mk_Person : PySem.W.makesIn K zPerson = true)
    (kc_Person : PySem.W.keepIn K (.ref zPerson) = true)
    (pg_House : PySem.W.plainGet K zHouse Str.empty = true)
    (hd_House : PySem.W.hasDictIn K zHouse = true)
    (po_House : PySem.W.plainOver K zHouse = true)
    (sa_House : PySem.W.findIn K (.ref zHouse) "__setattr__" = some (some (.builtin "object.__setattr__")))
    (pg_Least : PySem.W.plainGet K zLeast Str.empty = true)
    (hd_Least : PySem.W.hasDictIn K zLeast = true)
    (po_Least : PySem.W.plainOver K zLeast = true)
    (sa_Least : PySem.W.findIn K (.ref zLeast) "__setattr__" = some (some (.builtin "object.__setattr__")))
    (pg_Most : PySem.W.plainGet K zMost Str.empty = true)
    (hd_Most : PySem.W.hasDictIn K zMost = true)
    (po_Most : PySem.W.plainOver K zMost = true)
    (sa_Most : PySem.W.findIn K (.ref zMost) "__setattr__" = some (some (.builtin "object.__setattr__")))
    (pg_Never : PySem.W.plainGet K zNever Str.empty = true)
    (hd_Never : PySem.W.hasDictIn K zNever = true)
    (po_Never : PySem.W.plainOver K zNever = true)
    (sa_Never : PySem.W.findIn K (.ref zNever) "__setattr__" = some (some (.builtin "object.__setattr__")))
    (pg_Person : PySem.W.plainGet K zPerson Str.empty = true)
    (hd_Person : PySem.W.hasDictIn K zPerson = true)
    (po_Person : PySem.W.plainOver K zPerson = true)
    (sa_Person : PySem.W.findIn K (.ref zPerson) "__setattr__" = some (some (.builtin "object.__setattr__")))
    (pg_Tally : PySem.W.plainGet K zTally Str.empty = true)
    (hd_Tally : PySem.W.hasDictIn K zTally = true)
    (po_Tally : PySem.W.plainOver K zTally = true)
    (sa_Tally : PySem.W.findIn K (.ref zTally) "__setattr__" = some (some (.builtin "object.__setattr__")))
    (g_ValueError : PySem.W.nsIn K mainGlobals "ValueError" = some none)
    (g_bool : PySem.W.nsIn K mainGlobals "bool" = some none)
    (g_int : PySem.W.nsIn K mainGlobals "int" = some none)
    (g_isinstance : PySem.W.nsIn K mainGlobals "isinstance" = some none)
    (g_len : PySem.W.nsIn K mainGlobals "len" = some none)
    (g_list : PySem.W.nsIn K mainGlobals "list" = some none)
    (g_max : PySem.W.nsIn K mainGlobals "max" = some none)
    (g_range : PySem.W.nsIn K mainGlobals "range" = some none)
    (g_str : PySem.W.nsIn K mainGlobals "str" = some none)
    (g_tuple : PySem.W.nsIn K mainGlobals "tuple" = some none)
    (g_zip : PySem.W.nsIn K mainGlobals "zip" = some none)
    (n_Person_carried : PySem.W.findIn K (.ref zPerson) "carried" = some none)
    (n_House_days : PySem.W.findIn K (.ref zHouse) "days" = some none)
    (n_Least_days : PySem.W.findIn K (.ref zLeast) "days" = some none)
    (n_Most_days : PySem.W.findIn K (.ref zMost) "days" = some none)
    (n_Tally_days : PySem.W.findIn K (.ref zTally) "days" = some none)
    (n_House_kinds : PySem.W.findIn K (.ref zHouse) "kinds" = some none)
    (n_House_leave : PySem.W.findIn K (.ref zHouse) "leave" = some none)
    (n_Least_many : PySem.W.findIn K (.ref zLeast) "many" = some none)
    (n_Most_many : PySem.W.findIn K (.ref zMost) "many" = some none)
    (n_Tally_many : PySem.W.findIn K (.ref zTally) "many" = some none)
    (n_Least_marks : PySem.W.findIn K (.ref zLeast) "marks" = some none)
    (n_Most_marks : PySem.W.findIn K (.ref zMost) "marks" = some none)
    (n_Tally_marks : PySem.W.findIn K (.ref zTally) "marks" = some none)
    (n_Person_most : PySem.W.findIn K (.ref zPerson) "most" = some none)
    (n_Person_name : PySem.W.findIn K (.ref zPerson) "name" = some none)
    (n_House_needs : PySem.W.findIn K (.ref zHouse) "needs" = some none)
    (n_House_pairs : PySem.W.findIn K (.ref zHouse) "pairs" = some none)
    (n_Person_past : PySem.W.findIn K (.ref zPerson) "past" = some none)
    (n_House_persons : PySem.W.findIn K (.ref zHouse) "persons" = some none)
    (n_House_rules : PySem.W.findIn K (.ref zHouse) "rules" = some none)
    (n_Person_skills : PySem.W.findIn K (.ref zPerson) "skills" = some none)
    (n_House_wishes : PySem.W.findIn K (.ref zHouse) "wishes" = some none)
    (n_Never_word : PySem.W.findIn K (.ref zNever) "word" = some none)
    (xs_NoName : PySem.W.subIn K (.ref zNoName) (.type "BaseException") = some true)
    (xe_NoName : PySem.W.excIn K zNoName [.type "ValueError", .type "Exception", .type "BaseException", .type "object"] "ValueError.__new__" = true)
    (kc_NoName : PySem.W.keepIn K (.ref zNoName) = true)
    (ky_NoName : PySem.W.typeIn K (.ref zNoName) = some (.type "type"))
    (xg_NoName : PySem.W.findIn K (.ref zNoName) "__getattribute__" = some (some (.builtin "BaseException.__getattribute__")))
    (xk_NoName : PySem.W.findIn K (.ref zNoName) "__getattr__" = some none)
    (hd_NoName : PySem.W.hasDictIn K zNoName = true)
    (ka_NoName : PySem.W.findIn K (.ref zNoName) "__class__" = some (some (.builtin "object.__class__")))
    (km_NoName : PySem.W.mroIn K zNoName (.type "object") = some true)
    (kn : PySem.W.specialIn K (.builtin "object.__class__") "__get__" = some (some (.builtin "getset_descriptor.__get__")))
    (kt : PySem.W.takesIn K (.builtin "object.__class__") = some true)
    (xv_NoName : PySem.W.subIn K (.ref zNoName) (.type "ValueError") = some true)
    (ks_Faulty : PySem.W.subIn K (.ref zFaulty) (.ref zFaulty) = some true)
    (ky_Faulty : PySem.W.typeIn K (.ref zFaulty) = some (.type "type"))
    (kq_Faulty : PySem.W.isClsIn K zFaulty = true)
    (ks_NoDay : PySem.W.subIn K (.ref zNoDay) (.ref zNoDay) = some true)
    (ky_NoDay : PySem.W.typeIn K (.ref zNoDay) = some (.type "type"))
    (kq_NoDay : PySem.W.isClsIn K zNoDay = true)
    (ks_NoHouse : PySem.W.subIn K (.ref zNoHouse) (.ref zNoHouse) = some true)
    (ky_NoHouse : PySem.W.typeIn K (.ref zNoHouse) = some (.type "type"))
    (kq_NoHouse : PySem.W.isClsIn K zNoHouse = true)
    (ks_NoName : PySem.W.subIn K (.ref zNoName) (.ref zNoName) = some true)
    (kq_NoName : PySem.W.isClsIn K zNoName = true)
    (ks_NoRow : PySem.W.subIn K (.ref zNoRow) (.ref zNoRow) = some true)
    (ky_NoRow : PySem.W.typeIn K (.ref zNoRow) = some (.type "type"))
    (kq_NoRow : PySem.W.isClsIn K zNoRow = true)
    (ks_NoRule : PySem.W.subIn K (.ref zNoRule) (.ref zNoRule) = some true)
    (ky_NoRule : PySem.W.typeIn K (.ref zNoRule) = some (.type "type"))
    (kq_NoRule : PySem.W.isClsIn K zNoRule = true)
    (ks_TooWide : PySem.W.subIn K (.ref zTooWide) (.ref zTooWide) = some true)
    (ky_TooWide : PySem.W.typeIn K (.ref zTooWide) = some (.type "type"))
    (kq_TooWide : PySem.W.isClsIn K zTooWide = true)
    (kxx_0 : PySem.W.subIn K (.ref zNoName) (.ref zFaulty) = some false)
    (kxx_1 : PySem.W.subIn K (.ref zNoName) (.ref zNoDay) = some false)
    (kxx_2 : PySem.W.subIn K (.ref zNoName) (.ref zNoHouse) = some false)
    (kxx_3 : PySem.W.subIn K (.ref zNoName) (.ref zNoName) = some true)
    (kxx_4 : PySem.W.subIn K (.ref zNoName) (.ref zNoRow) = some false)
    (kxx_5 : PySem.W.subIn K (.ref zNoName) (.ref zNoRule) = some false)
    (kxx_6 : PySem.W.subIn K (.ref zNoName) (.ref zTooWide) = some false)
    (xs_RotaError : PySem.W.subIn K (.ref zRotaError) (.type "BaseException") = some true)
    (hd_RotaError : PySem.W.hasDictIn K zRotaError = true)
    (ky_RotaError : PySem.W.typeIn K (.ref zRotaError) = some (.type "type"))
    (xr_NoName_RotaError : PySem.W.subIn K (.ref zNoName) (.ref zRotaError) = some true) :
    ∃ fd : FuncData, (∀ (s : Shared) (v : Value), BindsTo s fd ⟨[v], []⟩ [("_law_script", v)]) ∧ ∀ base : Heap, K.In base → base.Ns mainGlobals mg → FnOk l.prog w K mg base CX0 4 fa fd ["_law_script"] (lowSp K S_theLaw) :=
  all_mk0 (l := l) (w := w) (⟨zRotaError, zNoRule, zNoName, zNoDay, zNoRow, zTooWide, zNoHouse, zFaulty, zPerson, zHouse, zRule, zNever, zTally, zMost, zLeast⟩ : Ad) X G hfa aC_RotaError aC_NoRule aC_NoName aC_NoDay aC_NoRow aC_TooWide aC_NoHouse aC_Faulty aC_Person aC_House aC_Rule aC_Never aC_Tally aC_Most aC_Least a0 i0 l0 c0 k0 a1 i1 l1 c1 k1 a2 i2 l2 c2 k2 a3 i3 l3 c3 k3 a4 i4 l4 c4 k4 a5 i5 l5 c5 k5 a6 i6 l6 c6 k6 a7 i7 l7 c7 k7 a8 i8 l8 c8 k8 a9 i9 l9 c9 k9 a10 i10 l10 c10 k10 a11 l11 c11 k11 a12 l12 c12 k12 a13 l13 c13 k13 a14 i14 l14 c14 k14 a15 i15 l15 c15 k15 a16 i16 l16 c16 k16 a17 l17 c17 k17 a18 l18 c18 k18 a19 l19 c19 k19 a20 l20 c20 k20 h_Most_reach h_Least_reach h_Most_shown h_Least_shown mk_House kc_House h_Least___init__ mk_Least kc_Least h_Most___init__ mk_Most kc_Most mk_Never kc_Never mk_Person kc_Person pg_House hd_House po_House sa_House pg_Least hd_Least po_Least sa_Least pg_Most hd_Most po_Most sa_Most pg_Never hd_Never po_Never sa_Never pg_Person hd_Person po_Person sa_Person pg_Tally hd_Tally po_Tally sa_Tally g_ValueError g_bool g_int g_isinstance g_len g_list g_max g_range g_str g_tuple g_zip n_Person_carried n_House_days n_Least_days n_Most_days n_Tally_days n_House_kinds n_House_leave n_Least_many n_Most_many n_Tally_many n_Least_marks n_Most_marks n_Tally_marks n_Person_most n_Person_name n_House_needs n_House_pairs n_Person_past n_House_persons n_House_rules n_Person_skills n_House_wishes n_Never_word xs_NoName xe_NoName kc_NoName ky_NoName xg_NoName xk_NoName hd_NoName ka_NoName km_NoName kn kt xv_NoName ks_Faulty ky_Faulty kq_Faulty ks_NoDay ky_NoDay kq_NoDay ks_NoHouse ky_NoHouse kq_NoHouse ks_NoName kq_NoName ks_NoRow ky_NoRow kq_NoRow ks_NoRule ky_NoRule kq_NoRule ks_TooWide ky_TooWide kq_TooWide kxx_0 kxx_1 kxx_2 kxx_3 kxx_4 kxx_5 kxx_6 xs_RotaError hd_RotaError ky_RotaError xr_NoName_RotaError
theorem walk {l : PySem.W.OpenLaw} {q : Program} {loose : List Str} {XP : (Str → Option Value) → Heap → Prop} {YP : World → Heap → Prop} {d : DefRec} {K : Params → PySem.W.Frag} (hn : l.most = some 63) (hdf : d.params.defaults = [])
    (hY : ∀ (w : World) (h : Heap), YP w h → (K w.params).In h)
    (F : ∀ (w : World) (mg : Str → Option Value) (fa : Addr) (h : Heap), (K w.params).In h → h.Ns mainGlobals mg → mg d.name = some (.ref fa) →
      ∃ fd : FuncData, (∀ (s : Shared) (u : Value), BindsTo s fd ⟨[u], []⟩ [("_law_script", u)]) ∧ ∀ base : Heap, (K w.params).In base → base.Ns mainGlobals mg → FnOk l.prog w (K w.params) mg base CX0 4 fa fd ["_law_script"] (lowSp (K w.params) S_theLaw)) :
    PySem.W.WalkO q loose XP YP l.row.toRowW d [] (fun f vs => PySem.call f vs) :=
  L2.walk_of (n := 63) (k := 4) (x := "_law_script") (CX := fun _ => CX0) (sp := fun w => lowSp (K w.params) S_theLaw) hn (by decide) hdf ⟨rfl, by decide, by decide⟩ hY F (fun _ _ a ns hl _ hS => law_imp _ _ _ _ ⟨a, ns, rfl, hS, hl, fun _ => rfl⟩) fun _ _ _ _ _ z => z
end K22
end
section
open PySem PySem.W PyProof.Rows
set_option maxRecDepth 100000 in
set_option maxHeartbeats 0 in
theorem PySem.Challenge.cw_rotafair_k22_who_is_bound_holds : PySem.Challenge.rw_rotafair_k22_who_is_bound.Holds := by
  w_on; o_law; k_head; (case hw => w_witness2)
  k_fill
  refine K22.walk (l := PySem.Challenge.rw_rotafair_k22_who_is_bound) rfl rfl (fun w h Y => PySem.W.kIn_of Y) ?F
  case F =>
    intro w mg fa h KX G hmg
    refine' K22.all_mk KX G hmg ?aC_RotaError ?aC_NoRule ?aC_NoName ?aC_NoDay ?aC_NoRow ?aC_TooWide ?aC_NoHouse ?aC_Faulty ?aC_Person ?aC_House ?aC_Rule ?aC_Never ?aC_Tally ?aC_Most ?aC_Least ?a0 ?i0 ?l0 ?c0 ?k0 ?a1 ?i1 ?l1 ?c1 ?k1 ?a2 ?i2 ?l2 ?c2 ?k2 ?a3 ?i3 ?l3 ?c3 ?k3 ?a4 ?i4 ?l4 ?c4 ?k4 ?a5 ?i5 ?l5 ?c5 ?k5 ?a6 ?i6 ?l6 ?c6 ?k6 ?a7 ?i7 ?l7 ?c7 ?k7 ?a8 ?i8 ?l8 ?c8 ?k8 ?a9 ?i9 ?l9 ?c9 ?k9 ?a10 ?i10 ?l10 ?c10 ?k10 ?a11 ?l11 ?c11 ?k11 ?a12 ?l12 ?c12 ?k12 ?a13 ?l13 ?c13 ?k13 ?a14 ?i14 ?l14 ?c14 ?k14 ?a15 ?i15 ?l15 ?c15 ?k15 ?a16 ?i16 ?l16 ?c16 ?k16 ?a17 ?l17 ?c17 ?k17 ?a18 ?l18 ?c18 ?k18 ?a19 ?l19 ?c19 ?k19 ?a20 ?l20 ?c20 ?k20 ?h_Most_reach ?h_Least_reach ?h_Most_shown ?h_Least_shown ?mk_House ?kc_House ?h_Least___init__ ?mk_Least ?kc_Least ?h_Most___init__ ?mk_Most ?kc_Most ?mk_Never ?kc_Never ?mk_Person ?kc_Person ?pg_House ?hd_House ?po_House ?sa_House ?pg_Least ?hd_Least ?po_Least ?sa_Least ?pg_Most ?hd_Most ?po_Most ?sa_Most ?pg_Never ?hd_Never ?po_Never ?sa_Never ?pg_Person ?hd_Person ?po_Person ?sa_Person ?pg_Tally ?hd_Tally ?po_Tally ?sa_Tally ?g_ValueError ?g_bool ?g_int ?g_isinstance ?g_len ?g_list ?g_max ?g_range ?g_str ?g_tuple ?g_zip ?n_Person_carried ?n_House_days ?n_Least_days ?n_Most_days ?n_Tally_days ?n_House_kinds ?n_House_leave ?n_Least_many ?n_Most_many ?n_Tally_many ?n_Least_marks ?n_Most_marks ?n_Tally_marks ?n_Person_most ?n_Person_name ?n_House_needs ?n_House_pairs ?n_Person_past ?n_House_persons ?n_House_rules ?n_Person_skills ?n_House_wishes ?n_Never_word ?xs_NoName ?xe_NoName ?kc_NoName ?ky_NoName ?xg_NoName ?xk_NoName ?hd_NoName ?ka_NoName ?km_NoName ?kn ?kt ?xv_NoName ?ks_Faulty ?ky_Faulty ?kq_Faulty ?ks_NoDay ?ky_NoDay ?kq_NoDay ?ks_NoHouse ?ky_NoHouse ?kq_NoHouse ?ks_NoName ?kq_NoName ?ks_NoRow ?ky_NoRow ?kq_NoRow ?ks_NoRule ?ky_NoRule ?kq_NoRule ?ks_TooWide ?ky_TooWide ?kq_TooWide ?kxx_0 ?kxx_1 ?kxx_2 ?kxx_3 ?kxx_4 ?kxx_5 ?kxx_6 ?xs_RotaError ?hd_RotaError ?ky_RotaError ?xr_NoName_RotaError
    (case aC_RotaError => k_is)
    (case aC_NoRule => k_is)
    (case aC_NoName => k_is)
    (case aC_NoDay => k_is)
    (case aC_NoRow => k_is)
    (case aC_TooWide => k_is)
    (case aC_NoHouse => k_is)
    (case aC_Faulty => k_is)
    (case aC_Person => k_is)
    (case aC_House => k_is)
    (case aC_Rule => k_is)
    (case aC_Never => k_is)
    (case aC_Tally => k_is)
    (case aC_Most => k_is)
    (case aC_Least => k_is)
    (case a0 => k_is)
    (case i0 => k_is)
    (case l0 => k_is)
    (case c0 => k_is)
    (case k0 => k_is)
    (case a1 => k_is)
    (case i1 => k_is)
    (case l1 => k_is)
    (case c1 => k_is)
    (case k1 => k_is)
    (case a2 => k_is)
    (case i2 => k_is)
    (case l2 => k_is)
    (case c2 => k_is)
    (case k2 => k_is)
    (case a3 => k_is)
    (case i3 => k_is)
    (case l3 => k_is)
    (case c3 => k_is)
    (case k3 => k_is)
    (case a4 => k_is)
    (case i4 => k_is)
    (case l4 => k_is)
    (case c4 => k_is)
    (case k4 => k_is)
    (case a5 => k_is)
    (case i5 => k_is)
    (case l5 => k_is)
    (case c5 => k_is)
    (case k5 => k_is)
    (case a6 => k_is)
    (case i6 => k_is)
    (case l6 => k_is)
    (case c6 => k_is)
    (case k6 => k_is)
    (case a7 => k_is)
    (case i7 => k_is)
    (case l7 => k_is)
    (case c7 => k_is)
    (case k7 => k_is)
    (case a8 => k_is)
    (case i8 => k_is)
    (case l8 => k_is)
    (case c8 => k_is)
    (case k8 => k_is)
    (case a9 => k_is)
    (case i9 => k_is)
    (case l9 => k_is)
    (case c9 => k_is)
    (case k9 => k_is)
    (case a10 => k_is)
    (case i10 => k_is)
    (case l10 => k_is)
    (case c10 => k_is)
    (case k10 => k_is)
    (case a11 => k_is)
    (case l11 => k_is)
    (case c11 => k_is)
    (case k11 => k_is)
    (case a12 => k_is)
    (case l12 => k_is)
    (case c12 => k_is)
    (case k12 => k_is)
    (case a13 => k_is)
    (case l13 => k_is)
    (case c13 => k_is)
    (case k13 => k_is)
    (case a14 => k_is)
    (case i14 => k_is)
    (case l14 => k_is)
    (case c14 => k_is)
    (case k14 => k_is)
    (case a15 => k_is)
    (case i15 => k_is)
    (case l15 => k_is)
    (case c15 => k_is)
    (case k15 => k_is)
    (case a16 => k_is)
    (case i16 => k_is)
    (case l16 => k_is)
    (case c16 => k_is)
    (case k16 => k_is)
    (case a17 => k_is)
    (case l17 => k_is)
    (case c17 => k_is)
    (case k17 => k_is)
    (case a18 => k_is)
    (case l18 => k_is)
    (case c18 => k_is)
    (case k18 => k_is)
    (case a19 => k_is)
    (case l19 => k_is)
    (case c19 => k_is)
    (case k19 => k_is)
    (case a20 => k_is)
    (case l20 => k_is)
    (case c20 => k_is)
    (case k20 => k_is)
    (case h_Most_reach => k_is)
    (case h_Least_reach => k_is)
    (case h_Most_shown => k_is)
    (case h_Least_shown => k_is)
    (case mk_House => k_is)
    (case kc_House => k_is)
    (case h_Least___init__ => k_is)
    (case mk_Least => k_is)
    (case kc_Least => k_is)
    (case h_Most___init__ => k_is)
    (case mk_Most => k_is)
    (case kc_Most => k_is)
    (case mk_Never => k_is)
    (case kc_Never => k_is)
    (case mk_Person => k_is)
    (case kc_Person => k_is)
    (case pg_House => k_is)
    (case hd_House => k_is)
    (case po_House => k_is)
    (case sa_House => k_is)
    (case pg_Least => k_is)
    (case hd_Least => k_is)
    (case po_Least => k_is)
    (case sa_Least => k_is)
    (case pg_Most => k_is)
    (case hd_Most => k_is)
    (case po_Most => k_is)
    (case sa_Most => k_is)
    (case pg_Never => k_is)
    (case hd_Never => k_is)
    (case po_Never => k_is)
    (case sa_Never => k_is)
    (case pg_Person => k_is)
    (case hd_Person => k_is)
    (case po_Person => k_is)
    (case sa_Person => k_is)
    (case pg_Tally => k_is)
    (case hd_Tally => k_is)
    (case po_Tally => k_is)
    (case sa_Tally => k_is)
    (case g_ValueError => k_is)
    (case g_bool => k_is)
    (case g_int => k_is)
    (case g_isinstance => k_is)
    (case g_len => k_is)
    (case g_list => k_is)
    (case g_max => k_is)
    (case g_range => k_is)
    (case g_str => k_is)
    (case g_tuple => k_is)
    (case g_zip => k_is)
    (case n_Person_carried => k_is)
    (case n_House_days => k_is)
    (case n_Least_days => k_is)
    (case n_Most_days => k_is)
    (case n_Tally_days => k_is)
    (case n_House_kinds => k_is)
    (case n_House_leave => k_is)
    (case n_Least_many => k_is)
    (case n_Most_many => k_is)
    (case n_Tally_many => k_is)
    (case n_Least_marks => k_is)
    (case n_Most_marks => k_is)
    (case n_Tally_marks => k_is)
    (case n_Person_most => k_is)
    (case n_Person_name => k_is)
    (case n_House_needs => k_is)
    (case n_House_pairs => k_is)
    (case n_Person_past => k_is)
    (case n_House_persons => k_is)
    (case n_House_rules => k_is)
    (case n_Person_skills => k_is)
    (case n_House_wishes => k_is)
    (case n_Never_word => k_is)
    (case xs_NoName => k_is)
    (case xe_NoName => k_exc)
    (case kc_NoName => k_is)
    (case ky_NoName => k_is)
    (case xg_NoName => k_is)
    (case xk_NoName => k_is)
    (case hd_NoName => k_is)
    (case ka_NoName => k_is)
    (case km_NoName => k_is)
    (case kn => k_is)
    (case kt => k_is)
    (case xv_NoName => k_is)
    (case ks_Faulty => k_is)
    (case ky_Faulty => k_is)
    (case kq_Faulty => k_is)
    (case ks_NoDay => k_is)
    (case ky_NoDay => k_is)
    (case kq_NoDay => k_is)
    (case ks_NoHouse => k_is)
    (case ky_NoHouse => k_is)
    (case kq_NoHouse => k_is)
    (case ks_NoName => k_is)
    (case kq_NoName => k_is)
    (case ks_NoRow => k_is)
    (case ky_NoRow => k_is)
    (case kq_NoRow => k_is)
    (case ks_NoRule => k_is)
    (case ky_NoRule => k_is)
    (case kq_NoRule => k_is)
    (case ks_TooWide => k_is)
    (case ky_TooWide => k_is)
    (case kq_TooWide => k_is)
    (case kxx_0 => k_is)
    (case kxx_1 => k_is)
    (case kxx_2 => k_is)
    (case kxx_3 => k_is)
    (case kxx_4 => k_is)
    (case kxx_5 => k_is)
    (case kxx_6 => k_is)
    (case xs_RotaError => k_is)
    (case hd_RotaError => k_is)
    (case ky_RotaError => k_is)
    (case xr_NoName_RotaError => k_is)
end
