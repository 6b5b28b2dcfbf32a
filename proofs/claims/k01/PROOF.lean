import PyProof.Rows.All
import Wide.All
import OpenK.AllK
import Wide.FinOn
import HandS.ForMost
import HandS.Exc
import HandS.ExcOwn
import HandS.WordsExc
import HandS.TryOnly
import HandS.TupAny
import HandS.TupMul
import HandS.TupLe
import HandS.IsInst
import HandS.Style
import HandS.Lambda
import HandS.Zip
import KE.KRevSl
import KE.GoesMore
import KE.GoesEnum
import KE.LtData
import HandS.Flow
import HandS.Conv
import HandS.ExcValue
import HandS.ExcIs
import HandS.SetFor
import HandS.HeadHook1
import KE.SortData
import KE.DataCmp
import KE.SortLaws
import HandS.SortKw
import KE.DataMinKey
import HandS.DictComp
import HandS.Head0
import HandS.Head1
import HandS.Head2
import HandS.HeadEnd
import HandS.HeadHook2
import KE.KStateDown
import HandS.More
import HandS.Defaults
import HandS.HeadHook4
import HandS.EndTab
import HandS.DictTup
import PyProof.Rows.TupDisplay
import KE.KDictSum
import KE.KDictCopyH
import HandS.Deep
import PySem.Challenge.RW_hoursheld_k01_no_ports
set_option Elab.async false
set_option linter.all false
set_option maxRecDepth 100000
set_option maxHeartbeats 0
namespace Dn
open PySem PySem.Spec PyProof.Rows L2

/-! ### data -/
inductive Ty where
  | int | bool | str | tuple | list | dict | verr
def Ty.nm : Ty → String
  | .int => "int"
  | .bool => "bool"
  | .str => "str"
  | .tuple => "tuple"
  | .list => "list"
  | .dict => "dict"
  | .verr => "ValueError"
inductive D where
  | non | bl (b : Bool) | int (i : Int) | str (x : Str) | ty (n : Ty) | top (c : Nat) | exn (c : Nat)
  | tup (xs : List D) | lst (xs : List D) | frz (xs : List D) | obj (i : Nat)

inductive MO where
  | lst (xs : List D) | dK (kvs : List (Key × D)) | dT (kvs : List (List Key × D)) | ins (c : Nat) (fs : List (Str × D)) | lck (kvs : List (Key × D)) | lckT (kvs : List (List Key × D)) | out

abbrev MS := List MO
abbrev En := List (Option D)

/-- what the text has laid: K, and the addresses of its defs and classes -/
structure Gx where
  K : PySem.W.Frag
  ca : Nat → Addr
  tb : List (Addr × Str)
/-- no table of code objects; nor any other thing told by its object -/
def NotTab : HO → Prop
  | .tbl _ => False
  | _ => True
def Plain : HO → Prop
  | .tbl _ => False
  | .ext _ => False
  | _ => True
/-- what may be hidden while it is made -/
def Hid : HO → Prop
  | .tbl _ => False
  | .ext _ => False
  | .tup _ => False
  | .frz _ _ => False
  | _ => True
theorem Hid.pl {o : HO} (h : Hid o) : Plain o := by cases o <;> first | exact True.intro | exact h
theorem Plain.nt {o : HO} (h : Plain o) : NotTab o := by cases o <;> first | exact True.intro | exact h
/-- the table at P: each code object that it tells bears the name q -/
def TabM (H : Hp) (P : Addr) (q : Str) : Prop := LamX.TabS H P q
theorem tab_upd {H : Hp} {P : Addr} {q : Str} (t : TabM H P q) {a : Addr} {o : HO} (ha : ∀ u, H a = some u → Plain u) : TabM (upd H a o) P q := by
  obtain ⟨ps, h1, h2, h3⟩ := t
  have ne : ∀ {b : Addr} {u : HO}, H b = some u → ¬ Plain u → b ≠ a := fun {b u} e n z => n (ha u (by rw [← z]; exact e))
  refine ⟨ps, by rw [upd_ne (ne h1 id)]; exact h1, h2, fun pos cv hc => ?_⟩
  obtain ⟨c, e1, e2⟩ := h3 pos cv hc
  exact ⟨c, e1, by rw [upd_ne (ne e2 id)]; exact e2⟩
theorem tab_new {H : Hp} {P : Addr} {q : Str} (t : TabM H P q) {a : Addr} {o : HO} (ha : H a = none) : TabM (upd H a o) P q := tab_upd t fun u e => by rw [ha] at e; cases e

/-- the addresses of the objects by their numbers, and those that nobody knows yet -/
structure Mx where
  m : List Addr
  x : List Addr

/-- a list of the written part -/
def Kl (K : PySem.W.Frag) (a : Addr) (xs : List V) : Prop := ∃ (o : Obj) (its : Array Value) (n : Nat), K.lookup a = some o ∧ o.cls = .type "list" ∧ o.dict = none ∧ o.data = .seq its n ∧ its.size ≤ sizeLine ∧ Vals xs its.toList

/-- an exception that was caught -/
def ExT (cls : Value) (a : Addr) : HO := .ext fun h => ∃ (oe : Obj) (vs : Array Value), h.get? a = some oe ∧ Zc cls none oe ∧ oe.data = .fields vs
theorem exT_ok {P : Program} {w : World} {H : Hp} {h : Heap} {a : Addr} {cls : Value} {oe : Obj} {vs : Array Value} (e : h.get? a = some oe) (z : Zc cls none oe) (d : oe.data = .fields vs) : ObjOk P w H h a (ExT cls a) :=
  ⟨⟨oe, vs, e, z, d⟩, ⟨oe, e⟩, fun _ _ ⟨o, v, q, r⟩ k => ⟨o, v, k o q, r⟩⟩

mutual
inductive Rep (G : Gx) (M : Mx) (H : Hp) : V → D → Prop
  | non : Rep G M H .non .non
  | bl (b : Bool) : Rep G M H (.bl b) (.bl b)
  | int (i : Int) : Rep G M H (.int i) (.int i)
  | str (x : Str) : Rep G M H (.str x) (.str x)
  | ty (n : Ty) : Rep G M H (.ty n.nm) (.ty n)
  | top (c : Nat) : Rep G M H (.ref (G.ca c)) (.top c)
  | tup {a : Addr} {vs : List V} {ds : List D} : H a = some (.tup vs) → a ∉ M.m → a ∉ M.x → vs.length ≤ sizeLine → Reps G M H vs ds → Rep G M H (.ref a) (.tup ds)
  | lst {a : Addr} {vs : List V} {ds : List D} : H a = some (.lst vs) → a ∉ M.m → a ∉ M.x → vs.length ≤ sizeLine → Reps G M H vs ds → Rep G M H (.ref a) (.lst ds)
  | frz {a : Addr} {o : Obj} {vs : List V} {ds : List D} : H a = some (.frz o (.lst vs)) → a ∉ M.m → a ∉ M.x → vs.length ≤ sizeLine → Reps G M H vs ds → Rep G M H (.ref a) (.frz ds)
  | frk {a : Addr} {vs : List V} {ds : List D} : Kl G.K a vs → vs.length ≤ sizeLine → Reps G M H vs ds → Rep G M H (.ref a) (.frz ds)
  | exn {a : Addr} {c : Nat} : H a = some (ExT (.ref (G.ca c)) a) → a ∉ M.m → a ∉ M.x → Rep G M H (.ref a) (.exn c)
  | obj {i : Nat} {a : Addr} : M.m[i]? = some a → Rep G M H (.ref a) (.obj i)
inductive Reps (G : Gx) (M : Mx) (H : Hp) : List V → List D → Prop
  | nil : Reps G M H [] []
  | cons {v : V} {d : D} {vs : List V} {ds : List D} : Rep G M H v d → Reps G M H vs ds → Reps G M H (v :: vs) (d :: ds)
end

structure Ext (M : Mx) (H : Hp) (M' : Mx) (H' : Hp) : Prop where
  more : ∃ l, M'.m = M.m ++ l ∧ ∀ a ∈ l, H a = none
  hidm : ∃ l, M'.x = l ++ M.x ∧ ∀ a ∈ l, H a = none
  keep : ∀ a o, H a = some o → a ∉ M.m → (nt : NotTab o := by exact True.intro) → H' a = some o
  dom : ∀ a, H a ≠ none → H' a ≠ none
  frz : ∀ a o u, H a = some (.frz o u) → H' a = some (.frz o u)

theorem Ext.refl (M : Mx) (H : Hp) : Ext M H M H := ⟨⟨[], by simp, by simp⟩, ⟨[], by simp, by simp⟩, fun _ _ h _ _ => h, fun _ h => h, fun _ _ _ h => h⟩
theorem Ext.notin {M M' : Mx} {H H' : Hp} (e : Ext M H M' H') {a : Addr} {o : HO} (h : H a = some o) (n : a ∉ M.m) : a ∉ M'.m := by
  obtain ⟨l, q, hl⟩ := e.more
  rw [q]
  intro q
  rcases List.mem_append.mp q with q | q
  · exact n q
  · have := hl a q; rw [h] at this; cases this
theorem Ext.notx {M M' : Mx} {H H' : Hp} (e : Ext M H M' H') {a : Addr} {o : HO} (h : H a = some o) (n : a ∉ M.x) : a ∉ M'.x := by
  obtain ⟨l, q, hl⟩ := e.hidm
  rw [q]
  intro q
  rcases List.mem_append.mp q with q | q
  · have := hl a q; rw [h] at this; cases this
  · exact n q
theorem Ext.trans {M M1 M2 : Mx} {H H1 H2 : Hp} (e : Ext M H M1 H1) (f : Ext M1 H1 M2 H2) : Ext M H M2 H2 := by
  refine ⟨?_, ?_, fun a o h n nt => f.keep a o (e.keep a o h n nt) (e.notin h n) nt, fun a h => f.dom a (e.dom a h), fun a o u h => f.frz a o u (e.frz a o u h)⟩
  · obtain ⟨l, q, hl⟩ := e.more
    obtain ⟨k, q2, hk⟩ := f.more
    refine ⟨l ++ k, by rw [q2, q, List.append_assoc], fun a ha => ?_⟩
    rcases List.mem_append.mp ha with q | q
    · exact hl a q
    · cases h : H a with
      | none => rfl
      | some o => exact absurd (hk a q) (e.dom a (by rw [h]; exact Option.some_ne_none o))
  · obtain ⟨l, q, hl⟩ := e.hidm
    obtain ⟨k, q2, hk⟩ := f.hidm
    refine ⟨k ++ l, by rw [q2, q, List.append_assoc], fun a ha => ?_⟩
    rcases List.mem_append.mp ha with q | q
    · cases h : H a with
      | none => rfl
      | some o => exact absurd (hk a q) (e.dom a (by rw [h]; exact Option.some_ne_none o))
    · exact hl a q

mutual
theorem Rep.ext {G : Gx} {M M' : Mx} {H H' : Hp} (e : Ext M H M' H') : ∀ {v : V} {d : D}, Rep G M H v d → Rep G M' H' v d
  | _, _, .non => .non
  | _, _, .bl b => .bl b
  | _, _, .int i => .int i
  | _, _, .str x => .str x
  | _, _, .ty n => .ty n
  | _, _, .top c => .top c
  | _, _, .tup h n k z r => .tup (e.keep _ _ h n) (e.notin h n) (e.notx h k) z (Reps.ext e r)
  | _, _, .exn h n k => .exn (e.keep _ _ h n) (e.notin h n) (e.notx h k)
  | _, _, .lst h n k z r => .lst (e.keep _ _ h n) (e.notin h n) (e.notx h k) z (Reps.ext e r)
  | _, _, .frz h n k z r => .frz (e.keep _ _ h n) (e.notin h n) (e.notx h k) z (Reps.ext e r)
  | _, _, .frk h z r => .frk h z (Reps.ext e r)
  | _, _, .obj (i := i) h => by
    obtain ⟨l, q, _⟩ := e.more
    refine .obj (i := i) ?_
    rw [q, List.getElem?_append_left (List.getElem?_eq_some_iff.mp h).1]
    exact h
theorem Reps.ext {G : Gx} {M M' : Mx} {H H' : Hp} (e : Ext M H M' H') : ∀ {vs : List V} {ds : List D}, Reps G M H vs ds → Reps G M' H' vs ds
  | _, _, .nil => .nil
  | _, _, .cons r t => .cons (Rep.ext e r) (Reps.ext e t)
end
/-- an extension in which what is hidden may turn -/
structure ExtW (M : Mx) (H : Hp) (M' : Mx) (H' : Hp) : Prop where
  more : ∃ l, M'.m = M.m ++ l ∧ ∀ a ∈ l, H a = none
  hidm : ∃ l, M'.x = l ++ M.x ∧ ∀ a ∈ l, H a = none
  keep : ∀ a o, H a = some o → a ∉ M.m → a ∉ M.x → (nt : NotTab o := by exact True.intro) → H' a = some o
  dom : ∀ a, H a ≠ none → H' a ≠ none
  frz : ∀ a o u, H a = some (.frz o u) → H' a = some (.frz o u)
theorem Ext.w {M M' : Mx} {H H' : Hp} (e : Ext M H M' H') : ExtW M H M' H' := ⟨e.more, e.hidm, fun a o h n _ nt => e.keep a o h n nt, e.dom, e.frz⟩
theorem ExtW.refl (M : Mx) (H : Hp) : ExtW M H M H := (Ext.refl M H).w
theorem ExtW.notin {M M' : Mx} {H H' : Hp} (e : ExtW M H M' H') {a : Addr} {o : HO} (h : H a = some o) (n : a ∉ M.m) : a ∉ M'.m := by
  obtain ⟨l, q, hl⟩ := e.more
  rw [q]
  intro q
  rcases List.mem_append.mp q with q | q
  · exact n q
  · have := hl a q; rw [h] at this; cases this
theorem ExtW.notx {M M' : Mx} {H H' : Hp} (e : ExtW M H M' H') {a : Addr} {o : HO} (h : H a = some o) (n : a ∉ M.x) : a ∉ M'.x := by
  obtain ⟨l, q, hl⟩ := e.hidm
  rw [q]
  intro q
  rcases List.mem_append.mp q with q | q
  · have := hl a q; rw [h] at this; cases this
  · exact n q
theorem ExtW.trans {M M1 M2 : Mx} {H H1 H2 : Hp} (e : ExtW M H M1 H1) (f : ExtW M1 H1 M2 H2) : ExtW M H M2 H2 := by
  refine ⟨?_, ?_, fun a o h n k nt => f.keep a o (e.keep a o h n k nt) (e.notin h n) (e.notx h k) nt, fun a h => f.dom a (e.dom a h), fun a o u h => f.frz a o u (e.frz a o u h)⟩
  · obtain ⟨l, q, hl⟩ := e.more
    obtain ⟨k, q2, hk⟩ := f.more
    refine ⟨l ++ k, by rw [q2, q, List.append_assoc], fun a ha => ?_⟩
    rcases List.mem_append.mp ha with q | q
    · exact hl a q
    · cases h : H a with
      | none => rfl
      | some o => exact absurd (hk a q) (e.dom a (by rw [h]; exact Option.some_ne_none o))
  · obtain ⟨l, q, hl⟩ := e.hidm
    obtain ⟨k, q2, hk⟩ := f.hidm
    refine ⟨k ++ l, by rw [q2, q, List.append_assoc], fun a ha => ?_⟩
    rcases List.mem_append.mp ha with q | q
    · cases h : H a with
      | none => rfl
      | some o => exact absurd (hk a q) (e.dom a (by rw [h]; exact Option.some_ne_none o))
    · exact hl a q
mutual
theorem Rep.extW {G : Gx} {M M' : Mx} {H H' : Hp} (e : ExtW M H M' H') : ∀ {v : V} {d : D}, Rep G M H v d → Rep G M' H' v d
  | _, _, .non => .non
  | _, _, .bl b => .bl b
  | _, _, .int i => .int i
  | _, _, .str x => .str x
  | _, _, .ty n => .ty n
  | _, _, .top c => .top c
  | _, _, .tup h n k z r => .tup (e.keep _ _ h n k) (e.notin h n) (e.notx h k) z (Reps.extW e r)
  | _, _, .exn h n k => .exn (e.keep _ _ h n k) (e.notin h n) (e.notx h k)
  | _, _, .lst h n k z r => .lst (e.keep _ _ h n k) (e.notin h n) (e.notx h k) z (Reps.extW e r)
  | _, _, .frz h n k z r => .frz (e.keep _ _ h n k) (e.notin h n) (e.notx h k) z (Reps.extW e r)
  | _, _, .frk h z r => .frk h z (Reps.extW e r)
  | _, _, .obj (i := i) h => by
    obtain ⟨l, q, _⟩ := e.more
    refine .obj (i := i) ?_
    rw [q, List.getElem?_append_left (List.getElem?_eq_some_iff.mp h).1]
    exact h
theorem Reps.extW {G : Gx} {M M' : Mx} {H H' : Hp} (e : ExtW M H M' H') : ∀ {vs : List V} {ds : List D}, Reps G M H vs ds → Reps G M' H' vs ds
  | _, _, .nil => .nil
  | _, _, .cons r t => .cons (Rep.extW e r) (Reps.extW e t)
end
mutual
theorem Rep.hid {G : Gx} {M : Mx} {H : Hp} {p : Addr} {o : HO} (hp : p ∈ M.x) : ∀ {v : V} {d : D}, Rep G M H v d → Rep G M (upd H p o) v d
  | _, _, .non => .non
  | _, _, .bl b => .bl b
  | _, _, .int i => .int i
  | _, _, .str x => .str x
  | _, _, .ty n => .ty n
  | _, _, .top c => .top c
  | _, _, .tup h n k z r => .tup (by rw [upd_ne (fun q => k (by rw [q]; exact hp))]; exact h) n k z (Reps.hid hp r)
  | _, _, .exn h n k => .exn (by rw [upd_ne (fun q => k (by rw [q]; exact hp))]; exact h) n k
  | _, _, .lst h n k z r => .lst (by rw [upd_ne (fun q => k (by rw [q]; exact hp))]; exact h) n k z (Reps.hid hp r)
  | _, _, .frz h n k z r => .frz (by rw [upd_ne (fun q => k (by rw [q]; exact hp))]; exact h) n k z (Reps.hid hp r)
  | _, _, .frk h z r => .frk h z (Reps.hid hp r)
  | _, _, .obj (i := i) h => .obj h
theorem Reps.hid {G : Gx} {M : Mx} {H : Hp} {p : Addr} {o : HO} (hp : p ∈ M.x) : ∀ {vs : List V} {ds : List D}, Reps G M H vs ds → Reps G M (upd H p o) vs ds
  | _, _, .nil => .nil
  | _, _, .cons r t => .cons (Rep.hid hp r) (Reps.hid hp t)
end
mutual
theorem Rep.sub {G : Gx} {m x y : List Addr} {H : Hp} (s : ∀ a ∈ y, a ∈ x) : ∀ {v : V} {d : D}, Rep G ⟨m, x⟩ H v d → Rep G ⟨m, y⟩ H v d
  | _, _, .non => .non
  | _, _, .bl b => .bl b
  | _, _, .int i => .int i
  | _, _, .str x => .str x
  | _, _, .ty n => .ty n
  | _, _, .top c => .top c
  | _, _, .tup h n k z r => .tup h n (fun q => k (s _ q)) z (Reps.sub s r)
  | _, _, .exn h n k => .exn h n (fun q => k (s _ q))
  | _, _, .lst h n k z r => .lst h n (fun q => k (s _ q)) z (Reps.sub s r)
  | _, _, .frz h n k z r => .frz h n (fun q => k (s _ q)) z (Reps.sub s r)
  | _, _, .frk h z r => .frk h z (Reps.sub s r)
  | _, _, .obj (i := i) h => .obj h
theorem Reps.sub {G : Gx} {m x y : List Addr} {H : Hp} (s : ∀ a ∈ y, a ∈ x) : ∀ {vs : List V} {ds : List D}, Reps G ⟨m, x⟩ H vs ds → Reps G ⟨m, y⟩ H vs ds
  | _, _, .nil => .nil
  | _, _, .cons r t => .cons (Rep.sub s r) (Reps.sub s t)
end
mutual
theorem Rep.show_ {G : Gx} {m x : List Addr} {H : Hp} {p : Addr} : ∀ {v : V} {d : D}, Rep G ⟨m, p :: x⟩ H v d → Rep G ⟨m, x⟩ H v d
  | _, _, .non => .non
  | _, _, .bl b => .bl b
  | _, _, .int i => .int i
  | _, _, .str x => .str x
  | _, _, .ty n => .ty n
  | _, _, .top c => .top c
  | _, _, .tup h n k z r => .tup h n (fun q => k (List.mem_cons_of_mem _ q)) z (Reps.show_ r)
  | _, _, .exn h n k => .exn h n (fun q => k (List.mem_cons_of_mem _ q))
  | _, _, .lst h n k z r => .lst h n (fun q => k (List.mem_cons_of_mem _ q)) z (Reps.show_ r)
  | _, _, .frz h n k z r => .frz h n (fun q => k (List.mem_cons_of_mem _ q)) z (Reps.show_ r)
  | _, _, .frk h z r => .frk h z (Reps.show_ r)
  | _, _, .obj (i := i) h => .obj h
theorem Reps.show_ {G : Gx} {m x : List Addr} {H : Hp} {p : Addr} : ∀ {vs : List V} {ds : List D}, Reps G ⟨m, p :: x⟩ H vs ds → Reps G ⟨m, x⟩ H vs ds
  | _, _, .nil => .nil
  | _, _, .cons r t => .cons (Rep.show_ r) (Reps.show_ t)
end
mutual
theorem Rep.hide {G : Gx} {M : Mx} {H : Hp} {p : Addr} {o : HO} (hp : H p = none) : ∀ {v : V} {d : D}, Rep G M H v d → Rep G ⟨M.m, p :: M.x⟩ (upd H p o) v d
  | _, _, .non => .non
  | _, _, .bl b => .bl b
  | _, _, .int i => .int i
  | _, _, .str x => .str x
  | _, _, .ty n => .ty n
  | _, _, .top c => .top c
  | _, _, .tup h n k z r => .tup (by rw [upd_ne (ne_of_none h hp)]; exact h) n (fun q => (List.mem_cons.mp q).elim (ne_of_none h hp) k) z (Reps.hide hp r)
  | _, _, .exn h n k => .exn (by rw [upd_ne (ne_of_none h hp)]; exact h) n (fun q => (List.mem_cons.mp q).elim (ne_of_none h hp) k)
  | _, _, .lst h n k z r => .lst (by rw [upd_ne (ne_of_none h hp)]; exact h) n (fun q => (List.mem_cons.mp q).elim (ne_of_none h hp) k) z (Reps.hide hp r)
  | _, _, .frz h n k z r => .frz (by rw [upd_ne (ne_of_none h hp)]; exact h) n (fun q => (List.mem_cons.mp q).elim (ne_of_none h hp) k) z (Reps.hide hp r)
  | _, _, .frk h z r => .frk h z (Reps.hide hp r)
  | _, _, .obj (i := i) h => .obj h
theorem Reps.hide {G : Gx} {M : Mx} {H : Hp} {p : Addr} {o : HO} (hp : H p = none) : ∀ {vs : List V} {ds : List D}, Reps G M H vs ds → Reps G ⟨M.m, p :: M.x⟩ (upd H p o) vs ds
  | _, _, .nil => .nil
  | _, _, .cons r t => .cons (Rep.hide hp r) (Reps.hide hp t)
end
section
variable {G : Gx} {M : Mx} {H : Hp}
theorem Reps.length : ∀ {vs : List V} {ds : List D}, Reps G M H vs ds → vs.length = ds.length
  | _, _, .nil => rfl
  | _, _, .cons _ t => by simp [Reps.length t]
theorem Reps.append : ∀ {vs ws : List V} {ds es : List D}, Reps G M H vs ds → Reps G M H ws es → Reps G M H (vs ++ ws) (ds ++ es)
  | _, _, _, _, .nil, s => s
  | _, _, _, _, .cons r t, s => .cons r (Reps.append t s)
theorem Reps.get : ∀ {vs : List V} {ds : List D} {i : Nat} {d : D}, Reps G M H vs ds → ds[i]? = some d → ∃ v, vs[i]? = some v ∧ Rep G M H v d
  | _, _, _, _, .nil, e => by simp at e
  | _, _, 0, _, .cons r _, e => by simp at e; subst e; exact ⟨_, rfl, r⟩
  | _, _, i + 1, d, .cons _ t, e => by
    obtain ⟨u, h1, h2⟩ := Reps.get (i := i) (d := d) t (by simpa using e)
    exact ⟨u, by simpa using h1, h2⟩
theorem Reps.get' {vs : List V} {ds : List D} {i : Nat} {v : V} (r : Reps G M H vs ds) (e : vs[i]? = some v) : ∃ d, ds[i]? = some d ∧ Rep G M H v d := by
  have hl := r.length
  have hi : i < ds.length := hl ▸ (List.getElem?_eq_some_iff.mp e).1
  obtain ⟨u, h1, h2⟩ := r.get (List.getElem?_eq_getElem hi)
  rw [e] at h1; cases h1
  exact ⟨_, List.getElem?_eq_getElem hi, h2⟩
theorem Reps.take : ∀ {vs : List V} {ds : List D} (n : Nat), Reps G M H vs ds → Reps G M H (vs.take n) (ds.take n)
  | _, _, 0, _ => .nil
  | _, _, _ + 1, .nil => .nil
  | _, _, n + 1, .cons r t => .cons r (Reps.take n t)
theorem Reps.drop : ∀ {vs : List V} {ds : List D} (n : Nat), Reps G M H vs ds → Reps G M H (vs.drop n) (ds.drop n)
  | _, _, 0, r => r
  | _, _, _ + 1, .nil => .nil
  | _, _, n + 1, .cons _ t => Reps.drop n t
theorem Reps.set {v : V} {d : D} (r : Rep G M H v d) : ∀ {vs : List V} {ds : List D} (i : Nat), Reps G M H vs ds → Reps G M H (vs.set i v) (ds.set i d)
  | _, _, _, .nil => .nil
  | _, _, 0, .cons _ t => .cons r t
  | _, _, i + 1, .cons q t => .cons q (Reps.set r i t)
theorem Reps.reverse {vs : List V} {ds : List D} (r : Reps G M H vs ds) : Reps G M H vs.reverse ds.reverse := by
  induction vs generalizing ds with
  | nil => cases r; exact .nil
  | cons v vs ih =>
    cases r with
    | cons r t => rw [List.reverse_cons, List.reverse_cons]; exact (ih t).append (.cons r .nil)
theorem Reps.one {v : V} {d : D} (r : Rep G M H v d) : Reps G M H [v] [d] := .cons r .nil
theorem Reps.rep {vs : List V} {ds : List D} (r : Reps G M H vs ds) : ∀ k : Nat, Reps G M H (List.replicate k vs).flatten (List.replicate k ds).flatten
  | 0 => .nil
  | k + 1 => by
    rw [List.replicate_succ, List.replicate_succ, List.flatten_cons, List.flatten_cons]
    exact r.append (Reps.rep r k)
theorem Reps.inv1 {vs : List V} {d : D} (r : Reps G M H vs [d]) : ∃ v, vs = [v] ∧ Rep G M H v d := by
  cases r with | cons r t => cases t; exact ⟨_, rfl, r⟩
theorem Reps.inv2 {vs : List V} {d e : D} (r : Reps G M H vs [d, e]) : ∃ v w, vs = [v, w] ∧ Rep G M H v d ∧ Rep G M H w e := by
  cases r with | cons r t => obtain ⟨w, rfl, q⟩ := t.inv1; exact ⟨_, _, rfl, r, q⟩
theorem Rep.tup_inv {v : V} {ds : List D} (r : Rep G M H v (.tup ds)) : ∃ a vs, v = .ref a ∧ H a = some (.tup vs) ∧ a ∉ M.m ∧ a ∉ M.x ∧ vs.length ≤ sizeLine ∧ Reps G M H vs ds := by
  cases r with | tup h n k z r => exact ⟨_, _, rfl, h, n, k, z, r⟩
theorem Rep.lst_inv {v : V} {ds : List D} (r : Rep G M H v (.lst ds)) : ∃ a vs, v = .ref a ∧ H a = some (.lst vs) ∧ a ∉ M.m ∧ a ∉ M.x ∧ vs.length ≤ sizeLine ∧ Reps G M H vs ds := by
  cases r with | lst h n k z r => exact ⟨_, _, rfl, h, n, k, z, r⟩
theorem Rep.frz_inv {v : V} {ds : List D} (r : Rep G M H v (.frz ds)) : ∃ a vs, v = .ref a ∧ (∀ M2 H2, ExtW M H M2 H2 → SqL G.K H2 a vs) ∧ ((∃ o, H a = some (.frz o (.lst vs))) ∨ ∃ o, G.K.lookup a = some o ∧ o.cls = .type "list") ∧ vs.length ≤ sizeLine ∧ Reps G M H vs ds := by
  cases r with
  | frz h n k z r => exact ⟨_, _, rfl, fun M2 H2 e => .inl (.inr ⟨_, e.keep _ _ h n k⟩), .inl ⟨_, h⟩, z, r⟩
  | frk h z r =>
    obtain ⟨o, its, n, h1, h2, h3⟩ := h
    exact ⟨_, _, rfl, fun M2 H2 e => .inr ⟨o, its, n, h1, h2, h3⟩, .inr ⟨o, h1, h2⟩, z, r⟩
theorem Rep.obj_inv {v : V} {i : Nat} (r : Rep G M H v (.obj i)) : ∃ a, v = .ref a ∧ M.m[i]? = some a := by
  cases r with | obj h => exact ⟨_, rfl, h⟩
theorem Rep.int_inv {v : V} {i : Int} (r : Rep G M H v (.int i)) : v = .int i := by cases r; rfl
theorem Rep.bl_inv {v : V} {i : Bool} (r : Rep G M H v (.bl i)) : v = .bl i := by cases r; rfl
theorem Rep.str_inv {v : V} {i : Str} (r : Rep G M H v (.str i)) : v = .str i := by cases r; rfl
theorem Rep.non_inv {v : V} (r : Rep G M H v .non) : v = .non := by cases r; rfl
theorem Rep.ty_inv {v : V} {n : Ty} (r : Rep G M H v (.ty n)) : v = .ty n.nm := by cases r; rfl
theorem Rep.top_inv {v : V} {n : Nat} (r : Rep G M H v (.top n)) : v = .ref (G.ca n) := by cases r; rfl
end

/-! ### the mini heap -/
abbrev KReps {κ : Type} (G : Gx) (M : Mx) (H : Hp) : List (κ × V) → List (κ × D) → Prop := Paired fun (p : κ × V) (q : κ × D) => p.1 = q.1 ∧ Rep G M H p.2 q.2
def ORep (G : Gx) (M : Mx) (H : Hp) (a : Addr) : MO → Prop
  | .lst xs => ∃ vs, H a = some (.lst vs) ∧ vs.length ≤ sizeLine ∧ Reps G M H vs xs
  | .dK kvs => ∃ vs, H a = some (.dK vs) ∧ vs.length ≤ sizeLine ∧ KReps G M H vs kvs
  | .dT kvs => ∃ vs, H a = some (.dT vs) ∧ vs.length ≤ sizeLine ∧ KReps G M H vs kvs
  | .ins c fs => ∃ dx vs, H a = some (.ins (G.ca c) dx vs) ∧ KReps G M H vs fs
  | .lck kvs => ∃ o vs, H a = some (.frz o (.dK vs)) ∧ vs.length ≤ sizeLine ∧ KReps G M H vs kvs
  | .lckT kvs => ∃ o vs, H a = some (.frz o (.dT vs)) ∧ vs.length ≤ sizeLine ∧ KReps G M H vs kvs
  | .out => False
theorem paired_imp {α β : Type} {F F' : α → β → Prop} (h : ∀ a b, F a b → F' a b) : ∀ {l1 : List α} {l2 : List β}, Paired F l1 l2 → Paired F' l1 l2
  | _, _, .nil => .nil
  | _, _, .cons r t => .cons (h _ _ r) (paired_imp h t)
theorem KReps.ext {κ : Type} {G : Gx} {M M' : Mx} {H H' : Hp} (e : Ext M H M' H') {vs : List (κ × V)} {ds : List (κ × D)} (h : KReps G M H vs ds) : KReps G M' H' vs ds :=
  paired_imp (fun _ _ q => ⟨q.1, q.2.ext e⟩) h
theorem ORep.some {G : Gx} {M : Mx} {H : Hp} {a : Addr} {o : MO} (h : ORep G M H a o) : H a ≠ none := by
  cases o with
  | lst xs => obtain ⟨_, h, _⟩ := h; rw [h]; exact Option.some_ne_none _
  | dK xs => obtain ⟨_, h, _⟩ := h; rw [h]; exact Option.some_ne_none _
  | dT xs => obtain ⟨_, h, _⟩ := h; rw [h]; exact Option.some_ne_none _
  | ins c fs => obtain ⟨_, _, h, _⟩ := h; rw [h]; exact Option.some_ne_none _
  | lck xs => obtain ⟨_, _, h, _⟩ := h; rw [h]; exact Option.some_ne_none _
  | lckT xs => obtain ⟨_, _, h, _⟩ := h; rw [h]; exact Option.some_ne_none _
  | out => exact h.elim
theorem orep_plain {G : Gx} {M : Mx} {H : Hp} {a : Addr} {o : MO} (h : ORep G M H a o) : ∀ u : HO, H a = Option.some u → Plain u := by
  intro u e
  cases o with
  | lst xs => obtain ⟨_, h, _⟩ := h; rw [h] at e; cases e; exact True.intro
  | dK xs => obtain ⟨_, h, _⟩ := h; rw [h] at e; cases e; exact True.intro
  | dT xs => obtain ⟨_, h, _⟩ := h; rw [h] at e; cases e; exact True.intro
  | ins c fs => obtain ⟨_, _, h, _⟩ := h; rw [h] at e; cases e; exact True.intro
  | lck xs => obtain ⟨_, _, h, _⟩ := h; rw [h] at e; cases e; exact True.intro
  | lckT xs => obtain ⟨_, _, h, _⟩ := h; rw [h] at e; cases e; exact True.intro
  | out => exact h.elim
/-- the object itself stands as it stood, the rest is extended -/
theorem ORep.ext {G : Gx} {M M' : Mx} {H H' : Hp} (e : Ext M H M' H') {a : Addr} {o : MO} (h : ORep G M H a o) (s : H' a = H a) : ORep G M' H' a o := by
  cases o with
  | lst xs => obtain ⟨vs, h, z, r⟩ := h; exact ⟨vs, s.trans h, z, r.ext e⟩
  | dK xs => obtain ⟨vs, h, z, r⟩ := h; exact ⟨vs, s.trans h, z, r.ext e⟩
  | dT xs => obtain ⟨vs, h, z, r⟩ := h; exact ⟨vs, s.trans h, z, r.ext e⟩
  | ins c fs => obtain ⟨dx, vs, h, r⟩ := h; exact ⟨dx, vs, s.trans h, r.ext e⟩
  | lck xs => obtain ⟨o, vs, h, z, r⟩ := h; exact ⟨o, vs, s.trans h, z, r.ext e⟩
  | lckT xs => obtain ⟨o, vs, h, z, r⟩ := h; exact ⟨o, vs, s.trans h, z, r.ext e⟩
  | out => exact h
structure Rel (G : Gx) (M : Mx) (S : MS) (H : Hp) : Prop where
  len : M.m.length = S.length
  nd : M.m.Nodup
  at_ : ∀ (i : Nat) (a : Addr) (o : MO), M.m[i]? = some a → S[i]? = some o → ORep G M H a o
  hid : ∀ a ∈ M.x, ∃ o, H a = some o ∧ Hid o
  dis : ∀ a ∈ M.x, a ∉ M.m
  tab : ∀ p ∈ G.tb, TabM H p.1 p.2
section
variable {G : Gx} {M M' : Mx} {S : MS} {H H' : Hp}
theorem hid_upd {x : List Addr} (h : ∀ a ∈ x, ∃ o, H a = some o ∧ Hid o) {p : Addr} {o : HO} (hp : p ∉ x ∨ Hid o) : ∀ a ∈ x, ∃ u, upd H p o a = some u ∧ Hid u := fun a ha => by
  by_cases q : a = p
  · subst q
    rw [upd_same]
    exact ⟨o, rfl, hp.resolve_left fun n => n ha⟩
  · rw [upd_ne q]; exact h a ha
theorem Rel.mem (r : Rel G M S H) {a : Addr} (h : a ∈ M.m) : H a ≠ none := by
  obtain ⟨i, hi, rfl⟩ := List.mem_iff_getElem.mp h
  have hj : i < S.length := by rw [← r.len]; exact hi
  exact (r.at_ i M.m[i] S[i] (List.getElem?_eq_getElem hi) (List.getElem?_eq_getElem hj)).some
theorem Rel.fresh (r : Rel G M S H) {p : Addr} (h : H p = none) : p ∉ M.m := fun q => r.mem q h
theorem Rel.freshx (r : Rel G M S H) {p : Addr} (h : H p = none) : p ∉ M.x := fun q => by
  obtain ⟨o, e, _⟩ := r.hid p q
  rw [h] at e; cases e
theorem upd_dom {p : Addr} {o : HO} : ∀ a, H a ≠ none → upd H p o a ≠ none := fun a e => by
  by_cases q : a = p
  · subst q; rw [upd_same]; exact Option.some_ne_none _
  · rw [upd_ne q]; exact e
theorem Ext.new {p : Addr} {o : HO} (h : H p = none) : Ext M H M (upd H p o) := by
  refine ⟨⟨[], by simp, by simp⟩, ⟨[], by simp, by simp⟩, fun a u e _ _ => ?_, upd_dom, fun a o u e => by rw [upd_ne (ne_of_none e h)]; exact e⟩
  rw [upd_ne (ne_of_none e h)]; exact e
/-- a new thing that is not written is laid -/
theorem Rel.laid (r : Rel G M S H) {p : Addr} {o : HO} (h : H p = none) : Rel G M S (upd H p o) := by
  refine ⟨r.len, r.nd, fun i a u hi hu => (r.at_ i a u hi hu).ext (Ext.new h) ?_, hid_upd r.hid (.inl (r.freshx h)), r.dis, fun p hp => tab_new (r.tab p hp) h⟩
  exact upd_ne (fun q => r.fresh h (q ▸ List.mem_of_getElem? hi))
/-- a new thing that may be written is laid -/
theorem Ext.newObj {p : Addr} {o : HO} (h : H p = none) : Ext M H ⟨M.m ++ [p], M.x⟩ (upd H p o) := by
  refine ⟨⟨[p], rfl, fun a ha => by rw [List.mem_singleton.mp ha]; exact h⟩, ⟨[], by simp, by simp⟩, fun a u e _ _ => ?_, upd_dom, fun a o u e => by rw [upd_ne (ne_of_none e h)]; exact e⟩
  rw [upd_ne (ne_of_none e h)]; exact e
theorem Rel.laidObj (r : Rel G M S H) {p : Addr} {o : HO} {u : MO} (h : H p = none) (new : ORep G ⟨M.m ++ [p], M.x⟩ (upd H p o) p u) : Rel G ⟨M.m ++ [p], M.x⟩ (S ++ [u]) (upd H p o) := by
  refine ⟨by simp [r.len], ?_, fun i a w hi hw => ?_, hid_upd r.hid (.inl (r.freshx h)), fun a ha z => (List.mem_append.mp z).elim (r.dis a ha) fun z => r.freshx h (by rw [← List.mem_singleton.mp z]; exact ha), fun p hp => tab_new (r.tab p hp) h⟩
  · show (M.m ++ [p]).Nodup
    rw [List.nodup_append]
    refine ⟨r.nd, by simp, fun a ha b hb => ?_⟩
    rw [List.mem_singleton.mp hb]
    exact fun q => r.fresh h (q ▸ ha)
  · change (M.m ++ [p])[i]? = some a at hi
    by_cases q : i < M.m.length
    · rw [List.getElem?_append_left q] at hi
      rw [List.getElem?_append_left (r.len ▸ q)] at hw
      refine (r.at_ i a w hi hw).ext (Ext.newObj h) (upd_ne (fun z => r.fresh h (z ▸ List.mem_of_getElem? hi)))
    · have e : i = M.m.length := by
        have := (List.getElem?_eq_some_iff.mp hi).1
        rw [List.length_append, List.length_singleton] at this
        omega
      subst e
      rw [List.getElem?_append_right (Nat.le_refl _), Nat.sub_self] at hi
      rw [r.len, List.getElem?_append_right (Nat.le_refl _), Nat.sub_self] at hw
      cases hi; cases hw
      exact new
/-- an object is written -/
theorem Ext.put {i : Nat} {a : Addr} {o : HO} (hi : M.m[i]? = some a) (nf : ∀ o u, H a ≠ some (.frz o u)) : Ext M H M (upd H a o) := by
  refine ⟨⟨[], by simp, by simp⟩, ⟨[], by simp, by simp⟩, fun b u e n _ => ?_, upd_dom, fun b o u e => by rw [upd_ne (fun z => nf o u (by rw [← z]; exact e))]; exact e⟩
  rw [upd_ne (fun q => n (by rw [q]; exact List.mem_of_getElem? hi))]; exact e
theorem Rel.put (r : Rel G M S H) {i : Nat} {a : Addr} {o : HO} {u : MO} (hi : M.m[i]? = some a) (nf : ∀ o u, H a ≠ some (.frz o u)) (new : ORep G M (upd H a o) a u) : Rel G M (S.set i u) (upd H a o) := by
  have hj : i < S.length := by rw [← r.len]; exact (List.getElem?_eq_some_iff.mp hi).1
  have old := orep_plain (r.at_ i a S[i] hi (List.getElem?_eq_getElem hj))
  refine ⟨by simp [r.len], r.nd, fun j b w hj hw => ?_, hid_upd r.hid (.inl fun z => r.dis a z (List.mem_of_getElem? hi)), r.dis, fun p hp => tab_upd (r.tab p hp) old⟩
  by_cases q : i = j
  · subst q
    rw [hi] at hj; cases hj
    rw [List.getElem?_set_self (r.len ▸ (List.getElem?_eq_some_iff.mp hi).1)] at hw
    cases hw; exact new
  · rw [List.getElem?_set_ne q] at hw
    refine (r.at_ j b w hj hw).ext (Ext.put hi nf) (upd_ne fun z => q ?_)
    subst z
    have h1 := List.getElem?_eq_some_iff.mp hi
    have h2 := List.getElem?_eq_some_iff.mp hj
    exact (List.getElem_inj r.nd).mp (h1.2.trans h2.2.symm)
theorem paired_imp2 {α β : Type} {F F' : α → β → Prop} (h : ∀ a b, F a b → F' a b) : ∀ {l1 : List α} {l2 : List β}, Paired F l1 l2 → Paired F' l1 l2
  | _, _, .nil => .nil
  | _, _, .cons r t => .cons (h _ _ r) (paired_imp2 h t)
theorem ORep.imp {M1 M2 : Mx} {H1 H2 : Hp} {a : Addr} {o : MO} (f : ∀ v d, Rep G M1 H1 v d → Rep G M2 H2 v d) (fs : ∀ v d, Reps G M1 H1 v d → Reps G M2 H2 v d) (e : H2 a = H1 a) (h : ORep G M1 H1 a o) : ORep G M2 H2 a o := by
  cases o with
  | lst xs => obtain ⟨vs, h, z, r⟩ := h; exact ⟨vs, e.trans h, z, fs _ _ r⟩
  | dK xs => obtain ⟨vs, h, z, r⟩ := h; exact ⟨vs, e.trans h, z, paired_imp2 (fun _ _ q => ⟨q.1, f _ _ q.2⟩) r⟩
  | dT xs => obtain ⟨vs, h, z, r⟩ := h; exact ⟨vs, e.trans h, z, paired_imp2 (fun _ _ q => ⟨q.1, f _ _ q.2⟩) r⟩
  | ins c fs => obtain ⟨dx, vs, h, r⟩ := h; exact ⟨dx, vs, e.trans h, paired_imp2 (fun _ _ q => ⟨q.1, f _ _ q.2⟩) r⟩
  | lck xs => obtain ⟨o, vs, h, z, r⟩ := h; exact ⟨o, vs, e.trans h, z, paired_imp2 (fun _ _ q => ⟨q.1, f _ _ q.2⟩) r⟩
  | lckT xs => obtain ⟨o, vs, h, z, r⟩ := h; exact ⟨o, vs, e.trans h, z, paired_imp2 (fun _ _ q => ⟨q.1, f _ _ q.2⟩) r⟩
  | out => exact h
/-- a hidden thing is laid | turned | known -/
theorem Rel.hide (r : Rel G M S H) {p : Addr} {o : HO} (h : H p = none) (pl : Hid o := by exact True.intro) : Rel G ⟨M.m, p :: M.x⟩ S (upd H p o) := by
  refine ⟨r.len, r.nd, fun i a u hi hu => (r.at_ i a u hi hu).imp (fun _ _ q => q.hide h) (fun _ _ q => q.hide h) (upd_ne (fun q => r.fresh h (q ▸ List.mem_of_getElem? hi))), fun a ha => ?_, fun a ha => (List.mem_cons.mp ha).elim (fun z => by rw [z]; exact r.fresh h) (r.dis a), fun p hp => tab_new (r.tab p hp) h⟩
  rcases List.mem_cons.mp ha with rfl | ha
  · rw [upd_same]; exact ⟨o, rfl, pl⟩
  · exact hid_upd r.hid (.inr pl) a ha
theorem Rel.turn (r : Rel G M S H) {p : Addr} {o : HO} (hp : p ∈ M.x) (n : p ∉ M.m) (pl : Hid o := by exact True.intro) : Rel G M S (upd H p o) :=
  ⟨r.len, r.nd, fun i a u hi hu => (r.at_ i a u hi hu).imp (fun _ _ q => q.hid hp) (fun _ _ q => q.hid hp) (upd_ne (fun q => n (by rw [← q]; exact List.mem_of_getElem? hi))), hid_upd r.hid (.inr pl), r.dis, fun t ht => tab_upd (r.tab t ht) fun u e => by
    obtain ⟨o, e2, h⟩ := r.hid p hp
    rw [e] at e2; cases e2; exact h.pl⟩
theorem Rel.sub {m x y : List Addr} (s : ∀ a ∈ y, a ∈ x) (r : Rel G ⟨m, x⟩ S H) : Rel G ⟨m, y⟩ S H :=
  ⟨r.len, r.nd, fun i a u hi hu => (r.at_ i a u hi hu).imp (fun _ _ q => q.sub s) (fun _ _ q => q.sub s) rfl, fun a ha => r.hid a (s a ha), fun a ha => r.dis a (s a ha), r.tab⟩
theorem Rel.show_ {m x : List Addr} {p : Addr} (r : Rel G ⟨m, p :: x⟩ S H) : Rel G ⟨m, x⟩ S H :=
  ⟨r.len, r.nd, fun i a u hi hu => (r.at_ i a u hi hu).imp (fun _ _ q => q.show_) (fun _ _ q => q.show_) rfl, fun a ha => r.hid a (List.mem_cons_of_mem _ ha), fun a ha => r.dis a (List.mem_cons_of_mem _ ha), r.tab⟩
end

/-! ### results -/
inductive R (α : Type) where
  | ok (a : α) (S : MS) | exc (c : Nat) (S : MS) | bad
@[inline] def R.bind {α β : Type} (r : R α) (k : α → MS → R β) : R β := match r with
  | .ok a S => k a S
  | .exc c S => .exc c S
  | .bad => .bad
/-- an option as a result -/
def ofO {α : Type} (o : Option α) (S : MS) : R α := match o with
  | some a => .ok a S
  | none => .bad
def ofOS {α : Type} (o : Option (α × MS)) : R α := match o with
  | some (a, S) => .ok a S
  | none => .bad
/-- what a result asks: P relates the values of the machine to the data -/
def Post {α β : Type} (G : Gx) (W : WX) (σ : L2.St) (M : Mx) (H : Hp) (P : Mx → Hp → β → α → Prop) (r : R α) (Q : β → Hp → Prop) : Prop := match r with
  | .ok a S' => ∀ M' H' b, Ext M H M' H' → Rel G M' S' H' → P M' H' b a → Q b H'
  | .exc c S' => ∀ M' H', Ext M H M' H' → Rel G M' S' H' → W (.ref (G.ca c)) none σ H'
  | .bad => False
section
variable {α β γ δ : Type} {G : Gx} {W : WX} {σ : L2.St} {M M1 : Mx} {H H1 : Hp} {P : Mx → Hp → β → α → Prop} {P' : Mx → Hp → γ → δ → Prop}
theorem Post.ext (e : Ext M H M1 H1) {r : R α} {Q : β → Hp → Prop} (h : Post G W σ M H P r Q) : Post G W σ M1 H1 P r Q := by
  cases r with
  | ok a S => exact fun M' H' b e' r' p => h M' H' b (e.trans e') r' p
  | exc c S => exact fun M' H' e' r' => h M' H' (e.trans e') r'
  | bad => exact h
theorem Post.bind {r : R α} {k : α → MS → R δ} {Q : γ → Hp → Prop} (h : Post G W σ M H P' (r.bind k) Q) :
    Post G W σ M H P r (fun b H1 => ∃ M1 S1 a, Ext M H M1 H1 ∧ Rel G M1 S1 H1 ∧ P M1 H1 b a ∧ Post G W σ M1 H1 P' (k a S1) Q) := by
  cases r with
  | ok a S => exact fun M' H' b e r' p => ⟨M', S, a, e, r', p, h.ext e⟩
  | exc c S => exact h
  | bad => exact h
theorem Post.mono {r : R α} {Q Q' : β → Hp → Prop} (h : Post G W σ M H P r Q) (hq : ∀ M' H' b, Ext M H M' H' → Q b H' → Q' b H') : Post G W σ M H P r Q' := by
  cases r with
  | ok a S => exact fun M' H' b e r' p => hq M' H' b e (h M' H' b e r' p)
  | exc c S => exact h
  | bad => exact h
end

/-! ### slots -/
def EnvR (G : Gx) (M : Mx) (H : Hp) (σ : L2.St) (ρ : En) : Prop := σ.length = ρ.length ∧ ∀ (i : Nat) (d : D), ρ[i]? = some (some d) → ∃ v, σ[i]? = some (some v) ∧ Rep G M H v d
section
variable {G : Gx} {M M' : Mx} {H H' : Hp} {σ : L2.St} {ρ : En}
theorem EnvR.ext (h : EnvR G M H σ ρ) (e : Ext M H M' H') : EnvR G M' H' σ ρ := ⟨h.1, fun i d hd => let ⟨v, hv, r⟩ := h.2 i d hd; ⟨v, hv, r.ext e⟩⟩
theorem EnvR.extW' (h : EnvR G M H σ ρ) (e : ExtW M H M' H') : EnvR G M' H' σ ρ := ⟨h.1, fun i d hd => let ⟨v, hv, r⟩ := h.2 i d hd; ⟨v, hv, r.extW e⟩⟩
theorem EnvR.set (h : EnvR G M H σ ρ) {v : V} {d : D} (r : Rep G M H v d) (i : Nat) : EnvR G M H (σ.set i (some v)) (ρ.set i (some d)) := by
  refine ⟨by simp [h.1], fun j e he => ?_⟩
  by_cases q : i = j
  · subst q
    by_cases z : i < ρ.length
    · rw [List.getElem?_set_self z] at he
      cases he
      exact ⟨v, List.getElem?_set_self (h.1 ▸ z), r⟩
    · rw [List.getElem?_eq_none (by simp; omega)] at he; cases he
  · rw [List.getElem?_set_ne q] at he ⊢
    exact h.2 j e he
theorem EnvR.unset (h : EnvR G M H σ ρ) (i : Nat) : EnvR G M H (σ.set i none) (ρ.set i none) := by
  refine ⟨by simp [h.1], fun j e he => ?_⟩
  by_cases q : i = j
  · subst q
    by_cases z : i < ρ.length
    · rw [List.getElem?_set_self z] at he; cases he
    · rw [List.getElem?_eq_none (by simp; omega)] at he; cases he
  · rw [List.getElem?_set_ne q] at he ⊢
    exact h.2 j e he
def wipeD (ρ : En) : List Nat → En
  | [] => ρ
  | v :: vs => (wipeD ρ vs).set v none
theorem EnvR.wipe (h : EnvR G M H σ ρ) : ∀ vs : List Nat, EnvR G M H (wipe σ vs) (wipeD ρ vs)
  | [] => h
  | v :: vs => (EnvR.wipe h vs).unset v
end

/-! ### the canonical readings -/
def tD (G : Gx) (W : WX) (f : En → MS → R D) : TE := fun σ H Q => ∃ M S ρ, Rel G M S H ∧ EnvR G M H σ ρ ∧ Post G W σ M H (Rep G) (f ρ S) Q
def tT (G : Gx) (W : WX) (f : En → MS → R Bool) : TT := fun σ H Q => ∃ M S ρ, Rel G M S H ∧ EnvR G M H σ ρ ∧ Post G W σ M H (fun _ _ b c => b = c) (f ρ S) Q
def tA (G : Gx) (W : WX) (f : En → MS → R (List D)) : TA := fun σ H Q => ∃ M S ρ, Rel G M S H ∧ EnvR G M H σ ρ ∧ Post G W σ M H (Reps G) (f ρ S) Q
/-- a new list, not yet known to anybody -/
def PostL (G : Gx) (W : WX) (σ : L2.St) (M : Mx) (H : Hp) (r : R (List D)) (Q : VK) : Prop := match r with
  | .ok ds S' => ∀ M' H' p vs, Ext M H M' H' → Rel G ⟨M'.m, p :: M'.x⟩ S' H' → H' p = some (.lst vs) → H p = none → p ∉ M'.m → p ∉ M'.x → vs.length ≤ sizeLine → Reps G ⟨M'.m, p :: M'.x⟩ H' vs ds → Q (.ref p) H'
  | .exc c S' => ∀ M' H', Ext M H M' H' → Rel G M' S' H' → W (.ref (G.ca c)) none σ H'
  | .bad => False
def tL (G : Gx) (W : WX) (f : En → MS → R (List D)) : TE := fun σ H Q => ∃ M S ρ, Rel G M S H ∧ EnvR G M H σ ρ ∧ PostL G W σ M H (f ρ S) Q
section
variable {G : Gx} {W : WX} {σ : L2.St} {M M1 : Mx} {H H1 : Hp}
theorem PostL.ext (e : Ext M H M1 H1) {r : R (List D)} {Q : VK} (h : PostL G W σ M H r Q) : PostL G W σ M1 H1 r Q := by
  cases r with
  | ok a S => exact fun M' H' p vs e' r' hp np n1 n2 z rs => h M' H' p vs (e.trans e') r' hp (by
      cases q : H p with
      | none => rfl
      | some o => exact absurd np (e.dom p (by rw [q]; exact Option.some_ne_none o))) n1 n2 z rs
  | exc c S => exact fun M' H' e' r' => h M' H' (e.trans e') r'
  | bad => exact h
end
mutual
theorem Rep.own {G : Gx} {m x : List Addr} {H : Hp} {p : Addr} : ∀ {v : V} {d : D}, Rep G ⟨m, p :: x⟩ H v d → Rep G ⟨m ++ [p], x⟩ H v d
  | _, _, .non => .non
  | _, _, .bl b => .bl b
  | _, _, .int i => .int i
  | _, _, .str x => .str x
  | _, _, .ty n => .ty n
  | _, _, .top c => .top c
  | _, _, .tup h n k z r => .tup h (fun q => (List.mem_append.mp q).elim n fun q => k (by rw [List.mem_singleton.mp q]; exact List.mem_cons_self)) (fun q => k (List.mem_cons_of_mem _ q)) z (Reps.own r)
  | _, _, .exn h n k => .exn h (fun q => (List.mem_append.mp q).elim n fun q => k (by rw [List.mem_singleton.mp q]; exact List.mem_cons_self)) (fun q => k (List.mem_cons_of_mem _ q))
  | _, _, .lst h n k z r => .lst h (fun q => (List.mem_append.mp q).elim n fun q => k (by rw [List.mem_singleton.mp q]; exact List.mem_cons_self)) (fun q => k (List.mem_cons_of_mem _ q)) z (Reps.own r)
  | _, _, .frz h n k z r => .frz h (fun q => (List.mem_append.mp q).elim n fun q => k (by rw [List.mem_singleton.mp q]; exact List.mem_cons_self)) (fun q => k (List.mem_cons_of_mem _ q)) z (Reps.own r)
  | _, _, .frk h z r => .frk h z (Reps.own r)
  | _, _, .obj (i := i) h => .obj (i := i) (by
    have h' : m[i]? = some _ := h
    show (m ++ [p])[i]? = some _
    rw [List.getElem?_append_left (List.getElem?_eq_some_iff.mp h').1]
    exact h')
theorem Reps.own {G : Gx} {m x : List Addr} {H : Hp} {p : Addr} : ∀ {vs : List V} {ds : List D}, Reps G ⟨m, p :: x⟩ H vs ds → Reps G ⟨m ++ [p], x⟩ H vs ds
  | _, _, .nil => .nil
  | _, _, .cons r t => .cons (Rep.own r) (Reps.own t)
end
/-- a hidden thing becomes an object -/
theorem Rel.own {G : Gx} {m x : List Addr} {H : Hp} {S : MS} {p : Addr} {u : MO} (r : Rel G ⟨m, p :: x⟩ S H) (n : p ∉ m) (nx : p ∉ x) (new : ORep G ⟨m ++ [p], x⟩ H p u) : Rel G ⟨m ++ [p], x⟩ (S ++ [u]) H := by
  have rl : m.length = S.length := r.len
  refine ⟨by simp [rl], ?_, fun i a w hi hw => ?_, fun a ha => r.hid a (List.mem_cons_of_mem _ ha), fun a ha z => (List.mem_append.mp z).elim (r.dis a (List.mem_cons_of_mem _ ha)) fun z => nx (by rw [← List.mem_singleton.mp z]; exact ha), r.tab⟩
  · show (m ++ [p]).Nodup
    rw [List.nodup_append]
    refine ⟨r.nd, by simp, fun a ha b hb => ?_⟩
    rw [List.mem_singleton.mp hb]
    exact fun q => n (q ▸ ha)
  · change (m ++ [p])[i]? = some a at hi
    by_cases q : i < m.length
    · rw [List.getElem?_append_left q] at hi
      rw [List.getElem?_append_left (rl ▸ q)] at hw
      exact (r.at_ i a w hi hw).imp (fun _ _ q => q.own) (fun _ _ q => q.own) rfl
    · have e : i = m.length := by
        have := (List.getElem?_eq_some_iff.mp hi).1
        rw [List.length_append, List.length_singleton] at this
        omega
      subst e
      rw [List.getElem?_append_right (Nat.le_refl _), Nat.sub_self] at hi
      rw [rl, List.getElem?_append_right (Nat.le_refl _), Nat.sub_self] at hw
      cases hi; cases hw
      exact new
theorem Ext.own {M M' : Mx} {H H' : Hp} {p : Addr} (e : Ext M H M' H') (h : H p = none) : Ext M H ⟨M'.m ++ [p], M'.x⟩ H' := by
  obtain ⟨l, q, hl⟩ := e.more
  refine ⟨⟨l ++ [p], by show M'.m ++ [p] = _; rw [q, List.append_assoc], fun a ha => ?_⟩, e.hidm, fun a o h n nt => e.keep a o h n nt, e.dom, e.frz⟩
  rcases List.mem_append.mp ha with z | z
  · exact hl a z
  · rw [List.mem_singleton.mp z]; exact h
/-- a new thing is hidden; what is hidden may be forgotten -/
theorem Ext.hide {M : Mx} {H : Hp} {p : Addr} {o : HO} (h : H p = none) : Ext M H ⟨M.m, p :: M.x⟩ (upd H p o) := by
  refine ⟨⟨[], by simp, by simp⟩, ⟨[p], rfl, fun a ha => by rw [List.mem_singleton.mp ha]; exact h⟩, fun a u e _ _ => ?_, upd_dom, fun a o u e => by rw [upd_ne (ne_of_none e h)]; exact e⟩
  rw [upd_ne (ne_of_none e h)]; exact e
theorem Ext.sub {M M' : Mx} {H H' : Hp} (e : Ext M H M' H') : Ext M H ⟨M'.m, M.x⟩ H' := ⟨e.more, ⟨[], rfl, by simp⟩, fun a o h n nt => e.keep a o h n nt, e.dom, e.frz⟩
theorem Ext.subx {M M' : Mx} {H H' : Hp} (e : Ext M H M' H') : ∀ a ∈ M.x, a ∈ M'.x := fun a ha => by
  obtain ⟨l, q, _⟩ := e.hidm
  rw [q]; exact List.mem_append_right _ ha
theorem ExtW.turn {M : Mx} {H H0 : Hp} {M0 : Mx} {p : Addr} {o : HO} (e : ExtW M0 H0 M H) (h : p ∈ M0.x) (nf : ∀ o u, H0 p ≠ some (.frz o u)) : ExtW M0 H0 M (upd H p o) :=
  ⟨e.more, e.hidm, fun a u q n k nt => by rw [upd_ne (fun z => k (by rw [z]; exact h))]; exact e.keep a u q n k nt, fun a q => upd_dom a (e.dom a q), fun b o u q => by rw [upd_ne (fun z => nf o u (by rw [← z]; exact q))]; exact e.frz b o u q⟩
/-- a hidden thing turns -/
theorem Ext.turn {M : Mx} {H H0 : Hp} {M0 : Mx} {p : Addr} {o : HO} (e : Ext M0 H0 M H) (h : H0 p = none) : Ext M0 H0 M (upd H p o) :=
  ⟨e.more, e.hidm, fun a u q n nt => by rw [upd_ne (ne_of_none q h)]; exact e.keep a u q n nt, fun a q => upd_dom a (e.dom a q), fun b o u q => by rw [upd_ne (ne_of_none q h)]; exact e.frz b o u q⟩
theorem fresh_back {M M' : Mx} {H H' : Hp} (x : Ext M H M' H') {p : Addr} (np : H' p = none) : H p = none := by
  cases q : H p with
  | none => rfl
  | some o => exact absurd np (x.dom p (by rw [q]; exact Option.some_ne_none o))
end Dn

namespace Dn
open PySem PySem.Spec PyProof.Rows L2

/-! ### weaker readings -/
section
variable {X : Cx} {e : Expr} {es : List Expr} {st : Stmt} {sts : List Stmt}
theorem pe_imp {t t' : TE} (h : PE X e t) (i : ∀ σ H Q, t' σ H Q → t σ H Q) : PE X e t' := ⟨fun pins s σ H Q I hw => h.run pins s σ H Q I (i σ H Q hw)⟩
theorem pt_imp {t t' : TT} (h : PT X e t) (i : ∀ σ H Q, t' σ H Q → t σ H Q) : PT X e t' := ⟨fun pins s σ H Q I hw => h.run pins s σ H Q I (i σ H Q hw)⟩
theorem pw_imp {t t' : TT} (h : PW X e t) (i : ∀ σ H Q, t' σ H Q → t σ H Q) : PW X e t' := ⟨fun wh pins s σ H Q I hw => h.run wh pins s σ H Q I (i σ H Q hw)⟩
theorem pa_imp {t t' : TA} (h : PA X es t) (i : ∀ σ H Q, t' σ H Q → t σ H Q) : PA X es t' := ⟨fun pos pins s σ H Q I hw => h.run pos pins s σ H Q I (i σ H Q hw)⟩
theorem ps_imp {t t' : TS} (h : PS X st t) (i : ∀ D σ H, t' D σ H → t D σ H) : PS X st t' := ⟨fun pins s σ H D I hw => h.run pins s σ H D I (i D σ H hw)⟩
theorem pss_imp {t t' : TS} (h : PSs X sts t) (i : ∀ D σ H, t' D σ H → t D σ H) : PSs X sts t' := ⟨fun pins s σ H D I hw => h.run pins s σ H D I (i D σ H hw)⟩
theorem pi_imp {tg : Expr} {t t' : TI} (h : PI X tg e t) (i : ∀ σ H R, t' σ H R → t σ H R) : PI X tg e t' := ⟨fun pins s σ H R I hw => h.run pins s σ H R I (i σ H R hw)⟩
theorem pi_or {tg : Expr} {t t' : TI} (h : PI X tg e t) (h' : PI X tg e t') : PI X tg e (fun σ H R => t σ H R ∨ t' σ H R) := ⟨fun pins s σ H R I hw => hw.elim (h.run pins s σ H R I) (h'.run pins s σ H R I)⟩
theorem pg_imp {t t' : TG} (h : PG X e t) (i : ∀ v σ H Q, t' v σ H Q → t v σ H Q) : PG X e t' := ⟨fun pins s σ H v u Q I r hw => h.run pins s σ H v u Q I r (i v σ H Q hw)⟩
theorem pe_or2 {t t' : TE} (h : PE X e t) (h' : PE X e t') : PE X e (fun σ H R => t σ H R ∨ t' σ H R) := ⟨fun pins s σ H R I hw => hw.elim (h.run pins s σ H R I) (h'.run pins s σ H R I)⟩
end

/-! ### steps of a reading -/
section
variable {α β : Type} {G : Gx} {W : WX} {σ : L2.St} {M : Mx} {H : Hp} {S : MS} {ρ : En} {P : Mx → Hp → β → α → Prop}
theorem tD_mono {f : En → MS → R D} {Q Q' : VK} (h : tD G W f σ H Q) (hq : ∀ v H', Q v H' → Q' v H') : tD G W f σ H Q' := by
  obtain ⟨M, S, ρ, r, e, p⟩ := h
  exact ⟨M, S, ρ, r, e, p.mono fun _ H' b _ q => hq b H' q⟩
theorem tT_mono {f : En → MS → R Bool} {Q Q' : Bool → Hp → Prop} (h : tT G W f σ H Q) (hq : ∀ v H', Q v H' → Q' v H') : tT G W f σ H Q' := by
  obtain ⟨M, S, ρ, r, e, p⟩ := h
  exact ⟨M, S, ρ, r, e, p.mono fun _ H' b _ q => hq b H' q⟩
theorem tA_mono {f : En → MS → R (List D)} {Q Q' : List V → Hp → Prop} (h : tA G W f σ H Q) (hq : ∀ v H', Q v H' → Q' v H') : tA G W f σ H Q' := by
  obtain ⟨M, S, ρ, r, e, p⟩ := h
  exact ⟨M, S, ρ, r, e, p.mono fun _ H' b _ q => hq b H' q⟩
theorem d_bind {f : En → MS → R D} {k : D → MS → R α} {Q : β → Hp → Prop} (h : Post G W σ M H P ((f ρ S).bind k) Q) (r : Rel G M S H) (e : EnvR G M H σ ρ) :
    tD G W f σ H (fun v H1 => ∃ M1 S1 d, Ext M H M1 H1 ∧ Rel G M1 S1 H1 ∧ Rep G M1 H1 v d ∧ EnvR G M1 H1 σ ρ ∧ Post G W σ M1 H1 P (k d S1) Q) :=
  ⟨M, S, ρ, r, e, (Post.bind h).mono fun _ _ _ _ ⟨M1, S1, a, x, r1, p, q⟩ => ⟨M1, S1, a, x, r1, p, e.ext x, q⟩⟩
theorem t_bind {f : En → MS → R Bool} {k : Bool → MS → R α} {Q : β → Hp → Prop} (h : Post G W σ M H P ((f ρ S).bind k) Q) (r : Rel G M S H) (e : EnvR G M H σ ρ) :
    tT G W f σ H (fun v H1 => ∃ M1 S1, Ext M H M1 H1 ∧ Rel G M1 S1 H1 ∧ EnvR G M1 H1 σ ρ ∧ Post G W σ M1 H1 P (k v S1) Q) :=
  ⟨M, S, ρ, r, e, (Post.bind h).mono fun _ _ _ _ ⟨M1, S1, a, x, r1, p, q⟩ => ⟨M1, S1, x, r1, e.ext x, p ▸ q⟩⟩
theorem a_bind {f : En → MS → R (List D)} {k : List D → MS → R α} {Q : β → Hp → Prop} (h : Post G W σ M H P ((f ρ S).bind k) Q) (r : Rel G M S H) (e : EnvR G M H σ ρ) :
    tA G W f σ H (fun v H1 => ∃ M1 S1 d, Ext M H M1 H1 ∧ Rel G M1 S1 H1 ∧ Reps G M1 H1 v d ∧ EnvR G M1 H1 σ ρ ∧ Post G W σ M1 H1 P (k d S1) Q) :=
  ⟨M, S, ρ, r, e, (Post.bind h).mono fun _ _ _ _ ⟨M1, S1, a, x, r1, p, q⟩ => ⟨M1, S1, a, x, r1, p, e.ext x, q⟩⟩
theorem al_bind {f : En → MS → R (List D)} {k : List D → MS → R (List D)} {Q : VK} (h : PostL G W σ M H ((f ρ S).bind k) Q) (r : Rel G M S H) (e : EnvR G M H σ ρ) :
    tA G W f σ H (fun v H1 => ∃ M1 S1 d, Ext M H M1 H1 ∧ Rel G M1 S1 H1 ∧ Reps G M1 H1 v d ∧ EnvR G M1 H1 σ ρ ∧ PostL G W σ M1 H1 (k d S1) Q) := by
  refine ⟨M, S, ρ, r, e, ?_⟩
  cases z : f ρ S with
  | bad => rw [z] at h; exact h
  | exc c S' => rw [z] at h; exact h
  | ok ds S' => rw [z] at h; exact fun M1 H1 b x1 r1 p1 => ⟨M1, S', ds, x1, r1, p1, e.ext x1, PostL.ext x1 h⟩
theorem dl_bind {f : En → MS → R D} {k : D → MS → R (List D)} {Q : VK} (h : PostL G W σ M H ((f ρ S).bind k) Q) (r : Rel G M S H) (e : EnvR G M H σ ρ) :
    tD G W f σ H (fun v H1 => ∃ M1 S1 d, Ext M H M1 H1 ∧ Rel G M1 S1 H1 ∧ Rep G M1 H1 v d ∧ EnvR G M1 H1 σ ρ ∧ PostL G W σ M1 H1 (k d S1) Q) := by
  refine ⟨M, S, ρ, r, e, ?_⟩
  cases z : f ρ S with
  | bad => rw [z] at h; exact h
  | exc c S' => rw [z] at h; exact h
  | ok ds S' => rw [z] at h; exact fun M1 H1 b x1 r1 p1 => ⟨M1, S', ds, x1, r1, p1, e.ext x1, PostL.ext x1 h⟩
/-- an option's end -/
theorem post_ofO {o : Option α} {Q : β → Hp → Prop} (h : Post G W σ M H P (ofO o S) Q) : ∃ a, o = some a ∧ ∀ M' H' b, Ext M H M' H' → Rel G M' S H' → P M' H' b a → Q b H' := by
  cases o with
  | none => exact h.elim
  | some a => exact ⟨a, rfl, h⟩
end

/-! ### expressions -/
def eV (i : Nat) : En → MS → R D := fun ρ S => match ρ[i]? with
  | some (some d) => .ok d S
  | _ => .bad
def eC (d : D) : En → MS → R D := fun _ S => .ok d S
def eOp (g : MS → D → D → Option D) (f1 f2 : En → MS → R D) : En → MS → R D := fun ρ S => (f1 ρ S).bind fun x S1 => (f2 ρ S1).bind fun y S2 => ofO (g S2 x y) S2
def eUn (g : MS → D → Option D) (f : En → MS → R D) : En → MS → R D := fun ρ S => (f ρ S).bind fun x S1 => ofO (g S1 x) S1
def aN : En → MS → R (List D) := fun _ S => .ok [] S
def aC (f : En → MS → R D) (fs : En → MS → R (List D)) : En → MS → R (List D) := fun ρ S => (f ρ S).bind fun x S1 => (fs ρ S1).bind fun xs S2 => .ok (x :: xs) S2
def eB (g : MS → List D → Option D) (fs : En → MS → R (List D)) : En → MS → R D := fun ρ S => (fs ρ S).bind fun xs S1 => ofO (g S1 xs) S1
def eF (F : List D → MS → R D) (fs : En → MS → R (List D)) : En → MS → R D := fun ρ S => (fs ρ S).bind fun xs S1 => F xs S1
def eTup (fs : En → MS → R (List D)) : En → MS → R D := fun ρ S => (fs ρ S).bind fun xs S1 => if xs.length ≤ 1000 then .ok (.tup xs) S1 else .bad
def eLst (fs : En → MS → R (List D)) : En → MS → R (List D) := fun ρ S => (fs ρ S).bind fun xs S1 => if xs.length ≤ 1000 then .ok xs S1 else .bad
def eIf (c : En → MS → R Bool) (f g : En → MS → R D) : En → MS → R D := fun ρ S => (c ρ S).bind fun b S1 => if b = true then f ρ S1 else g ρ S1
/-- a list as a value, as an object -/
def eVal (f : En → MS → R (List D)) : En → MS → R D := fun ρ S => (f ρ S).bind fun xs S1 => .ok (.lst xs) S1
def eObj (f : En → MS → R (List D)) : En → MS → R D := fun ρ S => (f ρ S).bind fun xs S1 => .ok (.obj S1.length) (S1 ++ [.lst xs])
def isB (d : D) : Option Bool := match d with
  | .bl b => some b
  | _ => none
def bT (f : En → MS → R D) : En → MS → R Bool := fun ρ S => (f ρ S).bind fun d S1 => ofO (isB d) S1
def tAndD (f g : En → MS → R Bool) : En → MS → R Bool := fun ρ S => (f ρ S).bind fun b S1 => if b = true then g ρ S1 else .ok false S1
def tOrD (f g : En → MS → R Bool) : En → MS → R Bool := fun ρ S => (f ρ S).bind fun b S1 => if b = true then .ok true S1 else g ρ S1
def tNotD (f : En → MS → R Bool) : En → MS → R Bool := fun ρ S => (f ρ S).bind fun b S1 => .ok (!b) S1
def eAnd (f g : En → MS → R D) : En → MS → R D := fun ρ S => (f ρ S).bind fun d S1 => (ofO (isB d) S1).bind fun b S2 => if b = true then g ρ S2 else .ok (.bl false) S2
def eOr (f g : En → MS → R D) : En → MS → R D := fun ρ S => (f ρ S).bind fun d S1 => (ofO (isB d) S1).bind fun b S2 => if b = true then .ok (.bl true) S2 else g ρ S2
def eNot (f : En → MS → R D) : En → MS → R D := fun ρ S => (f ρ S).bind fun d S1 => (ofO (isB d) S1).bind fun b S2 => .ok (.bl (!b)) S2
def eChain (g g' : MS → D → D → Option D) (fa fb fc : En → MS → R D) : En → MS → R D := fun ρ S => (fa ρ S).bind fun x S1 => (fb ρ S1).bind fun y S2 => (ofO (g S2 x y) S2).bind fun z S3 => (ofO (isB z) S3).bind fun k S4 =>
  if k = true then (fc ρ S4).bind fun w S5 => ofO (g' S5 y w) S5 else .ok (.bl false) S4

/-- an operation's reading serves g -/
def OpD (G : Gx) (r : R2) (g : MS → D → D → Option D) : Prop := ∀ (M : Mx) (S : MS) (H : Hp) (x y : V) (dx dy d : D) (Q : VK), Rel G M S H → Rep G M H x dx → Rep G M H y dy → g S dx dy = some d →
  (∀ H' v, Ext M H M H' → Rel G M S H' → Rep G M H' v d → Q v H') → r x y H Q
def UnD (G : Gx) (r : V → Hp → VK → Prop) (g : MS → D → Option D) : Prop := ∀ (M : Mx) (S : MS) (H : Hp) (x : V) (dx d : D) (Q : VK), Rel G M S H → Rep G M H x dx → g S dx = some d →
  (∀ H' v, Ext M H M H' → Rel G M S H' → Rep G M H' v d → Q v H') → r x H Q
def CallD (G : Gx) (r : List V → Hp → VK → Prop) (g : MS → List D → Option D) : Prop := ∀ (M : Mx) (S : MS) (H : Hp) (xs : List V) (ds : List D) (d : D) (Q : VK), Rel G M S H → Reps G M H xs ds → g S ds = some d →
  (∀ H' v, Ext M H M H' → Rel G M S H' → Rep G M H' v d → Q v H') → r xs H Q
def orG (g g' : MS → D → D → Option D) : MS → D → D → Option D := fun S x y => match g S x y with
  | some d => some d
  | none => g' S x y
def orC (g g' : MS → List D → Option D) : MS → List D → Option D := fun S x => match g S x with
  | some d => some d
  | none => g' S x
section
variable {G : Gx}
theorem OpD.or {r r' : R2} {g g' : MS → D → D → Option D} (h : OpD G r g) (h' : OpD G r' g') : OpD G (fun x y H Q => r x y H Q ∨ r' x y H Q) (orG g g') := by
  intro M S H x y dx dy d Q rl rx ry e q
  unfold orG at e
  cases z : g S dx dy with
  | some w => rw [z] at e; cases e; exact .inl (h M S H x y dx dy _ Q rl rx ry z q)
  | none => rw [z] at e; exact .inr (h' M S H x y dx dy d Q rl rx ry e q)
theorem CallD.or {r r' : List V → Hp → VK → Prop} {g g' : MS → List D → Option D} (h : CallD G r g) (h' : CallD G r' g') : CallD G (fun x H Q => r x H Q ∨ r' x H Q) (orC g g') := by
  intro M S H x dx d Q rl rx e q
  unfold orC at e
  cases z : g S dx with
  | some w => rw [z] at e; cases e; exact .inl (h M S H x dx _ Q rl rx z q)
  | none => rw [z] at e; exact .inr (h' M S H x dx d Q rl rx e q)
end

section
variable {X : Cx} {G : Gx} {W : WX} {a b c : Expr} {fa fb fc : En → MS → R D} {pos : Pos}
theorem den_v (i : Nat) {x : Str} {pos : Pos} (hN : X.N[i]? = some x := by rfl) (hv : Vis X.env.scope x := by first | exact Or.inl rfl | exact Or.inr (Or.inl rfl) | exact Or.inr (Or.inr rfl)) (hd : (x == ("__debug__" : Str)) = false := by decide)
    (hcd : (x == ("__classdict__" : Str)) = false := by decide) : PE X (.Name x pos) (tD G W (eV i)) := by
  refine pe_imp (pe_var hN hv hd hcd) fun σ H Q ⟨M, S, ρ, r, e, h⟩ => ?_
  unfold eV at h
  cases q : ρ[i]? with
  | none => rw [q] at h; exact h.elim
  | some o => cases o with
    | none => rw [q] at h; exact h.elim
    | some d =>
      rw [q] at h
      obtain ⟨v, hv, rv⟩ := e.2 i d q
      exact ⟨v, hv, h M H v (Ext.refl M H) r rv⟩
theorem den_c {e : Expr} {v : V} {d : D} (h : PE X e (tC v)) (hr : ∀ M H, Rep G M H v d) : PE X e (tD G W (eC d)) :=
  pe_imp h fun σ H Q ⟨M, S, ρ, r, e, h⟩ => h M H v (Ext.refl M H) r (hr M H)
theorem den_int {i j pos} : PE X (.Constant (.int i) j pos) (tD G W (eC (.int i))) := den_c pe_int fun _ _ => .int i
theorem den_bl {i j pos} : PE X (.Constant (.bool i) j pos) (tD G W (eC (.bl i))) := den_c pe_bl fun _ _ => .bl i
theorem den_non {j pos} : PE X (.Constant .none j pos) (tD G W (eC .non)) := den_c pe_non fun _ _ => .non
theorem den_str {i j pos} : PE X (.Constant (.str i) j pos) (tD G W (eC (.str i))) := den_c pe_str fun _ _ => .str i
theorem den_op {op : Operator} {r : R2} {g : MS → D → D → Option D} (ho : OpR X (binaryOp op) r) (hg : OpD G r g) (ha : PE X a (tD G W fa)) (hb : PE X b (tD G W fb)) : PE X (.BinOp a op b pos) (tD G W (eOp g fa fb)) := by
  refine pe_imp (pe_op ho ha hb) fun σ H Q ⟨M, S, ρ, r, e, h⟩ => ?_
  refine tD_mono (d_bind h r e) fun x H1 ⟨M1, S1, d1, x1, r1, p1, e1, h1⟩ => ?_
  refine tD_mono (d_bind h1 r1 e1) fun y H2 ⟨M2, S2, d2, x2, r2, p2, e2, h2⟩ => ?_
  obtain ⟨d, hd, q⟩ := post_ofO h2
  exact hg M2 S2 H2 x y d1 d2 d Q r2 (p1.ext x2) p2 hd fun H' v x' r' p' => q M2 H' v x' r' p'
theorem den_un {op : UnaryOp} {r : V → Hp → VK → Prop} {g : MS → D → Option D} (ho : UnR X (unaryOp op) r) (hg : UnD G r g) (ha : PE X a (tD G W fa)) : PE X (.UnaryOp op a pos) (tD G W (eUn g fa)) := by
  refine pe_imp (pe_un ho ha) fun σ H Q ⟨M, S, ρ, r, e, h⟩ => ?_
  refine tD_mono (d_bind h r e) fun x H1 ⟨M1, S1, d1, x1, r1, p1, e1, h1⟩ => ?_
  obtain ⟨d, hd, q⟩ := post_ofO h1
  exact hg M1 S1 H1 x d1 d Q r1 p1 hd fun H' v x' r' p' => q M1 H' v x' r' p'
theorem cmp_read {r : R2} {g : MS → D → D → Option D} (hg : OpD G r g) {σ : L2.St} {H : Hp} {Q : VK} (h : tD G W (eOp g fa fb) σ H Q) : tOp r (tD G W fa) (tD G W fb) σ H Q := by
  obtain ⟨M, S, ρ, r, e, h⟩ := h
  refine tD_mono (d_bind h r e) fun x H1 ⟨M1, S1, d1, x1, r1, p1, e1, h1⟩ => ?_
  refine tD_mono (d_bind h1 r1 e1) fun y H2 ⟨M2, S2, d2, x2, r2, p2, e2, h2⟩ => ?_
  obtain ⟨d, hd, q⟩ := post_ofO h2
  exact hg M2 S2 H2 x y d1 d2 d Q r2 (p1.ext x2) p2 hd fun H' v x' r' p' => q M2 H' v x' r' p'
theorem den_cmp {op : CmpOp} {r : R2} {g : MS → D → D → Option D} (ho : OpR X (compareOp op) r) (hg : OpD G r g) (ha : PE X a (tD G W fa)) (hb : PE X b (tD G W fb)) (hm : behindInMarks op b = false) :
    PE X (.Compare a [op] [b] pos) (tD G W (eOp g fa fb)) := pe_imp (pe_cmpR ho ha hb hm) fun _ _ _ h => cmp_read hg h
/-- a test off a value that is a bool -/
theorem test_read {f : En → MS → R D} {σ : L2.St} {H : Hp} {Q : Bool → Hp → Prop} (h : tT G W (bT f) σ H Q) : tD G W f σ H (fun x H' => ∃ k, x = .bl k ∧ Q k H') := by
  obtain ⟨M, S, ρ, r, e, h⟩ := h
  refine tD_mono (d_bind h r e) fun x H1 ⟨M1, S1, d1, x1, r1, p1, e1, h1⟩ => ?_
  obtain ⟨k, hk, q⟩ := post_ofO h1
  cases d1 with
  | bl b => cases hk; exact ⟨_, p1.bl_inv, q M1 H1 _ (Ext.refl _ _) r1 rfl⟩
  | _ => cases hk
theorem dent_cmp {op : CmpOp} {r : R2} {g : MS → D → D → Option D} (ho : OpR X (compareOp op) r) (hg : OpD G r g) (ha : PE X a (tD G W fa)) (hb : PE X b (tD G W fb)) (hm : behindInMarks op b = false) :
    PT X (.Compare a [op] [b] pos) (tT G W (bT (eOp g fa fb))) := pt_imp (pt_cmpR ho ha hb hm) fun _ _ _ h => cmp_read hg (test_read h)
theorem chain_read {r r' : R2} {g g' : MS → D → D → Option D} (hg : OpD G r g) (hg' : OpD G r' g') {σ : L2.St} {H : Hp} {Q : VK} (h : tD G W (eChain g g' fa fb fc) σ H Q) : tChain r r' (tD G W fa) (tD G W fb) (tD G W fc) σ H Q := by
  obtain ⟨M, S, ρ, r, e, h⟩ := h
  refine tD_mono (d_bind h r e) fun x H1 ⟨M1, S1, d1, x1, r1, p1, e1, h1⟩ => ?_
  refine tD_mono (d_bind h1 r1 e1) fun y H2 ⟨M2, S2, d2, x2, r2, p2, e2, h2⟩ => ?_
  cases z : g S2 d1 d2 with
  | none => rw [z] at h2; exact h2.elim
  | some d =>
    rw [z] at h2
    refine hg M2 S2 H2 x y d1 d2 d _ r2 (p1.ext x2) p2 z fun H3 v x3 r3 p3 => ?_
    cases d with
    | bl k =>
      refine ⟨k, p3.bl_inv, ?_⟩
      have h3 : Post G W σ M2 H2 (Rep G) (if k = true then (fc ρ S2).bind fun w S5 => ofO (g' S5 d2 w) S5 else .ok (.bl false) S2) Q := h2
      cases k with
      | true =>
        rw [if_pos rfl] at h3 ⊢
        refine tD_mono (d_bind (h3.ext x3) r3 (e2.ext x3)) fun w H4 ⟨M4, S4, d4, x4, r4, p4, e4, h4⟩ => ?_
        obtain ⟨d, hd, q⟩ := post_ofO h4
        exact hg' M4 S4 H4 y w d2 d4 d Q r4 ((p2.ext x3).ext x4) p4 hd fun H' v x' r' p' => q M4 H' v x' r' p'
      | false =>
        rw [if_neg Bool.false_ne_true] at h3 ⊢
        exact h3 M2 H3 _ x3 r3 (.bl false)
    | _ => exact h2.elim
theorem den_chain {op op' : CmpOp} {r r' : R2} {g g' : MS → D → D → Option D} (ho : OpR X (compareOp op) r) (ho' : OpR X (compareOp op') r') (hg : OpD G r g) (hg' : OpD G r' g') (ha : PE X a (tD G W fa)) (hb : PE X b (tD G W fb)) (hc : PE X c (tD G W fc))
    (hm : lastMarks [op, op'] [b, c] = false := by with_unfolding_all rfl) : PE X (.Compare a [op, op'] [b, c] pos) (tD G W (eChain g g' fa fb fc)) := pe_imp (pe_chain ho ho' ha hb hc hm) fun _ _ _ h => chain_read hg hg' h
theorem dent_chain {op op' : CmpOp} {r r' : R2} {g g' : MS → D → D → Option D} (ho : OpR X (compareOp op) r) (ho' : OpR X (compareOp op') r') (hg : OpD G r g) (hg' : OpD G r' g') (ha : PE X a (tD G W fa)) (hb : PE X b (tD G W fb)) (hc : PE X c (tD G W fc))
    (hm : lastMarks [op, op'] [b, c] = false := by with_unfolding_all rfl) : PT X (.Compare a [op, op'] [b, c] pos) (tT G W (bT (eChain g g' fa fb fc))) := pt_imp (pt_chain ho ho' ha hb hc hm) fun _ _ _ h => chain_read hg hg' (test_read h)

/-! ### and, or, not, if -/
variable {ft gt : En → MS → R Bool} {rest : List Expr}
theorem dent_and1 (ha : PT X a (tT G W ft)) : PW X (.BoolOp .And [a] pos) (tT G W ft) := pw_and1 ha
theorem dent_or1 (ha : PT X a (tT G W ft)) : PW X (.BoolOp .Or [a] pos) (tT G W ft) := pw_or1 ha
theorem dent_and (ha : PT X a (tT G W ft)) (hb : PW X (.BoolOp .And (b :: rest) pos) (tT G W gt)) : PW X (.BoolOp .And (a :: b :: rest) pos) (tT G W (tAndD ft gt)) := by
  refine pw_imp (pw_and ha hb) fun σ H Q ⟨M, S, ρ, r, e, h⟩ => ?_
  refine tT_mono (t_bind h r e) fun k H1 ⟨M1, S1, x1, r1, e1, h1⟩ => ?_
  cases k with
  | true => rw [if_pos rfl] at h1 ⊢; exact ⟨M1, S1, ρ, r1, e1, h1⟩
  | false => rw [if_neg Bool.false_ne_true] at h1 ⊢; exact h1 M1 H1 _ (Ext.refl _ _) r1 rfl
theorem dent_or (ha : PT X a (tT G W ft)) (hb : PW X (.BoolOp .Or (b :: rest) pos) (tT G W gt)) : PW X (.BoolOp .Or (a :: b :: rest) pos) (tT G W (tOrD ft gt)) := by
  refine pw_imp (pw_or ha hb) fun σ H Q ⟨M, S, ρ, r, e, h⟩ => ?_
  refine tT_mono (t_bind h r e) fun k H1 ⟨M1, S1, x1, r1, e1, h1⟩ => ?_
  cases k with
  | true => rw [if_pos rfl] at h1 ⊢; exact h1 M1 H1 _ (Ext.refl _ _) r1 rfl
  | false => rw [if_neg Bool.false_ne_true] at h1 ⊢; exact ⟨M1, S1, ρ, r1, e1, h1⟩
theorem dent_not (ha : PT X a (tT G W ft)) : PT X (.UnaryOp .Not a pos) (tT G W (tNotD ft)) := by
  refine pt_imp (pt_not ha) fun σ H Q ⟨M, S, ρ, r, e, h⟩ => ?_
  refine tT_mono (t_bind h r e) fun k H1 ⟨M1, S1, x1, r1, e1, h1⟩ => ?_
  exact h1 M1 H1 _ (Ext.refl _ _) r1 rfl
theorem den_one {op} (h : PE X a (tD G W fa)) : PE X (.BoolOp op [a] pos) (tD G W fa) := pe_one h
theorem isB_read {d : D} {S : MS} {α β : Type} {P : Mx → Hp → β → α → Prop} {k : Bool → MS → R α} {σ : L2.St} {M : Mx} {H : Hp} {Q : β → Hp → Prop} (h : Post G W σ M H P ((ofO (isB d) S).bind k) Q) : ∃ b, d = .bl b ∧ Post G W σ M H P (k b S) Q := by
  cases d with
  | bl b => exact ⟨b, rfl, h⟩
  | _ => exact h.elim
theorem den_and (ha : PE X a (tD G W fa)) (hb : PE X (.BoolOp .And (b :: rest) pos) (tD G W fb)) : PE X (.BoolOp .And (a :: b :: rest) pos) (tD G W (eAnd fa fb)) := by
  refine pe_imp (pe_and ha hb) fun σ H Q ⟨M, S, ρ, r, e, h⟩ => ?_
  refine tD_mono (d_bind h r e) fun x H1 ⟨M1, S1, d1, x1, r1, p1, e1, h1⟩ => ?_
  obtain ⟨k, rfl, h2⟩ := isB_read h1
  refine ⟨k, p1.bl_inv, ?_⟩
  cases k with
  | true => rw [if_pos rfl] at h2 ⊢; exact ⟨M1, S1, ρ, r1, e1, h2⟩
  | false => rw [if_neg Bool.false_ne_true] at h2 ⊢; exact h2 M1 H1 _ (Ext.refl _ _) r1 (.bl false)
theorem den_or (ha : PE X a (tD G W fa)) (hb : PE X (.BoolOp .Or (b :: rest) pos) (tD G W fb)) : PE X (.BoolOp .Or (a :: b :: rest) pos) (tD G W (eOr fa fb)) := by
  refine pe_imp (pe_or ha hb) fun σ H Q ⟨M, S, ρ, r, e, h⟩ => ?_
  refine tD_mono (d_bind h r e) fun x H1 ⟨M1, S1, d1, x1, r1, p1, e1, h1⟩ => ?_
  obtain ⟨k, rfl, h2⟩ := isB_read h1
  refine ⟨k, p1.bl_inv, ?_⟩
  cases k with
  | true => rw [if_pos rfl] at h2 ⊢; exact h2 M1 H1 _ (Ext.refl _ _) r1 (.bl true)
  | false => rw [if_neg Bool.false_ne_true] at h2 ⊢; exact ⟨M1, S1, ρ, r1, e1, h2⟩
theorem den_not (ha : PE X a (tD G W fa)) : PE X (.UnaryOp .Not a pos) (tD G W (eNot fa)) := by
  refine pe_imp (pe_not ha) fun σ H Q ⟨M, S, ρ, r, e, h⟩ => ?_
  refine tD_mono (d_bind h r e) fun x H1 ⟨M1, S1, d1, x1, r1, p1, e1, h1⟩ => ?_
  obtain ⟨k, rfl, h2⟩ := isB_read h1
  exact ⟨k, p1.bl_inv, h2 M1 H1 _ (Ext.refl _ _) r1 (.bl _)⟩
theorem den_if {c : Expr} (hc : PT X c (tT G W ft)) (ha : PE X a (tD G W fa)) (hb : PE X b (tD G W fb)) : PE X (.IfExp c a b pos) (tD G W (eIf ft fa fb)) := by
  refine pe_imp (pe_ifExp hc ha hb) fun σ H Q ⟨M, S, ρ, r, e, h⟩ => ?_
  refine tT_mono (t_bind h r e) fun k H1 ⟨M1, S1, x1, r1, e1, h1⟩ => ?_
  cases k with
  | true => rw [if_pos rfl] at h1 ⊢; exact ⟨M1, S1, ρ, r1, e1, h1⟩
  | false => rw [if_neg Bool.false_ne_true] at h1 ⊢; exact ⟨M1, S1, ρ, r1, e1, h1⟩

/-! ### arguments, displays, calls -/
variable {es : List Expr} {fs : En → MS → R (List D)}
theorem dena_nil : PA X [] (tA G W aN) := pa_imp pa_nil fun σ H Q ⟨M, S, ρ, r, e, h⟩ => h M H [] (Ext.refl _ _) r .nil
theorem dena_cons (ha : PE X a (tD G W fa)) (hr : PA X es (tA G W fs)) (hs : starEach (a :: es) X.env = (false, eval a X.env) :: starEach es X.env := by rfl) : PA X (a :: es) (tA G W (aC fa fs)) := by
  refine pa_imp (pa_cons ha hr hs) fun σ H Q ⟨M, S, ρ, r, e, h⟩ => ?_
  refine tD_mono (d_bind h r e) fun x H1 ⟨M1, S1, d1, x1, r1, p1, e1, h1⟩ => ?_
  refine tA_mono (a_bind h1 r1 e1) fun y H2 ⟨M2, S2, d2, x2, r2, p2, e2, h2⟩ => ?_
  exact h2 M2 H2 _ (Ext.refl _ _) r2 (.cons (p1.ext x2) p2)
theorem thou {n : Nat} (h : n ≤ 1000) : n ≤ sizeLine := Nat.le_trans h (by decide)
theorem den_tup {k1} (h : PA X es (tA G W fs)) : PE X (.Tuple es k1 pos) (tD G W (eTup fs)) := by
  refine pe_imp (pe_tup h) fun σ H Q ⟨M, S, ρ, r, e, h⟩ => ?_
  refine tA_mono (a_bind h r e) fun y H2 ⟨M2, S2, d2, x2, r2, p2, e2, h2⟩ => ?_
  by_cases z : d2.length ≤ 1000
  · rw [if_pos z] at h2
    have z' : y.length ≤ sizeLine := thou (p2.length ▸ z)
    refine ⟨z', fun p np => h2 M2 _ _ (Ext.new np) (r2.laid np) (.tup upd_same (r2.fresh np) (r2.freshx np) z' (p2.ext (Ext.new np)))⟩
  · rw [if_neg z] at h2; exact h2.elim
theorem denl_lst (h : PA X es (tA G W fs)) : PE X (.List es pos) (tL G W (eLst fs)) := by
  refine pe_imp (pe_lst h) fun σ H Q ⟨M, S, ρ, r, e, h⟩ => ?_
  refine tA_mono (al_bind h r e) fun y H2 ⟨M2, S2, d2, x2, r2, p2, e2, h2⟩ => ?_
  by_cases z : d2.length ≤ 1000
  · rw [if_pos z] at h2
    have z' : y.length ≤ sizeLine := thou (p2.length ▸ z)
    exact ⟨z', fun p np => h2 M2 _ p y (Ext.new np) (r2.hide np) upd_same np (r2.fresh np) (r2.freshx np) z' (p2.hide np)⟩
  · rw [if_neg z] at h2; exact h2.elim
/-- a new list as a value | as an object -/
theorem den_val {f : En → MS → R (List D)} (h : PE X a (tL G W f)) : PE X a (tD G W (eVal f)) := by
  refine pe_imp h fun σ H Q ⟨M, S, ρ, r, e, h⟩ => ⟨M, S, ρ, r, e, ?_⟩
  unfold eVal at h
  cases z : f ρ S with
  | bad => rw [z] at h; exact h.elim
  | exc c S' => rw [z] at h; exact h
  | ok ds S' =>
    rw [z] at h
    intro M1 H1 p vs x1 r1 hp np n1 n2 zl rs
    exact h M1 H1 _ x1 r1.show_ (.lst hp n1 n2 zl rs.show_)
theorem den_obj {f : En → MS → R (List D)} (h : PE X a (tL G W f)) : PE X a (tD G W (eObj f)) := by
  refine pe_imp h fun σ H Q ⟨M, S, ρ, r, e, h⟩ => ⟨M, S, ρ, r, e, ?_⟩
  unfold eObj at h
  cases z : f ρ S with
  | bad => rw [z] at h; exact h.elim
  | exc c S' => rw [z] at h; exact h
  | ok ds S' =>
    rw [z] at h
    intro M1 H1 p vs x1 r1 hp np n1 n2 zl rs
    refine h ⟨M1.m ++ [p], M1.x⟩ H1 (.ref p) (x1.own np) (r1.own n1 n2 ⟨vs, hp, zl, rs.own⟩) (.obj ?_)
    show (M1.m ++ [p])[S'.length]? = some p
    have rl : M1.m.length = S'.length := r1.len
    rw [← rl, List.getElem?_append_right (Nat.le_refl _), Nat.sub_self]; rfl
theorem den_call {x : Str} {f : Addr} {fd : FuncData} {ps : List Str} {k : Nat} {F : List D → MS → R D} {p : Pos} {sp : Sp} (hsp : ∀ M S H ds vs Q E, Rel G M S H → Reps G M H vs ds → Post G (fun c d _ H => E c d H) [] M H (Rep G) (F ds S) Q → sp vs H Q E)
    (Fn : FnOk X.prog X.w X.K X.mg X.base (L2.CX X.prog X.w) k f fd ps sp) (hr : Room k X.A) (hg : Gl X x) (hm : X.mg x = some (.ref f)) (hk : PySem.W.keepIn X.K (.ref f) = true) (hb : Binds X.K fd ps []) (tk : Takes X W)
    (ha : PA X (a :: es) (tA G W fs)) (hdb : (x == ("__debug__" : Str)) = false := by decide) (he : starEach (a :: es) X.env = (false, eval a X.env) :: starEach es X.env := by rfl) (hpl : (backTo pos (starEach es X.env)).any (·.1) = false := by rfl) :
    PE X (.Call (.Name x p) (a :: es) [] pos) (tD G W (eF F fs)) := by
  refine pe_imp (pe_callS (E := WE W) Fn hr hg hm hk hb (fun σ => passAt tk σ) ha hdb he hpl) fun σ H Q ⟨M, S, ρ, r, e, h⟩ => ?_
  refine tA_mono (a_bind h r e) fun y H2 ⟨M2, S2, d2, x2, r2, p2, e2, h2⟩ => ?_
  refine hsp M2 S2 H2 d2 y Q _ r2 p2 ?_
  cases z : F d2 S2 with
  | ok d S' => rw [z] at h2; exact h2
  | exc c S' => rw [z] at h2; exact h2
  | bad => rw [z] at h2; exact h2
theorem den_callB {x : Str} {id : String} {r : List V → Hp → VK → Prop} {g : MS → List D → Option D} {p : Pos} (hc : CallR X (.builtin id) r) (hcd : CallD G r g) (hg : Gl X x) (hm : X.mg x = none) (hv : bootBuiltins x = some (.builtin id)) (ha : PA X (a :: es) (tA G W fs)) (hn : x ≠ "__name__" := by decide)
    (hdb : (x == ("__debug__" : Str)) = false := by decide) (he : starEach (a :: es) X.env = (false, eval a X.env) :: starEach es X.env := by rfl) (hpl : (backTo pos (starEach es X.env)).any (·.1) = false := by rfl) :
    PE X (.Call (.Name x p) (a :: es) [] pos) (tD G W (eB g fs)) := by
  refine pe_imp (pe_callB hc hg hm hv ha hn hdb he hpl) fun σ H Q ⟨M, S, ρ, r, e, h⟩ => ?_
  refine tA_mono (a_bind h r e) fun y H2 ⟨M2, S2, d2, x2, r2, p2, e2, h2⟩ => ?_
  obtain ⟨d, hd, q⟩ := post_ofO h2
  exact hcd M2 S2 H2 y d2 d Q r2 p2 hd fun H' v x' r' p' => q M2 H' v x' r' p'
theorem den_callTy {x : Str} {id : String} {r : List V → Hp → VK → Prop} {g : MS → List D → Option D} {p : Pos} (hc : CallR X (.type id) r) (hcd : CallD G r g) (hg : Gl X x) (hm : X.mg x = none) (hv : bootBuiltins x = some (.type id)) (ha : PA X (a :: es) (tA G W fs)) (hn : x ≠ "__name__" := by decide)
    (hdb : (x == ("__debug__" : Str)) = false := by decide) (he : starEach (a :: es) X.env = (false, eval a X.env) :: starEach es X.env := by rfl) (hpl : (backTo pos (starEach es X.env)).any (·.1) = false := by rfl) :
    PE X (.Call (.Name x p) (a :: es) [] pos) (tD G W (eB g fs)) := by
  refine pe_imp (pe_callTy hc hg hm hv ha hn hdb he hpl) fun σ H Q ⟨M, S, ρ, r, e, h⟩ => ?_
  refine tA_mono (a_bind h r e) fun y H2 ⟨M2, S2, d2, x2, r2, p2, e2, h2⟩ => ?_
  obtain ⟨d, hd, q⟩ := post_ofO h2
  exact hcd M2 S2 H2 y d2 d Q r2 p2 hd fun H' v x' r' p' => q M2 H' v x' r' p'
end
end Dn

namespace Dn
open PySem PySem.Spec PyProof.Rows L2

/-! ### statements -/
inductive RS where
  | nx (ρ : En) (S : MS) | ret (d : D) (S : MS) | brk (ρ : En) (S : MS) | ct (ρ : En) (S : MS) | exc (c : Nat) (ρ : En) (S : MS) | bad
def R.bindS {α : Type} (r : R α) (ρ : En) (k : α → MS → RS) : RS := match r with
  | .ok a S => k a S
  | .exc c S => .exc c ρ S
  | .bad => .bad
def PostS (G : Gx) (W : WX) (M : Mx) (H : Hp) (r : RS) (D : Ends) : Prop := match r with
  | .nx ρ S' => ∀ M' H' σ', Ext M H M' H' → Rel G M' S' H' → EnvR G M' H' σ' ρ → D.nx σ' H'
  | .ret d S' => ∀ M' H' v, Ext M H M' H' → Rel G M' S' H' → Rep G M' H' v d → D.rt v H'
  | .brk ρ S' => ∀ M' H' σ', Ext M H M' H' → Rel G M' S' H' → EnvR G M' H' σ' ρ → D.bk σ' H'
  | .ct ρ S' => ∀ M' H' σ', Ext M H M' H' → Rel G M' S' H' → EnvR G M' H' σ' ρ → D.ct σ' H'
  | .exc c ρ S' => ∀ M' H' σ', Ext M H M' H' → Rel G M' S' H' → EnvR G M' H' σ' ρ → W (.ref (G.ca c)) none σ' H'
  | .bad => False
def tS (G : Gx) (W : WX) (g : En → MS → RS) : TS := fun D σ H => ∃ M S ρ, Rel G M S H ∧ EnvR G M H σ ρ ∧ PostS G W M H (g ρ S) D
section
variable {α β : Type} {G : Gx} {W : WX} {σ : L2.St} {M M1 : Mx} {H H1 : Hp} {S : MS} {ρ : En} {P : Mx → Hp → β → α → Prop} {N : Ends}
theorem PostS.ext (e : Ext M H M1 H1) {r : RS} (h : PostS G W M H r N) : PostS G W M1 H1 r N := by
  cases r with
  | nx ρ S => exact fun M' H' b e' r' p => h M' H' b (e.trans e') r' p
  | ret ρ S => exact fun M' H' b e' r' p => h M' H' b (e.trans e') r' p
  | brk ρ S => exact fun M' H' b e' r' p => h M' H' b (e.trans e') r' p
  | ct ρ S => exact fun M' H' b e' r' p => h M' H' b (e.trans e') r' p
  | exc c ρ S => exact fun M' H' b e' r' p => h M' H' b (e.trans e') r' p
  | bad => exact h
theorem ds_bind {f : En → MS → R D} {k : D → MS → RS} (h : PostS G W M H ((f ρ S).bindS ρ k) N) (r : Rel G M S H) (e : EnvR G M H σ ρ) :
    tD G W f σ H (fun v H1 => ∃ M1 S1 d, Ext M H M1 H1 ∧ Rel G M1 S1 H1 ∧ Rep G M1 H1 v d ∧ EnvR G M1 H1 σ ρ ∧ PostS G W M1 H1 (k d S1) N) := by
  refine ⟨M, S, ρ, r, e, ?_⟩
  cases z : f ρ S with
  | bad => rw [z] at h; exact h
  | exc c S' => rw [z] at h; exact fun M1 H1 x1 r1 => h M1 H1 σ x1 r1 (e.ext x1)
  | ok ds S' => rw [z] at h; exact fun M1 H1 b x1 r1 p1 => ⟨M1, S', ds, x1, r1, p1, e.ext x1, PostS.ext x1 h⟩
theorem ts_bind {f : En → MS → R Bool} {k : Bool → MS → RS} (h : PostS G W M H ((f ρ S).bindS ρ k) N) (r : Rel G M S H) (e : EnvR G M H σ ρ) :
    tT G W f σ H (fun v H1 => ∃ M1 S1, Ext M H M1 H1 ∧ Rel G M1 S1 H1 ∧ EnvR G M1 H1 σ ρ ∧ PostS G W M1 H1 (k v S1) N) := by
  refine ⟨M, S, ρ, r, e, ?_⟩
  cases z : f ρ S with
  | bad => rw [z] at h; exact h
  | exc c S' => rw [z] at h; exact fun M1 H1 x1 r1 => h M1 H1 σ x1 r1 (e.ext x1)
  | ok ds S' => rw [z] at h; exact fun M1 H1 b x1 r1 p1 => ⟨M1, S', x1, r1, e.ext x1, p1 ▸ PostS.ext x1 h⟩
end
def sSq (g1 g2 : En → MS → RS) : En → MS → RS := fun ρ S => match g1 ρ S with
  | .nx ρ' S' => g2 ρ' S'
  | r => r
def sNx : En → MS → RS := fun ρ S => .nx ρ S
def sEx (f : En → MS → R D) : En → MS → RS := fun ρ S => (f ρ S).bindS ρ fun _ S1 => .nx ρ S1
def sRet (f : En → MS → R D) : En → MS → RS := fun ρ S => (f ρ S).bindS ρ fun d S1 => .ret d S1
def sRetN : En → MS → RS := fun _ S => .ret .non S
def sSet (i : Nat) (f : En → MS → R D) : En → MS → RS := fun ρ S => (f ρ S).bindS ρ fun d S1 => .nx (ρ.set i (some d)) S1
def sIf (c : En → MS → R Bool) (g1 g2 : En → MS → RS) : En → MS → RS := fun ρ S => (c ρ S).bindS ρ fun b S1 => if b = true then g1 ρ S1 else g2 ρ S1
def sBad : En → MS → RS := fun _ _ => .bad
def sBrk : En → MS → RS := fun ρ S => .brk ρ S
def sCt : En → MS → RS := fun ρ S => .ct ρ S
section
variable {X : Cx} {G : Gx} {W : WX} {e : Expr} {st : Stmt} {rest sts : List Stmt} {f : En → MS → R D} {c : En → MS → R Bool} {g g1 g2 : En → MS → RS} {pos : Pos}
theorem dens_nil : PSs X [] (tS G W sNx) := pss_imp pss_nil fun D σ H ⟨M, S, ρ, r, e, h⟩ => h M H σ (Ext.refl _ _) r e
theorem dens_cons (h1 : PS X st (tS G W g1)) (h2 : PSs X rest (tS G W g2)) : PSs X (st :: rest) (tS G W (sSq g1 g2)) := by
  refine pss_imp (pss_cons h1 h2) fun D σ H ⟨M, S, ρ, r, e, h⟩ => ⟨M, S, ρ, r, e, ?_⟩
  unfold sSq at h
  cases z : g1 ρ S with
  | nx ρ' S' => rw [z] at h; exact fun M' H' σ' x' r' e' => ⟨M', S', ρ', r', e', PostS.ext x' h⟩
  | ret d S' => rw [z] at h; exact h
  | brk ρ' S' => rw [z] at h; exact h
  | ct ρ' S' => rw [z] at h; exact h
  | exc c ρ' S' => rw [z] at h; exact h
  | bad => rw [z] at h; exact h
theorem dens_one (h1 : PS X st (tS G W g1)) : PSs X [st] (tS G W g1) := pss_one h1
theorem dens_bad : PS X st (tS G W sBad) := ⟨fun _ _ _ _ _ _ h => by obtain ⟨_, _, _, _, _, h⟩ := h; exact h.elim⟩
theorem denss_bad : PSs X sts (tS G W sBad) := ⟨fun _ _ _ _ _ _ h => by obtain ⟨_, _, _, _, _, h⟩ := h; exact h.elim⟩
theorem dens_pass : PS X (.Pass pos) (tS G W sNx) := ps_imp ps_pass fun D σ H ⟨M, S, ρ, r, e, h⟩ => h M H σ (Ext.refl _ _) r e
theorem dens_break : PS X (.Break pos) (tS G W sBrk) := ps_imp ps_break fun D σ H ⟨M, S, ρ, r, e, h⟩ => h M H σ (Ext.refl _ _) r e
theorem dens_continue : PS X (.Continue pos) (tS G W sCt) := ps_imp ps_continue fun D σ H ⟨M, S, ρ, r, e, h⟩ => h M H σ (Ext.refl _ _) r e
theorem dens_expr (he : PE X e (tD G W f)) (hs : swapsWith e none pos.line X.env = pure false := by rfl) : PS X (.Expr e pos) (tS G W (sEx f)) := by
  refine ps_imp (ps_expr he hs) fun D σ H ⟨M, S, ρ, r, e, h⟩ => ?_
  refine tD_mono (ds_bind h r e) fun x H1 ⟨M1, S1, d1, x1, r1, p1, e1, h1⟩ => ?_
  exact h1 M1 H1 σ (Ext.refl _ _) r1 e1
theorem dens_ret (he : PE X e (tD G W f)) : PS X (.Return (some e) pos) (tS G W (sRet f)) := by
  refine ps_imp (ps_ret he) fun D σ H ⟨M, S, ρ, r, e, h⟩ => ?_
  refine tD_mono (ds_bind h r e) fun x H1 ⟨M1, S1, d1, x1, r1, p1, e1, h1⟩ => ?_
  exact h1 M1 H1 x (Ext.refl _ _) r1 p1
theorem dens_retN : PS X (.Return none pos) (tS G W sRetN) := ps_imp ps_retN fun D σ H ⟨M, S, ρ, r, e, h⟩ => h M H .non (Ext.refl _ _) r .non
theorem dens_if {c0 : Expr} {a b : List Stmt} (hc : PT X c0 (tT G W c)) (ha : PSs X a (tS G W g1)) (hb : PSs X b (tS G W g2)) : PS X (.If c0 a b pos) (tS G W (sIf c g1 g2)) := by
  refine ps_imp (ps_if hc ha hb) fun D σ H ⟨M, S, ρ, r, e, h⟩ => ?_
  refine tT_mono (ts_bind h r e) fun k H1 ⟨M1, S1, x1, r1, e1, h1⟩ => ?_
  cases k with
  | true => rw [if_pos rfl] at h1 ⊢; exact ⟨M1, S1, ρ, r1, e1, h1⟩
  | false => rw [if_neg Bool.false_ne_true] at h1 ⊢; exact ⟨M1, S1, ρ, r1, e1, h1⟩
theorem set_read {i : Nat} {D : Ends} {σ : L2.St} {H : Hp} (h : tS G W (sSet i f) D σ H) : tAsg (tD G W f) (gName i) D σ H := by
  obtain ⟨M, S, ρ, r, e, h⟩ := h
  refine tD_mono (ds_bind h r e) fun x H1 ⟨M1, S1, d1, x1, r1, p1, e1, h1⟩ => ?_
  exact h1 M1 H1 _ (Ext.refl _ _) r1 (e1.set p1 i)
theorem dens_set {i : Nat} {x : Str} {pos' : Pos} (hN : X.N.Nodup) (he : PE X e (tD G W f)) (hi : X.N[i]? = some x := by rfl) (hx : Loc X.env.scope x := by first | exact Or.inl rfl | exact Or.inr rfl) (hs : swapsWith e (some (.Name x pos')) pos.line X.env = pure false := by rfl)
    (hf : X.fn x = true ∨ X.env.scope.names.lookup x = some .local := by first | exact .inl rfl | exact .inr rfl | assumption) :
    PS X (.Assign [.Name x pos'] e pos) (tS G W (sSet i f)) := ps_imp (ps_set hN hi hx he hs hf) fun _ _ _ h => set_read h
end

/-! ### patterns -/
inductive Pat where
  | nm (i : Nat) | tp (ps : List Pat)
mutual
def bindP : Pat → D → En → Option En
  | .nm i, d, ρ => some (ρ.set i (some d))
  | .tp ps, .tup ds, ρ => bindPs ps ds ρ
  | .tp _, _, _ => none
def bindPs : List Pat → List D → En → Option En
  | [], [], ρ => some ρ
  | p :: ps, d :: ds, ρ => match bindP p d ρ with
    | some ρ' => bindPs ps ds ρ'
    | none => none
  | _, _, _ => none
end
mutual
def slots : Pat → List Nat
  | .nm i => [i]
  | .tp ps => slotss ps
def slotss : List Pat → List Nat
  | [] => []
  | p :: ps => slots p ++ slotss ps
end
theorem wipe_get (σ : L2.St) (i : Nat) : ∀ vs : List Nat, (wipe σ vs)[i]? = if i ∈ vs then σ[i]?.map (fun _ => none) else σ[i]?
  | [] => by simp [wipe]
  | v :: vs => by
    rw [wipe, List.getElem?_set]
    by_cases q : v = i
    · subst q
      rw [if_pos rfl, if_pos List.mem_cons_self, wipe_length]
      by_cases z : v < σ.length
      · rw [if_pos z, List.getElem?_eq_getElem z]; rfl
      · rw [if_neg z, List.getElem?_eq_none (by omega)]; rfl
    · rw [if_neg q, wipe_get σ i vs]
      by_cases z : i ∈ vs
      · rw [if_pos z, if_pos (List.mem_cons_of_mem _ z)]
      · rw [if_neg z, if_neg (fun h => (List.mem_cons.mp h).elim (fun z => absurd z.symm q) z)]
theorem wipe_sub {σ σ' : L2.St} {vs ws : List Nat} (h : wipe σ' vs = wipe σ vs) (s : ∀ i ∈ vs, i ∈ ws) : wipe σ' ws = wipe σ ws := by
  refine List.ext_getElem? fun i => ?_
  have hi := congrArg (fun l => l[i]?) h
  simp only [wipe_get] at hi ⊢
  by_cases q : i ∈ ws
  · rw [if_pos q, if_pos q]
    by_cases z : i ∈ vs
    · rw [if_pos z, if_pos z] at hi; exact hi
    · rw [if_neg z, if_neg z] at hi; rw [hi]
  · have z : i ∉ vs := fun z => q (s i z)
    rw [if_neg z, if_neg z] at hi
    rw [if_neg q, if_neg q]; exact hi
theorem wipe_two {σ σ1 σ2 : L2.St} {vs ws : List Nat} (h : wipe σ1 vs = wipe σ vs) (k : wipe σ2 ws = wipe σ1 ws) : wipe σ2 (vs ++ ws) = wipe σ (vs ++ ws) :=
  (wipe_sub k (fun i q => List.mem_append_right _ q)).trans (wipe_sub h (fun i q => List.mem_append_left _ q))
def tPat (G : Gx) (p : Pat) : TG := fun v σ H Q => ∃ M ρ d ρ', EnvR G M H σ ρ ∧ Rep G M H v d ∧ bindP p d ρ = some ρ' ∧ ∀ σ', EnvR G M H σ' ρ' → wipe σ' (slots p) = wipe σ (slots p) → Q σ' H
def tPats (G : Gx) (ps : List Pat) : TGs := fun vs σ H Q => ∃ M ρ ds ρ', EnvR G M H σ ρ ∧ Reps G M H vs ds ∧ bindPs ps ds ρ = some ρ' ∧ ∀ σ', EnvR G M H σ' ρ' → wipe σ' (slotss ps) = wipe σ (slotss ps) → Q σ' H
section
variable {X : Cx} {G : Gx} {pos : Pos}
theorem deng_nm (i : Nat) {x : Str} (hN : X.N.Nodup) (hi : X.N[i]? = some x := by rfl) (hx : Loc X.env.scope x := by first | exact Or.inl rfl | exact Or.inr rfl) (hf : X.fn x = true ∨ X.env.scope.names.lookup x = some .local := by first | exact .inl rfl | exact .inr rfl | assumption) :
    PG X (.Name x pos) (tPat G (.nm i)) := by
  refine pg_imp (pg_name hN hi hx hf) fun v σ H Q ⟨M, ρ, d, ρ', e, r, b, q⟩ => ?_
  simp only [bindP, Option.some.injEq] at b
  subst b
  refine q _ (e.set r i) ?_
  show (σ.set i (some v)).set i none = σ.set i none
  rw [List.set_set]
theorem dengs_nil : PGs X [] (tPats G []) := ⟨fun pins s σ H vs us Q I rv hw => by
  obtain ⟨M, ρ, ds, ρ', e, r, b, q⟩ := hw
  cases ds with
  | cons d ds => simp [bindPs] at b
  | nil =>
    simp only [bindPs, Option.some.injEq] at b
    subst b
    cases r
    exact pgs_nil.run pins s σ H [] us Q I rv ⟨rfl, q σ e rfl⟩⟩
theorem dengs_cons {a : Expr} {es : List Expr} {p : Pat} {ps : List Pat} (h1 : PG X a (tPat G p)) (h2 : PGs X es (tPats G ps))
    (hs : (assignEach (a :: es) X.env).map (·.2) = assign a X.env :: (assignEach es X.env).map (·.2) := by rfl) : PGs X (a :: es) (tPats G (p :: ps)) := ⟨fun pins s σ H vs us Q I rv hw => by
  obtain ⟨M, ρ, ds, ρ', e, r, b, q⟩ := hw
  cases r with
  | nil => simp [bindPs] at b
  | @cons v d vs ds r1 r2 =>
    unfold bindPs at b
    cases z : bindP p d ρ with
    | none => rw [z] at b; cases b
    | some ρ1 =>
      rw [z] at b
      refine (pgs_cons h1 h2 hs).run pins s σ H (v :: vs) us Q I rv ⟨v, vs, rfl, M, ρ, d, ρ1, e, r1, z, fun σ1 e1 w1 => ⟨M, ρ1, ds, ρ', e1, r2, b, fun σ2 e2 w2 => q σ2 e2 ?_⟩⟩
      exact wipe_two w1 w2⟩
theorem deng_tp {es : List Expr} {k : Nat} {ps : List Pat} {n : Nat} (hc : X.calm = true) (h : PGs X es (tPats G ps)) (hl : ps.length = n := by rfl)
    (hn : (assignEach es X.env).length = n := by rfl) (hst : (assignEach es X.env).findIdx? (·.1) = none := by rfl) : PG X (.Tuple es k pos) (tPat G (.tp ps)) := by
  refine pg_imp (pg_tup hc h hn hst) fun v σ H Q ⟨M, ρ, d, ρ', e, r, b, q⟩ => ?_
  cases d with
  | tup ds =>
    obtain ⟨a, vs, rfl, ha, n1, n2, z, rs⟩ := r.tup_inv
    refine ⟨a, vs, rfl, SqT.of ha, ?_, M, ρ, ds, ρ', e, rs, b, q⟩
    have bl : ∀ (ps : List Pat) (ds : List D) (ρ ρ' : En), bindPs ps ds ρ = some ρ' → ps.length = ds.length := by
      intro ps
      induction ps with
      | nil => intro ds ρ ρ' h; cases ds with | nil => rfl | cons _ _ => simp [bindPs] at h
      | cons p ps ih =>
        intro ds ρ ρ' h
        cases ds with
        | nil => simp [bindPs] at h
        | cons d ds =>
          unfold bindPs at h
          cases z : bindP p d ρ with
          | none => rw [z] at h; cases h
          | some ρ1 => rw [z] at h; rw [List.length_cons, List.length_cons, ih ds ρ1 ρ' h]
    rw [rs.length, ← bl ps ds ρ ρ' (by simpa [bindP] using b), hl]
  | _ => simp [bindP] at b
end
def sPat (p : Pat) (f : En → MS → R D) : En → MS → RS := fun ρ S => (f ρ S).bindS ρ fun d S1 => match bindP p d ρ with
  | some ρ' => .nx ρ' S1
  | none => .bad
theorem dens_pat {X : Cx} {G : Gx} {W : WX} {tg e : Expr} {pos : Pos} {p : Pat} {f : En → MS → R D} (he : PE X e (tD G W f)) (hg : PG X tg (tPat G p)) (hs : swapsWithSole [tg] e pos.line X.env = pure false := by rfl) (hw : swappedStores [tg] e X.env = pure none := by rfl)
    (h1 : (assignEach [tg] X.env).map (·.2) = [assign tg X.env] := by rfl) : PS X (.Assign [tg] e pos) (tS G W (sPat p f)) := by
  refine ps_imp (ps_asg he hg hs hw h1) fun D σ H ⟨M, S, ρ, r, e, h⟩ => ?_
  refine tD_mono (ds_bind h r e) fun x H1 ⟨M1, S1, d1, x1, r1, p1, e1, h1⟩ => ?_
  cases z : bindP p d1 ρ with
  | none => rw [z] at h1; exact h1.elim
  | some ρ' => rw [z] at h1; exact ⟨M1, ρ, d1, ρ', e1, p1, z, fun σ' e' _ => h1 M1 H1 σ' (Ext.refl _ _) r1 e'⟩

/-! ### what is walked -/
/-- an iterator that yields what src tells: an item, none at the end; outside, not told -/
abbrev Src := MS → Nat → Option (Option D)
def ItR (G : Gx) (M : Mx) (H : Hp) (J : It) (src : Src) : Prop := ∀ M2 H2 S2, ExtW M H M2 H2 → Rel G M2 S2 H2 → ∀ i, match src S2 i with
  | some (some d) => J.go i H2 ∧ ∀ x H3, J.yld i H2 x H3 → Ext M2 H2 M2 H3 ∧ Rel G M2 S2 H3 ∧ Rep G M2 H3 x d
  | some none => J.stop i H2
  | none => True
def vsrc (items : List D) : Src := fun _ i => some items[i]?
/-- a walk over values that stand -/
def tIV (G : Gx) (W : WX) (f : En → MS → R (List D)) : TI := fun σ H Rk => ∃ M S ρ, Rel G M S H ∧ EnvR G M H σ ρ ∧ match f ρ S with
  | .ok ds S' => ∀ M' H' J, Ext M H M' H' → Rel G M' S' H' → ItR G M' H' J (vsrc ds) → Rk J H'
  | .exc c S' => ∀ M' H', Ext M H M' H' → Rel G M' S' H' → W (.ref (G.ca c)) none σ H'
  | .bad => False
def tIO (G : Gx) (W : WX) (f : En → MS → R (Src × Nat)) : TI := fun σ H Rk => ∃ M S ρ, Rel G M S H ∧ EnvR G M H σ ρ ∧ match f ρ S with
  | .ok ds S' => ∀ M' H' J, Ext M H M' H' → Rel G M' S' H' → ItR G M' H' J ds.1 → Rk J H'
  | .exc c S' => ∀ M' H', Ext M H M' H' → Rel G M' S' H' → W (.ref (G.ca c)) none σ H'
  | .bad => False
def forB (p : Pat) (g : En → MS → RS) (d : D) (ρ : En) (S : MS) : RS := match bindP p d ρ with
  | some ρ' => g ρ' S
  | none => .bad
/-- behind a turn: go on, or leave -/
def RS.loop (r : RS) (k : En → MS → RS) : RS := match r with
  | .nx ρ S => k ρ S
  | .ct ρ S => k ρ S
  | .brk ρ S => .nx ρ S
  | .ret d S => .ret d S
  | .exc c ρ S => .exc c ρ S
  | .bad => .bad
def forL (b : D → En → MS → RS) : List D → En → MS → RS
  | [], ρ, S => .nx ρ S
  | d :: ds, ρ, S => (b d ρ S).loop (forL b ds)
def forO (src : Src) (b : D → En → MS → RS) : Nat → Nat → En → MS → RS
  | 0, i, ρ, S => match src S i with
    | some none => .nx ρ S
    | _ => .bad
  | n + 1, i, ρ, S => match src S i with
    | some none => .nx ρ S
    | some (some d) => (b d ρ S).loop (forO src b n (i + 1))
    | none => .bad
theorem forO_vals (items : List D) (b : D → En → MS → RS) : ∀ (n i : Nat) (ρ : En) (S : MS), items.length ≤ i + n → forO (vsrc items) b n i ρ S = forL b (items.drop i) ρ S := by
  intro n
  induction n with
  | zero =>
    intro i ρ S h
    have z : items[i]? = none := List.getElem?_eq_none (by omega)
    have z2 : items.drop i = [] := List.drop_eq_nil_iff.mpr (by omega)
    unfold forO vsrc; rw [z, z2]; rfl
  | succ n ih =>
    intro i ρ S h
    by_cases q : i < items.length
    · have z2 : items.drop i = items[i] :: items.drop (i + 1) := List.drop_eq_getElem_cons q
      unfold forO vsrc
      rw [List.getElem?_eq_getElem q, z2]
      show (b items[i] ρ S).loop (forO (vsrc items) b n (i + 1)) = (b items[i] ρ S).loop (forL b (items.drop (i + 1)))
      congr 1
      funext ρ' S'
      exact ih (i + 1) ρ' S' (by omega)
    · have z : items[i]? = none := List.getElem?_eq_none (by omega)
      have z2 : items.drop i = [] := List.drop_eq_nil_iff.mpr (by omega)
      unfold forO vsrc; rw [z, z2]; rfl
def sForV (it : En → MS → R (List D)) (p : Pat) (g : En → MS → RS) : En → MS → RS := fun ρ S => (it ρ S).bindS ρ fun ds S1 => forL (forB p g) ds ρ S1
def sForO (it : En → MS → R (Src × Nat)) (p : Pat) (g : En → MS → RS) : En → MS → RS := fun ρ S => (it ρ S).bindS ρ fun ds S1 => forO ds.1 (forB p g) ds.2 0 ρ S1
section
variable {X : Cx} {G : Gx} {W : WX} {tg iter : Expr} {body : List Stmt} {pos : Pos} {p : Pat} {g : En → MS → RS}
theorem for_read {J : It} {src : Src} {M0 : Mx} {H0 : Hp} {D : Ends} (hJ : ItR G M0 H0 J src) (n : Nat) {σ : L2.St} {S : MS} {ρ : En} {M : Mx} {H : Hp} (x0 : Ext M0 H0 M H) (r : Rel G M S H) (e : EnvR G M H σ ρ) (h : PostS G W M H (forO src (forB p g) n 0 ρ S) D) :
    ∃ Wt : Nat → Nat → L2.St → Hp → Prop, (∃ m, Wt 0 m σ H) ∧ ∀ i m σ H, Wt i m σ H →
      (J.stop i H ∧ D.nx σ H) ∨ (J.go i H ∧ ∃ N : L2.St → Hp → Prop, (∀ σ' H', N σ' H' → ∃ m', m' < m ∧ Wt (i + 1) m' σ' H') ∧ ∀ x H', J.yld i H x H' → tPat G p x σ H' fun σ2 H2 => tS G W g { D with nx := N, ct := N, bk := D.nx } σ2 H2) := by
  refine ⟨fun i m σ H => ∃ M S ρ, Ext M0 H0 M H ∧ Rel G M S H ∧ EnvR G M H σ ρ ∧ PostS G W M H (forO src (forB p g) m i ρ S) D, ⟨n, M, S, ρ, x0, r, e, h⟩, ?_⟩
  intro i m σ H ⟨M, S, ρ, x0, r, e, h⟩
  have hi := hJ M H S x0.w r i
  cases m with
  | zero =>
    unfold forO at h
    cases z : src S i with
    | none => rw [z] at h; exact h.elim
    | some o => cases o with
      | none => rw [z] at h hi; exact .inl ⟨hi, h M H σ (Ext.refl _ _) r e⟩
      | some d => rw [z] at h; exact h.elim
  | succ m =>
    unfold forO at h
    cases z : src S i with
    | none => rw [z] at h; exact h.elim
    | some o => cases o with
      | none => rw [z] at h hi; exact .inl ⟨hi, h M H σ (Ext.refl _ _) r e⟩
      | some d =>
        rw [z] at h hi
        refine .inr ⟨hi.1, fun σ' H' => ∃ M S ρ, Ext M0 H0 M H' ∧ Rel G M S H' ∧ EnvR G M H' σ' ρ ∧ PostS G W M H' (forO src (forB p g) m (i + 1) ρ S) D, fun σ' H' q => ⟨m, Nat.lt_succ_self m, q⟩, fun x H' hy => ?_⟩
        obtain ⟨x2, r2, p2⟩ := hi.2 x H' hy
        have h2 : PostS G W M H' ((forB p g d ρ S).loop (forO src (forB p g) m (i + 1))) D := PostS.ext x2 h
        unfold forB at h2
        cases zb : bindP p d ρ with
        | none => rw [zb] at h2; exact h2.elim
        | some ρ' =>
          rw [zb] at h2
          refine ⟨M, ρ, d, ρ', e.ext x2, p2, zb, fun σ' e' _ => ⟨M, S, ρ', r2, e', ?_⟩⟩
          change PostS G W M H' ((g ρ' S).loop (forO src (forB p g) m (i + 1))) D at h2
          cases zg : g ρ' S with
          | nx ρ3 S3 => rw [zg] at h2; exact fun M3 H3 σ3 x3 r3 e3 => ⟨M3, S3, ρ3, (x0.trans x2).trans x3, r3, e3, PostS.ext x3 h2⟩
          | ct ρ3 S3 => rw [zg] at h2; exact fun M3 H3 σ3 x3 r3 e3 => ⟨M3, S3, ρ3, (x0.trans x2).trans x3, r3, e3, PostS.ext x3 h2⟩
          | brk ρ3 S3 => rw [zg] at h2; exact h2
          | ret d3 S3 => rw [zg] at h2; exact h2
          | exc c3 ρ3 S3 => rw [zg] at h2; exact h2
          | bad => rw [zg] at h2; exact h2
theorem dens_forV {it : En → MS → R (List D)} (hp : PassesOwn (model X.prog X.w) X.A X.env X.xe) (hc : X.calm = true) (hi : PI X tg iter (tIV G W it)) (hg : PG X tg (tPat G p)) (hb : PSs X body (tS G W g))
    (hs : ∀ x, foldedSetIterable iter X.env x = pure x := by intro _; rfl) : PS X (.For tg iter body [] pos) (tS G W (sForV it p g)) := by
  refine ps_imp (ps_for hp hc hi hg hb hs) fun D σ H ⟨M, S, ρ, r, e, h⟩ => ⟨M, S, ρ, r, e, ?_⟩
  unfold sForV at h
  cases z : it ρ S with
  | bad => rw [z] at h; exact h
  | exc c S' => rw [z] at h; exact fun M1 H1 x1 r1 => h M1 H1 σ x1 r1 (e.ext x1)
  | ok ds S' =>
    rw [z] at h
    intro M1 H1 J x1 r1 hJ
    refine for_read hJ ds.length (Ext.refl _ _) r1 (e.ext x1) ?_
    rw [forO_vals ds _ ds.length 0 ρ S' (by omega), List.drop_zero]
    exact PostS.ext x1 h
theorem dens_forO {it : En → MS → R (Src × Nat)} (hp : PassesOwn (model X.prog X.w) X.A X.env X.xe) (hc : X.calm = true) (hi : PI X tg iter (tIO G W it)) (hg : PG X tg (tPat G p)) (hb : PSs X body (tS G W g))
    (hs : ∀ x, foldedSetIterable iter X.env x = pure x := by intro _; rfl) : PS X (.For tg iter body [] pos) (tS G W (sForO it p g)) := by
  refine ps_imp (ps_for hp hc hi hg hb hs) fun D σ H ⟨M, S, ρ, r, e, h⟩ => ⟨M, S, ρ, r, e, ?_⟩
  unfold sForO at h
  cases z : it ρ S with
  | bad => rw [z] at h; exact h
  | exc c S' => rw [z] at h; exact fun M1 H1 x1 r1 => h M1 H1 σ x1 r1 (e.ext x1)
  | ok ds S' =>
    rw [z] at h
    intro M1 H1 J x1 r1 hJ
    exact for_read hJ ds.2 (Ext.refl _ _) r1 (e.ext x1) (PostS.ext x1 h)
end
end Dn

namespace Dn
open PySem PySem.Spec PyProof.Rows L2

/-! ### while -/
def whileD (c : En → MS → R Bool) (g : En → MS → RS) : Nat → En → MS → RS
  | 0, _, _ => .bad
  | n + 1, ρ, S => (c ρ S).bindS ρ fun b S1 => if b = true then (g ρ S1).loop (whileD c g n) else .nx ρ S1
section
variable {X : Cx} {G : Gx} {W : WX} {c0 : Expr} {body : List Stmt} {pos : Pos} {c : En → MS → R Bool} {g : En → MS → RS}
theorem dens_while (n : Nat) (hp : PassesOwn (model X.prog X.w) X.A X.env X.xe) (hc : PT X c0 (tT G W c)) (hb : PSs X body (tS G W g)) : PS X (.While c0 body [] pos) (tS G W (whileD c g n)) := by
  refine ps_imp (ps_while hp hc hb) fun D σ H ⟨M, S, ρ, r, e, h⟩ => ?_
  refine ⟨fun m σ H => ∃ M S ρ, Rel G M S H ∧ EnvR G M H σ ρ ∧ PostS G W M H (whileD c g m ρ S) D, ⟨n, M, S, ρ, r, e, h⟩, ?_⟩
  intro m σ H ⟨M, S, ρ, r, e, h⟩
  cases m with
  | zero => exact h.elim
  | succ m =>
    unfold whileD at h
    refine tT_mono (ts_bind h r e) fun k H1 ⟨M1, S1, x1, r1, e1, h1⟩ => ?_
    cases k with
    | false => rw [if_neg Bool.false_ne_true] at h1 ⊢; exact h1 M1 H1 σ (Ext.refl _ _) r1 e1
    | true =>
      rw [if_pos rfl] at h1 ⊢
      refine ⟨fun σ' H' => ∃ M S ρ, Rel G M S H' ∧ EnvR G M H' σ' ρ ∧ PostS G W M H' (whileD c g m ρ S) D, fun σ' H' q => ⟨m, Nat.lt_succ_self m, q⟩, M1, S1, ρ, r1, e1, ?_⟩
      cases zg : g ρ S1 with
      | nx ρ3 S3 => rw [zg] at h1; exact fun M3 H3 σ3 x3 r3 e3 => ⟨M3, S3, ρ3, r3, e3, PostS.ext x3 h1⟩
      | ct ρ3 S3 => rw [zg] at h1; exact fun M3 H3 σ3 x3 r3 e3 => ⟨M3, S3, ρ3, r3, e3, PostS.ext x3 h1⟩
      | brk ρ3 S3 => rw [zg] at h1; exact h1
      | ret d3 S3 => rw [zg] at h1; exact h1
      | exc c3 ρ3 S3 => rw [zg] at h1; exact h1
      | bad => rw [zg] at h1; exact h1
end

/-! ### comprehensions -/
def noX {α : Type} (r : R α) : R α := match r with
  | .exc _ _ => .bad
  | r => r
abbrev W0 : WX := fun _ _ _ _ => False
theorem post_noX {α β γ δ : Type} {G : Gx} {W : WX} {σ σ' : L2.St} {M : Mx} {H : Hp} {P : Mx → Hp → β → α → Prop} {r : R α} {k : α → MS → R (List D)} {Q : VK} (h : PostL G W σ M H ((noX r).bind k) Q) :
    Post G W0 σ' M H P r (fun b H1 => ∃ M1 S1 a, Ext M H M1 H1 ∧ Rel G M1 S1 H1 ∧ P M1 H1 b a ∧ PostL G W σ M1 H1 (k a S1) Q) := by
  cases r with
  | bad => exact h
  | exc c S' => exact h.elim
  | ok ds S' => exact fun M1 H1 b x1 r1 p1 => ⟨M1, S', ds, x1, r1, p1, PostL.ext x1 h⟩
def compB (p : Pat) (ft : En → MS → R Bool) (fe : En → MS → R D) (ρ : En) (d : D) (k : MS → R (List D)) (S : MS) : R (List D) := match bindP p d ρ with
  | none => .bad
  | some ρ' => (noX (ft ρ' S)).bind fun b S1 => if b = true then (noX (fe ρ' S1)).bind fun y S2 => (k S2).bind fun ys S3 => .ok (y :: ys) S3 else k S1
def compL (p : Pat) (ft : En → MS → R Bool) (fe : En → MS → R D) (ρ : En) : List D → MS → R (List D)
  | [], S => .ok [] S
  | d :: ds, S => compB p ft fe ρ d (compL p ft fe ρ ds) S
def compO (src : Src) (p : Pat) (ft : En → MS → R Bool) (fe : En → MS → R D) (ρ : En) : Nat → Nat → MS → R (List D)
  | 0, i, S => match src S i with
    | some none => .ok [] S
    | _ => .bad
  | n + 1, i, S => match src S i with
    | some none => .ok [] S
    | some (some d) => compB p ft fe ρ d (compO src p ft fe ρ n (i + 1)) S
    | none => .bad
theorem compO_vals (items : List D) (p : Pat) (ft : En → MS → R Bool) (fe : En → MS → R D) (ρ : En) : ∀ (n i : Nat) (S : MS), items.length ≤ i + n → compO (vsrc items) p ft fe ρ n i S = compL p ft fe ρ (items.drop i) S := by
  intro n
  induction n with
  | zero =>
    intro i S h
    have z : items[i]? = none := List.getElem?_eq_none (by omega)
    have z2 : items.drop i = [] := List.drop_eq_nil_iff.mpr (by omega)
    unfold compO vsrc; rw [z, z2]; rfl
  | succ n ih =>
    intro i S h
    by_cases q : i < items.length
    · have z2 : items.drop i = items[i] :: items.drop (i + 1) := List.drop_eq_getElem_cons q
      unfold compO vsrc
      rw [List.getElem?_eq_getElem q, z2]
      show compB p ft fe ρ items[i] (compO (vsrc items) p ft fe ρ n (i + 1)) S = compB p ft fe ρ items[i] (compL p ft fe ρ (items.drop (i + 1))) S
      congr 1
      funext S'
      exact ih (i + 1) S' (by omega)
    · have z : items[i]? = none := List.getElem?_eq_none (by omega)
      have z2 : items.drop i = [] := List.drop_eq_nil_iff.mpr (by omega)
      unfold compO vsrc; rw [z, z2]; rfl
def lim : Nat := 100000
def eLc (it : En → MS → R (List D)) (p : Pat) (ft : En → MS → R Bool) (fe : En → MS → R D) (vs : List Nat) : En → MS → R (List D) := fun ρ S => (it ρ S).bind fun ds S1 => if ds.length ≤ lim then compL p ft fe (wipeD ρ vs) ds S1 else .bad
def eLcO (it : En → MS → R (Src × Nat)) (p : Pat) (ft : En → MS → R Bool) (fe : En → MS → R D) (vs : List Nat) : En → MS → R (List D) := fun ρ S => (it ρ S).bind fun ds S1 => if ds.2 ≤ lim then compO ds.1 p ft fe (wipeD ρ vs) ds.2 0 S1 else .bad
def yesD : En → MS → R Bool := fun _ S => .ok true S
theorem appL {r : R (List D)} {a : List D} {y : D} : (r.bind fun ys S3 => R.ok (y :: ys) S3).bind (fun ys S => R.ok (a ++ ys) S) = r.bind fun ys S => R.ok ((a ++ [y]) ++ ys) S := by
  cases r with
  | ok ys S => simp [R.bind]
  | exc c S => rfl
  | bad => rfl
section
variable {X : Cx} {G : Gx} {W : WX}
theorem dents_nil : PTs X [] (tT G W yesD) := ⟨fun pins s σ H Q I h => pts_nil.run pins s σ H Q I (by obtain ⟨M, S, ρ, r, e, h⟩ := h; exact h M H true (Ext.refl _ _) r rfl)⟩
theorem dents_one {c : Expr} {ft : En → MS → R Bool} (h : PT X c (tT G W ft)) : PTs X [c] (tT G W ft) := pts_one h
theorem lc_read {J : It} {src : Src} {p : Pat} {ft : En → MS → R Bool} {fe : En → MS → R D} {vs : List Nat} {M1 : Mx} {H1 : Hp} {S1 : MS} {σ : L2.St} {ρ : En} {Q : VK} (hJ : ItR G M1 H1 J src) (r1 : Rel G M1 S1 H1) (e1 : EnvR G M1 H1 σ ρ)
    (hs : ∀ i ∈ slots p, i ∈ vs) (n : Nat) (hn : n ≤ lim) (h : PostL G W σ M1 H1 (compO src p ft fe (wipeD ρ vs) n 0 S1) Q) (D : Addr) (hD : H1 D = none) :
    ∃ Wt : Nat → Nat → Hp → Prop, (∃ m, Wt 0 m (upd H1 D (.lst []))) ∧ ∀ i m H, Wt i m H →
      (J.stop i H ∧ Q (.ref D) H) ∨ (J.go i H ∧ ∃ Nx : Hp → Prop, (∀ H', Nx H' → ∃ m', m' < m ∧ Wt (i + 1) m' H') ∧ ∀ x H', J.yld i H x H' → tPat G p x (wipe σ vs) H' fun σ2 H2 => wipe σ2 vs = wipe σ vs ∧ tT G W0 ft σ2 H2 fun b H3 =>
        if b = true then tD G W0 fe σ2 H3 fun y H4 => ∃ acc, H4 D = some (.lst acc) ∧ acc.length < sizeLine ∧ Nx (upd H4 D (.lst (acc ++ [y]))) else Nx H3) := by
  refine ⟨fun i m H => ∃ M S acc vacc, Ext M1 H1 M H ∧ Rel G M S H ∧ D ∈ M.x ∧ D ∉ M.m ∧ H D = some (.lst vacc) ∧ vacc.length + m ≤ n ∧ Reps G M H vacc acc ∧ PostL G W σ M1 H1 ((compO src p ft fe (wipeD ρ vs) m i S).bind fun ys S' => .ok (acc ++ ys) S') Q, ?_, ?_⟩
  · refine ⟨n, ⟨M1.m, D :: M1.x⟩, S1, [], [], Ext.hide hD, r1.hide hD, List.mem_cons_self, r1.fresh hD, upd_same, by simp, .nil, ?_⟩
    cases z : compO src p ft fe (wipeD ρ vs) n 0 S1 with
    | ok ys S' => rw [z] at h; exact h
    | exc c S' => rw [z] at h; exact h
    | bad => rw [z] at h; exact h
  intro i m H ⟨M, S, acc, vacc, x0, r, dx, dm, hd, hz, ra, h⟩
  have hi := hJ M H S x0.w r i
  have hend : ∀ S', PostL G W σ M1 H1 (.ok (acc ++ []) S') Q → S' = S → Q (.ref D) H := by
    intro S' h' es
    subst es
    rw [List.append_nil] at h'
    refine h' ⟨M.m, M1.x⟩ H D vacc x0.sub (r.sub ?_) hd hD dm (r1.freshx hD) (Nat.le_trans (Nat.le_of_add_right_le (Nat.le_trans hz hn)) (by decide)) (ra.sub ?_)
    · intro a ha
      rcases List.mem_cons.mp ha with rfl | ha
      · exact dx
      · exact x0.subx a ha
    · intro a ha
      rcases List.mem_cons.mp ha with rfl | ha
      · exact dx
      · exact x0.subx a ha
  cases m with
  | zero =>
    unfold compO at h
    cases z : src S i with
    | none => rw [z] at h; exact h.elim
    | some o => cases o with
      | none => rw [z] at h hi; exact .inl ⟨hi, hend S h rfl⟩
      | some d => rw [z] at h; exact h.elim
  | succ m =>
    unfold compO at h
    cases z : src S i with
    | none => rw [z] at h; exact h.elim
    | some o => cases o with
      | none => rw [z] at h hi; exact .inl ⟨hi, hend S h rfl⟩
      | some d =>
        rw [z] at h hi
        refine .inr ⟨hi.1, fun H => ∃ M S acc vacc, Ext M1 H1 M H ∧ Rel G M S H ∧ D ∈ M.x ∧ D ∉ M.m ∧ H D = some (.lst vacc) ∧ vacc.length + m ≤ n ∧ Reps G M H vacc acc ∧ PostL G W σ M1 H1 ((compO src p ft fe (wipeD ρ vs) m (i + 1) S).bind fun ys S' => .ok (acc ++ ys) S') Q, fun H' q => ⟨m, Nat.lt_succ_self m, q⟩, fun x H' hy => ?_⟩
        obtain ⟨x2, r2, p2⟩ := hi.2 x H' hy
        have x02 := x0.trans x2
        have dx2 : D ∈ M.x := dx
        have hd2 : H' D = some (.lst vacc) := x2.keep D _ hd dm
        change PostL G W σ M1 H1 ((compB p ft fe (wipeD ρ vs) d (compO src p ft fe (wipeD ρ vs) m (i + 1)) S).bind fun ys S' => .ok (acc ++ ys) S') Q at h
        unfold compB at h
        cases zb : bindP p d (wipeD ρ vs) with
        | none => rw [zb] at h; exact h.elim
        | some ρ' =>
          rw [zb] at h
          change PostL G W σ M1 H1 (((noX (ft ρ' S)).bind fun b S1 => if b = true then (noX (fe ρ' S1)).bind fun y S2 => (compO src p ft fe (wipeD ρ vs) m (i + 1) S2).bind fun ys S3 => .ok (y :: ys) S3 else compO src p ft fe (wipeD ρ vs) m (i + 1) S1).bind fun ys S' => .ok (acc ++ ys) S') Q at h
          refine ⟨M, wipeD ρ vs, d, ρ', (e1.wipe vs).ext x02, p2, zb, fun σ2 e2 w2 => ⟨?_, M, S, ρ', r2, e2, ?_⟩⟩
          · have hw := wipe_sub w2 hs
            rw [hw]
            refine List.ext_getElem? fun j => ?_
            rw [wipe_get, wipe_get]
            by_cases q : j ∈ vs
            · rw [if_pos q, if_pos q]; cases σ[j]? <;> rfl
            · rw [if_neg q, if_neg q]
          cases zt : ft ρ' S with
          | bad => rw [zt] at h; exact h
          | exc c S' => rw [zt] at h; exact h.elim
          | ok b S3 =>
            rw [zt] at h
            intro M3 H3 b' x3 r3 eb
            have eb' : b' = b := eb
            rw [eb']
            have x03 := x02.trans x3
            have dm3 : D ∉ M3.m := x3.notin hd2 dm
            have dx3 : D ∈ M3.x := x3.subx D dx
            have hd3 : H3 D = some (.lst vacc) := x3.keep D _ hd2 dm
            have ra3 := (ra.ext x2).ext x3
            cases hb0 : b with
            | false =>
              rw [hb0] at h
              rw [if_neg Bool.false_ne_true]
              exact ⟨M3, S3, acc, vacc, x03, r3, dx3, dm3, hd3, by omega, ra3, h⟩
            | true =>
              rw [hb0] at h
              rw [if_pos rfl]
              refine ⟨M3, S3, ρ', r3, e2.ext x3, ?_⟩
              change PostL G W σ M1 H1 (((noX (fe ρ' S3)).bind fun y S2 => (compO src p ft fe (wipeD ρ vs) m (i + 1) S2).bind fun ys S3 => .ok (y :: ys) S3).bind fun ys S' => .ok (acc ++ ys) S') Q at h
              cases ze : fe ρ' S3 with
              | bad => rw [ze] at h; exact h
              | exc c S' => rw [ze] at h; exact h.elim
              | ok y S4 =>
                rw [ze] at h
                intro M4 H4 v x4 r4 p4
                have dm4 : D ∉ M4.m := x4.notin hd3 dm3
                have dx4 : D ∈ M4.x := x4.subx D dx3
                have hd4 : H4 D = some (.lst vacc) := x4.keep D _ hd3 dm3
                refine ⟨vacc, hd4, Nat.lt_of_lt_of_le (show vacc.length < 100000 by unfold lim at hn; omega) (by decide), M4, S4, acc ++ [y], vacc ++ [v], (x03.trans x4).turn hD, r4.turn dx4 dm4, dx4, dm4, upd_same, ?_, ((ra3.ext x4).hid dx4).append (.one (p4.hid dx4)), ?_⟩
                · rw [List.length_append, List.length_singleton]; omega
                · rw [← appL]; exact h
variable {elt tg iter : Expr} {ifs : List Expr} {scope : Scope} {own : List (Str × Nat)} {pos : Pos} {p : Pat} {ft : En → MS → R Bool} {fe : En → MS → R D}
theorem lcV_read {it : En → MS → R (List D)} {vs : List Nat} (hs : ∀ i ∈ slots p, i ∈ vs) {σ : L2.St} {H : Hp} {Q : VK} (h : tL G W (eLc it p ft fe vs) σ H Q) : tLc (tIV G W it) (tPat G p) (tT G W0 ft) (tD G W0 fe) vs σ H Q := by
  obtain ⟨M, S, ρ, r, e, h⟩ := h
  refine ⟨M, S, ρ, r, e, ?_⟩
  unfold eLc at h
  cases z : it ρ S with
  | bad => rw [z] at h; exact h
  | exc c S' => rw [z] at h; exact h
  | ok ds S' =>
    rw [z] at h
    intro M1 H1 J x1 r1 hJ D hD
    by_cases q : ds.length ≤ lim
    · change PostL G W σ M H (if ds.length ≤ lim then _ else _) Q at h
      rw [if_pos q] at h
      refine lc_read (W := W) hJ r1 (e.ext x1) hs ds.length q ?_ D hD
      rw [compO_vals ds p ft fe _ ds.length 0 S' (by omega), List.drop_zero]
      exact PostL.ext x1 h
    · change PostL G W σ M H (if ds.length ≤ lim then _ else _) Q at h
      rw [if_neg q] at h; exact h.elim
theorem lcO_read {it : En → MS → R (Src × Nat)} {vs : List Nat} (hs : ∀ i ∈ slots p, i ∈ vs) {σ : L2.St} {H : Hp} {Q : VK} (h : tL G W (eLcO it p ft fe vs) σ H Q) : tLc (tIO G W it) (tPat G p) (tT G W0 ft) (tD G W0 fe) vs σ H Q := by
  obtain ⟨M, S, ρ, r, e, h⟩ := h
  refine ⟨M, S, ρ, r, e, ?_⟩
  unfold eLcO at h
  cases z : it ρ S with
  | bad => rw [z] at h; exact h
  | exc c S' => rw [z] at h; exact h
  | ok ds S' =>
    rw [z] at h
    intro M1 H1 J x1 r1 hJ D hD
    by_cases q : ds.2 ≤ lim
    · change PostL G W σ M H (if ds.2 ≤ lim then _ else _) Q at h
      rw [if_pos q] at h
      exact lc_read hJ r1 (e.ext x1) hs ds.2 q (PostL.ext x1 h) D hD
    · change PostL G W σ M H (if ds.2 ≤ lim then _ else _) Q at h
      rw [if_neg q] at h; exact h.elim
/-- slots of a pattern within the block's -/
theorem denl_lc {it : En → MS → R (List D)} (hc : X.calm = true) (hN : X.N.Nodup) (hi : PI X tg iter (tIV G W it)) (ok : BlkOk X.N X.env.scope scope own) (hs : ∀ i ∈ slots p, i ∈ own.map (·.2))
    (hg : ∀ (s : Shared) (H : Hp) (C : Addr) (cl : List (Str × Addr)) (fp : List Addr), PG (X.blk s H scope (compEnvC scope cl C X.env) fp) tg (tPat G p))
    (ht : ∀ (s : Shared) (H : Hp) (C : Addr) (cl : List (Str × Addr)) (fp : List Addr), PTs (X.blk s H scope (compEnvC scope cl C X.env) fp) ifs (tT G W0 ft))
    (he : ∀ (s : Shared) (H : Hp) (C : Addr) (cl : List (Str × Addr)) (fp : List Addr), PE (X.blk s H scope (compEnvC scope cl C X.env) fp) elt (tD G W0 fe)) (hfs : ∀ x, foldedSetIterable iter X.env x = pure x := by intro _; rfl) :
    PE X (.ListComp elt [⟨tg, iter, ifs, 0⟩] scope pos) (tL G W (eLc it p ft fe (own.map (·.2)))) := pe_imp (pe_lc hc hN hi ok hg ht he hfs) fun _ _ _ h => lcV_read hs h
theorem denl_lcO {it : En → MS → R (Src × Nat)} (hc : X.calm = true) (hN : X.N.Nodup) (hi : PI X tg iter (tIO G W it)) (ok : BlkOk X.N X.env.scope scope own) (hs : ∀ i ∈ slots p, i ∈ own.map (·.2))
    (hg : ∀ (s : Shared) (H : Hp) (C : Addr) (cl : List (Str × Addr)) (fp : List Addr), PG (X.blk s H scope (compEnvC scope cl C X.env) fp) tg (tPat G p))
    (ht : ∀ (s : Shared) (H : Hp) (C : Addr) (cl : List (Str × Addr)) (fp : List Addr), PTs (X.blk s H scope (compEnvC scope cl C X.env) fp) ifs (tT G W0 ft))
    (he : ∀ (s : Shared) (H : Hp) (C : Addr) (cl : List (Str × Addr)) (fp : List Addr), PE (X.blk s H scope (compEnvC scope cl C X.env) fp) elt (tD G W0 fe)) (hfs : ∀ x, foldedSetIterable iter X.env x = pure x := by intro _; rfl) :
    PE X (.ListComp elt [⟨tg, iter, ifs, 0⟩] scope pos) (tL G W (eLcO it p ft fe (own.map (·.2)))) := pe_imp (pe_lc hc hN hi ok hg ht he hfs) fun _ _ _ h => lcO_read hs h
end
end Dn

namespace Dn
open PySem PySem.Spec PyProof.Rows L2

/-! ### defs -/
def fin (r : RS) : R D := match r with
  | .nx _ S => .ok .non S
  | .ret d S => .ok d S
  | .exc c _ S => .exc c S
  | _ => .bad
def startD (n : Nat) (ds : List D) : En := ds.map some ++ List.replicate (n - ds.length) none
/-- a def of k parameters and n names -/
def fnD (k n : Nat) (g : En → MS → RS) : List D → MS → R D := fun ds S => if ds.length = k then fin (g (startD n ds) S) else .bad
def spD (G : Gx) (F : List D → MS → R D) : Sp := fun vs H Q E => ∃ M S ds, Rel G M S H ∧ Reps G M H vs ds ∧ Post G (fun c d _ H => E c d H) [] M H (Rep G) (F ds S) Q
theorem envR_start {G : Gx} {M : Mx} {H : Hp} {N : List Str} {vs : List V} {ds : List D} (r : Reps G M H vs ds) : EnvR G M H (L2.start N vs) (startD N.length ds) := by
  have hl := r.length
  refine ⟨by unfold L2.start startD; simp [hl], fun i d hd => ?_⟩
  unfold startD at hd
  unfold L2.start
  by_cases q : i < ds.length
  · rw [List.getElem?_append_left (by simpa using q), List.getElem?_map] at hd
    rw [List.getElem?_append_left (by rw [List.length_map, hl]; exact q), List.getElem?_map]
    cases z : ds[i]? with
    | none => rw [z] at hd; cases hd
    | some d' =>
      rw [z] at hd
      obtain ⟨v, hv, rv⟩ := r.get z
      rw [hv]
      cases hd
      exact ⟨v, rfl, rv⟩
  · rw [List.getElem?_append_right (by simp; omega)] at hd
    rw [List.getElem?_replicate] at hd
    split at hd <;> cases hd
/-- a def that may be called by its name: its denotation -/
structure Cal (P : Program) (w : World) (K : PySem.W.Frag) (mg : Str → Option Value) (base : Heap) (G : Gx) (k : Nat) (x : Str) (F : List D → MS → R D) : Prop where
  ex : ∃ (f : Addr) (fd : FuncData) (ps : List Str), FnOk P w K mg base (L2.CX P w) k f fd ps (spD G F) ∧ mg x = some (.ref f) ∧ PySem.W.keepIn K (.ref f) = true ∧ Binds K fd ps []
theorem Cal.mono {P : Program} {w : World} {K : PySem.W.Frag} {mg : Str → Option Value} {base : Heap} {G : Gx} {j k : Nat} {x : Str} {F : List D → MS → R D} (c : Cal P w K mg base G j x F) (h : j ≤ k) : Cal P w K mg base G k x F := by
  obtain ⟨f, fd, ps, a, b⟩ := c.ex
  exact ⟨f, fd, ps, a.mono h, b⟩
/-- what is raised in a def's body -/
abbrev WE0 (E : XK) : WX := fun cls d _ H => E cls d H
section
variable {P : Program} {w : World} {K : PySem.W.Frag} {mg : Str → Option Value} {base : Heap} {G : Gx}
theorem fn_den {x qual : Str} {st : Stmt} {f : Addr} {fd : FuncData} {N ps : List Str} {k n : Nat} {g : En → MS → RS} (F : Fun K x qual st f fd) (S : FnScope N ps (defScope st)) (hn : N.length = n) {j : Nat} (hj : ps.length = j)
    (hbody : ∀ (cdv : Value) (A : Around) (outer : List Env) (s : Shared) (H : Hp) (E : XK), Room k (A.deeper (envOfC qual (defScope st) s.heap.objs.size f cdv)) →
      PSs (cxOf (L2.CX P w) P w K mg base N qual (defScope st) f cdv A outer s H E) (defBody st) (tS G (WE0 E) g)) : FnOk P w K mg base (L2.CX P w) (k + 1) f fd ps (spD G (fnD j n g)) := by
  subst hn; subst hj
  refine F.okX S (fun vs H Q E h => ?_) (fun cdv A outer s H vs Q E hr h => ⟨_, hbody cdv A outer s H E hr, ?_⟩)
  · obtain ⟨M, S, ds, r, rs, h⟩ := h
    unfold fnD at h
    by_cases q : ds.length = ps.length
    · rw [rs.length, q]
    · rw [if_neg q] at h; exact h.elim
  · obtain ⟨M, S, ds, r, rs, h⟩ := h
    unfold fnD at h
    by_cases q : ds.length = ps.length
    · rw [if_pos q] at h
      refine ⟨M, S, startD N.length ds, r, envR_start rs, ?_⟩
      cases z : g (startD N.length ds) S with
      | nx ρ S' => rw [z] at h; exact fun M' H' σ' x' r' e' => h M' H' .non x' r' .non
      | ret d S' => rw [z] at h; exact h
      | exc c ρ S' => rw [z] at h; exact fun M' H' σ' x' r' e' => h M' H' x' r'
      | brk ρ S' => rw [z] at h; exact h.elim
      | ct ρ S' => rw [z] at h; exact h.elim
      | bad => rw [z] at h; exact h
    · rw [if_neg q] at h; exact h.elim
end
section
variable {X : Cx} {G : Gx} {W : WX} {a : Expr} {es : List Expr} {fs : En → MS → R (List D)} {pos : Pos}
theorem den_cal {x : Str} {k : Nat} {F : List D → MS → R D} {p : Pos} (c : Cal X.prog X.w X.K X.mg X.base G k x F) (hr : Room k X.A) (tk : Takes X W)
    (ha : PA X (a :: es) (tA G W fs)) (hg : Gl X x := by rfl) (hdb : (x == ("__debug__" : Str)) = false := by decide) (he : starEach (a :: es) X.env = (false, eval a X.env) :: starEach es X.env := by rfl) (hpl : (backTo pos (starEach es X.env)).any (·.1) = false := by rfl) :
    PE X (.Call (.Name x p) (a :: es) [] pos) (tD G W (eF F fs)) := by
  obtain ⟨f, fd, ps, Fn, hm, hk, hb⟩ := c.ex
  exact den_call (fun M S H ds vs Q E r rs h => ⟨M, S, ds, r, rs, h⟩) Fn hr hg hm hk hb tk ha hdb he hpl
end

/-! ### walks over values -/
def itemsD (d : D) : Option (List D) := match d with
  | .tup xs => some xs
  | .lst xs => some xs
  | .frz xs => some xs
  | .str x => some (x.cps.toList.map fun c => .str ⟨#[c]⟩)
  | _ => none
def iSeq (f : En → MS → R D) : En → MS → R (List D) := fun ρ S => (f ρ S).bind fun d S1 => ofO (itemsD d) S1
section
variable {X : Cx} {G : Gx} {W : WX} {tg e : Expr} {f : En → MS → R D}
theorem itR_lst {K : PySem.W.Frag} {M : Mx} {H : Hp} {a : Addr} {vs : List V} {ds : List D} (hq : ∀ M2 H2, ExtW M H M2 H2 → SqL K H2 a vs) (r : Reps G M H vs ds) : ItR G M H (Itl K a) (vsrc ds) := by
  intro M2 H2 S2 x2 r2 i
  have hs := hq M2 H2 x2
  unfold vsrc
  cases z : ds[i]? with
  | none =>
    refine ⟨vs, hs, ?_⟩
    rw [r.length]; exact List.getElem?_eq_none_iff.mp z
  | some d =>
    obtain ⟨v, hv, rv⟩ := r.get z
    refine ⟨⟨vs, v, hs, hv⟩, fun y H3 hy => ?_⟩
    obtain ⟨rfl, hy⟩ := hy
    have := hy vs hs
    rw [hv] at this; cases this
    exact ⟨Ext.refl _ _, r2, rv.extW x2⟩
theorem itR_tup {K : PySem.W.Frag} {M : Mx} {H : Hp} {a : Addr} {vs : List V} {ds : List D} (hq : ∀ M2 H2, ExtW M H M2 H2 → SqT K H2 a vs) (r : Reps G M H vs ds) : ItR G M H (Itt K a) (vsrc ds) := by
  intro M2 H2 S2 x2 r2 i
  have hs := hq M2 H2 x2
  unfold vsrc
  cases z : ds[i]? with
  | none =>
    refine ⟨vs, hs, ?_⟩
    rw [r.length]; exact List.getElem?_eq_none_iff.mp z
  | some d =>
    obtain ⟨v, hv, rv⟩ := r.get z
    refine ⟨⟨vs, v, hs, hv⟩, fun y H3 hy => ?_⟩
    obtain ⟨rfl, hy⟩ := hy
    have := hy vs hs
    rw [hv] at this; cases this
    exact ⟨Ext.refl _ _, r2, rv.extW x2⟩
theorem itR_str {M : Mx} {H : Hp} {x : Str} : ItR G M H (Its x) (vsrc (x.cps.toList.map fun c => .str ⟨#[c]⟩)) := by
  intro M2 H2 S2 x2 r2 i
  unfold vsrc
  rw [List.getElem?_map]
  cases z : x.cps.toList[i]? with
  | none =>
    show x.cps.size ≤ i
    have := List.getElem?_eq_none_iff.mp z
    simpa using this
  | some c =>
    have hi : i < x.cps.size := by simpa using (List.getElem?_eq_some_iff.mp z).1
    have z2 : x.cps[i]? = some c := by rw [← z]; simp
    refine ⟨hi, fun y H3 hy => ?_⟩
    obtain ⟨rfl, c', hc, rfl⟩ := hy
    rw [z2] at hc; cases hc
    exact ⟨Ext.refl _ _, r2, .str _⟩
theorem deni_seq (he : PE X e (tD G W f)) (hK : X.K = G.K := by rfl) : PI X tg e (tIV G W (iSeq f)) := by
  refine pi_imp (pi_or (pi_or (pi_list he) (pi_tup he)) (pi_str he)) fun σ H Rk ⟨M, S, ρ, r, e, h⟩ => ?_
  unfold iSeq at h
  cases z : f ρ S with
  | bad => rw [z] at h; exact h.elim
  | exc c S' => rw [z] at h; exact .inl (.inl ⟨M, S, ρ, r, e, by rw [z]; exact h⟩)
  | ok d S' =>
    rw [z] at h
    cases d with
    | tup ds =>
      refine .inl (.inr ⟨M, S, ρ, r, e, ?_⟩)
      rw [z]
      intro M1 H1 v x1 r1 p1
      obtain ⟨a, vs, rfl, ha, n1, n2, zl, rs⟩ := p1.tup_inv
      exact ⟨a, rfl, ⟨vs, SqT.of ha⟩, h M1 H1 _ x1 r1 (itR_tup (fun M2 H2 x2 => SqT.of (x2.keep _ _ ha n1 n2)) rs)⟩
    | lst ds =>
      refine .inl (.inl ⟨M, S, ρ, r, e, ?_⟩)
      rw [z]
      intro M1 H1 v x1 r1 p1
      obtain ⟨a, vs, rfl, ha, n1, n2, zl, rs⟩ := p1.lst_inv
      exact ⟨a, rfl, ⟨vs, SqL.of ha⟩, h M1 H1 _ x1 r1 (itR_lst (fun M2 H2 x2 => SqL.of (x2.keep _ _ ha n1 n2)) rs)⟩
    | frz ds =>
      refine .inl (.inl ⟨M, S, ρ, r, e, ?_⟩)
      rw [z]
      intro M1 H1 v x1 r1 p1
      obtain ⟨a, vs, rfl, ha, _, zl, rs⟩ := p1.frz_inv
      rw [hK]
      exact ⟨a, rfl, ⟨vs, ha _ _ (ExtW.refl _ _)⟩, h M1 H1 _ x1 r1 (itR_lst ha rs)⟩
    | str x =>
      refine .inr ⟨M, S, ρ, r, e, ?_⟩
      rw [z]
      intro M1 H1 v x1 r1 p1
      exact ⟨x, p1.str_inv, h M1 H1 _ x1 r1 itR_str⟩
    | _ => exact h.elim
end
end Dn

namespace PySem
open Sem (wp)
theorem dn_enum_new {v : Value} {o : Obj} {H : Heap → Prop} (B : Begins v o H) :
    Meets (Builtin.«enumerate.__new__» ⟨[.type "enumerate", v], []⟩) (fun _ R s => H s.heap ∧
      R (.ok (.ret (.ref (s.heap.push o).objs.size))) { s with heap := (s.heap.push o).push { cls := .type "enumerate", data := .fields #[.none, .bool false, .ref s.heap.objs.size, rawInt 0, .none, .none] } }) :=
  .of_wp fun prog w A R s h => by
    obtain ⟨hp, g, d, tk, os⟩ := s; obtain ⟨h1, h⟩ := h
    have hsub := sub_enumerate
    have q1 : ∀ {A' : Around} {E : Value → Shared → Prop} {Q : Value → Shared → Prop}, Q (.ref hp.objs.size) ⟨hp.push o, g, d, tk, os⟩ → wpAny (model prog w) A' (pyIter v) Q E ⟨hp, g, d, tk, os⟩ :=
      fun q => B.iter prog w _ _ ⟨hp, g, d, tk, os⟩ _ h1 q
    wp_walk using q1
    refine wpAny_stack_any fun st => wpAny_pure ?_
    split
    · rename_i c _ _ _ _ _
      cases (c == Value.type "enumerate")
      · wp_walk using q1
        exact ⟨_, rfl, h⟩
      · wp_walk using q1
        exact ⟨_, rfl, h⟩
    · wp_walk using q1
      exact ⟨_, rfl, h⟩
section
variable {prog : Program} {w : World} {A : Around} {E : Value → Shared → Prop} {s : Shared}
theorem dn_enum_begins {v : Value} {o : Obj} {H : Heap → Prop} {Q : Value → Shared → Prop} (B : Begins v o H) (h1 : H s.heap)
    (h : ∀ h', IsEnum h' (s.heap.objs.size + 1) s.heap.objs.size 0 .none → h'.get? s.heap.objs.size = some o → h'.objs.size = s.heap.objs.size + 2 →
      (∀ b o, s.heap.get? b = some o → h'.get? b = some o) → Q (.ref (s.heap.objs.size + 1)) { s with heap := h' }) :
    wpAny (model prog w) A (call (.type "enumerate") [v]) Q E s := by
  refine callType_new F.called_enumerate (by decide) (F.typeCall_enumerate_1 _) (F.newCall_enumerate_1 _) (fun obj => F.args_object_init_2 obj _) F.entry_enumerate_new
    (dn_enum_new B) ⟨h1, ?_⟩
  have hz : (s.heap.push o).objs.size = s.heap.objs.size + 1 := Heap.size_push ..
  show _ ∧ _
  rw [hz]
  have he : IsEnum ((s.heap.push o).push { cls := .type "enumerate", data := .fields #[.none, .bool false, .ref s.heap.objs.size, rawInt 0, .none, .none] }) (s.heap.objs.size + 1) s.heap.objs.size 0 .none := by
    have := Heap.get?_push_size (s.heap.push o) (o := { cls := .type "enumerate", data := .fields #[.none, .bool false, .ref s.heap.objs.size, rawInt 0, .none, .none] }) rfl
    rw [hz] at this; exact this
  refine ⟨⟨_, he, rfl⟩, h _ he (Heap.get?_push_of_some _ (Heap.get?_push_size _ B.free)) (by rw [Heap.size_push, hz]) fun b o x => Heap.get?_push_of_some _ (Heap.get?_push_of_some _ x)⟩
theorem dn_enumT_end {e it l : Addr} {k : Nat} {i : Int} {items : Array Value} {old : Value} {Q : Option Value → Shared → Prop} (hh : A.handled = none) (he : IsEnum s.heap e it i old) (hit : s.heap.IsTupleIter it l k) (hl : s.heap.IsTuple l items) (hx : items[k]? = none)
    (hQ : ∀ h', Heap.ExtBut it s.heap h' → Q none { s with heap := h' }) : wpAny (model prog w) A (pyNext (.ref e)) Q E s := by
  have hT : s.TypeIs (.ref e) "enumerate" := ⟨_, he, rfl⟩
  unfold pyNext
  refine wpAny_bind (wpAny_attempt (wpAny_callSpecial?_slot (name := Str.ofString "__next__") hT F.slot_enumerate_next
    (wpAny_call_entry F.slot_enumerate_next hT F.entry_enumerate_next ?_ (F.args_enumerate_next_1 _))))
  show wpAny _ _ (field (.ref e) 2 >>= _) _ _ _
  refine wpAny_bind (wpAny_field he rfl (x := .ref it) rfl ?_)
  refine wpAny_bind (RZ.nextOf_tuple_end hh hit hl hx fun h' x he' hx' => ?_)
  obtain ⟨o, ho, hc⟩ := hx'
  refine wpAny_bind (wpAny_isInstance (T := "StopIteration") (b := true) ⟨o, ho, hc⟩ isSubtype_stop ?_)
  exact wpAny_pure (hQ _ he')
end
end PySem
namespace L2
open PySem PySem.Spec PyProof.Rows
/-! ### enumerate(tuple) -/
def IteT (K : PySem.W.Frag) (a : Addr) : It :=
  ⟨fun i H => ∃ (xs : List V) (x : V), SqT K H a xs ∧ xs[i]? = some x, fun i H v H' => ∃ T x, v = .ref T ∧ H T = none ∧ H' = upd H T (.tup [.int (i : Nat), x]) ∧ ∀ xs, SqT K H a xs → xs[i]? = some x, fun i H => ∃ xs : List V, SqT K H a xs ∧ xs.length ≤ i⟩
theorem turn_enumT {P : Program} {w : World} {K : PySem.W.Frag} {elts : List Expr} {kk : Nat} {tpos : Pos} (a e it : Addr) :
    Turn P w K (.Tuple elts kk tpos) (IteT K a) [e, it] e (fun i h => (∃ old, IsEnum h e it ((i : Nat) : Int) old) ∧ h.IsTupleIter it a i ∧ e ≠ it) where
  mem := by simp
  obj := fun i h st b hb => by
    obtain ⟨⟨old, he⟩, ⟨o, ho, hc, hd⟩, _⟩ := st
    have e' : b = e ∨ b = it := by simpa using hb
    rcases e' with z | z
    · rw [z]; exact ⟨_, he, fun v q => nomatch q⟩
    · rw [z]; exact ⟨o, ho, fun v q => by rw [hd] at q; cases q⟩
  keep := fun i h h' st k => let ⟨⟨old, he⟩, hi, hne⟩ := st; ⟨⟨old, k e (by simp) _ he⟩, hi.at fun o q => k it (by simp) o q, hne⟩
  item := by
    intro X hP hw hK hc i pins s σ H E I hf st hg
    subst hP hw hK
    obtain ⟨⟨old, he⟩, hit, hne⟩ := st
    obtain ⟨xs, x, hq, hx⟩ := hg
    obtain ⟨its, rv, p, hz⟩ := I.tuple hq
    obtain ⟨u, hu, ru⟩ := rv.get hx
    have hel : e < s.heap.objs.size := Heap.lt_size he
    have hil : it < s.heap.objs.size := by obtain ⟨_, q, _⟩ := hit; exact Heap.lt_size q
    have hti : a ≠ it := fun z => by
      obtain ⟨o1, e1, c1, _⟩ := hit
      obtain ⟨o2, e2, c2, _⟩ := p
      rw [z, e1] at e2; cases e2; rw [c1] at c2; exact absurd c2 (by decide)
    have hea : e ≠ a := fun z => by
      obtain ⟨o2, e2, c2, _⟩ := p
      have he' : s.heap.get? e = some _ := he
      rw [← z, he'] at e2; cases e2; exact absurd (show Value.type "enumerate" = Value.type "tuple" from c2) (by decide)
    have il : i < its.toArray.size := by
      have := (List.getElem?_eq_some_iff.mp hu).1
      simpa using this
    have hh : X.A.in1.handled = none := I.ok.hd hc
    refine wpAny_pyNext_enum_itemD (Draws.tuple (A := X.A.in1) hh it a hti its.toArray) he ⟨hit, p⟩ il hne (by simp [hne, hea]) fun v h' tk hv ho hst hT hsz hk => ?_
    have ev : v = u := by
      rw [show its.toArray[i]? = some u by simpa using hu] at hv
      exact (Option.some.inj hv).symm
    subst ev
    refine ⟨_, rfl, wpAny_letOwnedTupleGo_enum (s := { s with heap := h', toks := tk + 1 }) ho fun h'' he' sb => ?_⟩
    have hT2 : h''.get? s.heap.objs.size = some { cls := .type "tuple", data := .seq #[.int i tk, v] } := (sb.2 _ (Nat.ne_of_gt hel)).trans hT
    have new : ObjOk X.prog X.w (upd H s.heap.objs.size (.tup [.int (i : Nat), x])) h'' s.heap.objs.size (.tup [.int (i : Nat), x]) :=
      ⟨by show 2 ≤ sizeLine; decide, [.int i tk, v], .cons ⟨_, rfl⟩ (.cons ru .nil), ⟨_, hT2, rfl, _, rfl⟩⟩
    have I1 : Inv X pins σ (upd H s.heap.objs.size (.tup [.int (i : Nat), x])) { s with heap := h'', toks := tk + 1 } :=
      I.turnedNew (ch := [e, it]) (fun b ob hb q => (sb.2 b (fun z => hb (by simp [z]))).trans (hk b ob (fun z => hb (by simp [z])) (fun z => hb (by simp [z])) q)) hf (Nat.le_refl _) new
    refine ⟨.ref s.heap.objs.size, _, I1, rfl, ⟨_, x, rfl, I.hok.fresh (Nat.le_refl _), rfl, fun ys hy => by rw [I.tuple_inj hy hq]; exact hx⟩, ⟨⟨v, ?_⟩, hst.1.at fun o q => (sb.2 it (Ne.symm hne)).trans q, hne⟩, fun b hb => ?_⟩
    · have e1 : ((i + 1 : Nat) : Int) = (i : Int) + 1 := by omega
      rw [e1]; exact he'
    · have hb' : b < s.heap.objs.size := by
        have e' : b = e ∨ b = it := by simpa using hb
        rcases e' with z | z
        · rw [z]; exact hel
        · rw [z]; exact hil
      rw [upd_ne (Nat.ne_of_lt hb')]
      exact (hf b hb).1
  done := by
    intro X hP hw hK hc i pins s σ H E I hf st hg
    subst hP hw hK
    obtain ⟨⟨old, he⟩, hit, hne⟩ := st
    obtain ⟨xs, hq, hx⟩ := hg
    obtain ⟨its, rv, p, hz⟩ := I.tuple hq
    obtain ⟨f0, f1, f2, f3, f4, f5⟩ := hf it (by simp)
    have hl := rv.length
    exact dn_enumT_end (I.ok.hd hc) he hit p (by simp; omega) fun h' eb => ⟨rfl, I.turned (t' := s.toks) (fun b o hb q => eb b o hb q) f0 f1 f3 f4 f5⟩
  self := fun A i s Q E st h => let ⟨⟨_, he⟩, _⟩ := st; wpAny_pyIter_enum he h
def iEnumT (K : PySem.W.Frag) (ta : TA) : TI := fun σ H R => ta σ H fun vs H1 => ∃ a xs, vs = [.ref a] ∧ SqT K H1 a xs ∧ R (IteT K a) H1
theorem pi_enumT {X : Cx} {e : Expr} {ta : TA} {p pos tpos : Pos} {elts : List Expr} {kk : Nat} (hg : Gl X "enumerate") (hm : X.mg "enumerate" = none) (ha : PA X [e] ta) (hs : starEach [e] X.env = [(false, eval e X.env)] := by rfl) :
    PI X (.Tuple elts kk tpos) (.Call (.Name "enumerate" p) [e] [] pos) (iEnumT X.K ta) := by
  refine ⟨fun pins s σ H R I h => ?_⟩
  refine Call_ (ld_blt I hg hm boot_enumerate (PyProof.Rows.callWith_type1 (thn (ha.run pos pins s σ H _ I h) fun us s1 ⟨vs, H1, I1, r1, q1⟩ => ?_) hs rfl))
  obtain ⟨a, xs, ex, hq, q⟩ := q1
  subst ex
  cases r1 with
  | cons r rr =>
    cases rr
    cases r
    obtain ⟨its, rv, p', hz⟩ := I1.tuple hq
    refine dn_enum_begins (begins_tuple a its.toArray) p' fun h' he hit hsz hk => wpAny_pyIter_enum he ?_
    have I2 : Inv X pins σ H1 { s1 with heap := h' } := I1.kept (t' := s1.toks) hk
    refine ⟨s1.heap.objs.size + 1, [s1.heap.objs.size + 1, s1.heap.objs.size], _, _, H1, rfl, I2, turn_enumT a (s1.heap.objs.size + 1) s1.heap.objs.size, ⟨⟨.none, he⟩, ⟨_, hit, rfl, rfl⟩, Nat.succ_ne_self _⟩, fun b hb => ?_, q⟩
    have e' : b = s1.heap.objs.size + 1 ∨ b = s1.heap.objs.size := by simpa using hb
    have hle : s1.heap.objs.size ≤ b := by
      rcases e' with z | z
      · rw [z]; exact Nat.le_add_right _ _
      · rw [z]; exact Nat.le_refl _
    exact I1.fpOk hle (I1.hok.fresh hle)
end L2
namespace L2
open PySem PySem.Spec PyProof.Rows
open PySem.AutoSeq1 (wpAny_loadPart')
/-- t * n where nothing is made anew: t empty, or n one -/
theorem tuple_mulS (l : Addr) (items : Array Value) (n : Nat) (dd : Option Addr) (sl : Array (Option Value)) (x : Int) (u : Tok) (c0 : (decide (x < -(2 ^ 63)) || decide (x ≥ 2 ^ 63)) = false) (c1 : (items.isEmpty || x == 1) = true) :
    Meets (Builtin.«tuple.__mul__» ⟨[.ref l, .int x u], []⟩) (fun _ R s => s.heap.get? l = some { cls := .type "tuple", dict := dd, data := .seq items n, slots := sl } ∧
      R (.ok (.ret (Value.ref l))) s) :=
  .of_wp fun prog w A R s h => by
    obtain ⟨hp, g, d, tk, os⟩ := s
    obtain ⟨hl, h⟩ := h
    have f1 := AutoSeq1.idx_int
    wp_walk using wpAny_loadPart' hl
    repeat (first
      | (refine wpAny_ite_false (decide_eq_false (by rw [c0]; exact Bool.false_ne_true)) ?_; wp_walk using wpAny_loadPart' hl)
      | (refine wpAny_ite_true (decide_eq_true c1) ?_; wp_walk using wpAny_loadPart' hl))
    exact ⟨_, rfl, h⟩
/-- t * n, n no more than nought -/
theorem tuple_mul0 (l : Addr) (items : Array Value) (n : Nat) (dd : Option Addr) (sl : Array (Option Value)) (x : Int) (u : Tok) (c0 : (decide (x < -(2 ^ 63)) || decide (x ≥ 2 ^ 63)) = false) (c1 : (items.isEmpty || x == 1) = false) (c2 : (decide (x ≤ 0) || items.isEmpty) = true) :
    Meets (Builtin.«tuple.__mul__» ⟨[.ref l, .int x u], []⟩) (fun _ R s => s.heap.get? l = some { cls := .type "tuple", dict := dd, data := .seq items n, slots := sl } ∧
      R (.ok (.ret (Value.ref s.heap.objs.size))) { s with heap := s.heap.push { cls := Value.type "tuple", data := Data.seq #[] }, toks := s.toks }) :=
  .of_wp fun prog w A R s h => by
    obtain ⟨hp, g, d, tk, os⟩ := s
    obtain ⟨hl, h⟩ := h
    have f1 := AutoSeq1.idx_int
    wp_walk using wpAny_loadPart' hl
    repeat (first
      | (refine wpAny_ite_false (decide_eq_false (by rw [c0]; exact Bool.false_ne_true)) ?_; wp_walk using wpAny_loadPart' hl)
      | (refine wpAny_ite_false (decide_eq_false (by rw [c1]; exact Bool.false_ne_true)) ?_; wp_walk using wpAny_loadPart' hl)
      | (refine wpAny_ite_true (decide_eq_true c2) ?_; wp_walk using wpAny_loadPart' hl)
      | (refine wpAny_ite_false (decide_eq_false (Nat.not_lt.mpr (by decide))) ?_; wp_walk using wpAny_loadPart' hl))
    exact ⟨_, rfl, h⟩
def rRepS (K : PySem.W.Frag) : R2 := fun x y H Q => ∃ l k xs, x = .ref l ∧ y = .int k ∧ SqT K H l xs ∧ -1000 ≤ k ∧ k ≤ 1000 ∧ (xs = [] ∨ k = 1) ∧ Q (.ref l) H
def rRep0 (K : PySem.W.Frag) : R2 := fun x y H Q => ∃ l k xs, x = .ref l ∧ y = .int k ∧ SqT K H l xs ∧ -1000 ≤ k ∧ k ≤ 0 ∧ xs ≠ [] ∧ ∀ p, H p = none → Q (.ref p) (upd H p (.tup []))
section
variable {X : Cx}
theorem op_repS : OpR X (binaryOp .Mult) (rRepS X.K) := by
  intro pins s σ H x y v u Q I rx ry h
  obtain ⟨l, k, xs, rfl, rfl, hT, h1, h2, hz, q⟩ := h
  cases rx
  obtain ⟨t, rfl⟩ := ry
  obtain ⟨its, r, ⟨⟨cls, dd, data, sl⟩, ho, hc, n, hd⟩, hs⟩ := I.tuple hT
  simp only at hc hd
  subst hc hd
  have c0 : (decide (k < -(2 ^ 63)) || decide (k ≥ 2 ^ 63)) = false := by
    rw [decide_eq_false (by omega), decide_eq_false (by omega)] <;> rfl
  have c1 : (its.toArray.isEmpty || k == 1) = true := by
    rcases hz with e | e
    · subst e; cases r; rfl
    · subst e; simp
  refine wpAny_binaryOp_repeat_ref (T := "tuple") (U := "int") (by decide) ⟨_, ho, rfl⟩ (fun s' => typeIs_int s' k t) noFill_tuple_mul F.fills_int_mul F.slot_int_rmul repeat_tuple F.slot_int_index.lookup
    (call_meets F.slot_int_rmul (typeIs_int s k t) F.entry_int_rmul (F.args_int_rmul_2 _ _) (int_rmul_tuple k t l its.toArray n dd sl)
      ⟨ho, rfl, ⟨_, ho, rfl⟩, call_meets F.slot_tuple_mul ⟨_, ho, rfl⟩ F.entry_tuple_mul (F.args_tuple_mul_2 _ _) (tuple_mulS l its.toArray n dd sl k t c0 c1) ⟨ho, ?_⟩⟩)
  exact ⟨.ref l, H, I, rfl, q⟩
theorem op_rep0 : OpR X (binaryOp .Mult) (rRep0 X.K) := by
  intro pins s σ H x y v u Q I rx ry h
  obtain ⟨l, k, xs, rfl, rfl, hT, h1, h2, hz, q⟩ := h
  cases rx
  obtain ⟨t, rfl⟩ := ry
  obtain ⟨its, r, ⟨⟨cls, dd, data, sl⟩, ho, hc, n, hd⟩, hs⟩ := I.tuple hT
  simp only at hc hd
  subst hc hd
  have hi : its.toArray.isEmpty = false := by
    cases r with
    | nil => exact absurd rfl hz
    | cons a b => rfl
  have c0 : (decide (k < -(2 ^ 63)) || decide (k ≥ 2 ^ 63)) = false := by
    rw [decide_eq_false (by omega), decide_eq_false (by omega)] <;> rfl
  have c1 : (its.toArray.isEmpty || k == 1) = false := by
    rw [hi, Bool.false_or]
    exact beq_eq_false_iff_ne.mpr (by omega)
  have c2 : (decide (k ≤ 0) || its.toArray.isEmpty) = true := by
    rw [decide_eq_true h2]; rfl
  refine wpAny_binaryOp_repeat_ref (T := "tuple") (U := "int") (by decide) ⟨_, ho, rfl⟩ (fun s' => typeIs_int s' k t) noFill_tuple_mul F.fills_int_mul F.slot_int_rmul repeat_tuple F.slot_int_index.lookup
    (call_meets F.slot_int_rmul (typeIs_int s k t) F.entry_int_rmul (F.args_int_rmul_2 _ _) (int_rmul_tuple k t l its.toArray n dd sl)
      ⟨ho, rfl, ⟨_, ho, rfl⟩, call_meets F.slot_tuple_mul ⟨_, ho, rfl⟩ F.entry_tuple_mul (F.args_tuple_mul_2 _ _) (tuple_mul0 l its.toArray n dd sl k t c0 c1 c2) ⟨ho, ?_⟩⟩)
  refine ⟨.ref s.heap.objs.size, _, I.laid (t' := s.toks) (o := .tup []) (fun b ob q => Heap.get?_push_of_some _ q) (Nat.le_refl _) ?_, rfl, q _ (I.hok.fresh (Nat.le_refl _))⟩
  exact ⟨Nat.zero_le _, [], .nil, IsTup.new _ _⟩
end
end L2
namespace HT
open PySem PyProof.Rows
section
variable {prog : Program} {w : World} {A : Around} {E : Value → Shared → Prop} {s : Shared}
theorem revApplied {sl : Addr} {t : Tok} {n : Nat} {Q : Int × Int × Nat → Shared → Prop} (hs : s.heap.IsSliceOf sl .none .none (.int (-1) t))
    (h : Q ((n : Int) - 1, -1, n) s) : wpAny (model prog w) A (Builtin.Slice.sliceApplied (.ref sl) (pure (n : Int))) Q E s := by
  obtain ⟨os, hos, hcs, hds⟩ := id hs
  unfold Builtin.Slice.sliceApplied Builtin.Slice.sliceFields
  refine wpAny_bind (wpAny_bind (wpAny_field hos hds (x := .none) rfl (wpAny_bind (wpAny_field hos hds (x := .none) rfl (wpAny_bind (wpAny_field hos hds (x := .int (-1) t) rfl (wpAny_pure ?_)))))))
  refine wpAny_bind (slicePart_int ?_)
  show wpAny _ _ (if ((-1 : Int) == 0) = true then _ else _) _ _ s
  rw [if_neg (by decide)]
  refine wpAny_bind (slicePart_none (wpAny_bind (slicePart_none (wpAny_bind (wpAny_pure ?_)))))
  show wpAny _ _ (pure (Builtin.Slice.sliceAdjust none none (-1) (n : Int) |>.1, (-1 : Int), Builtin.Slice.slicePlaces (Builtin.Slice.sliceAdjust none none (-1) (n : Int)).1 (Builtin.Slice.sliceAdjust none none (-1) (n : Int)).2 (-1))) _ _ s
  have e1 : Builtin.Slice.sliceAdjust none none (-1) (n : Int) = ((n : Int) - 1, -1) := rfl
  have e2 : Builtin.Slice.slicePlaces ((n : Int) - 1) (-1) (-1) = n := by
    unfold Builtin.Slice.slicePlaces
    have h1 : ¬ ((-1 : Int) > 0) := by decide
    rw [if_neg h1]
    rw [show (- -1 : Int) = 1 by decide, Int.ediv_one]
    split <;> omega
  rw [e1]
  show wpAny _ _ (pure ((n : Int) - 1, (-1 : Int), Builtin.Slice.slicePlaces ((n : Int) - 1) (-1) (-1))) _ _ s
  rw [e2]
  exact wpAny_pure h
theorem fm_congr {α β : Type} {f g : α → Option β} : ∀ {l : List α}, (∀ a ∈ l, f a = g a) → l.filterMap f = l.filterMap g
  | [], _ => rfl
  | a :: l, h => by
    rw [List.filterMap_cons, List.filterMap_cons, h a List.mem_cons_self, fm_congr fun b hb => h b (List.mem_cons_of_mem _ hb)]
theorem rev_pick (xs : Array Value) : ((List.range xs.size).filterMap fun (m : Nat) => xs[(((xs.size : Int) - 1) + (m : Int) * (-1)).toNat]?).toArray = xs.toList.reverse.toArray := by
  have e : ((List.range xs.size).filterMap fun (m : Nat) => xs[(((xs.size : Int) - 1) + (m : Int) * (-1)).toNat]?) = ((List.range xs.size).map fun k => xs.size - 1 - k).filterMap (xs[·]?) := by
    rw [List.filterMap_map]
    refine fm_congr fun m hm => ?_
    have hm := List.mem_range.mp hm
    have : (((xs.size : Int) - 1) + (m : Int) * (-1)).toNat = xs.size - 1 - m := by omega
    rw [this]; rfl
  rw [e, PySem.W.krv_range, List.filterMap_reverse, PySem.W.krv_all]
theorem getItem_tuple_rev {t sl : Addr} {items : Array Value} {tk : Tok} {Q : Value → Shared → Prop} (ht : IsTup s.heap t items) (hs : s.heap.IsSliceOf sl .none .none (.int (-1) tk))
    (h : Q (.ref s.heap.objs.size) { s with heap := s.heap.push { cls := .type "tuple", data := .seq items.toList.reverse.toArray } })
    (hsz : items.size ≤ sizeLine) : wpAny (model prog w) A (getItem (.ref t) (.ref sl)) Q E s := by
  have htake : sizeOk (.seq items.toList.reverse.toArray) := by
    show items.toList.reverse.toArray.size ≤ sizeLine
    rw [List.size_toArray, List.length_reverse, Array.length_toList]
    exact hsz
  obtain ⟨os, hos, hcs, hds⟩ := id hs
  have hTs : s.TypeIs (.ref sl) "slice" := ⟨os, hos, hcs⟩
  unfold getItem
  try with_reducible refine wpAny_holding ?_
  first | refine wpAny_bind (wpAny_pure ?_) | skip
  refine wpAny_bind (wpAny_sequenceKey ht.typeIs (by decide) ?_)
  refine wpAny_bind (wpAny_callSpecial?_slot (name := Str.ofString "__getitem__") ht.typeIs PyProof.Rows.slot_tuple_getitem
    (wpAny_call_entry PyProof.Rows.slot_tuple_getitem ht.typeIs entry_tuple_getitem ?_ (args_tuple_getitem _ _)))
  show wpAny _ _ (Builtin.Tuple.tupleItemsOf (.ref t) >>= _) _ _ s
  refine wpAny_bind (tupleItemsOf_ ht ?_)
  refine wpAny_bind (wpAny_typeOf hTs ?_)
  rw [if_pos (by decide)]
  refine wpAny_bind (revApplied hs ?_)
  have hno : ¬ ((((items.size : Int) - 1) == 0 && (-1 : Int) == 1 && items.size == items.size) = true) := by
    intro q
    rw [Bool.and_eq_true, Bool.and_eq_true] at q
    exact absurd q.1.2 (by decide)
  show wpAny _ _ (if (((items.size : Int) - 1) == 0 && (-1 : Int) == 1 && items.size == items.size) = true then _ else _) _ _ s
  rw [if_neg hno, rev_pick]
  first
    | exact wpAny_bind (m := Builtin.Tuple.tupleExact _) (wpAny_newObj_type (wpAny_pure ⟨_, rfl, wpAny_pure h⟩) htake)
    | exact wpAny_bind (m := Builtin.Tuple.tupleExact _) (wpAny_newObj_type (wpAny_bind (wpAny_pure (wpAny_pure ⟨_, rfl, wpAny_pure h⟩))) htake)
    | exact wpAny_bind (wpAny_bind (m := Builtin.Tuple.tupleExact _) (wpAny_newObj_type (wpAny_pure (wpAny_pure ⟨_, rfl, wpAny_pure h⟩)) htake))
    | exact wpAny_bind (wpAny_bind (m := Builtin.Tuple.tupleExact _) (wpAny_newObj_type (wpAny_pure ⟨_, rfl, wpAny_pure h⟩) htake))
end
end HT
namespace L2
open PySem PySem.Spec PyProof.Rows
section
variable {X : Cx}
/-- t[::-1] of a tuple: a new one -/
def tRevT (K : PySem.W.Frag) (te : TE) : TE := fun σ H Q => te σ H fun x H1 => ∃ a xs, x = .ref a ∧ SqT K H1 a xs ∧ ∀ p, H1 p = none → Q (.ref p) (upd H1 p (.tup xs.reverse))
theorem pe_revT {e : Expr} {te : TE} {k : Nat} {p1 p2 p3 pos : Pos} (he : PE X e te) : PE X (.Subscript e (.Slice none none (some (.UnaryOp .USub (.Constant (.int 1) k p1) p2)) p3) pos) (tRevT X.K te) := by
  refine ⟨fun pins s σ H Q I h => ?_⟩
  refine Subscript_ (thn (he.run pins s σ H _ I h) fun v s1 ⟨x, H1, I1, r1, q1⟩ => ?_)
  obtain ⟨a, xs, ex, hx, q⟩ := q1
  subst ex
  cases r1
  have hst : PO X (some (.UnaryOp .USub (.Constant (.int 1) k p1) p2)) (tPart (tUn (rU fun i => .int (-i)) (tC (.int 1)))) := po_some (pe_un un_neg pe_int)
  refine wpAny_Slice (thn (po_none.run pins s1 σ H1 (fun o H2 => o = none ∧ H2 = H1) I1 ⟨rfl, rfl⟩) fun vl s2 ⟨l, H2, I2, pl, el, e2⟩ => ?_)
  subst el e2
  cases pl
  refine thn (po_none.run pins s2 σ H2 (fun o H3 => o = none ∧ H3 = H2) I2 ⟨rfl, rfl⟩) fun vu s3 ⟨u, H3, I3, pu, eu, e3⟩ => ?_
  subst eu e3
  cases pu
  refine thn (hst.run pins s3 σ H3 (fun o H4 => o = some (-1) ∧ H4 = H3) I3 ⟨1, rfl, -1, rfl, rfl, rfl⟩) fun vs s4 ⟨o, H4, I4, ps, eo, e4⟩ => ?_
  subst eo e4
  cases ps with
  | int i tk =>
    have I5 : Inv X pins σ H4 { s4 with heap := s4.heap.push { cls := .type "slice", data := .fields #[.none, .none, .int (-1) tk] } } := I4.kept (t' := s4.toks) fun b ob q => Heap.get?_push_of_some _ q
    obtain ⟨its, r, ht, hz⟩ := I5.tuple hx
    have hlen := r.length
    show wpAny (model X.prog X.w) X.A (subscriptTail e (.Slice none none (some (.UnaryOp .USub (.Constant (.int 1) k p1) p2)) p3) (.ref a) (.ref s4.heap.objs.size)) (EP X pins σ Q) X.xe { s4 with heap := s4.heap.push { cls := .type "slice", data := .fields #[.none, .none, .int (-1) tk] } }
    refine tail_any (ops := [.ref a, .ref s4.heap.objs.size]) ht.typeIs PyProof.Rows.slot_tuple_getitem.lookup ?_ (by with_unfolding_all rfl)
    refine HT.getItem_tuple_rev ht (Heap.IsSliceOf.new _ .none .none (.int (-1) tk)) ?_ (by rw [List.size_toArray]; omega)
    refine ⟨.ref _, _, I5.laid (t' := s4.toks) (o := .tup xs.reverse) (fun b ob q => Heap.get?_push_of_some _ q) (Nat.le_refl _) ?_, rfl, q _ (I5.hok.fresh (Nat.le_refl _))⟩
    exact ⟨by rw [List.length_reverse]; exact hz, _, r.reverse, IsTup.new _ _⟩
end
end L2

namespace Dn
open PySem PySem.Spec PyProof.Rows L2

/-! ### further walks -/
def iB (g : List D → Option (List D)) (fs : En → MS → R (List D)) : En → MS → R (List D) := fun ρ S => (fs ρ S).bind fun ds S1 => ofO (g ds) S1
def big : Int := 2 ^ 62
def intsD (lo : Int) (n : Nat) : List D := (List.range n).map fun i => .int (lo + (i : Nat))
def rng1 (ds : List D) : Option (List D) := match ds with
  | [.int j] => if -big ≤ j ∧ j < big then some (intsD 0 j.toNat) else none
  | _ => none
def rng2 (ds : List D) : Option (List D) := match ds with
  | [.int i, .int j] => if (-big ≤ i ∧ i < big) ∧ (-big ≤ j ∧ j < big) then some (intsD i (j - i).toNat) else none
  | _ => none
def vseq (d : D) : Option (List D) := match d with
  | .tup xs => some xs
  | .lst xs => some xs
  | _ => none
def enumL (ds : List D) : List D := ds.zipIdx.map fun p => .tup [.int (p.2 : Nat), p.1]
def enumG (ds : List D) : Option (List D) := match ds with
  | [.tup xs] => some (enumL xs)
  | [.lst xs] => some (enumL xs)
  | _ => none
def zipL (xs ys : List D) : List D := List.zipWith (fun x y => .tup [x, y]) xs ys
def zipG (ds : List D) : Option (List D) := match ds with
  | [.tup xs, .tup ys] => some (zipL xs ys)
  | [.lst xs, .lst ys] => some (zipL xs ys)
  | _ => none
section
variable {X : Cx} {G : Gx} {W : WX} {tg : Expr} {fs : En → MS → R (List D)}
theorem ints_get (lo : Int) (n i : Nat) : (intsD lo n)[i]? = if i < n then some (.int (lo + i)) else none := by
  unfold intsD
  rw [List.getElem?_map]
  by_cases q : i < n
  · rw [if_pos q, List.getElem?_range q]; rfl
  · rw [if_neg q, List.getElem?_eq_none (by simpa using q)]; rfl
theorem itR_range {M : Mx} {H : Hp} {lo : Int} {n : Nat} : ItR G M H (Itr lo n) (vsrc (intsD lo n)) := by
  intro M2 H2 S2 x2 r2 i
  unfold vsrc
  rw [ints_get]
  by_cases q : i < n
  · rw [if_pos q]
    refine ⟨q, fun y H3 hy => ?_⟩
    obtain ⟨rfl, rfl⟩ := hy
    exact ⟨Ext.refl _ _, r2, .int _⟩
  · rw [if_neg q]; exact Nat.le_of_not_lt q
/-- a source by its arguments -/
theorem iB_read {g : List D → Option (List D)} {σ : L2.St} {H : Hp} {Rk : It → Hp → Prop} (h : tIV G W (iB g fs) σ H Rk) :
    tA G W fs σ H fun vs H1 => ∃ M1 S1 ds items, Rel G M1 S1 H1 ∧ Reps G M1 H1 vs ds ∧ g ds = some items ∧ ∀ J, ItR G M1 H1 J (vsrc items) → Rk J H1 := by
  obtain ⟨M, S, ρ, r, e, h⟩ := h
  refine ⟨M, S, ρ, r, e, ?_⟩
  unfold iB at h
  cases z : fs ρ S with
  | bad => rw [z] at h; exact h
  | exc c S' => rw [z] at h; exact h
  | ok ds S' =>
    rw [z] at h
    intro M1 H1 vs x1 r1 p1
    change match ofO (g ds) S' with | .ok ds S' => _ | .exc c S' => _ | .bad => False at h
    cases zg : g ds with
    | none => rw [zg] at h; exact h.elim
    | some items =>
      rw [zg] at h
      exact ⟨M1, S', ds, items, r1, p1, zg, fun J hJ => h M1 H1 J x1 r1 hJ⟩
theorem deni_range1 {a : Expr} {p pos : Pos} (hm : X.mg "range" = none) (ha : PA X [a] (tA G W fs)) (hg : Gl X "range" := by rfl) (hs : starEach [a] X.env = [(false, eval a X.env)] := by rfl) :
    PI X tg (.Call (.Name "range" p) [a] [] pos) (tIV G W (iB rng1 fs)) := by
  refine pi_imp (pi_range1 hg hm ha hs) fun σ H Rk h => ?_
  refine tA_mono (iB_read h) fun vs H1 ⟨M1, S1, ds, items, r1, p1, hg, q⟩ => ?_
  unfold rng1 at hg
  split at hg
  · rename_i j
    split at hg
    · rename_i hj
      cases hg
      obtain ⟨v, rfl, rv⟩ := p1.inv1
      cases rv.int_inv
      exact ⟨j, rfl, hj.1, hj.2, q _ itR_range⟩
    · cases hg
  · cases hg
theorem deni_range2 {a b : Expr} {p pos : Pos} (hm : X.mg "range" = none) (ha : PA X [a, b] (tA G W fs)) (hg : Gl X "range" := by rfl) (hs : starEach [a, b] X.env = [(false, eval a X.env), (false, eval b X.env)] := by rfl)
    (hs2 : starEach [b] X.env = [(false, eval b X.env)] := by rfl) :
    PI X tg (.Call (.Name "range" p) [a, b] [] pos) (tIV G W (iB rng2 fs)) := by
  refine pi_imp (pi_range2 hg hm ha hs hs2) fun σ H Rk h => ?_
  refine tA_mono (iB_read h) fun vs H1 ⟨M1, S1, ds, items, r1, p1, hg, q⟩ => ?_
  unfold rng2 at hg
  split at hg
  · rename_i i j
    split at hg
    · rename_i hj
      cases hg
      obtain ⟨v, w, rfl, rv, rw_⟩ := p1.inv2
      cases rv.int_inv
      cases rw_.int_inv
      exact ⟨i, j, rfl, ⟨hj.1.1, hj.1.2, hj.2.1, hj.2.2⟩, q _ itR_range⟩
    · cases hg
  · cases hg
theorem enumL_get (ds : List D) (i : Nat) : (enumL ds)[i]? = ds[i]?.map fun d => .tup [.int (i : Nat), d] := by
  unfold enumL
  rw [List.getElem?_map, List.getElem?_zipIdx]
  cases ds[i]? with
  | none => rfl
  | some d => simp
theorem pair_new {M : Mx} {H : Hp} {S : MS} {T : Addr} {x y : V} {d e : D} (r : Rel G M S H) (nT : H T = none) (rx : Rep G M H x d) (ry : Rep G M H y e) :
    Ext M H M (upd H T (.tup [x, y])) ∧ Rel G M S (upd H T (.tup [x, y])) ∧ Rep G M (upd H T (.tup [x, y])) (.ref T) (.tup [d, e]) :=
  ⟨Ext.new nT, r.laid nT, .tup upd_same (r.fresh nT) (r.freshx nT) (by show 2 ≤ sizeLine; decide) (.cons (rx.ext (Ext.new nT)) (.one (ry.ext (Ext.new nT))))⟩
theorem itR_enum {K : PySem.W.Frag} {M : Mx} {H : Hp} {a : Addr} {vs : List V} {ds : List D} (hq : ∀ M2 H2, ExtW M H M2 H2 → SqL K H2 a vs) (r : Reps G M H vs ds) : ItR G M H (Ite K a) (vsrc (enumL ds)) := by
  intro M2 H2 S2 x2 r2 i
  have hs := hq M2 H2 x2
  unfold vsrc
  rw [enumL_get]
  cases z : ds[i]? with
  | none => exact ⟨vs, hs, by rw [r.length]; exact List.getElem?_eq_none_iff.mp z⟩
  | some d =>
    obtain ⟨v, hv, rv⟩ := r.get z
    refine ⟨⟨vs, v, hs, hv⟩, fun y H3 hy => ?_⟩
    obtain ⟨T, x, rfl, nT, rfl, hy⟩ := hy
    have := hy vs hs
    rw [hv] at this; cases this
    exact pair_new r2 nT (.int _) (rv.extW x2)
theorem itR_enumT {K : PySem.W.Frag} {M : Mx} {H : Hp} {a : Addr} {vs : List V} {ds : List D} (hq : ∀ M2 H2, ExtW M H M2 H2 → SqT K H2 a vs) (r : Reps G M H vs ds) : ItR G M H (IteT K a) (vsrc (enumL ds)) := by
  intro M2 H2 S2 x2 r2 i
  have hs := hq M2 H2 x2
  unfold vsrc
  rw [enumL_get]
  cases z : ds[i]? with
  | none => exact ⟨vs, hs, by rw [r.length]; exact List.getElem?_eq_none_iff.mp z⟩
  | some d =>
    obtain ⟨v, hv, rv⟩ := r.get z
    refine ⟨⟨vs, v, hs, hv⟩, fun y H3 hy => ?_⟩
    obtain ⟨T, x, rfl, nT, rfl, hy⟩ := hy
    have := hy vs hs
    rw [hv] at this; cases this
    exact pair_new r2 nT (.int _) (rv.extW x2)
theorem deni_enum {a : Expr} {p pos tpos : Pos} {elts : List Expr} {kk : Nat} (hm : X.mg "enumerate" = none) (ha : PA X [a] (tA G W fs)) (hg : Gl X "enumerate" := by rfl) (hs : starEach [a] X.env = [(false, eval a X.env)] := by rfl) :
    PI X (.Tuple elts kk tpos) (.Call (.Name "enumerate" p) [a] [] pos) (tIV G W (iB enumG fs)) := by
  refine pi_imp (pi_or (pi_enum hg hm ha hs) (pi_enumT hg hm ha hs)) fun σ H Rk h => ?_
  obtain ⟨M, S, ρ, r, e, h⟩ := h
  unfold iB at h
  cases z : fs ρ S with
  | bad => rw [z] at h; exact h.elim
  | exc c S' => rw [z] at h; exact .inl ⟨M, S, ρ, r, e, by rw [z]; exact h⟩
  | ok ds S' =>
    rw [z] at h
    change match ofO (enumG ds) S' with | .ok ds S' => _ | .exc c S' => _ | .bad => False at h
    unfold enumG at h
    split at h
    · rename_i q
      split at q
      · rename_i xs
        cases q
        refine .inr ⟨M, S, ρ, r, e, ?_⟩
        rw [z]
        intro M1 H1 vs x1 r1 p1
        obtain ⟨v, rfl, rv⟩ := p1.inv1
        obtain ⟨a, ws, rfl, ha, n1, n2, zl, rs⟩ := rv.tup_inv
        exact ⟨a, ws, rfl, SqT.of ha, h M1 H1 _ x1 r1 (itR_enumT (fun M2 H2 x2 => SqT.of (x2.keep _ _ ha n1 n2)) rs)⟩
      · rename_i xs
        cases q
        refine .inl ⟨M, S, ρ, r, e, ?_⟩
        rw [z]
        intro M1 H1 vs x1 r1 p1
        obtain ⟨v, rfl, rv⟩ := p1.inv1
        obtain ⟨a, ws, rfl, ha, n1, n2, zl, rs⟩ := rv.lst_inv
        exact ⟨a, ws, rfl, SqL.of ha, h M1 H1 _ x1 r1 (itR_enum (fun M2 H2 x2 => SqL.of (x2.keep _ _ ha n1 n2)) rs)⟩
      · cases q
    · rename_i q
      split at q <;> cases q
    · exact h.elim
theorem itR_zip {K : PySem.W.Frag} {M : Mx} {H : Hp} {a b : Addr} {vs ws : List V} {ds es : List D} (hq : ∀ M2 H2, ExtW M H M2 H2 → SqL K H2 a vs) (hq' : ∀ M2 H2, ExtW M H M2 H2 → SqL K H2 b ws) (r : Reps G M H vs ds) (r' : Reps G M H ws es) : ItR G M H (Itz K a b) (vsrc (zipL ds es)) := by
  intro M2 H2 S2 x2 r2 i
  have hs := hq M2 H2 x2
  have hs' := hq' M2 H2 x2
  unfold vsrc zipL
  rw [List.getElem?_zipWith]
  cases z : ds[i]? with
  | none => exact ⟨vs, ws, hs, hs', .inl (by rw [r.length]; exact List.getElem?_eq_none_iff.mp z)⟩
  | some d =>
    cases z' : es[i]? with
    | none => exact ⟨vs, ws, hs, hs', .inr (by rw [r'.length]; exact List.getElem?_eq_none_iff.mp z')⟩
    | some d' =>
      obtain ⟨v, hv, rv⟩ := r.get z
      obtain ⟨v', hv', rv'⟩ := r'.get z'
      refine ⟨⟨vs, ws, v, v', hs, hs', hv, hv'⟩, fun y H3 hy => ?_⟩
      obtain ⟨T, x, x', rfl, nT, rfl, hy, hy'⟩ := hy
      have := hy vs hs
      rw [hv] at this; cases this
      have := hy' ws hs'
      rw [hv'] at this; cases this
      exact pair_new r2 nT (rv.extW x2) (rv'.extW x2)
theorem itR_zipT {K : PySem.W.Frag} {M : Mx} {H : Hp} {a b : Addr} {vs ws : List V} {ds es : List D} (hq : ∀ M2 H2, ExtW M H M2 H2 → SqT K H2 a vs) (hq' : ∀ M2 H2, ExtW M H M2 H2 → SqT K H2 b ws) (r : Reps G M H vs ds) (r' : Reps G M H ws es) : ItR G M H (RZ.ItzT K a b) (vsrc (zipL ds es)) := by
  intro M2 H2 S2 x2 r2 i
  have hs := hq M2 H2 x2
  have hs' := hq' M2 H2 x2
  unfold vsrc zipL
  rw [List.getElem?_zipWith]
  cases z : ds[i]? with
  | none => exact ⟨vs, ws, hs, hs', .inl (by rw [r.length]; exact List.getElem?_eq_none_iff.mp z)⟩
  | some d =>
    cases z' : es[i]? with
    | none => exact ⟨vs, ws, hs, hs', .inr (by rw [r'.length]; exact List.getElem?_eq_none_iff.mp z')⟩
    | some d' =>
      obtain ⟨v, hv, rv⟩ := r.get z
      obtain ⟨v', hv', rv'⟩ := r'.get z'
      refine ⟨⟨vs, ws, v, v', hs, hs', hv, hv'⟩, fun y H3 hy => ?_⟩
      obtain ⟨T, x, x', rfl, nT, rfl, hy, hy'⟩ := hy
      have := hy vs hs
      rw [hv] at this; cases this
      have := hy' ws hs'
      rw [hv'] at this; cases this
      exact pair_new r2 nT (rv.extW x2) (rv'.extW x2)
theorem deni_zip {a b : Expr} {p pos tpos : Pos} {elts : List Expr} {kk : Nat} (hm : X.mg "zip" = none) (ha : PA X [a, b] (tA G W fs)) (hg : Gl X "zip" := by rfl)
    (hs : starEach [a, b] X.env = (false, eval a X.env) :: starEach [b] X.env := by rfl) (hpl : (backTo pos (starEach [b] X.env)).any (·.1) = false := by rfl) :
    PI X (.Tuple elts kk tpos) (.Call (.Name "zip" p) [a, b] [] pos) (tIV G W (iB zipG fs)) := by
  refine pi_imp (RZ.pi_zipA hg hm ha hs hpl) fun σ H Rk ⟨M, S, ρ, r, e, h⟩ => ⟨M, S, ρ, r, e, ?_⟩
  unfold iB at h
  cases z : fs ρ S with
  | bad => rw [z] at h; exact h
  | exc c S' => rw [z] at h; exact h
  | ok ds S' =>
    rw [z] at h
    change match ofO (zipG ds) S' with | .ok ds S' => _ | .exc c S' => _ | .bad => False at h
    unfold zipG at h
    split at h
    · rename_i q
      split at q
      · rename_i xs ys
        cases q
        intro M1 H1 vs x1 r1 p1
        obtain ⟨v, w, rfl, rv, rw_⟩ := p1.inv2
        obtain ⟨a, vs1, rfl, ha, n1, n2, zl, rs⟩ := rv.tup_inv
        obtain ⟨b, vs2, rfl, hb, n3, n4, zl2, rs2⟩ := rw_.tup_inv
        exact ⟨a, b, vs1, vs2, rfl, .inr ⟨SqT.of ha, SqT.of hb, h M1 H1 _ x1 r1 (itR_zipT (fun M2 H2 x2 => SqT.of (x2.keep _ _ ha n1 n2)) (fun M2 H2 x2 => SqT.of (x2.keep _ _ hb n3 n4)) rs rs2)⟩⟩
      · rename_i xs ys
        cases q
        intro M1 H1 vs x1 r1 p1
        obtain ⟨v, w, rfl, rv, rw_⟩ := p1.inv2
        obtain ⟨a, vs1, rfl, ha, n1, n2, zl, rs⟩ := rv.lst_inv
        obtain ⟨b, vs2, rfl, hb, n3, n4, zl2, rs2⟩ := rw_.lst_inv
        exact ⟨a, b, vs1, vs2, rfl, .inl ⟨SqL.of ha, SqL.of hb, h M1 H1 _ x1 r1 (itR_zip (fun M2 H2 x2 => SqL.of (x2.keep _ _ ha n1 n2)) (fun M2 H2 x2 => SqL.of (x2.keep _ _ hb n3 n4)) rs rs2)⟩⟩
      · cases q
    · rename_i q
      split at q <;> cases q
    · exact h.elim
end

/-! ### operators -/
section
variable {G : Gx} {X : Cx}
def ii (h : Int → Int → D) : MS → D → D → Option D := fun _ x y => match x, y with
  | .int i, .int j => some (h i j)
  | _, _ => none
def iic (c : Int → Int → Bool) (h : Int → Int → D) : MS → D → D → Option D := fun _ x y => match x, y with
  | .int i, .int j => if c i j = true then some (h i j) else none
  | _, _ => none
theorem opd_ii {v : Int → Int → V} {d : Int → Int → D} (hr : ∀ i j M H, Rep G M H (v i j) (d i j)) : OpD G (rI0 v) (ii d) := by
  intro M S H x y dx dy dd Q r rx ry hg q
  unfold ii at hg
  split at hg
  · cases hg; exact ⟨_, _, rx.int_inv, ry.int_inv, q H _ (Ext.refl _ _) r (hr _ _ M H)⟩
  · cases hg
theorem opd_iic {c : Int → Int → Bool} {C : Int → Int → Prop} {v : Int → Int → V} {d : Int → Int → D} (hc : ∀ i j, c i j = true → C i j) (hr : ∀ i j M H, Rep G M H (v i j) (d i j)) : OpD G (rI C v) (iic c d) := by
  intro M S H x y dx dy dd Q r rx ry hg q
  unfold iic at hg
  split at hg
  · split at hg
    · rename_i h; cases hg; exact ⟨_, _, rx.int_inv, ry.int_inv, hc _ _ h, q H _ (Ext.refl _ _) r (hr _ _ M H)⟩
    · cases hg
  · cases hg
def addI : MS → D → D → Option D := ii fun i j => .int (i + j)
def subI : MS → D → D → Option D := ii fun i j => .int (i - j)
def b64 : Int := 2 ^ 64
def mulI : MS → D → D → Option D := iic (fun i j => decide ((-b64 < i ∧ i < b64) ∨ (-b64 < j ∧ j < b64))) fun i j => .int (i * j)
def divI : MS → D → D → Option D := iic (fun _ j => decide (0 < j ∧ j < 1073741824)) fun i j => .int (i / j)
def modI : MS → D → D → Option D := iic (fun _ j => decide (0 < j)) fun i j => .int (i % j)
def powI : MS → D → D → Option D := iic (fun i j => decide (0 ≤ j ∧ j ≤ 1000000 ∧ i.natAbs < 2 ^ 64)) fun i j => .int (i ^ j.toNat)
theorem od_addI : OpD G (rI0 fun i j => .int (i + j)) addI := opd_ii fun _ _ _ _ => .int _
theorem od_subI : OpD G (rI0 fun i j => .int (i - j)) subI := opd_ii fun _ _ _ _ => .int _
theorem od_mulI : OpD G (rI CMul fun i j => .int (i * j)) mulI := opd_iic (fun i j h => by have h := of_decide_eq_true h; unfold b64 at h; exact h) fun _ _ _ _ => .int _
theorem od_divI : OpD G (rI CDiv fun i j => .int (i / j)) divI := opd_iic (fun i j h => by simpa [CDiv] using h) fun _ _ _ _ => .int _
theorem od_modI : OpD G (rI (fun _ j => 0 < j) fun i j => .int (i % j)) modI := opd_iic (fun i j h => by simpa using h) fun _ _ _ _ => .int _
theorem od_powI : OpD G (rI CPow fun i j => .int (i ^ j.toNat)) powI := opd_iic (fun i j h => by simpa [CPow] using h) fun _ _ _ _ => .int _
def ltI : MS → D → D → Option D := ii fun i j => .bl (decide (i < j))
def leI : MS → D → D → Option D := ii fun i j => .bl (decide (i ≤ j))
def gtI : MS → D → D → Option D := ii fun i j => .bl (decide (j < i))
def geI : MS → D → D → Option D := ii fun i j => .bl (decide (j ≤ i))
theorem od_ltI : OpD G (rI0 fun i j => .bl (decide (i < j))) ltI := opd_ii fun _ _ _ _ => .bl _
theorem od_leI : OpD G (rI0 fun i j => .bl (decide (i ≤ j))) leI := opd_ii fun _ _ _ _ => .bl _
theorem od_gtI : OpD G (rI0 fun i j => .bl (decide (j < i))) gtI := opd_ii fun _ _ _ _ => .bl _
theorem od_geI : OpD G (rI0 fun i j => .bl (decide (j ≤ i))) geI := opd_ii fun _ _ _ _ => .bl _
def negI : MS → D → Option D := fun _ x => match x with
  | .int i => some (.int (-i))
  | _ => none
theorem ud_negI : UnD G (rU fun i => .int (-i)) negI := by
  intro M S H x dx d Q r rx hg q
  unfold negI at hg
  split at hg
  · cases hg; exact ⟨_, rx.int_inv, q H _ (Ext.refl _ _) r (.int _)⟩
  · cases hg
/-- tuples together -/
def catT : MS → D → D → Option D := fun _ x y => match x, y with
  | .tup xs, .tup ys => if xs.length + ys.length ≤ lim then some (.tup (xs ++ ys)) else none
  | _, _ => none
theorem limS {n : Nat} (h : n ≤ lim) : n ≤ sizeLine := Nat.le_trans h (by decide)
theorem od_catT : OpD G (rCatA G.K) catT := by
  intro M S H x y dx dy d Q r rx ry hg q
  unfold catT at hg
  split at hg
  · rename_i xs ys
    split at hg
    · rename_i hz
      cases hg
      obtain ⟨a, vs, rfl, ha, n1, n2, z1, rs⟩ := rx.tup_inv
      obtain ⟨b, ws, rfl, hb, n3, n4, z2, rt⟩ := ry.tup_inv
      have hz' : vs.length + ws.length ≤ sizeLine := by rw [rs.length, rt.length]; exact limS hz
      refine ⟨a, b, vs, ws, rfl, rfl, SqT.of ha, SqT.of hb, hz', fun e => ?_, fun e e2 => ?_, fun _ _ p np => ?_⟩
      · subst e; cases rs; exact q H _ (Ext.refl _ _) r ry
      · subst e2; cases rt; rw [List.append_nil] at q; exact q H _ (Ext.refl _ _) r rx
      · refine q _ _ (Ext.new np) (r.laid np) (.tup upd_same (r.fresh np) (r.freshx np) (by rw [List.length_append]; exact hz') ?_)
        exact (rs.append rt).ext (Ext.new np)
    · cases hg
  · cases hg
/-- texts together -/
def catS : MS → D → D → Option D := fun _ x y => match x, y with
  | .str a, .str b => if a.length + b.length ≤ lim then some (.str (a ++ b)) else none
  | _, _ => none
theorem od_catS : OpD G (fun x y H Q => ∃ i j, x = .str i ∧ y = .str j ∧ i.length + j.length ≤ sizeLine ∧ Q (.str (i ++ j)) H) catS := by
  intro M S H x y dx dy d Q r rx ry hg q
  unfold catS at hg
  split at hg
  · split at hg
    · rename_i hz; cases hg; exact ⟨_, _, rx.str_inv, ry.str_inv, limS hz, q H _ (Ext.refl _ _) r (.str _)⟩
    · cases hg
  · cases hg
/-- a list that is read: a value, the script, an object -/
def rdL (S : MS) (d : D) : Option (List D) := match d with
  | .lst xs => some xs
  | .frz xs => some xs
  | .obj i => match S[i]? with
    | some (.lst xs) => some xs
    | _ => none
  | _ => none
/-- a list that is no frozen one -/
def rdM (S : MS) (d : D) : Option (List D) := match d with
  | .lst xs => some xs
  | .obj i => match S[i]? with
    | some (.lst xs) => some xs
    | _ => none
  | _ => none
theorem rdM_inv {M : Mx} {S : MS} {H : Hp} {v : V} {d : D} {xs : List D} (r : Rel G M S H) (rv : Rep G M H v d) (h : rdM S d = some xs) : ∃ a vs, v = .ref a ∧ H a = some (.lst vs) ∧ vs.length ≤ sizeLine ∧ Reps G M H vs xs := by
  unfold rdM at h
  split at h
  · cases h; obtain ⟨a, vs, e, ha, _, _, z, rs⟩ := rv.lst_inv; exact ⟨a, vs, e, ha, z, rs⟩
  · rename_i i
    obtain ⟨a, e, hi⟩ := rv.obj_inv
    split at h
    · rename_i xs' hs
      cases h
      obtain ⟨vs, ha, z, rs⟩ := r.at_ i a _ hi hs
      exact ⟨a, vs, e, ha, z, rs⟩
    · cases h
  · cases h
theorem rdL_inv {M : Mx} {S : MS} {H : Hp} {v : V} {d : D} {xs : List D} (r : Rel G M S H) (rv : Rep G M H v d) (h : rdL S d = some xs) : ∃ a vs, v = .ref a ∧ SqL G.K H a vs ∧ vs.length ≤ sizeLine ∧ Reps G M H vs xs := by
  unfold rdL at h
  split at h
  · cases h; obtain ⟨a, vs, e, ha, _, _, z, rs⟩ := rv.lst_inv; exact ⟨a, vs, e, SqL.of ha, z, rs⟩
  · cases h; obtain ⟨a, vs, e, ha, _, z, rs⟩ := rv.frz_inv; exact ⟨a, vs, e, ha _ _ (ExtW.refl _ _), z, rs⟩
  · rename_i i
    obtain ⟨a, e, hi⟩ := rv.obj_inv
    split at h
    · rename_i xs' hs
      cases h
      obtain ⟨vs, ha, z, rs⟩ := r.at_ i a _ hi hs
      exact ⟨a, vs, e, SqL.of ha, z, rs⟩
    · cases h
  · cases h
/-- a tuple or a list -/
def rdQ (S : MS) (d : D) : Option (List D) := match d with
  | .tup xs => some xs
  | d => rdL S d
theorem rdQ_inv {M : Mx} {S : MS} {H : Hp} {v : V} {d : D} {xs : List D} (r : Rel G M S H) (rv : Rep G M H v d) (h : rdQ S d = some xs) : ∃ a vs, v = .ref a ∧ (SqL G.K H a vs ∨ SqT G.K H a vs) ∧ vs.length ≤ sizeLine ∧ Reps G M H vs xs := by
  unfold rdQ at h
  split at h
  · cases h; obtain ⟨a, vs, e, ha, _, _, z, rs⟩ := rv.tup_inv; exact ⟨a, vs, e, .inr (SqT.of ha), z, rs⟩
  · obtain ⟨a, vs, e, ha, z, rs⟩ := rdL_inv r rv h; exact ⟨a, vs, e, .inl ha, z, rs⟩
end
end Dn

namespace Dn
open PySem PySem.Spec PyProof.Rows L2

/-! ### data that may be compared -/
mutual
def toP0 : D → Option PyData
  | .non => some .none
  | .bl b => some (.bool b)
  | .int i => some (.int i)
  | .str x => some (.str x)
  | .tup xs => (toPs0 xs).map .tuple
  | .lst xs => (toPs0 xs).map .list
  | .frz xs => (toPs0 xs).map .list
  | _ => none
def toPs0 : List D → Option (List PyData)
  | [] => some []
  | d :: ds => match toP0 d with
    | some p => (toPs0 ds).map (p :: ·)
    | none => none
end
mutual
def toP (S : MS) : D → Option PyData
  | .non => some .none
  | .bl b => some (.bool b)
  | .int i => some (.int i)
  | .str x => some (.str x)
  | .tup xs => (toPs S xs).map .tuple
  | .lst xs => (toPs S xs).map .list
  | .frz xs => (toPs S xs).map .list
  | .obj i => match S[i]? with
    | some (.lst xs) => (toPs0 xs).map .list
    | _ => none
  | _ => none
def toPs (S : MS) : List D → Option (List PyData)
  | [] => some []
  | d :: ds => match toP S d with
    | some p => (toPs S ds).map (p :: ·)
    | none => none
end
section
variable {G : Gx} {M : Mx} {H : Hp}
mutual
theorem dp0 : ∀ {d : D} {v : V} {p : PyData}, Rep G M H v d → toP0 d = some p → Dp G.K H v p
  | .non, _, _, r, h => by cases r; cases h; exact .non
  | .bl b, _, _, r, h => by cases r; cases h; exact .bl b
  | .int i, _, _, r, h => by cases r; cases h; exact .int i
  | .str x, _, _, r, h => by cases r; cases h; exact .str x
  | .tup xs, _, _, r, h => by
    obtain ⟨a, vs, rfl, ha, _, _, _, rs⟩ := r.tup_inv
    unfold toP0 at h
    cases z : toPs0 xs with
    | none => rw [z] at h; cases h
    | some ps => rw [z] at h; cases h; exact .tup (SqT.of ha) (dps0 rs z)
  | .lst xs, _, _, r, h => by
    obtain ⟨a, vs, rfl, ha, _, _, _, rs⟩ := r.lst_inv
    unfold toP0 at h
    cases z : toPs0 xs with
    | none => rw [z] at h; cases h
    | some ps => rw [z] at h; cases h; exact .lst (SqL.of ha) (dps0 rs z)
  | .frz xs, _, _, r, h => by
    obtain ⟨a, vs, rfl, ha, _, _, rs⟩ := r.frz_inv
    unfold toP0 at h
    cases z : toPs0 xs with
    | none => rw [z] at h; cases h
    | some ps => rw [z] at h; cases h; exact .lst (ha _ _ (ExtW.refl _ _)) (dps0 rs z)
  | .obj i, _, _, _, h => by cases h
  | .ty n, _, _, _, h => by cases h
  | .top n, _, _, _, h => by cases h
  | .exn n, _, _, _, h => by cases h
theorem dps0 : ∀ {ds : List D} {vs : List V} {ps : List PyData}, Reps G M H vs ds → toPs0 ds = some ps → DpAll G.K H vs ps
  | [], _, _, r, h => by cases r; cases h; exact .nil
  | d :: ds, _, _, r, h => by
    cases r with
    | cons r1 r2 =>
      unfold toPs0 at h
      cases z : toP0 d with
      | none => rw [z] at h; cases h
      | some p =>
        rw [z] at h
        cases z2 : toPs0 ds with
        | none => rw [z2] at h; cases h
        | some ps => rw [z2] at h; cases h; exact .cons (dp0 r1 z) (dps0 r2 z2)
end
mutual
theorem dp1 {S : MS} (rl : Rel G M S H) : ∀ {d : D} {v : V} {p : PyData}, Rep G M H v d → toP S d = some p → Dp G.K H v p
  | .non, _, _, r, h => by cases r; cases h; exact .non
  | .bl b, _, _, r, h => by cases r; cases h; exact .bl b
  | .int i, _, _, r, h => by cases r; cases h; exact .int i
  | .str x, _, _, r, h => by cases r; cases h; exact .str x
  | .tup xs, _, _, r, h => by
    obtain ⟨a, vs, rfl, ha, _, _, _, rs⟩ := r.tup_inv
    unfold toP at h
    cases z : toPs S xs with
    | none => rw [z] at h; cases h
    | some ps => rw [z] at h; cases h; exact .tup (SqT.of ha) (dps1 rl rs z)
  | .lst xs, _, _, r, h => by
    obtain ⟨a, vs, rfl, ha, _, _, _, rs⟩ := r.lst_inv
    unfold toP at h
    cases z : toPs S xs with
    | none => rw [z] at h; cases h
    | some ps => rw [z] at h; cases h; exact .lst (SqL.of ha) (dps1 rl rs z)
  | .frz xs, _, _, r, h => by
    obtain ⟨a, vs, rfl, ha, _, _, rs⟩ := r.frz_inv
    unfold toP at h
    cases z : toPs S xs with
    | none => rw [z] at h; cases h
    | some ps => rw [z] at h; cases h; exact .lst (ha _ _ (ExtW.refl _ _)) (dps1 rl rs z)
  | .obj i, _, _, r, h => by
    obtain ⟨a, rfl, hi⟩ := r.obj_inv
    unfold toP at h
    cases z : S[i]? with
    | none => rw [z] at h; cases h
    | some o =>
      rw [z] at h
      cases o with
      | lst xs =>
        obtain ⟨vs, ha, _, rs⟩ := rl.at_ i a _ hi z
        change (toPs0 xs).map PyData.list = _ at h
        cases z2 : toPs0 xs with
        | none => rw [z2] at h; cases h
        | some ps => rw [z2] at h; cases h; exact .lst (SqL.of ha) (dps0 rs z2)
      | _ => cases h
  | .ty n, _, _, _, h => by cases h
  | .top n, _, _, _, h => by cases h
  | .exn n, _, _, _, h => by cases h
theorem dps1 {S : MS} (rl : Rel G M S H) : ∀ {ds : List D} {vs : List V} {ps : List PyData}, Reps G M H vs ds → toPs S ds = some ps → DpAll G.K H vs ps
  | [], _, _, r, h => by cases r; cases h; exact .nil
  | d :: ds, _, _, r, h => by
    cases r with
    | cons r1 r2 =>
      unfold toPs at h
      cases z : toP S d with
      | none => rw [z] at h; cases h
      | some p =>
        rw [z] at h
        cases z2 : toPs S ds with
        | none => rw [z2] at h; cases h
        | some ps => rw [z2] at h; cases h; exact .cons (dp1 rl r1 z) (dps1 rl r2 z2)
end
def eqD (S : MS) (x y : D) : Option D := match toP S x, toP S y with
  | some a, some b => if (SeqAt.shaped a && SeqAt.shaped b) = true then some (.bl (PyData.eqv a b)) else none
  | _, _ => none
def neD (S : MS) (x y : D) : Option D := match toP S x, toP S y with
  | some a, some b => if (SeqAt.shaped a && SeqAt.shaped b) = true then some (.bl (!PyData.eqv a b)) else none
  | _, _ => none
theorem od_eq : OpD G (rEqD G.K) eqD := by
  intro M S H x y dx dy d Q r rx ry hg q
  unfold eqD at hg
  split at hg
  · rename_i a b ha hb
    split at hg
    · rename_i hs
      cases hg
      have hs := Bool.and_eq_true_iff.mp hs
      exact ⟨a, b, dp1 r rx ha, dp1 r ry hb, hs.1, hs.2, q H _ (Ext.refl _ _) r (.bl _)⟩
    · cases hg
  · cases hg
theorem od_ne : OpD G (rNeD G.K) neD := by
  intro M S H x y dx dy d Q r rx ry hg q
  unfold neD at hg
  split at hg
  · rename_i a b ha hb
    split at hg
    · rename_i hs
      cases hg
      have hs := Bool.and_eq_true_iff.mp hs
      exact ⟨a, b, dp1 r rx ha, dp1 r ry hb, hs.1, hs.2, q H _ (Ext.refl _ _) r (.bl _)⟩
    · cases hg
  · cases hg
/-! ### is -/
def nonD (d : D) : Bool := match d with
  | .non => true
  | _ => false
def isN (S : MS) (x y : D) : Option D := match y with
  | .non => some (.bl (nonD x))
  | _ => none
def isNotN (S : MS) (x y : D) : Option D := match y with
  | .non => some (.bl (!nonD x))
  | _ => none
theorem non_dec {v : V} {d : D} (r : Rep G M H v d) : decide (v = .non) = nonD d := by
  cases r <;> first | rfl | (apply decide_eq_false; intro z; cases z)
theorem od_isN : OpD G (fun x y H Q => y = .non ∧ Q (.bl (decide (x = .non))) H) isN := by
  intro M S H x y dx dy d Q r rx ry hg q
  unfold isN at hg
  split at hg
  · cases hg; exact ⟨ry.non_inv, q H _ (Ext.refl _ _) r (by rw [non_dec rx]; exact .bl _)⟩
  · cases hg
theorem od_isNotN : OpD G (fun x y H Q => y = .non ∧ Q (.bl (!decide (x = .non))) H) isNotN := by
  intro M S H x y dx dy d Q r rx ry hg q
  unfold isNotN at hg
  split at hg
  · cases hg
    refine ⟨ry.non_inv, q H _ (Ext.refl _ _) r ?_⟩
    rw [non_dec rx]; exact .bl _
  · cases hg
def isBo (S : MS) (x y : D) : Option D := match x, y with
  | .bl a, .bl b => some (.bl (decide (a = b)))
  | _, _ => none
def isNotBo (S : MS) (x y : D) : Option D := match x, y with
  | .bl a, .bl b => some (.bl (!decide (a = b)))
  | _, _ => none
theorem od_isBo : OpD G (fun x y H Q => ∃ a b, x = .bl a ∧ y = .bl b ∧ Q (.bl (decide (a = b))) H) isBo := by
  intro M S H x y dx dy d Q r rx ry hg q
  unfold isBo at hg
  split at hg
  · cases hg; exact ⟨_, _, rx.bl_inv, ry.bl_inv, q H _ (Ext.refl _ _) r (.bl _)⟩
  · cases hg
theorem od_isNotBo : OpD G (fun x y H Q => ∃ a b, x = .bl a ∧ y = .bl b ∧ Q (.bl (!decide (a = b))) H) isNotBo := by
  intro M S H x y dx dy d Q r rx ry hg q
  unfold isNotBo at hg
  split at hg
  · cases hg; exact ⟨_, _, rx.bl_inv, ry.bl_inv, q H _ (Ext.refl _ _) r (.bl _)⟩
  · cases hg
/-! ### in: flat items; a sign in a text -/
def flatD (d : D) : Bool := match d with
  | .non => true
  | .bl _ => true
  | .int _ => true
  | .str _ => true
  | _ => false
def eqF (x y : D) : Bool := match x, y with
  | .non, .non => true
  | .bl a, .bl b => a == b
  | .bl a, .int b => (if a then 1 else 0) == b
  | .int a, .bl b => a == (if b then 1 else 0)
  | .int a, .int b => a == b
  | .str a, .str b => a == b
  | _, _ => false
theorem flat_of {v : V} {d : D} (r : Rep G M H v d) (f : flatD d = true) : flatV v = true := by cases r <;> first | rfl | cases f
theorem flats_of : ∀ {vs : List V} {ds : List D}, Reps G M H vs ds → ds.all flatD = true → vs.all flatV = true
  | _, _, .nil, _ => rfl
  | _, _, .cons r t, h => by
    rw [List.all_cons, Bool.and_eq_true] at h
    rw [List.all_cons, flat_of r h.1, flats_of t h.2]; rfl
theorem eqF_of {v w : V} {d e : D} (r : Rep G M H v d) (q : Rep G M H w e) (f : flatD d = true) (g : flatD e = true) : eqV v w = eqF d e := by
  cases r <;> cases q <;> first | rfl | cases f | cases g
theorem inV_of {w : V} {e : D} (q : Rep G M H w e) (g : flatD e = true) : ∀ {vs : List V} {ds : List D}, Reps G M H vs ds → ds.all flatD = true → inV w vs = ds.any fun d => eqF d e
  | _, _, .nil, _ => rfl
  | _, _, .cons (vs := vs) (ds := ds) r t, h => by
    rw [List.all_cons, Bool.and_eq_true] at h
    unfold inV
    rw [List.any_cons, List.any_cons, eqF_of r q h.1 g]
    have := inV_of q g t h.2
    unfold inV at this
    rw [this]
def inD (S : MS) (x y : D) : Option D := match rdQ S y with
  | some ys => if (flatD x && ys.all flatD) = true then some (.bl (ys.any fun d => eqF d x)) else none
  | none => none
def notInD (S : MS) (x y : D) : Option D := match rdQ S y with
  | some ys => if (flatD x && ys.all flatD) = true then some (.bl (!ys.any fun d => eqF d x)) else none
  | none => none
theorem od_in : OpD G (rIn G.K false) inD := by
  intro M S H x y dx dy d Q r rx ry hg q
  unfold inD at hg
  split at hg
  · rename_i ys hy
    split at hg
    · rename_i hf
      cases hg
      have hf := Bool.and_eq_true_iff.mp hf
      obtain ⟨a, vs, rfl, hs, z, rs⟩ := rdQ_inv r ry hy
      refine ⟨a, vs, rfl, hs, flat_of rx hf.1, flats_of rs hf.2, q H _ (Ext.refl _ _) r ?_⟩
      rw [inV_of rx hf.1 rs hf.2]; exact .bl _
    · cases hg
  · cases hg
theorem od_notIn : OpD G (rIn G.K true) notInD := by
  intro M S H x y dx dy d Q r rx ry hg q
  unfold notInD at hg
  split at hg
  · rename_i ys hy
    split at hg
    · rename_i hf
      cases hg
      have hf := Bool.and_eq_true_iff.mp hf
      obtain ⟨a, vs, rfl, hs, z, rs⟩ := rdQ_inv r ry hy
      refine ⟨a, vs, rfl, hs, flat_of rx hf.1, flats_of rs hf.2, q H _ (Ext.refl _ _) r ?_⟩
      rw [inV_of rx hf.1 rs hf.2]; exact .bl _
    · cases hg
  · cases hg
def inSign (S : MS) (x y : D) : Option D := match x, y with
  | .str ⟨⟨[c]⟩⟩, .str z => some (.bl (decide (c ∈ z.cps.toList)))
  | _, _ => none
theorem od_inSign : OpD G (fun x y H Q => ∃ (c : Nat) (z : Str), x = .str ⟨#[c]⟩ ∧ y = .str z ∧ Q (.bl (decide (c ∈ z.cps.toList))) H) inSign := by
  intro M S H x y dx dy d Q r rx ry hg q
  unfold inSign at hg
  split at hg
  · cases hg; exact ⟨_, _, rx.str_inv, ry.str_inv, q H _ (Ext.refl _ _) r (.bl _)⟩
  · cases hg
end
/-! ### subscripts, slices -/
section
variable {X : Cx} {G : Gx} {W : WX} {a b : Expr} {fa fb : En → MS → R D} {pos : Pos}
def IxD (G : Gx) (r : R2) (g : MS → D → D → Option D) : Prop := OpD G r g
theorem den_ix {r : R2} {g : MS → D → D → Option D} (hr : IxR X r) (hg : OpD G r g) (ha : PE X a (tD G W fa)) (hb : PE X b (tD G W fb)) (hs : PlainIx b := by exact fun _ _ => rfl) : PE X (.Subscript a b pos) (tD G W (eOp g fa fb)) :=
  pe_imp (pe_ix hr ha hb hs) fun _ _ _ h => cmp_read hg h
def ixD (S : MS) (x y : D) : Option D := match y with
  | .int i => match rdQ S x with
    | some xs => atI xs i
    | none => none
  | _ => none
theorem atI_rep {M : Mx} {H : Hp} {vs : List V} {ds : List D} {i : Int} {d : D} (rs : Reps G M H vs ds) (h : atI ds i = some d) : ∃ v, atI vs i = some v ∧ Rep G M H v d := by
  unfold atI at h ⊢
  rw [rs.length]
  cases z : ixN ds.length i with
  | none => rw [z] at h; cases h
  | some j => rw [z] at h; exact rs.get h
theorem od_ix : OpD G (fun x y H Q => rIxL G.K x y H Q ∨ rIxT G.K x y H Q) ixD := by
  intro M S H x y dx dy d Q r rx ry hg q
  unfold ixD at hg
  split at hg
  · rename_i i
    split at hg
    · rename_i xs hx
      obtain ⟨a, vs, rfl, hs, z, rs⟩ := rdQ_inv r rx hx
      obtain ⟨v, hv, rv⟩ := atI_rep rs hg
      rcases hs with hs | hs
      · exact .inl ⟨a, vs, i, v, rfl, ry.int_inv, hs, hv, q H _ (Ext.refl _ _) r rv⟩
      · exact .inr ⟨a, vs, i, v, rfl, ry.int_inv, hs, hv, q H _ (Ext.refl _ _) r rv⟩
    · cases hg
  · cases hg
theorem ix_lt : IxR X (fun x y H Q => rIxL X.K x y H Q ∨ rIxT X.K x y H Q) := ix_list.or ix_tup
/-! ### slices -/
def cutD (xs : List D) (lo hi : Option Int) : List D := (xs.drop (HT.sIx xs.length 0 lo)).take (HT.sIx xs.length xs.length hi - HT.sIx xs.length 0 lo)
theorem cut_rep {M : Mx} {H : Hp} {vs : List V} {ds : List D} (rs : Reps G M H vs ds) (lo hi : Option Int) : Reps G M H (cutV vs lo hi) (cutD ds lo hi) := by
  unfold cutV cutD
  rw [rs.length]
  exact (rs.drop _).take _
def oInt (d : D) : Option Int := match d with
  | .int i => some i
  | _ => none
/-- a part of a slice -/
def tP (G : Gx) (W : WX) (f : En → MS → R (Option Int)) : TO := fun σ H Q => ∃ M S ρ, Rel G M S H ∧ EnvR G M H σ ρ ∧ Post G W σ M H (fun _ _ b c => b = c) (f ρ S) Q
def pNo : En → MS → R (Option Int) := fun _ S => .ok none S
def pSm (f : En → MS → R D) : En → MS → R (Option Int) := fun ρ S => (f ρ S).bind fun d S1 => (ofO (oInt d) S1).bind fun i S2 => .ok (some i) S2
theorem po_imp {e : Option Expr} {t t' : TO} (h : PO X e t) (i : ∀ σ H Q, t' σ H Q → t σ H Q) : PO X e t' := ⟨fun pins s σ H Q I hw => h.run pins s σ H Q I (i σ H Q hw)⟩
theorem denp_none : PO X none (tP G W pNo) := po_imp po_none fun σ H Q ⟨M, S, ρ, r, e, h⟩ => h M H none (Ext.refl _ _) r rfl
theorem denp_some (h : PE X a (tD G W fa)) : PO X (some a) (tP G W (pSm fa)) := by
  refine po_imp (po_some h) fun σ H Q ⟨M, S, ρ, r, e, h⟩ => ?_
  refine tD_mono (d_bind h r e) fun x H1 ⟨M1, S1, d1, x1, r1, p1, e1, h1⟩ => ?_
  cases d1 with
  | int i => exact ⟨i, p1.int_inv, h1 M1 H1 _ (Ext.refl _ _) r1 rfl⟩
  | _ => exact h1.elim
theorem p_bind {α β : Type} {P : Mx → Hp → β → α → Prop} {σ : L2.St} {M : Mx} {H : Hp} {S : MS} {ρ : En} {f : En → MS → R (Option Int)} {k : Option Int → MS → R α} {Q : β → Hp → Prop} (h : Post G W σ M H P ((f ρ S).bind k) Q) (r : Rel G M S H) (e : EnvR G M H σ ρ) :
    tP G W f σ H (fun v H1 => ∃ M1 S1, Ext M H M1 H1 ∧ Rel G M1 S1 H1 ∧ EnvR G M1 H1 σ ρ ∧ Post G W σ M1 H1 P (k v S1) Q) :=
  ⟨M, S, ρ, r, e, (Post.bind h).mono fun _ _ _ _ ⟨M1, S1, a, x, r1, p, q⟩ => ⟨M1, S1, x, r1, e.ext x, p ▸ q⟩⟩
theorem tP_mono {f : En → MS → R (Option Int)} {σ : L2.St} {H : Hp} {Q Q' : Option Int → Hp → Prop} (h : tP G W f σ H Q) (hq : ∀ v H', Q v H' → Q' v H') : tP G W f σ H Q' := by
  obtain ⟨M, S, ρ, r, e, p⟩ := h
  exact ⟨M, S, ρ, r, e, p.mono fun _ H' b _ q => hq b H' q⟩
def SlD (G : Gx) (r : V → Option Int → Option Int → Hp → VK → Prop) (g : MS → D → Option Int → Option Int → Option D) : Prop := ∀ (M : Mx) (S : MS) (H : Hp) (x : V) (dx d : D) (lo hi : Option Int) (Q : VK), Rel G M S H → Rep G M H x dx → g S dx lo hi = some d →
  (∀ H' v, Ext M H M H' → Rel G M S H' → Rep G M H' v d → Q v H') → r x lo hi H Q
def eSl (g : MS → D → Option Int → Option Int → Option D) (fa : En → MS → R D) (fl fh : En → MS → R (Option Int)) : En → MS → R D := fun ρ S => (fa ρ S).bind fun x S1 => (fl ρ S1).bind fun l S2 => (fh ρ S2).bind fun u S3 => ofO (g S3 x l u) S3
theorem den_slice {lo hi : Option Expr} {fl fh : En → MS → R (Option Int)} {p2 : Pos} {r : V → Option Int → Option Int → Hp → VK → Prop} {g : MS → D → Option Int → Option Int → Option D} (hr : SlR X r) (hg : SlD G r g) (he : PE X a (tD G W fa)) (hl : PO X lo (tP G W fl)) (hu : PO X hi (tP G W fh)) :
    PE X (.Subscript a (.Slice lo hi none p2) pos) (tD G W (eSl g fa fl fh)) := by
  refine pe_imp (pe_slice hr he hl hu) fun σ H Q ⟨M, S, ρ, r, e, h⟩ => ?_
  refine tD_mono (d_bind h r e) fun x H1 ⟨M1, S1, d1, x1, r1, p1, e1, h1⟩ => ?_
  refine tP_mono (p_bind h1 r1 e1) fun l H2 ⟨M2, S2, x2, r2, e2, h2⟩ => ?_
  refine tP_mono (p_bind h2 r2 e2) fun u H3 ⟨M3, S3, x3, r3, e3, h3⟩ => ?_
  obtain ⟨d, hd, q⟩ := post_ofO h3
  exact hg M3 S3 H3 x d1 d l u Q r3 ((p1.ext x2).ext x3) hd fun H' v x' r' p' => q M3 H' v x' r' p'
def slT (S : MS) (x : D) (lo hi : Option Int) : Option D := match x with
  | .tup xs => some (.tup (cutD xs lo hi))
  | x => match rdL S x with
    | some xs => some (.lst (cutD xs lo hi))
    | none => none
theorem cutD_len (xs : List D) (lo hi : Option Int) : (cutD xs lo hi).length ≤ xs.length := by
  unfold cutD; rw [List.length_take, List.length_drop]; omega
theorem sd_sl : SlD G (fun x lo hi H Q => rSlA G.K x lo hi H Q ∨ rSlL G.K x lo hi H Q) slT := by
  intro M S H x dx d lo hi Q r rx hg q
  unfold slT at hg
  split at hg
  · rename_i xs
    cases hg
    obtain ⟨a, vs, rfl, ha, n1, n2, z, rs⟩ := rx.tup_inv
    refine .inl ⟨a, vs, rfl, SqT.of ha, fun hw => ?_, fun hw p np => ?_⟩
    · have e : cutD xs lo hi = xs := by
        unfold cutD
        rw [rs.length] at hw
        rw [hw.1, hw.2, List.drop_zero, Nat.sub_zero, List.take_length]
      rw [e] at q
      exact q H _ (Ext.refl _ _) r rx
    · exact q _ _ (Ext.new np) (r.laid np) (.tup upd_same (r.fresh np) (r.freshx np) (Nat.le_trans (cutV_length vs lo hi) z) ((cut_rep rs lo hi).ext (Ext.new np)))
  · split at hg
    · rename_i xs hx
      cases hg
      obtain ⟨a, vs, rfl, ha, z, rs⟩ := rdL_inv r rx hx
      refine .inr ⟨a, vs, rfl, ha, fun p np => ?_⟩
      exact q _ _ (Ext.new np) (r.laid np) (.lst upd_same (r.fresh np) (r.freshx np) (Nat.le_trans (cutV_length vs lo hi) z) ((cut_rep rs lo hi).ext (Ext.new np)))
    · cases hg
theorem sl_any : SlR X (fun x lo hi H Q => rSlA X.K x lo hi H Q ∨ rSlL X.K x lo hi H Q) := sl_tupA.or sl_list
/-! ### new lists by operators -/
def catL (S : MS) (x y : D) : Option D := match rdM S x, rdM S y with
  | some xs, some ys => if xs.length + ys.length ≤ lim then some (.lst (xs ++ ys)) else none
  | _, _ => none
theorem od_catL : OpD G rCat catL := by
  intro M S H x y dx dy d Q r rx ry hg q
  unfold catL at hg
  split at hg
  · rename_i xs ys hx hy
    split at hg
    · rename_i hz
      cases hg
      obtain ⟨a, vs, rfl, ha, z1, rs⟩ := rdM_inv r rx hx
      obtain ⟨b, ws, rfl, hb, z2, rt⟩ := rdM_inv r ry hy
      have hz' : vs.length + ws.length ≤ sizeLine := by rw [rs.length, rt.length]; exact limS hz
      exact ⟨a, b, vs, ws, rfl, rfl, ha, hb, hz', fun p np => q _ _ (Ext.new np) (r.laid np) (.lst upd_same (r.fresh np) (r.freshx np) (by rw [List.length_append]; exact hz') ((rs.append rt).ext (Ext.new np)))⟩
    · cases hg
  · cases hg
def repL (S : MS) (x y : D) : Option D := match rdM S x, y with
  | some xs, .int k => if k < 100000 ∧ -100000 < k ∧ xs.length * k.toNat ≤ lim then some (.lst (List.replicate k.toNat xs).flatten) else none
  | _, _ => none
theorem flat_len (xs : List V) : ∀ k : Nat, (List.replicate k xs).flatten.length = xs.length * k
  | 0 => by simp
  | k + 1 => by rw [List.replicate_succ, List.flatten_cons, List.length_append, flat_len xs k, Nat.mul_succ]; omega
theorem od_repL : OpD G rRep repL := by
  intro M S H x y dx dy d Q r rx ry hg q
  unfold repL at hg
  split at hg
  · rename_i xs k hx
    split at hg
    · rename_i hz
      cases hg
      obtain ⟨a, vs, rfl, ha, z1, rs⟩ := rdM_inv r rx hx
      have hz' : vs.length * k.toNat ≤ sizeLine := by rw [rs.length]; exact limS hz.2.2
      refine ⟨a, k, vs, rfl, ry.int_inv, ha, by omega, by omega, hz', fun p np => q _ _ (Ext.new np) (r.laid np) (.lst upd_same (r.fresh np) (r.freshx np) (by rw [flat_len]; exact hz') ((rs.rep _).ext (Ext.new np)))⟩
    · cases hg
  · cases hg
/-! ### calls of builtins -/
def lenD (S : MS) (ds : List D) : Option D := match ds with
  | [.str x] => if x.length ≤ lim then some (.int x.length) else none
  | [d] => match rdQ S d with
    | some xs => some (.int (xs.length : Nat))
    | none => none
  | _ => none
theorem cd_len : CallD G (fun xs H Q => (∃ p ys, xs = [.ref p] ∧ (SqL G.K H p ys ∨ SqT G.K H p ys) ∧ Q (.int ys.length) H) ∨ (∃ z, xs = [.str z] ∧ z.length ≤ sizeLine ∧ Q (.int z.length) H)) lenD := by
  intro M S H xs ds d Q r rx hg q
  unfold lenD at hg
  split at hg
  · rename_i x
    split at hg
    · rename_i hz
      cases hg
      obtain ⟨v, rfl, rv⟩ := rx.inv1
      exact .inr ⟨x, by rw [rv.str_inv], limS hz, q H _ (Ext.refl _ _) r (.int _)⟩
    · cases hg
  · rename_i d0 _
    split at hg
    · rename_i ys hy
      cases hg
      obtain ⟨v, rfl, rv⟩ := rx.inv1
      obtain ⟨a, vs, rfl, hs, z, rs⟩ := rdQ_inv r rv hy
      exact .inl ⟨a, vs, rfl, hs, q H _ (Ext.refl _ _) r (by rw [rs.length]; exact .int _)⟩
    · cases hg
  · cases hg
theorem cl_len : CallR X (.builtin "len") (fun xs H Q => (∃ p ys, xs = [.ref p] ∧ (SqL X.K H p ys ∨ SqT X.K H p ys) ∧ Q (.int ys.length) H) ∨ (∃ z, xs = [.str z] ∧ z.length ≤ sizeLine ∧ Q (.int z.length) H)) := call_len_seq.or call_len_str
/-- the bools of a list -/
def bools : List D → Option (List Bool)
  | [] => some []
  | .bl b :: ds => (bools ds).map (b :: ·)
  | _ => none
def intsOf : List D → Option (List Int)
  | [] => some []
  | .int b :: ds => (intsOf ds).map (b :: ·)
  | _ => none
theorem bools_rep {M : Mx} {H : Hp} : ∀ {ds : List D} {vs : List V} {bs : List Bool}, Reps G M H vs ds → bools ds = some bs → vs = bs.map V.bl
  | [], _, _, r, h => by cases r; cases h; rfl
  | d :: ds, _, _, r, h => by
    cases r with
    | cons r1 r2 =>
      cases d with
      | bl b =>
        unfold bools at h
        cases z : bools ds with
        | none => rw [z] at h; cases h
        | some bs => rw [z] at h; cases h; rw [r1.bl_inv, bools_rep r2 z]; rfl
      | _ => cases h
theorem intsOf_rep {M : Mx} {H : Hp} : ∀ {ds : List D} {vs : List V} {bs : List Int}, Reps G M H vs ds → intsOf ds = some bs → vs = bs.map V.int
  | [], _, _, r, h => by cases r; cases h; rfl
  | d :: ds, _, _, r, h => by
    cases r with
    | cons r1 r2 =>
      cases d with
      | int b =>
        unfold intsOf at h
        cases z : intsOf ds with
        | none => rw [z] at h; cases h
        | some bs => rw [z] at h; cases h; rw [r1.int_inv, intsOf_rep r2 z]; rfl
      | _ => cases h
def allD (S : MS) (ds : List D) : Option D := match ds with
  | [d] => match (rdL S d).bind bools with
    | some bs => some (.bl (bs.all id))
    | none => none
  | _ => none
def anyD (S : MS) (ds : List D) : Option D := match ds with
  | [d] => match (rdL S d).bind bools with
    | some bs => some (.bl (bs.any id))
    | none => none
  | _ => none
theorem cd_all : CallD G (rAll G.K) allD := by
  intro M S H xs ds d Q r rx hg q
  unfold allD at hg
  split at hg
  · rename_i d0
    obtain ⟨v, rfl, rv⟩ := rx.inv1
    cases z : rdL S d0 with
    | none => rw [z] at hg; cases hg
    | some ys =>
      rw [z] at hg
      change (match bools ys with | some bs => _ | none => _) = _ at hg
      obtain ⟨a, vs, rfl, hs, zl, rs⟩ := rdL_inv r rv z
      cases z2 : bools ys with
      | none => rw [z2] at hg; cases hg
      | some bs =>
        rw [z2] at hg; cases hg
        rw [bools_rep rs z2] at hs
        exact ⟨a, bs, rfl, hs, q H _ (Ext.refl _ _) r (.bl _)⟩
  · cases hg
theorem cd_any : CallD G (rAny G.K) anyD := by
  intro M S H xs ds d Q r rx hg q
  unfold anyD at hg
  split at hg
  · rename_i d0
    obtain ⟨v, rfl, rv⟩ := rx.inv1
    cases z : rdL S d0 with
    | none => rw [z] at hg; cases hg
    | some ys =>
      rw [z] at hg
      change (match bools ys with | some bs => _ | none => _) = _ at hg
      obtain ⟨a, vs, rfl, hs, zl, rs⟩ := rdL_inv r rv z
      cases z2 : bools ys with
      | none => rw [z2] at hg; cases hg
      | some bs =>
        rw [z2] at hg; cases hg
        rw [bools_rep rs z2] at hs
        exact ⟨a, bs, rfl, hs, q H _ (Ext.refl _ _) r (.bl _)⟩
  · cases hg
def sumD (S : MS) (ds : List D) : Option D := match ds with
  | [d] => match (rdL S d).bind intsOf with
    | some bs => some (.int bs.sum)
    | none => none
  | _ => none
theorem cd_sum : CallD G (rSum G.K) sumD := by
  intro M S H xs ds d Q r rx hg q
  unfold sumD at hg
  split at hg
  · rename_i d0
    obtain ⟨v, rfl, rv⟩ := rx.inv1
    cases z : rdL S d0 with
    | none => rw [z] at hg; cases hg
    | some ys =>
      rw [z] at hg
      change (match intsOf ys with | some bs => _ | none => _) = _ at hg
      obtain ⟨a, vs, rfl, hs, zl, rs⟩ := rdL_inv r rv z
      cases z2 : intsOf ys with
      | none => rw [z2] at hg; cases hg
      | some bs =>
        rw [z2] at hg; cases hg
        rw [intsOf_rep rs z2] at hs
        exact ⟨a, bs, rfl, hs, q H _ (Ext.refl _ _) r (.int _)⟩
  · cases hg
def maxOf : List Int → Option Int
  | [] => none
  | x :: xs => some (xs.foldl max x)
def minOf : List Int → Option Int
  | [] => none
  | x :: xs => some (xs.foldl min x)
theorem foldl_max_spec : ∀ (xs : List Int) (x : Int), (xs.foldl max x) ∈ x :: xs ∧ ∀ y ∈ x :: xs, y ≤ xs.foldl max x
  | [], x => by simp
  | y :: ys, x => by
    obtain ⟨h1, h2⟩ := foldl_max_spec ys (max x y)
    rw [List.foldl_cons]
    refine ⟨?_, fun z hz => ?_⟩
    · rcases List.mem_cons.mp h1 with h | h
      · rw [h]; rcases Int.le_total x y with q | q
        · rw [Int.max_eq_right q]; simp
        · rw [Int.max_eq_left q]; simp
      · exact List.mem_cons_of_mem _ (List.mem_cons_of_mem _ h)
    · have hm := h2 (max x y) List.mem_cons_self
      rcases List.mem_cons.mp hz with rfl | hz
      · exact Int.le_trans (Int.le_max_left _ _) hm
      · rcases List.mem_cons.mp hz with rfl | hz
        · exact Int.le_trans (Int.le_max_right _ _) hm
        · exact h2 z (List.mem_cons_of_mem _ hz)
theorem foldl_min_spec : ∀ (xs : List Int) (x : Int), (xs.foldl min x) ∈ x :: xs ∧ ∀ y ∈ x :: xs, xs.foldl min x ≤ y
  | [], x => by simp
  | y :: ys, x => by
    obtain ⟨h1, h2⟩ := foldl_min_spec ys (min x y)
    rw [List.foldl_cons]
    refine ⟨?_, fun z hz => ?_⟩
    · rcases List.mem_cons.mp h1 with h | h
      · rw [h]; rcases Int.le_total x y with q | q
        · rw [Int.min_eq_left q]; simp
        · rw [Int.min_eq_right q]; simp
      · exact List.mem_cons_of_mem _ (List.mem_cons_of_mem _ h)
    · have hm := h2 (min x y) List.mem_cons_self
      rcases List.mem_cons.mp hz with rfl | hz
      · exact Int.le_trans hm (Int.min_le_left _ _)
      · rcases List.mem_cons.mp hz with rfl | hz
        · exact Int.le_trans hm (Int.min_le_right _ _)
        · exact h2 z (List.mem_cons_of_mem _ hz)
def maxD (S : MS) (ds : List D) : Option D := match ds with
  | [d] => (((rdL S d).bind intsOf).bind maxOf).map .int
  | _ => none
def minD (S : MS) (ds : List D) : Option D := match ds with
  | [d] => (((rdL S d).bind intsOf).bind minOf).map .int
  | _ => none
def max2D (S : MS) (ds : List D) : Option D := match ds with
  | [.int i, .int j] => some (.int (if j > i then j else i))
  | _ => none
def min2D (S : MS) (ds : List D) : Option D := match ds with
  | [.int i, .int j] => some (.int (if j < i then j else i))
  | _ => none
theorem ext_mm {α : Type} {S : MS} {d0 : D} {f : List Int → Option Int} {d : D} (h : (((rdL S d0).bind intsOf).bind f).map D.int = some d) : ∃ ys bs k, rdL S d0 = some ys ∧ intsOf ys = some bs ∧ f bs = some k ∧ d = .int k := by
  cases z : rdL S d0 with
  | none => rw [z] at h; cases h
  | some ys =>
    rw [z] at h
    change ((intsOf ys).bind f).map D.int = some d at h
    cases z2 : intsOf ys with
    | none => rw [z2] at h; cases h
    | some bs =>
      rw [z2] at h
      change (f bs).map D.int = some d at h
      cases z3 : f bs with
      | none => rw [z3] at h; cases h
      | some k => rw [z3] at h; cases h; exact ⟨ys, bs, k, rfl, z2, z3, rfl⟩
theorem cd_max : CallD G (rMax G.K) maxD := by
  intro M S H xs ds d Q r rx hg q
  unfold maxD at hg
  split at hg
  · rename_i d0
    obtain ⟨v, rfl, rv⟩ := rx.inv1
    obtain ⟨ys, bs, k, z, z2, z3, rfl⟩ := ext_mm (α := Unit) hg
    obtain ⟨a, vs, rfl, hs, zl, rs⟩ := rdL_inv r rv z
    rw [intsOf_rep rs z2] at hs
    cases bs with
    | nil => cases z3
    | cons b bs =>
      have sp := foldl_max_spec bs b
      refine ⟨a, b :: bs, rfl, hs, by simp, fun m hm hl => ?_⟩
      have e : m = k := by
        have e3 : bs.foldl max b = k := Option.some.inj z3
        rw [← e3]
        exact Int.le_antisymm (sp.2 m hm) (hl _ sp.1)
      rw [e]; exact q H _ (Ext.refl _ _) r (.int _)
  · cases hg
theorem cd_min : CallD G (rMin G.K) minD := by
  intro M S H xs ds d Q r rx hg q
  unfold minD at hg
  split at hg
  · rename_i d0
    obtain ⟨v, rfl, rv⟩ := rx.inv1
    obtain ⟨ys, bs, k, z, z2, z3, rfl⟩ := ext_mm (α := Unit) hg
    obtain ⟨a, vs, rfl, hs, zl, rs⟩ := rdL_inv r rv z
    rw [intsOf_rep rs z2] at hs
    cases bs with
    | nil => cases z3
    | cons b bs =>
      have sp := foldl_min_spec bs b
      refine ⟨a, b :: bs, rfl, hs, by simp, fun m hm hl => ?_⟩
      have e : m = k := by
        have e3 : bs.foldl min b = k := Option.some.inj z3
        rw [← e3]
        exact Int.le_antisymm (hl _ sp.1) (sp.2 m hm)
      rw [e]; exact q H _ (Ext.refl _ _) r (.int _)
  · cases hg
theorem cd_max2 : CallD G (fun xs H Q => ∃ i j, xs = [.int i, .int j] ∧ Q (.int (if j > i then j else i)) H) max2D := by
  intro M S H xs ds d Q r rx hg q
  unfold max2D at hg
  split at hg
  · rename_i i j
    cases hg
    obtain ⟨v, w, rfl, rv, rw_⟩ := rx.inv2
    exact ⟨i, j, by rw [rv.int_inv, rw_.int_inv], q H _ (Ext.refl _ _) r (.int _)⟩
  · cases hg
theorem cd_min2 : CallD G (fun xs H Q => ∃ i j, xs = [.int i, .int j] ∧ Q (.int (if j < i then j else i)) H) min2D := by
  intro M S H xs ds d Q r rx hg q
  unfold min2D at hg
  split at hg
  · rename_i i j
    cases hg
    obtain ⟨v, w, rfl, rv, rw_⟩ := rx.inv2
    exact ⟨i, j, by rw [rv.int_inv, rw_.int_inv], q H _ (Ext.refl _ _) r (.int _)⟩
  · cases hg
/-! tuple(x), list(x) -/
def tupD (S : MS) (ds : List D) : Option D := match ds with
  | [.tup xs] => some (.tup xs)
  | [d] => match rdL S d with
    | some xs => some (.tup xs)
    | none => none
  | _ => none
theorem cd_tup : CallD G (fun xs H Q => ∃ p ys, xs = [.ref p] ∧ ((SqL G.K H p ys ∧ ∀ l, H l = none → Q (.ref l) (upd H l (.tup ys))) ∨ (SqT G.K H p ys ∧ Q (.ref p) H))) tupD := by
  intro M S H xs ds d Q r rx hg q
  unfold tupD at hg
  split at hg
  · rename_i ys
    cases hg
    obtain ⟨v, rfl, rv⟩ := rx.inv1
    obtain ⟨a, vs, rfl, ha, n1, n2, z, rs⟩ := rv.tup_inv
    exact ⟨a, vs, rfl, .inr ⟨SqT.of ha, q H _ (Ext.refl _ _) r rv⟩⟩
  · rename_i d0 _
    split at hg
    · rename_i ys hy
      cases hg
      obtain ⟨v, rfl, rv⟩ := rx.inv1
      obtain ⟨a, vs, rfl, hs, z, rs⟩ := rdL_inv r rv hy
      exact ⟨a, vs, rfl, .inl ⟨hs, fun p np => q _ _ (Ext.new np) (r.laid np) (.tup upd_same (r.fresh np) (r.freshx np) z (rs.ext (Ext.new np)))⟩⟩
    · cases hg
  · cases hg
def listD (S : MS) (ds : List D) : Option D := match ds with
  | [d] => match rdQ S d with
    | some xs => some (.lst xs)
    | none => none
  | _ => none
theorem cd_list : CallD G (fun xs H Q => ∃ p ys, xs = [.ref p] ∧ (SqL G.K H p ys ∨ SqT G.K H p ys) ∧ ∀ l, H l = none → Q (.ref l) (upd H l (.lst ys))) listD := by
  intro M S H xs ds d Q r rx hg q
  unfold listD at hg
  split at hg
  · rename_i d0
    split at hg
    · rename_i ys hy
      cases hg
      obtain ⟨v, rfl, rv⟩ := rx.inv1
      obtain ⟨a, vs, rfl, hs, z, rs⟩ := rdQ_inv r rv hy
      exact ⟨a, vs, rfl, hs, fun p np => q _ _ (Ext.new np) (r.laid np) (.lst upd_same (r.fresh np) (r.freshx np) z (rs.ext (Ext.new np)))⟩
    · cases hg
  · cases hg
end
end Dn

namespace Dn
open PySem PySem.Spec PyProof.Rows L2
section
variable {X : Cx} {G : Gx} {W : WX} {a b : Expr} {fa fb : En → MS → R D} {pos : Pos}
/-! ### isinstance by builtin types -/
def tyD (S : MS) (d : D) : Option String := match d with
  | .non => some "NoneType"
  | .bl _ => some "bool"
  | .int _ => some "int"
  | .str _ => some "str"
  | .tup _ => some "tuple"
  | .lst _ => some "list"
  | .frz _ => some "list"
  | .obj i => match S[i]? with
    | some (.lst _) => some "list"
    | some (.dK _) => some "dict"
    | some (.dT _) => some "dict"
    | _ => none
  | _ => none
theorem tyX_of {M : Mx} {S : MS} {H : Hp} {v : V} {d : D} {t : String} (r : Rel G M S H) (rv : Rep G M H v d) (h : tyD S d = some t) : TyX G.K H v (.type t) := by
  cases d with
  | non => cases rv.non_inv; cases h; exact .base .non
  | bl x => cases rv.bl_inv; cases h; exact .base (.bl x)
  | int x => cases rv.int_inv; cases h; exact .base (.int x)
  | str x => cases rv.str_inv; cases h; exact .base (.str x)
  | tup xs => obtain ⟨a, vs, rfl, ha, _⟩ := rv.tup_inv; cases h; exact .base (.tup ha)
  | lst xs => obtain ⟨a, vs, rfl, ha, _⟩ := rv.lst_inv; cases h; exact .base (.lst ha)
  | frz xs => obtain ⟨a, vs, rfl, _, ha, _⟩ := rv.frz_inv; cases h; exact ha.elim (fun ⟨o, ha⟩ => .base (.frz ha)) fun ⟨o, ha, hc⟩ => .kList ha hc
  | obj i =>
    obtain ⟨a, rfl, hi⟩ := rv.obj_inv
    dsimp only [tyD] at h
    cases z : S[i]? with
    | none => rw [z] at h; cases h
    | some o =>
      rw [z] at h
      have ho := r.at_ i a o hi z
      cases o with
      | lst xs => obtain ⟨vs, ha, _⟩ := ho; cases h; exact .base (.lst ha)
      | dK xs => obtain ⟨vs, ha, _⟩ := ho; cases h; exact .base (.dK ha)
      | dT xs => obtain ⟨vs, ha, _⟩ := ho; cases h; exact .base (.dT ha)
      | _ => cases h
  | _ => cases h
def isiO (o : Option MO) (t : Ty) : Option Bool := match o, t with
  | some (.lst _), .list => some true
  | some (.lst _), _ => some false
  | some (.dK _), .dict => some true
  | some (.dK _), _ => some false
  | some (.dT _), .dict => some true
  | some (.dT _), _ => some false
  | _, _ => none
/-- isinstance of a datum -/
def isiB (S : MS) (d : D) (t : Ty) : Option Bool := match d, t with
  | .bl _, .int => some true
  | .bl _, .bool => some true
  | .bl _, _ => some false
  | .int _, .int => some true
  | .int _, _ => some false
  | .str _, .str => some true
  | .str _, _ => some false
  | .tup _, .tuple => some true
  | .tup _, _ => some false
  | .lst _, .list => some true
  | .lst _, _ => some false
  | .frz _, .list => some true
  | .frz _, _ => some false
  | .non, _ => some false
  | .obj i, t => isiO S[i]? t
  | _, _ => none
theorem isiB_kit {S : MS} {d : D} {t : Ty} {k : Bool} (h : isiB S d t = some k) : ∃ s, tyD S d = some s ∧ kitB s t.nm = some k := by
  cases d with
  | non => exact ⟨_, rfl, by cases t <;> cases h <;> decide +kernel⟩
  | bl x => exact ⟨_, rfl, by cases t <;> cases h <;> decide +kernel⟩
  | int x => exact ⟨_, rfl, by cases t <;> cases h <;> decide +kernel⟩
  | str x => exact ⟨_, rfl, by cases t <;> cases h <;> decide +kernel⟩
  | tup x => exact ⟨_, rfl, by cases t <;> cases h <;> decide +kernel⟩
  | lst x => exact ⟨_, rfl, by cases t <;> cases h <;> decide +kernel⟩
  | frz x => exact ⟨_, rfl, by cases t <;> cases h <;> decide +kernel⟩
  | obj i =>
    have h' : isiO S[i]? t = some k := by cases t <;> exact h
    clear h
    dsimp only [tyD]
    cases z : S[i]? with
    | none => rw [z] at h'; cases t <;> cases h'
    | some o =>
      rw [z] at h'
      cases o with
      | lst xs => exact ⟨_, rfl, by cases t <;> cases h' <;> decide +kernel⟩
      | dK xs => exact ⟨_, rfl, by cases t <;> cases h' <;> decide +kernel⟩
      | dT xs => exact ⟨_, rfl, by cases t <;> cases h' <;> decide +kernel⟩
      | _ => cases t <;> cases h'
  | _ => cases h
def isiD (S : MS) (ds : List D) : Option D := match ds with
  | [d, .ty t] => (isiB S d t).map .bl
  | _ => none
theorem cd_isi : CallD G (rIsi G.K) isiD := by
  intro M S H xs ds d Q r rx hg q
  unfold isiD at hg
  split at hg
  · rename_i d0 t
    obtain ⟨v, w, rfl, rv, rw_⟩ := rx.inv2
    cases z : isiB S d0 t with
    | none => rw [z] at hg; cases hg
    | some k =>
      rw [z] at hg; cases hg
      obtain ⟨s, hs, hk⟩ := isiB_kit z
      cases rw_.ty_inv
      exact ⟨v, .ty t.nm, .type s, .type t.nm, k, rfl, .ty _, tyX_of r rv hs, kit_ty hk, q H _ (Ext.refl _ _) r (.bl k)⟩
  · cases hg
theorem den_ty {x : Str} {t : Ty} {pos : Pos} (hm : X.mg x = none) (hv : bootBuiltins x = some (.type t.nm)) (hg : Gl X x := by rfl) (hn : x ≠ "__name__" := by decide) (hd : (x == ("__debug__" : Str)) = false := by decide) : PE X (.Name x pos) (tD G W (eC (.ty t))) :=
  den_c (v := .ty t.nm) (pe_bltn hg hm hv rfl hn hd) fun _ _ => .ty t
/-! ### tuple * int -/
def repT (S : MS) (x y : D) : Option D := match x, y with
  | .tup xs, .int k => if -1000 ≤ k ∧ k ≤ 1000 ∧ xs.length ≤ 1000 then some (.tup (List.replicate k.toNat xs).flatten) else none
  | _, _ => none
theorem od_repT : OpD G (fun x y H Q => (rRepT G.K x y H Q ∨ rRepS G.K x y H Q) ∨ rRep0 G.K x y H Q) repT := by
  intro M S H x y dx dy d Q r rx ry hg q
  unfold repT at hg
  split at hg
  · rename_i xs k
    split at hg
    · rename_i hz
      cases hg
      obtain ⟨a, vs, rfl, ha, n1, n2, z, rs⟩ := rx.tup_inv
      have hl := rs.length
      by_cases c1 : vs = [] ∨ k = 1
      · refine .inl (.inr ⟨a, k, vs, rfl, ry.int_inv, SqT.of ha, hz.1, hz.2.1, c1, q H _ (Ext.refl _ _) r ?_⟩)
        have e : (List.replicate k.toNat xs).flatten = xs := by
          rcases c1 with c1 | c1
          · subst c1
            have : xs = [] := List.eq_nil_of_length_eq_zero hl.symm
            subst this
            generalize k.toNat = n
            induction n with
            | zero => rfl
            | succ n ih => rw [List.replicate_succ, List.flatten_cons, ih]; rfl
          · subst c1; simp
        rw [e]; exact rx
      · have c2 : vs ≠ [] := fun e => c1 (.inl e)
        have c3 : k ≠ 1 := fun e => c1 (.inr e)
        by_cases c4 : k ≤ 0
        · refine .inr ⟨a, k, vs, rfl, ry.int_inv, SqT.of ha, hz.1, c4, c2, fun p np => q _ _ (Ext.new np) (r.laid np) ?_⟩
          have e : (List.replicate k.toNat xs).flatten = [] := by
            have : k.toNat = 0 := by omega
            rw [this]; rfl
          rw [e]
          exact .tup upd_same (r.fresh np) (r.freshx np) (Nat.zero_le _) .nil
        · refine .inl (.inl ⟨a, k, vs, rfl, ry.int_inv, SqT.of ha, c2, by omega, hz.2.1, by rw [hl]; exact hz.2.2, fun p np => q _ _ (Ext.new np) (r.laid np) ?_⟩)
          refine .tup upd_same (r.fresh np) (r.freshx np) ?_ ((rs.rep _).ext (Ext.new np))
          rw [flat_len]
          have a1 : vs.length * k.toNat ≤ 1000 * 1000 := Nat.mul_le_mul (by omega) (by omega)
          exact Nat.le_trans a1 (by decide)
    · cases hg
  · cases hg
theorem op_repA : OpR X (binaryOp .Mult) (fun x y H Q => (rRepT X.K x y H Q ∨ rRepS X.K x y H Q) ∨ rRep0 X.K x y H Q) := (op_repT.or op_repS).or op_rep0
/-! ### t[::-1] -/
def revD (S : MS) (x : D) : Option D := match x with
  | .tup xs => some (.tup xs.reverse)
  | x => match rdL S x with
    | some xs => some (.lst xs.reverse)
    | none => none
theorem den_rev {k : Nat} {p1 p2 p3 : Pos} (he : PE X a (tD G W fa)) (hK : X.K = G.K := by rfl) : PE X (.Subscript a (.Slice none none (some (.UnaryOp .USub (.Constant (.int 1) k p1) p2)) p3) pos) (tD G W (eUn revD fa)) := by
  refine pe_imp (pe_or2 (pe_revT he) (pe_revL he)) fun σ H Q ⟨M, S, ρ, r, e, h⟩ => ?_
  unfold eUn at h
  cases z : fa ρ S with
  | bad => rw [z] at h; exact h.elim
  | exc c S' => rw [z] at h; exact .inl ⟨M, S, ρ, r, e, by rw [z]; exact h⟩
  | ok d S' =>
    rw [z] at h
    change Post G W σ M H (Rep G) (ofO (revD S' d) S') Q at h
    obtain ⟨d', hd, q⟩ := post_ofO h
    unfold revD at hd
    split at hd
    · rename_i xs
      cases hd
      refine .inl ⟨M, S, ρ, r, e, ?_⟩
      rw [z]
      intro M1 H1 v x1 r1 p1
      obtain ⟨a, vs, rfl, ha, n1, n2, zl, rs⟩ := p1.tup_inv
      exact ⟨a, vs, rfl, SqT.of ha, fun p np => q M1 _ _ (x1.trans (Ext.new np)) (r1.laid np) (.tup upd_same (r1.fresh np) (r1.freshx np) (by rw [List.length_reverse]; exact zl) (rs.reverse.ext (Ext.new np)))⟩
    · split at hd
      · rename_i xs hx
        cases hd
        refine .inr ⟨M, S, ρ, r, e, ?_⟩
        rw [z]
        intro M1 H1 v x1 r1 p1
        obtain ⟨a, vs, rfl, ha, zl, rs⟩ := rdL_inv r1 p1 hx
        rw [← hK] at ha
        exact ⟨a, vs, rfl, ha, fun p np => q M1 _ _ (x1.trans (Ext.new np)) (r1.laid np) (.lst upd_same (r1.fresh np) (r1.freshx np) (by rw [List.length_reverse]; exact zl) (rs.reverse.ext (Ext.new np)))⟩
      · cases hd
/-! ### truth -/
def truD (S : MS) (d : D) : Option Bool := match d with
  | .non => some false
  | .bl b => some b
  | .int i => some (i != 0)
  | .str y => if y.length ≤ lim then some ((y.length : Int) != 0) else none
  | d => match rdQ S d with
    | some xs => some (!xs.isEmpty)
    | none => none
theorem tru_of {M : Mx} {S : MS} {H : Hp} {v : V} {d : D} {k : Bool} (r : Rel G M S H) (rv : Rep G M H v d) (h : truD S d = some k) : TruV G.K v H k := by
  unfold truD at h
  split at h
  · cases rv.non_inv; cases h; rfl
  · cases rv.bl_inv; cases h; rfl
  · cases rv.int_inv; cases h; rfl
  · cases rv.str_inv
    split at h
    · rename_i hz; cases h; exact ⟨limS hz, rfl⟩
    · cases h
  · split at h
    · rename_i xs hx
      cases h
      obtain ⟨a, vs, rfl, hs, z, rs⟩ := rdQ_inv r rv hx
      have e : (!xs.isEmpty) = !vs.isEmpty := by
        cases rs <;> rfl
      rw [e]
      rcases hs with hs | hs
      · exact .inl ⟨vs, hs, rfl⟩
      · exact .inr (.inl ⟨vs, hs, rfl⟩)
    · cases h
def trT (f : En → MS → R D) : En → MS → R Bool := fun ρ S => (f ρ S).bind fun d S1 => ofO (truD S1 d) S1
theorem dent_tr (ha : PE X a (tD G W fa)) (hK : X.K = G.K := by rfl) (he : ∀ whole, isTrue a X.env whole = (do let v ← whole; standAt a.pos; holding [v] (truthy v)) := by intro _; rfl) : PT X a (tT G W (trT fa)) := by
  refine pt_imp (pt_truth ha he) fun σ H Q ⟨M, S, ρ, r, e, h⟩ => ?_
  refine tD_mono (d_bind h r e) fun x H1 ⟨M1, S1, d1, x1, r1, p1, e1, h1⟩ => ?_
  obtain ⟨k, hk, q⟩ := post_ofO h1
  exact ⟨k, hK ▸ tru_of r1 p1 hk, q M1 H1 _ (Ext.refl _ _) r1 rfl⟩
def eOrT (f g : En → MS → R D) : En → MS → R D := fun ρ S => (f ρ S).bind fun d S1 => (ofO (truD S1 d) S1).bind fun k S2 => if k = true then .ok d S2 else g ρ S2
theorem den_orT {rest : List Expr} (ha : PE X a (tD G W fa)) (hb : PE X (.BoolOp .Or (b :: rest) pos) (tD G W fb)) (hK : X.K = G.K := by rfl) : PE X (.BoolOp .Or (a :: b :: rest) pos) (tD G W (eOrT fa fb)) := by
  refine pe_imp (pe_orT ha hb) fun σ H Q ⟨M, S, ρ, r, e, h⟩ => ?_
  refine tD_mono (d_bind h r e) fun x H1 ⟨M1, S1, d1, x1, r1, p1, e1, h1⟩ => ?_
  cases z : truD S1 d1 with
  | none => rw [z] at h1; exact h1.elim
  | some k =>
    rw [z] at h1
    refine ⟨k, hK ▸ tru_of r1 p1 z, ?_⟩
    change Post G W σ M1 H1 (Rep G) (if k = true then .ok d1 S1 else fb ρ S1) Q at h1
    cases k with
    | true => rw [if_pos rfl] at h1 ⊢; exact h1 M1 H1 _ (Ext.refl _ _) r1 p1
    | false => rw [if_neg Bool.false_ne_true] at h1 ⊢; exact ⟨M1, S1, ρ, r1, e1, h1⟩
/-! ### sorted of ints -/
def srtI (S : MS) (ds : List D) : Option D := match ds with
  | [d] => match (rdL S d).bind intsOf with
    | some ns => if ns.length < 64 then some (.lst ((ns.mergeSort (fun a b => decide (a ≤ b))).map .int)) else none
    | none => none
  | _ => none
theorem sorted_unique {ns ms : List Int} (p : ms.Perm ns) (o : ms.Pairwise (· ≤ ·)) : ms = ns.mergeSort (fun a b => decide (a ≤ b)) := by
  have h1 : (ns.mergeSort (fun a b => decide (a ≤ b))).Perm ns := List.mergeSort_perm _ _
  have h2 : (ns.mergeSort (fun a b => decide (a ≤ b))).Pairwise (fun a b => decide (a ≤ b) = true) := List.pairwise_mergeSort (fun a b c h k => by simp at *; omega) (fun a b => by simp; omega) ns
  have h3 : (ns.mergeSort (fun a b => decide (a ≤ b))).Pairwise (· ≤ ·) := h2.imp fun h => by simpa using h
  exact List.Perm.eq_of_pairwise (fun a b _ _ h k => Int.le_antisymm h k) o h3 (p.trans h1.symm)
theorem map_int_rep {M : Mx} {H : Hp} : ∀ ns : List Int, Reps G M H (ns.map V.int) (ns.map D.int)
  | [] => .nil
  | n :: ns => .cons (.int n) (map_int_rep ns)
theorem cd_srtI : CallD G (rSorted G.K) srtI := by
  intro M S H xs ds d Q r rx hg q
  unfold srtI at hg
  split at hg
  · rename_i d0
    obtain ⟨v, rfl, rv⟩ := rx.inv1
    cases z : rdL S d0 with
    | none => rw [z] at hg; cases hg
    | some ys =>
      rw [z] at hg
      change (match intsOf ys with | some bs => _ | none => _) = _ at hg
      obtain ⟨a, vs, rfl, hs, zl, rs⟩ := rdL_inv r rv z
      cases z2 : intsOf ys with
      | none => rw [z2] at hg; cases hg
      | some ns =>
        rw [z2] at hg
        change (if ns.length < 64 then _ else _) = _ at hg
        split at hg
        · rename_i hz
          cases hg
          rw [intsOf_rep rs z2] at hs
          refine ⟨a, ns, rfl, hs, hz, fun ms p hp ho np => ?_⟩
          rw [← sorted_unique hp ho] at q
          refine q _ _ (Ext.new np) (r.laid np) (.lst upd_same (r.fresh np) (r.freshx np) ?_ (map_int_rep ms))
          rw [List.length_map, hp.length_eq]
          exact Nat.le_trans (Nat.le_of_lt hz) (by decide)
        · cases hg
  · cases hg
end
end Dn

namespace Dn
theorem lst_nf {H : L2.Hp} {a : PySem.Addr} {vs : List L2.V} (h : H a = some (.lst vs)) : ∀ o u, H a ≠ some (.frz o u) := fun o u z => by rw [h] at z; cases z
open PySem PySem.Spec PyProof.Rows L2
section
variable {X : Cx} {G : Gx} {W : WX} {a b c : Expr} {fa fb fc : En → MS → R D} {pos : Pos}
/-! ### new lists by operators, not yet known -/
def OpL (G : Gx) (r : R2) (g : MS → D → D → Option (List D)) : Prop := ∀ (M : Mx) (S : MS) (H : Hp) (x y : V) (dx dy : D) (ds : List D) (Q : VK), Rel G M S H → Rep G M H x dx → Rep G M H y dy → g S dx dy = some ds →
  (∀ p vs, H p = none → vs.length ≤ sizeLine → Reps G M H vs ds → Q (.ref p) (upd H p (.lst vs))) → r x y H Q
def eOpL (g : MS → D → D → Option (List D)) (f1 f2 : En → MS → R D) : En → MS → R (List D) := fun ρ S => (f1 ρ S).bind fun x S1 => (f2 ρ S1).bind fun y S2 => ofO (g S2 x y) S2
theorem denl_op {op : Operator} {r : R2} {g : MS → D → D → Option (List D)} (ho : OpR X (binaryOp op) r) (hg : OpL G r g) (ha : PE X a (tD G W fa)) (hb : PE X b (tD G W fb)) : PE X (.BinOp a op b pos) (tL G W (eOpL g fa fb)) := by
  refine pe_imp (pe_op ho ha hb) fun σ H Q ⟨M, S, ρ, r, e, h⟩ => ?_
  refine tD_mono (dl_bind h r e) fun x H1 ⟨M1, S1, d1, x1, r1, p1, e1, h1⟩ => ?_
  refine tD_mono (dl_bind h1 r1 e1) fun y H2 ⟨M2, S2, d2, x2, r2, p2, e2, h2⟩ => ?_
  cases z : g S2 d1 d2 with
  | none => rw [z] at h2; exact h2.elim
  | some ds =>
    rw [z] at h2
    exact hg M2 S2 H2 x y d1 d2 ds Q r2 (p1.ext x2) p2 z fun p vs np zl rs => h2 M2 _ p vs (Ext.new np) (r2.hide np) upd_same np (r2.fresh np) (r2.freshx np) zl (rs.hide np)
def catLL (S : MS) (x y : D) : Option (List D) := match rdM S x, rdM S y with
  | some xs, some ys => if xs.length + ys.length ≤ lim then some (xs ++ ys) else none
  | _, _ => none
theorem ol_cat : OpL G rCat catLL := by
  intro M S H x y dx dy ds Q r rx ry hg q
  unfold catLL at hg
  split at hg
  · rename_i xs ys hx hy
    split at hg
    · rename_i hz
      cases hg
      obtain ⟨a, vs, rfl, ha, z1, rs⟩ := rdM_inv r rx hx
      obtain ⟨b, ws, rfl, hb, z2, rt⟩ := rdM_inv r ry hy
      have hz' : vs.length + ws.length ≤ sizeLine := by rw [rs.length, rt.length]; exact limS hz
      exact ⟨a, b, vs, ws, rfl, rfl, ha, hb, hz', fun p np => q p _ np (by rw [List.length_append]; exact hz') (rs.append rt)⟩
    · cases hg
  · cases hg
def repLL (S : MS) (x y : D) : Option (List D) := match rdM S x, y with
  | some xs, .int k => if k < 100000 ∧ -100000 < k ∧ xs.length * k.toNat ≤ lim then some (List.replicate k.toNat xs).flatten else none
  | _, _ => none
theorem ol_rep : OpL G rRep repLL := by
  intro M S H x y dx dy d Q r rx ry hg q
  unfold repLL at hg
  split at hg
  · rename_i xs k hx
    split at hg
    · rename_i hz
      cases hg
      obtain ⟨a, vs, rfl, ha, z1, rs⟩ := rdM_inv r rx hx
      have hz' : vs.length * k.toNat ≤ sizeLine := by rw [rs.length]; exact limS hz.2.2
      exact ⟨a, k, vs, rfl, ry.int_inv, ha, by omega, by omega, hz', fun p np => q p _ np (by rw [flat_len]; exact hz') (rs.rep _)⟩
    · cases hg
  · cases hg
/-! ### o[i] = v -/
/-- a store into a list that is an object -/
def putL (S : MS) (o i v : D) : Option MS := match o, i with
  | .obj n, .int k => match S[n]? with
    | some (.lst xs) => match ixN xs.length k with
      | some j => some (S.set n (.lst (xs.set j v)))
      | none => none
    | _ => none
  | _, _ => none
def PutD (G : Gx) (t : TSet) (g : MS → D → D → D → Option MS) : Prop := ∀ (M : Mx) (S S' : MS) (H : Hp) (o i v : V) (dO dI dV : D) (Q : Hp → Prop), Rel G M S H → Rep G M H o dO → Rep G M H i dI → Rep G M H v dV → g S dO dI dV = some S' →
  (∀ H', Ext M H M H' → Rel G M S' H' → Q H') → t o i v H Q
theorem pd_list : PutD G rSetL putL := by
  intro M S S' H o i v dO dI dV Q r ro ri rv hg q
  unfold putL at hg
  split at hg
  · rename_i n k
    split at hg
    · rename_i xs hx
      split at hg
      · rename_i j hj
        cases hg
        obtain ⟨a, rfl, hm⟩ := ro.obj_inv
        obtain ⟨vs, ha, z, rs⟩ := r.at_ n a _ hm hx
        refine ⟨a, vs, k, j, rfl, ri.int_inv, ha, by rw [rs.length]; exact hj, q _ (Ext.put hm (lst_nf ha)) (r.put hm (lst_nf ha) ⟨vs.set j v, upd_same, by rw [List.length_set]; exact z, ?_⟩)⟩
        exact (Reps.set (rv.ext (Ext.put hm (lst_nf ha))) j (rs.ext (Ext.put hm (lst_nf ha))))
      · cases hg
    · cases hg
  · cases hg
def sPut (g : MS → D → D → D → Option MS) (fv fo fi : En → MS → R D) : En → MS → RS := fun ρ S => (fv ρ S).bindS ρ fun v S1 => (fo ρ S1).bindS ρ fun o S2 => (fi ρ S2).bindS ρ fun i S3 => match g S3 o i v with
  | some S' => .nx ρ S'
  | none => .bad
theorem dens_put {t : TSet} {g : MS → D → D → D → Option MS} {tpos : Pos} (ht : PSet X t) (hg : PutD G t g) (hv : PE X c (tD G W fc)) (ho : PE X a (tD G W fa)) (hi : PE X b (tD G W fb))
    (hb : ∀ v, assign (.Subscript a b tpos) X.env v = (do
      let ov ← holding [v] (eval a X.env)
      let iv ← holding [v, ov] (eval b X.env)
      standAt tpos
      holding [v, ov, iv] (setItem ov iv v)
      release [v, ov, iv] []) := by intro _; rfl)
    (hs : swapsWithSole [.Subscript a b tpos] c pos.line X.env = pure false := by rfl) (hw : swappedStores [.Subscript a b tpos] c X.env = pure none := by rfl)
    (h1 : (assignEach [.Subscript a b tpos] X.env).map (·.2) = [assign (.Subscript a b tpos) X.env] := by rfl) : PS X (.Assign [.Subscript a b tpos] c pos) (tS G W (sPut g fc fa fb)) := by
  refine ps_imp (ps_asg hv (pg_sub ho hi ht hb) hs hw h1) fun D σ H ⟨M, S, ρ, r, e, h⟩ => ?_
  refine tD_mono (ds_bind h r e) fun x H1 ⟨M1, S1, d1, x1, r1, p1, e1, h1⟩ => ?_
  refine tD_mono (ds_bind h1 r1 e1) fun y H2 ⟨M2, S2, d2, x2, r2, p2, e2, h2⟩ => ?_
  refine tD_mono (ds_bind h2 r2 e2) fun z H3 ⟨M3, S3, d3, x3, r3, p3, e3, h3⟩ => ?_
  cases zg : g S3 d2 d3 d1 with
  | none => rw [zg] at h3; exact h3.elim
  | some S' =>
    rw [zg] at h3
    exact hg M3 S3 S' H3 y z x d2 d3 d1 _ r3 (p2.ext x3) p3 ((p1.ext x2).ext x3) zg fun H' x' r' => h3 M3 H' σ x' r' (e3.ext x')
/-! ### methods that write: append -/
def MutD (G : Gx) (T : String) (r : V → List V → Hp → VK → Prop) (g : MS → D → List D → Option (D × MS)) : Prop := ∀ (M : Mx) (S S' : MS) (H : Hp) (x : V) (xs : List V) (dx : D) (ds : List D) (d : D) (Q : VK), Rel G M S H → Rep G M H x dx → Reps G M H xs ds → g S dx ds = some (d, S') →
  (∀ H' v, Ext M H M H' → Rel G M S' H' → Rep G M H' v d → Q v H') → r x xs H Q
/-- of what builtin type the receiver is -/
def tyM (S : MS) (d : D) (T : String) : Bool := match d with
  | .obj i => match S[i]? with
    | some (.lst _) => T == "list"
    | some (.dK _) => T == "dict"
    | some (.dT _) => T == "dict"
    | _ => false
  | .lst _ => T == "list"
  | .str _ => T == "str"
  | _ => false
theorem tyM_of {M : Mx} {S : MS} {H : Hp} {v : V} {d : D} {T : String} (r : Rel G M S H) (rv : Rep G M H v d) (h : tyM S d T = true) : tyV G.K T v H := by
  cases d with
  | obj i =>
    obtain ⟨a, rfl, hi⟩ := rv.obj_inv
    dsimp only [tyM] at h
    cases z : S[i]? with
    | none => rw [z] at h; cases h
    | some o =>
      rw [z] at h
      have ho := r.at_ i a o hi z
      cases o with
      | lst xs => obtain ⟨vs, ha, _⟩ := ho; exact .inl ⟨eq_of_beq h, vs, SqL.of ha⟩
      | dK xs => obtain ⟨vs, ha, _⟩ := ho; exact .inr (.inr (.inl ⟨eq_of_beq h, .inl ⟨vs, ha⟩⟩))
      | dT xs => obtain ⟨vs, ha, _⟩ := ho; exact .inr (.inr (.inl ⟨eq_of_beq h, .inr ⟨vs, ha⟩⟩))
      | _ => cases h
  | lst xs => obtain ⟨a, vs, rfl, ha, _⟩ := rv.lst_inv; exact .inl ⟨eq_of_beq h, vs, SqL.of ha⟩
  | str x => cases rv.str_inv; exact eq_of_beq h
  | _ => cases h
def eBM (T : String) (g : MS → D → List D → Option (D × MS)) (fo : En → MS → R D) (fs : En → MS → R (List D)) : En → MS → R D := fun ρ S => (fo ρ S).bind fun o S1 => if tyM S1 o T = true then (fs ρ S1).bind fun xs S2 => ofOS (g S2 o xs) else .bad
theorem den_bm {o e : Expr} {es : List Expr} {fo : En → MS → R D} {fs : En → MS → R (List D)} {name : Str} {apos cpos : Pos} {T id : String} {r : V → List V → Hp → VK → Prop} {g : MS → D → List D → Option (D × MS)}
    (pa : PlainAttrs T) (slot : Slot T name id) (hty : typeOf (.builtin id) = pure (.type "method_descriptor")) (hm : MtR X id r) (hg : MutD G T r g) (ho : PE X o (tD G W fo)) (ha : PA X (e :: es) (tA G W fs)) (hK : X.K = G.K := by rfl)
    (hbase : attributeBase o name X.env (eval o X.env) = eval o X.env := by rfl)
    (hfew : ((backTo cpos (starEach (e :: es) X.env)).all (fun x => !x.1) && (backToKw cpos (keywordEach [] X.env)).all (fun x => x.1.isSome)
      && decide ((e :: es).length + ([] : List Keyword).length + (if ([] : List Keyword).isEmpty then 0 else 1) < 30)) = true := by rfl)
    (hline : (apos.endLine == cpos.line) = true := by rfl) (hs : starEach (e :: es) X.env = (false, eval e X.env) :: starEach es X.env := by rfl) (hplain : (backTo cpos (starEach es X.env)).any (·.1) = false := by rfl) :
    PE X (.Call (.Attribute o name apos) (e :: es) [] cpos) (tD G W (eBM T g fo fs)) := by
  refine pe_imp (pe_bm pa slot hty hm ho ha hbase hfew hline hs hplain) fun σ H Q ⟨M, S, ρ, r, e, h⟩ => ?_
  refine tD_mono (d_bind h r e) fun x H1 ⟨M1, S1, d1, x1, r1, p1, e1, h1⟩ => ?_
  by_cases z : tyM S1 d1 T = true
  · rw [if_pos z] at h1
    refine ⟨hK ▸ tyM_of r1 p1 z, tA_mono (a_bind h1 r1 e1) fun y H2 ⟨M2, S2, d2, x2, r2, p2, e2, h2⟩ => ?_⟩
    cases zg : g S2 d1 d2 with
    | none => rw [zg] at h2; exact h2.elim
    | some q =>
      obtain ⟨d, S'⟩ := q
      rw [zg] at h2
      exact hg M2 S2 S' H2 x y d1 d2 d Q r2 (p1.ext x2) p2 zg fun H' v x' r' p' => h2 M2 H' v x' r' p'
  · rw [if_neg z] at h1; exact h1.elim
def appD (S : MS) (o : D) (ds : List D) : Option (D × MS) := match o, ds with
  | .obj i, [d] => match S[i]? with
    | some (.lst xs) => if xs.length < lim then some (.non, S.set i (.lst (xs ++ [d]))) else none
    | _ => none
  | _, _ => none
theorem md_app : MutD G "list" rAppend appD := by
  intro M S S' H x xs dx ds d Q r rx rs hg q
  unfold appD at hg
  split at hg
  · rename_i i d0
    split at hg
    · rename_i ys hy
      split at hg
      · rename_i hz
        cases hg
        obtain ⟨a, rfl, hm⟩ := rx.obj_inv
        obtain ⟨v, rfl, rv⟩ := rs.inv1
        obtain ⟨vs, ha, z, rt⟩ := r.at_ i a _ hm hy
        have hlt : vs.length < 100000 := by rw [rt.length]; exact hz
        refine ⟨a, vs, v, rfl, rfl, ha, Nat.lt_of_lt_of_le hlt (by decide), q _ _ (Ext.put hm (lst_nf ha)) (r.put hm (lst_nf ha) ⟨vs ++ [v], upd_same, ?_, ?_⟩) .non⟩
        · rw [List.length_append, List.length_singleton]; exact Nat.le_trans hlt (by decide)
        · exact (rt.ext (Ext.put hm (lst_nf ha))).append (.one (rv.ext (Ext.put hm (lst_nf ha))))
      · cases hg
    · cases hg
  · cases hg
end
end Dn

namespace Dn
open PySem PySem.Spec PyProof.Rows L2
theorem bt_len : bootBuiltins "len" = some (.builtin "len") := by decide +kernel
theorem bt_isinstance : bootBuiltins "isinstance" = some (.builtin "isinstance") := by decide +kernel
theorem bt_all : bootBuiltins "all" = some (.builtin "all") := by decide +kernel
theorem bt_any : bootBuiltins "any" = some (.builtin "any") := by decide +kernel
theorem bt_sum : bootBuiltins "sum" = some (.builtin "sum") := by decide +kernel
theorem bt_max : bootBuiltins "max" = some (.builtin "max") := by decide +kernel
theorem bt_min : bootBuiltins "min" = some (.builtin "min") := by decide +kernel
theorem bt_sorted : bootBuiltins "sorted" = some (.builtin "sorted") := by decide +kernel
theorem bt_tuple : bootBuiltins "tuple" = some (.type "tuple") := by decide +kernel
theorem bt_list : bootBuiltins "list" = some (.type "list") := by decide +kernel
theorem bt_int : bootBuiltins "int" = some (.type "int") := by decide +kernel
theorem bt_bool : bootBuiltins "bool" = some (.type "bool") := by decide +kernel
theorem bt_str : bootBuiltins "str" = some (.type "str") := by decide +kernel
theorem bt_dict : bootBuiltins "dict" = some (.type "dict") := by decide +kernel
section
variable {X : Cx} {G : Gx} {W : WX} {a b c : Expr} {fa fb fc : En → MS → R D} {pos : Pos}
def addD : MS → D → D → Option D := orG addI (orG catT (orG catS catL))
def or_add {X : Cx} := (op_add (X := X)).or (op_catA.or (op_add_str.or op_cat))
def od_add {G : Gx} := (od_addI (G := G)).or (od_catT.or (od_catS.or od_catL))
def mulD : MS → D → D → Option D := orG mulI (orG repT repL)
def or_mul {X : Cx} := (op_mul (X := X)).or (op_repA.or op_rep)
def od_mul {G : Gx} := (od_mulI (G := G)).or (od_repT.or od_repL)
def inA : MS → D → D → Option D := orG inD inSign
def or_in {X : Cx} := (op_in_seq (X := X)).or op_in_sign
def od_inA {G : Gx} := (od_in (G := G)).or od_inSign
def isA : MS → D → D → Option D := orG isN isBo
def isNotA : MS → D → D → Option D := orG isNotN isNotBo
def or_is {X : Cx} := (op_isN (X := X)).or op_is_bl
def or_isNot {X : Cx} := (op_notN (X := X)).or op_isnot_bl
def od_isA {G : Gx} := (od_isN (G := G)).or od_isBo
def od_isNotA {G : Gx} := (od_isNotN (G := G)).or od_isNotBo
def maxA : MS → List D → Option D := orC max2D maxD
def minA : MS → List D → Option D := orC min2D minD
def cr_maxA {X : Cx} (hc : X.calm = true) := (call_max2 hc).or (cr_max hc)
def cr_minA {X : Cx} (hc : X.calm = true) := (call_min2 hc).or (cr_min hc)
def cd_maxA {G : Gx} := (cd_max2 (G := G)).or cd_max
def cd_minA {G : Gx} := (cd_min2 (G := G)).or cd_min
/-! ### a name of the module that holds a text, a number -/
theorem den_gs {x z : Str} {pos : Pos} (h : ∃ t, X.mg x = some (.str z t)) (hg : Gl X x := by rfl) (hd : (x == ("__debug__" : Str)) = false := by decide) : PE X (.Name x pos) (tD G W (eC (.str z))) := by
  obtain ⟨t, h⟩ := h
  exact den_c (v := .str z) (pe_glob hg h ⟨t, rfl⟩ hd) fun _ _ => .str z
theorem den_gi {x : Str} {i : Int} {pos : Pos} (h : ∃ t, X.mg x = some (.int i t)) (hg : Gl X x := by rfl) (hd : (x == ("__debug__" : Str)) = false := by decide) : PE X (.Name x pos) (tD G W (eC (.int i))) := by
  obtain ⟨t, h⟩ := h
  exact den_c (v := .int i) (pe_glob hg h ⟨t, rfl⟩ hd) fun _ _ => .int i
/-! ### name = [..] -/
theorem val_read {f : En → MS → R (List D)} {σ : L2.St} {H : Hp} {Q : VK} (h : tD G W (eVal f) σ H Q) : tL G W f σ H Q := by
  obtain ⟨M, S, ρ, r, e, h⟩ := h
  refine ⟨M, S, ρ, r, e, ?_⟩
  unfold eVal at h
  cases z : f ρ S with
  | bad => rw [z] at h; exact h.elim
  | exc c S' => rw [z] at h; exact h
  | ok ds S' =>
    rw [z] at h
    intro M1 H1 p vs x1 r1 hp np n1 n2 zl rs
    exact h M1 H1 _ x1 r1.show_ (.lst hp n1 n2 zl rs.show_)
theorem obj_read {f : En → MS → R (List D)} {σ : L2.St} {H : Hp} {Q : VK} (h : tD G W (eObj f) σ H Q) : tL G W f σ H Q := by
  obtain ⟨M, S, ρ, r, e, h⟩ := h
  refine ⟨M, S, ρ, r, e, ?_⟩
  unfold eObj at h
  cases z : f ρ S with
  | bad => rw [z] at h; exact h.elim
  | exc c S' => rw [z] at h; exact h
  | ok ds S' =>
    rw [z] at h
    intro M1 H1 p vs x1 r1 hp np n1 n2 zl rs
    refine h ⟨M1.m ++ [p], M1.x⟩ H1 (.ref p) (x1.own np) (r1.own n1 n2 ⟨vs, hp, zl, rs.own⟩) (.obj ?_)
    show (M1.m ++ [p])[S'.length]? = some p
    have rl : M1.m.length = S'.length := r1.len
    rw [← rl, List.getElem?_append_right (Nat.le_refl _), Nat.sub_self]; rfl
variable {elt tg iter : Expr} {ifs : List Expr} {scope : Scope} {own : List (Str × Nat)} {p : Pat} {ft : En → MS → R Bool} {fe : En → MS → R D}
theorem dens_setLc {i : Nat} {y : Str} {py spos : Pos} {it : En → MS → R (List D)} (hc : X.calm = true) (hN : X.N.Nodup) (hi : PI X tg iter (tIV G W it)) (ok : BlkOk X.N X.env.scope scope own) (hs : ∀ i ∈ slots p, i ∈ own.map (·.2))
    (hg : ∀ (s : Shared) (H : Hp) (C : Addr) (cl : List (Str × Addr)) (fp : List Addr), PG (X.blk s H scope (compEnvC scope cl C X.env) fp) tg (tPat G p))
    (ht : ∀ (s : Shared) (H : Hp) (C : Addr) (cl : List (Str × Addr)) (fp : List Addr), PTs (X.blk s H scope (compEnvC scope cl C X.env) fp) ifs (tT G W0 ft))
    (he : ∀ (s : Shared) (H : Hp) (C : Addr) (cl : List (Str × Addr)) (fp : List Addr), PE (X.blk s H scope (compEnvC scope cl C X.env) fp) elt (tD G W0 fe))
    (hsw : swapsWith (.ListComp elt [⟨tg, iter, ifs, 0⟩] scope pos) (some (.Name y py)) spos.line X.env = pure true)
    (hy : X.N[i]? = some y := by rfl) (hyl : X.env.scope.names.lookup y = some .local := by rfl) (hfs : ∀ x, foldedSetIterable iter X.env x = pure x := by intro _; rfl) :
    PS X (.Assign [.Name y py] (.ListComp elt [⟨tg, iter, ifs, 0⟩] scope pos) spos) (tS G W (sSet i (eVal (eLc it p ft fe (own.map (·.2)))))) :=
  ps_imp (ps_setLc hc hN hy hyl hsw hi ok hg ht he hfs) fun D σ H h => lcV_read hs (val_read (set_read h))
theorem dens_setLcO {i : Nat} {y : Str} {py spos : Pos} {it : En → MS → R (List D)} (hc : X.calm = true) (hN : X.N.Nodup) (hi : PI X tg iter (tIV G W it)) (ok : BlkOk X.N X.env.scope scope own) (hs : ∀ i ∈ slots p, i ∈ own.map (·.2))
    (hg : ∀ (s : Shared) (H : Hp) (C : Addr) (cl : List (Str × Addr)) (fp : List Addr), PG (X.blk s H scope (compEnvC scope cl C X.env) fp) tg (tPat G p))
    (ht : ∀ (s : Shared) (H : Hp) (C : Addr) (cl : List (Str × Addr)) (fp : List Addr), PTs (X.blk s H scope (compEnvC scope cl C X.env) fp) ifs (tT G W0 ft))
    (he : ∀ (s : Shared) (H : Hp) (C : Addr) (cl : List (Str × Addr)) (fp : List Addr), PE (X.blk s H scope (compEnvC scope cl C X.env) fp) elt (tD G W0 fe))
    (hsw : swapsWith (.ListComp elt [⟨tg, iter, ifs, 0⟩] scope pos) (some (.Name y py)) spos.line X.env = pure true)
    (hy : X.N[i]? = some y := by rfl) (hyl : X.env.scope.names.lookup y = some .local := by rfl) (hfs : ∀ x, foldedSetIterable iter X.env x = pure x := by intro _; rfl) :
    PS X (.Assign [.Name y py] (.ListComp elt [⟨tg, iter, ifs, 0⟩] scope pos) spos) (tS G W (sSet i (eObj (eLc it p ft fe (own.map (·.2)))))) :=
  ps_imp (ps_setLc hc hN hy hyl hsw hi ok hg ht he hfs) fun D σ H h => lcV_read hs (obj_read (set_read h))
/-! ### the script -/
theorem script_rep {M : Mx} {H : Hp} {a : Addr} {ns : List Int} (hl : ns.length ≤ sizeLine) (o : Only H) (h : SqL G.K H a (ns.map V.int)) (hm : M.m = []) (hx : M.x = []) : Rep G M H (.ref a) (.frz (ns.map D.int)) := by
  have hz : (ns.map V.int).length ≤ sizeLine := by rw [List.length_map]; exact hl
  rcases h with (h | ⟨ob, h⟩) | h
  · rcases o a with q | ⟨o, xs, q⟩
    · rw [q] at h; cases h
    · rw [q] at h; cases h
  · exact .frz h (by rw [hm]; simp) (by rw [hx]; simp) hz (map_int_rep ns)
  · exact .frk h hz (map_int_rep ns)
end
/-- the law's end: its denotation gives True at every script -/
theorem law_end {G : Gx} {F : List D → MS → R D} (hF : ∀ ns : List Int, ns.length ≤ 63 → ∃ S, F [.frz (ns.map .int)] [] = .ok (.bl true) S) (H : Hp) (a : Addr) (ns : List Int) (hl : ns.length ≤ 63) (o : Only H) (h : SqL G.K H a (ns.map V.int)) (ht : ∀ p ∈ G.tb, TabM H p.1 p.2 := by intro p hp; cases hp) :
    spD G F [.ref a] H (fun v _ => v = .bl true) fun _ _ _ => False := by
  refine ⟨⟨[], []⟩, [], [.frz (ns.map .int)], ⟨rfl, List.nodup_nil, fun i a o h => by simp at h, fun a h => by simp at h, fun a h => by simp at h, ht⟩, .one (script_rep (Nat.le_trans hl (by decide)) o h rfl rfl), ?_⟩
  obtain ⟨S, e⟩ := hF ns hl
  rw [e]
  exact fun M' H' v _ _ r => r.bl_inv
end Dn

namespace Dn
open PySem PySem.Spec PyProof.Rows L2
/-! ### two clauses -/
def comp2L (p : Pat) (ft : En → MS → R Bool) (it1 : En → MS → R (List D)) (p1 : Pat) (ft1 : En → MS → R Bool) (fe : En → MS → R D) (vs1 : List Nat) (ρ : En) : List D → MS → R (List D)
  | [], S => .ok [] S
  | d :: ds, S => match bindP p d ρ with
    | none => .bad
    | some ρ' => (noX (ft ρ' S)).bind fun b S1 => if b = true then (noX (it1 ρ' S1)).bind fun ds1 S2 => if ds1.length ≤ 1000 then (compL p1 ft1 fe (wipeD ρ' vs1) ds1 S2).bind fun ys S3 => (comp2L p ft it1 p1 ft1 fe vs1 ρ ds S3).bind fun zs S4 => .ok (ys ++ zs) S4 else .bad else comp2L p ft it1 p1 ft1 fe vs1 ρ ds S1
def eLc2 (it : En → MS → R (List D)) (p : Pat) (ft : En → MS → R Bool) (it1 : En → MS → R (List D)) (p1 : Pat) (ft1 : En → MS → R Bool) (fe : En → MS → R D) (vs vs1 : List Nat) : En → MS → R (List D) := fun ρ S => (it ρ S).bind fun ds S1 => if ds.length ≤ 1000 then comp2L p ft it1 p1 ft1 fe vs1 (wipeD ρ vs) ds S1 else .bad
theorem R.bind_assoc {α β γ : Type} (r : R α) (k : α → MS → R β) (l : β → MS → R γ) : (r.bind k).bind l = r.bind fun a S => (k a S).bind l := by cases r <;> rfl
theorem wipe_wipe (σ : L2.St) (vs : List Nat) : wipe (wipe σ vs) vs = wipe σ vs := by
  refine List.ext_getElem? fun j => ?_
  rw [wipe_get, wipe_get]
  by_cases q : j ∈ vs
  · rw [if_pos q, if_pos q]; cases σ[j]? <;> rfl
  · rw [if_neg q, if_neg q]
section
variable {X : Cx} {G : Gx} {W : WX}
/-- the inner loop, into a continuation -/
theorem lcI_read {J : It} {ds1 : List D} {p : Pat} {ft : En → MS → R Bool} {fe : En → MS → R D} {vs : List Nat} {M1 M3 : Mx} {H1 H3 : Hp} {σ σ0 : L2.St} {ρ : En} {Q : VK} {S : MS} {acc : List D} {vacc : List V} {D : Addr} {k : List Dn.D → MS → R (List Dn.D)} {Nx : Hp → Prop} {B : Nat}
    (hJ : ItR G M3 H3 J (vsrc ds1)) (r : Rel G M3 S H3) (e : EnvR G M3 H3 σ ρ) (hs : ∀ i ∈ slots p, i ∈ vs) (x13 : Ext M1 H1 M3 H3) (hD : H1 D = none) (dx : D ∈ M3.x) (dm : D ∉ M3.m) (hd : H3 D = some (.lst vacc)) (hB : B ≤ 1000000) (hz : vacc.length + ds1.length ≤ B) (ra : Reps G M3 H3 vacc acc)
    (h : PostL G W σ0 M1 H1 ((compL p ft fe (wipeD ρ vs) ds1 S).bind fun ys S' => k (acc ++ ys) S') Q)
    (hN : ∀ M S acc vacc H, Ext M1 H1 M H → Rel G M S H → D ∈ M.x → D ∉ M.m → H D = some (.lst vacc) → vacc.length ≤ B → Reps G M H vacc acc → PostL G W σ0 M1 H1 (k acc S) Q → Nx H) :
    ∃ Wt : Nat → Nat → Hp → Prop, (∃ m, Wt 0 m H3) ∧ ∀ i m H, Wt i m H →
      (J.stop i H ∧ Nx H) ∨ (J.go i H ∧ ∃ Nx1 : Hp → Prop, (∀ H', Nx1 H' → ∃ m', m' < m ∧ Wt (i + 1) m' H') ∧ ∀ x H', J.yld i H x H' → tPat G p x (wipe σ vs) H' fun σ2 H2 => wipe σ2 vs = wipe σ vs ∧ tT G W0 ft σ2 H2 fun b H3 =>
        if b = true then tD G W0 fe σ2 H3 fun y H4 => ∃ acc, H4 D = some (.lst acc) ∧ acc.length < sizeLine ∧ Nx1 (upd H4 D (.lst (acc ++ [y]))) else Nx1 H3) := by
  have nf3 : ∀ o u, H3 D ≠ some (.frz o u) := fun o u z => by rw [hd] at z; cases z
  refine ⟨fun i m H => ∃ M S acc vacc, ExtW M3 H3 M H ∧ Ext M1 H1 M H ∧ Rel G M S H ∧ D ∈ M.x ∧ D ∉ M.m ∧ H D = some (.lst vacc) ∧ vacc.length + m ≤ B ∧ ds1.length = i + m ∧ Reps G M H vacc acc ∧ PostL G W σ0 M1 H1 ((compL p ft fe (wipeD ρ vs) (ds1.drop i) S).bind fun ys S' => k (acc ++ ys) S') Q, ?_, ?_⟩
  · exact ⟨ds1.length, M3, S, acc, vacc, ExtW.refl _ _, x13, r, dx, dm, hd, hz, by omega, ra, by rw [List.drop_zero]; exact h⟩
  intro i m H ⟨M, S, acc, vacc, xw, x0, r, dx', dm, hd, hz, hm, ra, h⟩
  have hi := hJ M H S xw r i
  unfold vsrc at hi
  by_cases q : i < ds1.length
  · have zd : ds1[i]? = some ds1[i] := List.getElem?_eq_getElem q
    rw [zd] at hi
    have hdr : ds1.drop i = ds1[i] :: ds1.drop (i + 1) := List.drop_eq_getElem_cons q
    rw [hdr] at h
    obtain ⟨m, rfl⟩ : ∃ m', m = m' + 1 := ⟨m - 1, by omega⟩
    refine .inr ⟨hi.1, fun H => ∃ M S acc vacc, ExtW M3 H3 M H ∧ Ext M1 H1 M H ∧ Rel G M S H ∧ D ∈ M.x ∧ D ∉ M.m ∧ H D = some (.lst vacc) ∧ vacc.length + m ≤ B ∧ ds1.length = (i + 1) + m ∧ Reps G M H vacc acc ∧ PostL G W σ0 M1 H1 ((compL p ft fe (wipeD ρ vs) (ds1.drop (i + 1)) S).bind fun ys S' => k (acc ++ ys) S') Q, fun H' q => ⟨m, Nat.lt_succ_self m, q⟩, fun x H' hy => ?_⟩
    obtain ⟨x2, r2, p2⟩ := hi.2 x H' hy
    have x02 := x0.trans x2
    have hd2 : H' D = some (.lst vacc) := x2.keep D _ hd dm
    change PostL G W σ0 M1 H1 ((compB p ft fe (wipeD ρ vs) ds1[i] (compL p ft fe (wipeD ρ vs) (ds1.drop (i + 1))) S).bind fun ys S' => k (acc ++ ys) S') Q at h
    unfold compB at h
    cases zb : bindP p ds1[i] (wipeD ρ vs) with
    | none => rw [zb] at h; exact h.elim
    | some ρ' =>
      rw [zb] at h
      change PostL G W σ0 M1 H1 (((noX (ft ρ' S)).bind fun b S1 => if b = true then (noX (fe ρ' S1)).bind fun y S2 => (compL p ft fe (wipeD ρ vs) (ds1.drop (i + 1)) S2).bind fun ys S3 => .ok (y :: ys) S3 else compL p ft fe (wipeD ρ vs) (ds1.drop (i + 1)) S1).bind fun ys S' => k (acc ++ ys) S') Q at h
      refine ⟨M, wipeD ρ vs, ds1[i], ρ', ((e.wipe vs).extW' xw).ext x2, p2, zb, fun σ2 e2 w2 => ⟨?_, M, S, ρ', r2, e2, ?_⟩⟩
      · rw [wipe_sub w2 hs, wipe_wipe]
      cases zt : ft ρ' S with
      | bad => rw [zt] at h; exact h
      | exc c S' => rw [zt] at h; exact h.elim
      | ok b S3 =>
        rw [zt] at h
        intro M4 H4 b' x3 r3 eb
        have eb' : b' = b := eb
        rw [eb']
        have x03 := x02.trans x3
        have dm3 : D ∉ M4.m := x3.notin hd2 dm
        have dx3 : D ∈ M4.x := x3.subx D dx'
        have hd3 : H4 D = some (.lst vacc) := x3.keep D _ hd2 dm
        have ra3 := (ra.ext x2).ext x3
        cases hb0 : b with
        | false =>
          rw [hb0] at h
          rw [if_neg Bool.false_ne_true]
          exact ⟨M4, S3, acc, vacc, (xw.trans x2.w).trans x3.w, x03, r3, dx3, dm3, hd3, by omega, by omega, ra3, h⟩
        | true =>
          rw [hb0] at h
          rw [if_pos rfl]
          refine ⟨M4, S3, ρ', r3, e2.ext x3, ?_⟩
          change PostL G W σ0 M1 H1 (((noX (fe ρ' S3)).bind fun y S2 => (compL p ft fe (wipeD ρ vs) (ds1.drop (i + 1)) S2).bind fun ys S3 => .ok (y :: ys) S3).bind fun ys S' => k (acc ++ ys) S') Q at h
          cases ze : fe ρ' S3 with
          | bad => rw [ze] at h; exact h
          | exc c S' => rw [ze] at h; exact h.elim
          | ok y S4 =>
            rw [ze] at h
            intro M5 H5 v x4 r4 p4
            have dm4 : D ∉ M5.m := x4.notin hd3 dm3
            have dx4 : D ∈ M5.x := x4.subx D dx3
            have hd4 : H5 D = some (.lst vacc) := x4.keep D _ hd3 dm3
            refine ⟨vacc, hd4, Nat.lt_of_lt_of_le (show vacc.length < 1000000 by omega) (by decide), M5, S4, acc ++ [y], vacc ++ [v], (((xw.trans x2.w).trans x3.w).trans x4.w).turn dx nf3, (x03.trans x4).turn hD, r4.turn dx4 dm4, dx4, dm4, upd_same, ?_, by omega, ((ra3.ext x4).hid dx4).append (.one (p4.hid dx4)), ?_⟩
            · rw [List.length_append, List.length_singleton]; omega
            · change PostL G W σ0 M1 H1 (((compL p ft fe (wipeD ρ vs) (ds1.drop (i + 1)) S4).bind fun ys S3 => .ok (y :: ys) S3).bind fun ys S' => k (acc ++ ys) S') Q at h
              rw [R.bind_assoc] at h
              have e : (fun (a : List Dn.D) (S : MS) => (R.ok (y :: a) S).bind fun ys S' => k (acc ++ ys) S') = fun ys S' => k (acc ++ [y] ++ ys) S' := by
                funext a S; show k (acc ++ y :: a) S = _; rw [List.append_assoc]; rfl
              rw [e] at h
              exact h
  · have zd : ds1[i]? = none := List.getElem?_eq_none (by omega)
    rw [zd] at hi
    have hdr : ds1.drop i = [] := List.drop_eq_nil_iff.mpr (by omega)
    rw [hdr] at h
    refine .inl ⟨hi, hN M S acc vacc H x0 r dx' dm hd (by omega) ra ?_⟩
    have h' : PostL G W σ0 M1 H1 (k (acc ++ []) S) Q := h
    rw [List.append_nil] at h'; exact h'
theorem lc2_read {J : It} {ds : List D} {p p1 : Pat} {ft ft1 : En → MS → R Bool} {it1 : En → MS → R (List D)} {fe : En → MS → R D} {vs vs1 : List Nat} {M1 : Mx} {H1 : Hp} {S1 : MS} {σ : L2.St} {ρ : En} {Q : VK} (hJ : ItR G M1 H1 J (vsrc ds)) (r1 : Rel G M1 S1 H1) (e1 : EnvR G M1 H1 σ ρ)
    (hs : ∀ i ∈ slots p, i ∈ vs) (hs1 : ∀ i ∈ slots p1, i ∈ vs1) (hn : ds.length ≤ 1000) (h : PostL G W σ M1 H1 (comp2L p ft it1 p1 ft1 fe vs1 (wipeD ρ vs) ds S1) Q) (D : Addr) (hD : H1 D = none) :
    ∃ Wt : Nat → Nat → Hp → Prop, (∃ m, Wt 0 m (upd H1 D (.lst []))) ∧ ∀ i m H, Wt i m H →
      (J.stop i H ∧ Q (.ref D) H) ∨ (J.go i H ∧ ∃ Nx : Hp → Prop, (∀ H', Nx H' → ∃ m', m' < m ∧ Wt (i + 1) m' H') ∧ ∀ x H', J.yld i H x H' → tPat G p x (wipe σ vs) H' fun σ2 H2 => wipe σ2 vs = wipe σ vs ∧ tT G W0 ft σ2 H2 fun b H3 =>
        if b = true then tIV G W0 it1 σ2 H3 fun J1 H4 => ∃ W1 : Nat → Nat → Hp → Prop, (∃ m, W1 0 m H4) ∧ ∀ j k H, W1 j k H →
          (J1.stop j H ∧ Nx H) ∨ (J1.go j H ∧ ∃ Nx1 : Hp → Prop, (∀ H', Nx1 H' → ∃ k', k' < k ∧ W1 (j + 1) k' H') ∧ ∀ x H', J1.yld j H x H' → tPat G p1 x (wipe σ2 vs1) H' fun σ3 H5 => wipe σ3 vs1 = wipe σ2 vs1 ∧ tT G W0 ft1 σ3 H5 fun b H6 =>
            if b = true then tD G W0 fe σ3 H6 fun y H7 => ∃ acc, H7 D = some (.lst acc) ∧ acc.length < sizeLine ∧ Nx1 (upd H7 D (.lst (acc ++ [y]))) else Nx1 H6)
        else Nx H3) := by
  refine ⟨fun i m H => ∃ M S acc vacc, Ext M1 H1 M H ∧ Rel G M S H ∧ D ∈ M.x ∧ D ∉ M.m ∧ H D = some (.lst vacc) ∧ vacc.length + 1000 * m ≤ 1000000 ∧ ds.length = i + m ∧ Reps G M H vacc acc ∧ PostL G W σ M1 H1 ((comp2L p ft it1 p1 ft1 fe vs1 (wipeD ρ vs) (ds.drop i) S).bind fun ys S' => .ok (acc ++ ys) S') Q, ?_, ?_⟩
  · refine ⟨ds.length, ⟨M1.m, D :: M1.x⟩, S1, [], [], Ext.hide hD, r1.hide hD, List.mem_cons_self, r1.fresh hD, upd_same, by simp; omega, by omega, .nil, ?_⟩
    rw [List.drop_zero]
    cases z : comp2L p ft it1 p1 ft1 fe vs1 (wipeD ρ vs) ds S1 with
    | ok ys S' => rw [z] at h; exact h
    | exc c S' => rw [z] at h; exact h
    | bad => rw [z] at h; exact h
  intro i m H ⟨M, S, acc, vacc, x0, r, dx, dm, hd, hz, hm, ra, h⟩
  have hi := hJ M H S x0.w r i
  unfold vsrc at hi
  by_cases q : i < ds.length
  · have zd : ds[i]? = some ds[i] := List.getElem?_eq_getElem q
    rw [zd] at hi
    have hdr : ds.drop i = ds[i] :: ds.drop (i + 1) := List.drop_eq_getElem_cons q
    rw [hdr] at h
    obtain ⟨m, rfl⟩ : ∃ m', m = m' + 1 := ⟨m - 1, by omega⟩
    refine .inr ⟨hi.1, fun H => ∃ M S acc vacc, Ext M1 H1 M H ∧ Rel G M S H ∧ D ∈ M.x ∧ D ∉ M.m ∧ H D = some (.lst vacc) ∧ vacc.length + 1000 * m ≤ 1000000 ∧ ds.length = (i + 1) + m ∧ Reps G M H vacc acc ∧ PostL G W σ M1 H1 ((comp2L p ft it1 p1 ft1 fe vs1 (wipeD ρ vs) (ds.drop (i + 1)) S).bind fun ys S' => .ok (acc ++ ys) S') Q, fun H' q => ⟨m, Nat.lt_succ_self m, q⟩, fun x H' hy => ?_⟩
    obtain ⟨x2, r2, p2⟩ := hi.2 x H' hy
    have x02 := x0.trans x2
    have hd2 : H' D = some (.lst vacc) := x2.keep D _ hd dm
    unfold comp2L at h
    cases zb : bindP p ds[i] (wipeD ρ vs) with
    | none => rw [zb] at h; exact h.elim
    | some ρ' =>
      rw [zb] at h
      change PostL G W σ M1 H1 (((noX (ft ρ' S)).bind fun b S1 => if b = true then (noX (it1 ρ' S1)).bind fun ds1 S2 => if ds1.length ≤ 1000 then (compL p1 ft1 fe (wipeD ρ' vs1) ds1 S2).bind fun ys S3 => (comp2L p ft it1 p1 ft1 fe vs1 (wipeD ρ vs) (ds.drop (i + 1)) S3).bind fun zs S4 => .ok (ys ++ zs) S4 else .bad else comp2L p ft it1 p1 ft1 fe vs1 (wipeD ρ vs) (ds.drop (i + 1)) S1).bind fun ys S' => .ok (acc ++ ys) S') Q at h
      refine ⟨M, wipeD ρ vs, ds[i], ρ', (e1.wipe vs).ext x02, p2, zb, fun σ2 e2 w2 => ⟨?_, M, S, ρ', r2, e2, ?_⟩⟩
      · rw [wipe_sub w2 hs, wipe_wipe]
      cases zt : ft ρ' S with
      | bad => rw [zt] at h; exact h
      | exc c S' => rw [zt] at h; exact h.elim
      | ok b S3 =>
        rw [zt] at h
        intro M4 H4 b' x3 r3 eb
        have eb' : b' = b := eb
        rw [eb']
        have x03 := x02.trans x3
        have dm3 : D ∉ M4.m := x3.notin hd2 dm
        have dx3 : D ∈ M4.x := x3.subx D dx
        have hd3 : H4 D = some (.lst vacc) := x3.keep D _ hd2 dm
        have ra3 := (ra.ext x2).ext x3
        cases hb0 : b with
        | false =>
          rw [hb0] at h
          rw [if_neg Bool.false_ne_true]
          exact ⟨M4, S3, acc, vacc, x03, r3, dx3, dm3, hd3, by omega, by omega, ra3, h⟩
        | true =>
          rw [hb0] at h
          rw [if_pos rfl]
          refine ⟨M4, S3, ρ', r3, e2.ext x3, ?_⟩
          change PostL G W σ M1 H1 (((noX (it1 ρ' S3)).bind fun ds1 S2 => if ds1.length ≤ 1000 then (compL p1 ft1 fe (wipeD ρ' vs1) ds1 S2).bind fun ys S3 => (comp2L p ft it1 p1 ft1 fe vs1 (wipeD ρ vs) (ds.drop (i + 1)) S3).bind fun zs S4 => .ok (ys ++ zs) S4 else .bad).bind fun ys S' => .ok (acc ++ ys) S') Q at h
          cases ze : it1 ρ' S3 with
          | bad => rw [ze] at h; exact h
          | exc c S' => rw [ze] at h; exact h.elim
          | ok ds1 S4 =>
            rw [ze] at h
            change PostL G W σ M1 H1 ((if ds1.length ≤ 1000 then (compL p1 ft1 fe (wipeD ρ' vs1) ds1 S4).bind fun ys S3 => (comp2L p ft it1 p1 ft1 fe vs1 (wipeD ρ vs) (ds.drop (i + 1)) S3).bind fun zs S4 => .ok (ys ++ zs) S4 else .bad).bind fun ys S' => .ok (acc ++ ys) S') Q at h
            by_cases zl : ds1.length ≤ 1000
            · rw [if_pos zl] at h
              intro M5 H5 J1 x4 r4 hJ1
              have dm4 : D ∉ M5.m := x4.notin hd3 dm3
              have dx4 : D ∈ M5.x := x4.subx D dx3
              have hd4 : H5 D = some (.lst vacc) := x4.keep D _ hd3 dm3
              rw [R.bind_assoc] at h
              have ek : (fun (a : List Dn.D) (S : MS) => ((comp2L p ft it1 p1 ft1 fe vs1 (wipeD ρ vs) (ds.drop (i + 1)) S).bind fun zs S4 => R.ok (a ++ zs) S4).bind fun ys S' => R.ok (acc ++ ys) S') = fun ys S' => (fun (acc : List Dn.D) (S : MS) => (comp2L p ft it1 p1 ft1 fe vs1 (wipeD ρ vs) (ds.drop (i + 1)) S).bind fun zs S' => R.ok (acc ++ zs) S') (acc ++ ys) S' := by
                funext a S
                rw [R.bind_assoc]
                show (comp2L p ft it1 p1 ft1 fe vs1 (wipeD ρ vs) (ds.drop (i + 1)) S).bind (fun zs S4 => R.ok (acc ++ (a ++ zs)) S4) = (comp2L p ft it1 p1 ft1 fe vs1 (wipeD ρ vs) (ds.drop (i + 1)) S).bind fun zs S' => R.ok (acc ++ a ++ zs) S'
                congr 1
                funext zs S4
                rw [List.append_assoc]
              rw [ek] at h
              exact lcI_read (W := W) (k := fun acc S => (comp2L p ft it1 p1 ft1 fe vs1 (wipeD ρ vs) (ds.drop (i + 1)) S).bind fun zs S' => R.ok (acc ++ zs) S') (B := vacc.length + 1000) hJ1 r4 ((e2.ext x3).ext x4) hs1 (x03.trans x4) hD dx4 dm4 hd4 (by omega) (by omega) (ra3.ext x4) h
                fun M S acc' vacc' H x r a b c z ra hp => ⟨M, S, acc', vacc', x, r, a, b, c, by omega, by omega, ra, hp⟩
            · rw [if_neg zl] at h; exact h.elim
  · have zd : ds[i]? = none := List.getElem?_eq_none (by omega)
    rw [zd] at hi
    have hdr : ds.drop i = [] := List.drop_eq_nil_iff.mpr (by omega)
    rw [hdr] at h
    have h' : PostL G W σ M1 H1 (.ok (acc ++ []) S) Q := h
    rw [List.append_nil] at h'
    refine .inl ⟨hi, h' ⟨M.m, M1.x⟩ H D vacc x0.sub (r.sub ?_) hd hD dm (r1.freshx hD) (Nat.le_trans (show vacc.length ≤ 1000000 by omega) (by decide)) (ra.sub ?_)⟩
    · intro a ha
      rcases List.mem_cons.mp ha with rfl | ha
      · exact dx
      · exact x0.subx a ha
    · intro a ha
      rcases List.mem_cons.mp ha with rfl | ha
      · exact dx
      · exact x0.subx a ha
variable {elt tg iter tg1 iter1 : Expr} {ifs ifs1 : List Expr} {scope : Scope} {own : List (Str × Nat)} {vs1 : List Nat} {pos : Pos} {p p1 : Pat} {ft ft1 : En → MS → R Bool} {fe : En → MS → R D} {it it1 : En → MS → R (List D)}
theorem lcV2_read {vs : List Nat} (hs : ∀ i ∈ slots p, i ∈ vs) (hs1 : ∀ i ∈ slots p1, i ∈ vs1) {σ : L2.St} {H : Hp} {Q : VK} (h : tL G W (eLc2 it p ft it1 p1 ft1 fe vs vs1) σ H Q) : tLc2 (tIV G W it) (tPat G p) (tT G W0 ft) (tIV G W0 it1) (tPat G p1) (tT G W0 ft1) (tD G W0 fe) vs vs1 σ H Q := by
  obtain ⟨M, S, ρ, r, e, h⟩ := h
  refine ⟨M, S, ρ, r, e, ?_⟩
  unfold eLc2 at h
  cases z : it ρ S with
  | bad => rw [z] at h; exact h
  | exc c S' => rw [z] at h; exact h
  | ok ds S' =>
    rw [z] at h
    intro M1 H1 J x1 r1 hJ D hD
    change PostL G W σ M H (if ds.length ≤ 1000 then _ else _) Q at h
    by_cases q : ds.length ≤ 1000
    · rw [if_pos q] at h
      exact lc2_read (W := W) hJ r1 (e.ext x1) hs hs1 q (PostL.ext x1 h) D hD
    · rw [if_neg q] at h; exact h.elim
theorem denl_lc2 (hc : X.calm = true) (hN : X.N.Nodup) (hi : PI X tg iter (tIV G W it)) (ok : BlkOk X.N X.env.scope scope own) (hs : ∀ i ∈ slots p, i ∈ own.map (·.2)) (hs1 : ∀ i ∈ slots p1, i ∈ vs1) (hv : ∀ i ∈ vs1, i ∈ own.map (·.2))
    (hg : ∀ (s : Shared) (H : Hp) (C : Addr) (cl : List (Str × Addr)) (fp : List Addr), PG (X.blk s H scope (compEnvC scope cl C X.env) fp) tg (tPat G p))
    (ht : ∀ (s : Shared) (H : Hp) (C : Addr) (cl : List (Str × Addr)) (fp : List Addr), PTs (X.blk s H scope (compEnvC scope cl C X.env) fp) ifs (tT G W0 ft))
    (hi1 : ∀ (s : Shared) (H : Hp) (C : Addr) (cl : List (Str × Addr)) (fp : List Addr), PI (X.blk s H scope (compEnvC scope cl C X.env) fp) tg1 iter1 (tIV G W0 it1))
    (hg1 : ∀ (s : Shared) (H : Hp) (C : Addr) (cl : List (Str × Addr)) (fp : List Addr), PG (X.blk s H scope (compEnvC scope cl C X.env) fp) tg1 (tPat G p1))
    (ht1 : ∀ (s : Shared) (H : Hp) (C : Addr) (cl : List (Str × Addr)) (fp : List Addr), PTs (X.blk s H scope (compEnvC scope cl C X.env) fp) ifs1 (tT G W0 ft1))
    (he : ∀ (s : Shared) (H : Hp) (C : Addr) (cl : List (Str × Addr)) (fp : List Addr), PE (X.blk s H scope (compEnvC scope cl C X.env) fp) elt (tD G W0 fe))
    (hfs : ∀ x, foldedSetIterable iter X.env x = pure x := by intro _; rfl) (hfs1 : ∀ env x, foldedSetIterable iter1 env x = pure x := by intro _ _; rfl) :
    PE X (.ListComp elt [⟨tg, iter, ifs, 0⟩, ⟨tg1, iter1, ifs1, 0⟩] scope pos) (tL G W (eLc2 it p ft it1 p1 ft1 fe (own.map (·.2)) vs1)) :=
  pe_imp (pe_lc2 hc hN hi ok hv hg ht hi1 hg1 ht1 he hfs hfs1) fun _ _ _ h => lcV2_read hs hs1 h
end
end Dn

namespace Dn
open PySem PySem.Spec PyProof.Rows L2
section
variable {X : Cx} {G : Gx} {W : WX} {a b : Expr} {fa fb : En → MS → R D} {pos : Pos}
/-! ### list(range(..)) -/
def eRg1 (fa : En → MS → R D) : En → MS → R (List D) := fun ρ S => (fa ρ S).bind fun d S1 => match d with
  | .int j => if -100000 ≤ j ∧ j ≤ 100000 then .ok (intsD 0 j.toNat) S1 else .bad
  | _ => .bad
def eRg2 (fa fb : En → MS → R D) : En → MS → R (List D) := fun ρ S => (fa ρ S).bind fun d S1 => (fb ρ S1).bind fun d2 S2 => match d, d2 with
  | .int i, .int j => if (-100000 ≤ i ∧ i ≤ 100000) ∧ (-100000 ≤ j ∧ j ≤ 100000) then .ok (intsD i (j - i).toNat) S2 else .bad
  | _, _ => .bad
theorem rg_rep {M : Mx} {H : Hp} (i j : Int) : Reps G M H (rgV i j) (intsD i (j - i).toNat) := by
  unfold rgV intsD
  generalize (List.range (j - i).toNat) = l
  induction l with
  | nil => exact .nil
  | cons x l ih => rw [List.map_cons, List.map_cons]; exact .cons (.int _) ih
theorem denl_rg1 {p p2 q : Pos} (hc : X.calm = true) (hm : X.mg "list" = none) (hm2 : X.mg "range" = none) (ha : PE X a (tD G W fa)) (hg : Gl X "list" := by rfl) (hg2 : Gl X "range" := by rfl)
    (na : starEach [a] X.env = (false, eval a X.env) :: starEach [] X.env := by rfl) (nb : starEach [.Call (.Name "range" p2) [a] [] q] X.env = (false, eval (.Call (.Name "range" p2) [a] [] q) X.env) :: starEach [] X.env := by rfl) :
    PE X (.Call (.Name "list" p) [.Call (.Name "range" p2) [a] [] q] [] pos) (tL G W (eRg1 fa)) := by
  refine pe_imp (pe_listRg hc hg hm (prg_1 hg2 hm2 ha na) nb) fun σ H Q ⟨M, S, ρ, r, e, h⟩ => ?_
  refine tD_mono (dl_bind h r e) fun x H1 ⟨M1, S1, d1, x1, r1, p1, e1, h1⟩ => ?_
  cases d1 with
  | int j =>
    change PostL G W σ M1 H1 (if -100000 ≤ j ∧ j ≤ 100000 then _ else _) Q at h1
    by_cases z : -100000 ≤ j ∧ j ≤ 100000
    · rw [if_pos z] at h1
      refine ⟨j, p1.int_inv, ⟨by omega, by omega, by omega, by omega, by omega⟩, fun p np => h1 M1 _ p _ (Ext.new np) (r1.hide np) upd_same np (r1.fresh np) (r1.freshx np) ?_ ?_⟩
      · rw [rgV_length]; exact Nat.le_trans (show (j - 0).toNat ≤ 100000 by omega) (by decide)
      · have := rg_rep (G := G) (M := M1) (H := H1) 0 j
        rw [Int.sub_zero] at this
        exact this.hide np
    · rw [if_neg z] at h1; exact h1.elim
  | _ => exact h1.elim
theorem denl_rg2 {p p2 q : Pos} (hc : X.calm = true) (hm : X.mg "list" = none) (hm2 : X.mg "range" = none) (ha : PE X a (tD G W fa)) (hb : PE X b (tD G W fb)) (hg : Gl X "list" := by rfl) (hg2 : Gl X "range" := by rfl)
    (na : starEach [a, b] X.env = (false, eval a X.env) :: starEach [b] X.env := by rfl) (nb : starEach [b] X.env = (false, eval b X.env) :: starEach [] X.env := by rfl) (hp : (backTo q (starEach [b] X.env)).any (·.1) = false := by rfl)
    (nc : starEach [.Call (.Name "range" p2) [a, b] [] q] X.env = (false, eval (.Call (.Name "range" p2) [a, b] [] q) X.env) :: starEach [] X.env := by rfl) :
    PE X (.Call (.Name "list" p) [.Call (.Name "range" p2) [a, b] [] q] [] pos) (tL G W (eRg2 fa fb)) := by
  refine pe_imp (pe_listRg hc hg hm (prg_2 hg2 hm2 ha hb na nb hp) nc) fun σ H Q ⟨M, S, ρ, r, e, h⟩ => ?_
  refine tD_mono (dl_bind h r e) fun x H0 ⟨M0, S0, d0, x0, r0, p0, e0, h0⟩ => ?_
  refine tD_mono (dl_bind h0 r0 e0) fun y H1 ⟨M1, S1, d1, x1, r1, p1, e1, h1⟩ => ?_
  cases d0 with
  | int i =>
    cases d1 with
    | int j =>
      change PostL G W σ M1 H1 (if (-100000 ≤ i ∧ i ≤ 100000) ∧ (-100000 ≤ j ∧ j ≤ 100000) then _ else _) Q at h1
      by_cases z : (-100000 ≤ i ∧ i ≤ 100000) ∧ (-100000 ≤ j ∧ j ≤ 100000)
      · rw [if_pos z] at h1
        refine ⟨i, j, p0.int_inv, p1.int_inv, ⟨by omega, by omega, by omega, by omega, by omega⟩, fun p np => h1 M1 _ p _ (Ext.new np) (r1.hide np) upd_same np (r1.fresh np) (r1.freshx np) ?_ ((rg_rep i j).hide np)⟩
        rw [rgV_length]; exact Nat.le_trans (show (j - i).toNat ≤ 200000 by omega) (by decide)
      · rw [if_neg z] at h1; exact h1.elim
    | _ => exact h1.elim
  | _ => exact h1.elim
/-! ### a, b = x, y -/
def sPar2 (i j : Nat) (fs : En → MS → R (List D)) : En → MS → RS := fun ρ S => (fs ρ S).bindS ρ fun ds S1 => match ds with
  | [d, e] => .nx ((ρ.set i (some d)).set j (some e)) S1
  | _ => .bad
theorem dens_par2 {i j : Nat} {x y : Str} {fs : En → MS → R (List D)} {px py pt : Pos} {kt k2 pt2} (hN : X.N.Nodup) (ha : PA X [a, b] (tA G W fs)) (hc : X.calm = true := by rfl) (hi : X.N[i]? = some x := by rfl) (hj : X.N[j]? = some y := by rfl) (hij : i ≠ j := by decide)
    (hx : X.env.scope.names.lookup x = some .local := by rfl) (hy : X.env.scope.names.lookup y = some .local := by rfl)
    (hw : swappedStores [.Tuple [.Name x px, .Name y py] kt pt] (.Tuple [a, b] k2 pt2) X.env = pure (some [x, y]) := by rfl)
    (hs : swapsWithSole [.Tuple [.Name x px, .Name y py] kt pt] (.Tuple [a, b] k2 pt2) pos.line X.env = pure false := by rfl) :
    PS X (.Assign [.Tuple [.Name x px, .Name y py] kt pt] (.Tuple [a, b] k2 pt2) pos) (tS G W (sPar2 i j fs)) := by
  refine ps_imp (ps_par hc hN hi hj hij hx hy ha hw hs) fun D σ H ⟨M, S, ρ, r, e, h⟩ => ⟨M, S, ρ, r, e, ?_⟩
  unfold sPar2 at h
  cases z : fs ρ S with
  | bad => rw [z] at h; exact h
  | exc c S' => rw [z] at h; exact fun M1 H1 x1 r1 => h M1 H1 σ x1 r1 (e.ext x1)
  | ok ds S' =>
    rw [z] at h
    intro M1 H1 vs x1 r1 p1
    match ds, h, p1 with
    | [d, e'], h, p1 =>
      obtain ⟨v, w, rfl, rv, rw_⟩ := p1.inv2
      exact ⟨v, w, rfl, h M1 H1 _ x1 r1 (((e.ext x1).set rv i).set rw_ j)⟩
    | [], h, _ => exact h.elim
    | [_], h, _ => exact h.elim
    | _ :: _ :: _ :: _, h, _ => exact h.elim
end
end Dn

namespace Dn
open PySem PySem.Spec PyProof.Rows L2
/-! ### xs[lo:hi:st] of a list -/
def pickV {α : Type} (xs : List α) (lo hi st : Option Int) : List α := (sliceRange (sliceBounds lo hi st xs.length).1 (sliceBounds lo hi st xs.length).2.1 (sliceBounds lo hi st xs.length).2.2).filterMap (xs[·]?)
theorem pairs_pick {α β : Type} {F : α → β → Prop} {xs : List α} {ys : List β} (h : Paired F xs ys) : ∀ l : List Nat, Paired F (l.filterMap (xs[·]?)) (l.filterMap (ys[·]?))
  | [] => .nil
  | i :: l => by
    have ih := pairs_pick h l
    have : (xs[i]? = none ∧ ys[i]? = none) ∨ ∃ x y, xs[i]? = some x ∧ ys[i]? = some y ∧ F x y := by
      clear ih
      induction h generalizing i with
      | nil => exact .inl ⟨rfl, rfl⟩
      | cons a b ih2 =>
        cases i with
        | zero => exact .inr ⟨_, _, rfl, rfl, a⟩
        | succ i => exact ih2 i
    rcases this with ⟨e1, e2⟩ | ⟨x, y, e1, e2, f⟩
    · rw [List.filterMap_cons_none e1, List.filterMap_cons_none e2]; exact ih
    · rw [List.filterMap_cons_some e1, List.filterMap_cons_some e2]; exact .cons f ih
theorem paired_len {α β : Type} {F : α → β → Prop} {xs : List α} {ys : List β} (h : Paired F xs ys) : xs.length = ys.length := by
  induction h with
  | nil => rfl
  | cons a b ih => simp [ih]
theorem vals_pick {xs : List V} {us : List Value} (h : Vals xs us) (lo hi st : Option Int) : slicePick us.toArray lo hi st = (pickV us lo hi st).toArray ∧ Vals (pickV xs lo hi st) (pickV us lo hi st) := by
  refine ⟨?_, ?_⟩
  · unfold slicePick pickV
    simp
  · unfold pickV
    rw [paired_len h]
    exact pairs_pick h _
theorem pickV_len {α : Type} (xs : List α) (lo hi st : Option Int) : (pickV xs lo hi st).length ≤ xs.length := by
  have := slicePick_size_le (xs.map fun _ => Value.none).toArray lo hi st
  unfold slicePick at this
  simp only [List.size_toArray, List.length_map] at this
  refine Nat.le_trans (Nat.le_of_eq ?_) this
  unfold pickV
  generalize sliceRange (sliceBounds lo hi st xs.length).fst (sliceBounds lo hi st xs.length).snd.fst (sliceBounds lo hi st xs.length).snd.snd = l
  induction l with
  | nil => rfl
  | cons i l ih =>
    by_cases q : i < xs.length
    · rw [List.filterMap_cons_some (List.getElem?_eq_getElem q), List.filterMap_cons_some (b := Value.none) (by simp [q])]
      simp [ih]
    · rw [List.filterMap_cons_none (List.getElem?_eq_none (by omega)), List.filterMap_cons_none (by simp; omega)]
      exact ih
section
variable {X : Cx} {G : Gx} {W : WX} {e : Expr} {te : TE} {lo hi : Option Expr} {st : Expr} {tl th ts : TO} {p2 pos : Pos}
def tSl3 (K : PySem.W.Frag) (te : TE) (tl th ts : TO) : TE := fun σ H Q => te σ H fun x H1 => tl σ H1 fun l H2 => th σ H2 fun u H3 => ts σ H3 fun k H4 => ∃ a xs, x = .ref a ∧ SqL K H4 a xs ∧ k ≠ some 0 ∧ ∀ p, H4 p = none → Q (.ref p) (upd H4 p (.lst (pickV xs l u k)))
theorem pe_slice3 (he : PE X e te) (hl : PO X lo tl) (hu : PO X hi th) (hk : PO X (some st) ts) : PE X (.Subscript e (.Slice lo hi (some st) p2) pos) (tSl3 X.K te tl th ts) := by
  refine ⟨fun pins s σ H Q I h => ?_⟩
  refine Subscript_ (thn (he.run pins s σ H _ I h) fun v s1 ⟨x, H1, I1, r1, q1⟩ => ?_)
  refine wpAny_Slice (thn (hl.run pins s1 σ H1 _ I1 q1) fun vl s2 ⟨l, H2, I2, pl, q2⟩ => thn (hu.run pins s2 σ H2 _ I2 q2) fun vu s3 ⟨u, H3, I3, pu, q3⟩ => thn (hk.run pins s3 σ H3 _ I3 q3) fun vk s4 ⟨k, H4, I4, pk, q4⟩ => ?_)
  obtain ⟨a, xs, ex, hx, k0, q⟩ := q4
  subst ex
  cases r1
  have I5 : Inv X pins σ H4 { s4 with heap := s4.heap.push { cls := .type "slice", data := .fields #[vl, vu, vk] } } := I4.kept (t' := s4.toks) fun b ob q => Heap.get?_push_of_some _ q
  obtain ⟨its, r, ht, hz⟩ := I5.list hx
  have hlen := r.length
  show wpAny (model X.prog X.w) X.A (subscriptTail e (.Slice lo hi (some st) p2) (.ref a) (.ref s4.heap.objs.size)) (EP X pins σ Q) X.xe { s4 with heap := s4.heap.push { cls := .type "slice", data := .fields #[vl, vu, vk] } }
  refine tail_any (ops := [.ref a, .ref s4.heap.objs.size]) ht.isList.typeIs slot_list_getitem.lookup ?_ (by with_unfolding_all rfl)
  refine wpAny_getItem_list_slice ht.isList (Heap.IsSliceOf.new ..) pl pu pk k0 ?_ (by rw [List.size_toArray] <;> omega)
  obtain ⟨e1, e2⟩ := vals_pick r l u k
  rw [e1]
  refine ⟨.ref _, _, I5.laid (t' := s4.toks) (o := .lst (pickV xs l u k)) (fun b ob q => Heap.get?_push_of_some _ q) (Nat.le_refl _) ?_, rfl, q _ (I5.hok.fresh (Nat.le_refl _))⟩
  exact ⟨Nat.le_trans (pickV_len xs l u k) hz, _, 0, e2, Heap.get?_push_size _ rfl⟩
theorem reps_pick {M : Mx} {H : Hp} {vs : List V} {ds : List D} (h : Reps G M H vs ds) (lo hi st : Option Int) : Reps G M H (pickV vs lo hi st) (pickV ds lo hi st) := by
  unfold pickV
  rw [h.length]
  generalize sliceRange (sliceBounds lo hi st ds.length).fst (sliceBounds lo hi st ds.length).snd.fst (sliceBounds lo hi st ds.length).snd.snd = l
  induction l with
  | nil => exact .nil
  | cons i l ih =>
    by_cases q : i < ds.length
    · obtain ⟨v, hv, rv⟩ := h.get (List.getElem?_eq_getElem q)
      rw [List.filterMap_cons_some hv, List.filterMap_cons_some (List.getElem?_eq_getElem q)]
      exact .cons rv ih
    · rw [List.filterMap_cons_none (List.getElem?_eq_none (by rw [h.length]; omega)), List.filterMap_cons_none (List.getElem?_eq_none (by omega))]
      exact ih
def stepD (S : MS) (x : D) (lo hi st : Option Int) : Option D := match rdL S x with
  | some xs => if st = some 0 then none else some (.lst (pickV xs lo hi st))
  | none => none
def eSl3 (fa : En → MS → R D) (fl fh fk : En → MS → R (Option Int)) : En → MS → R D := fun ρ S => (fa ρ S).bind fun x S1 => (fl ρ S1).bind fun l S2 => (fh ρ S2).bind fun u S3 => (fk ρ S3).bind fun k S4 => ofO (stepD S4 x l u k) S4
theorem den_slice3 {a : Expr} {fa : En → MS → R D} {fl fh fk : En → MS → R (Option Int)} (he : PE X a (tD G W fa)) (hl : PO X lo (tP G W fl)) (hu : PO X hi (tP G W fh)) (hk : PO X (some st) (tP G W fk)) (hK : X.K = G.K := by rfl) :
    PE X (.Subscript a (.Slice lo hi (some st) p2) pos) (tD G W (eSl3 fa fl fh fk)) := by
  refine pe_imp (pe_slice3 he hl hu hk) fun σ H Q ⟨M, S, ρ, r, e, h⟩ => ?_
  refine tD_mono (d_bind h r e) fun x H1 ⟨M1, S1, d1, x1, r1, p1, e1, h1⟩ => ?_
  refine tP_mono (p_bind h1 r1 e1) fun l H2 ⟨M2, S2, x2, r2, e2, h2⟩ => ?_
  refine tP_mono (p_bind h2 r2 e2) fun u H3 ⟨M3, S3, x3, r3, e3, h3⟩ => ?_
  refine tP_mono (p_bind h3 r3 e3) fun k H4 ⟨M4, S4, x4, r4, e4, h4⟩ => ?_
  obtain ⟨d, hd, q⟩ := post_ofO h4
  unfold stepD at hd
  have p4 := ((p1.ext x2).ext x3).ext x4
  split at hd
  · rename_i xs hx
    split at hd
    · cases hd
    · rename_i hk0
      cases hd
      obtain ⟨b, vs, rfl, ha, z, rs⟩ := rdL_inv r4 p4 hx
      refine ⟨b, vs, rfl, by rw [hK]; exact ha, hk0, fun p np => ?_⟩
      exact q M4 _ _ (Ext.new np) (r4.laid np) (.lst upd_same (r4.fresh np) (r4.freshx np) (Nat.le_trans (pickV_len vs l u k) z) ((reps_pick rs l u k).ext (Ext.new np)))
  · cases hd
end
end Dn

namespace Dn
open PySem PySem.Spec PyProof.Rows L2
/-! ### a walk over a list that may be written -/
def srcO (i : Nat) : Src := fun S k => match S[i]? with
  | some (.lst xs) => some xs[k]?
  | _ => none
def objSrc (S : MS) (d : D) : Option (Src × Nat) := match d with
  | .obj i => match S[i]? with
    | some (.lst xs) => some (srcO i, xs.length)
    | _ => none
  | .lst xs => some (vsrc xs, xs.length)
  | .tup xs => some (vsrc xs, xs.length)
  | .frz xs => some (vsrc xs, xs.length)
  | _ => none
def iObj (f : En → MS → R D) : En → MS → R (Src × Nat) := fun ρ S => (f ρ S).bind fun d S1 => ofO (objSrc S1 d) S1
section
variable {X : Cx} {G : Gx} {W : WX} {tg e : Expr} {f : En → MS → R D}
theorem itR_obj {K : PySem.W.Frag} {M : Mx} {H : Hp} {a : Addr} {j : Nat} (hm : M.m[j]? = some a) : ItR G M H (Itl K a) (srcO j) := by
  intro M2 H2 S2 x2 r2 i
  obtain ⟨l, el, _⟩ := x2.more
  have hm2 : M2.m[j]? = some a := by
    rw [el, List.getElem?_append_left (List.getElem?_eq_some_iff.mp hm).1]; exact hm
  unfold srcO
  cases z : S2[j]? with
  | none => exact trivial
  | some o =>
    cases o with
    | lst xs =>
      obtain ⟨vs, ha, zl, rs⟩ := r2.at_ j a _ hm2 z
      have hs : SqL K H2 a vs := SqL.of ha
      show match (some xs[i]? : Option (Option D)) with | some (some d) => _ | some none => _ | none => _
      cases z2 : xs[i]? with
      | none =>
        refine ⟨vs, hs, ?_⟩
        rw [rs.length]; exact List.getElem?_eq_none_iff.mp z2
      | some d =>
        obtain ⟨v, hv, rv⟩ := rs.get z2
        refine ⟨⟨vs, v, hs, hv⟩, fun y H3 hy => ?_⟩
        obtain ⟨rfl, hy⟩ := hy
        have := hy vs hs
        rw [hv] at this; cases this
        exact ⟨Ext.refl _ _, r2, rv⟩
    | _ => exact trivial
theorem deni_obj (he : PE X e (tD G W f)) (hK : X.K = G.K := by rfl) : PI X tg e (tIO G W (iObj f)) := by
  refine pi_imp (pi_or (pi_list he) (pi_tup he)) fun σ H Rk ⟨M, S, ρ, r, e, h⟩ => ?_
  unfold iObj at h
  cases z : f ρ S with
  | bad => rw [z] at h; exact h.elim
  | exc c S' => rw [z] at h; exact .inl ⟨M, S, ρ, r, e, by rw [z]; exact h⟩
  | ok d S' =>
    rw [z] at h
    cases d with
    | tup ds =>
      refine .inr ⟨M, S, ρ, r, e, ?_⟩
      rw [z]
      intro M1 H1 v x1 r1 p1
      obtain ⟨a, vs, rfl, ha, n1, n2, zl, rs⟩ := p1.tup_inv
      exact ⟨a, rfl, ⟨vs, SqT.of ha⟩, h M1 H1 _ x1 r1 (itR_tup (fun M2 H2 x2 => SqT.of (x2.keep _ _ ha n1 n2)) rs)⟩
    | lst ds =>
      refine .inl ⟨M, S, ρ, r, e, ?_⟩
      rw [z]
      intro M1 H1 v x1 r1 p1
      obtain ⟨a, vs, rfl, ha, n1, n2, zl, rs⟩ := p1.lst_inv
      exact ⟨a, rfl, ⟨vs, SqL.of ha⟩, h M1 H1 _ x1 r1 (itR_lst (fun M2 H2 x2 => SqL.of (x2.keep _ _ ha n1 n2)) rs)⟩
    | frz ds =>
      refine .inl ⟨M, S, ρ, r, e, ?_⟩
      rw [z]
      intro M1 H1 v x1 r1 p1
      obtain ⟨a, vs, rfl, ha, _, zl, rs⟩ := p1.frz_inv
      rw [hK]
      exact ⟨a, rfl, ⟨vs, ha _ _ (ExtW.refl _ _)⟩, h M1 H1 _ x1 r1 (itR_lst ha rs)⟩
    | obj j =>
      refine .inl ⟨M, S, ρ, r, e, ?_⟩
      rw [z]
      intro M1 H1 v x1 r1 p1
      obtain ⟨a, rfl, hm⟩ := p1.obj_inv
      cases z2 : S'[j]? with
      | none => simp only [R.bind, objSrc, z2, ofO] at h
      | some o =>
        cases o with
        | lst xs =>
          simp only [R.bind, objSrc, z2, ofO] at h
          obtain ⟨vs, ha, zl, rs⟩ := r1.at_ j a _ hm z2
          exact ⟨a, rfl, ⟨vs, SqL.of ha⟩, h M1 H1 _ x1 r1 (itR_obj hm)⟩
        | _ => simp only [R.bind, objSrc, z2, ofO] at h
    | _ => exact h.elim
end
end Dn

namespace Dn
open PySem PySem.Spec PyProof.Rows L2
/-! ### {k: v, ..}, its keys ints and texts -/
abbrev TPr := L2.St → Hp → (List (Key × V) → Hp → Prop) → Prop
structure PPr (X : Cx) (ks : List (Option Expr)) (vs : List Expr) (pos : Pos) (t : TPr) : Prop where
  run : ∀ (pins : List (Addr × Obj)) (s : Shared) (σ : L2.St) (H : Hp) (Q : List (Key × V) → Hp → Prop), Inv X pins σ H s → t σ H Q →
    wpAny (model X.prog X.w) X.A (evalPairs (pairTrees ks vs X.env pos)) (fun us s1 => ∃ kvs xs H1, Inv X pins σ H1 s1 ∧ Carries (mixKind X.prog X.w) us xs ∧ KV kvs xs ∧ Q kvs H1) X.xe s
section
variable {X : Cx} {k v : Expr} {ks : List (Option Expr)} {vs : List Expr} {pos : Pos} {tk tv : TE} {t : TPr}
theorem ppr_nil : PPr X [] [] pos (fun σ H Q => Q [] H) := ⟨fun pins s σ H Q I h => pairTrees_nil_walk ⟨[], [], H, I, True.intro, .nil, h⟩⟩
theorem ppr_cons (hk : PE X k tk) (hv : PE X v tv) (hr : PPr X ks vs pos t) : PPr X (some k :: ks) (v :: vs) pos (fun σ H Q => tk σ H fun x H1 => tv σ H1 fun y H2 => ∃ c, x = kV c ∧ t σ H2 fun kvs H3 => Q ((c, y) :: kvs) H3) := by
  refine ⟨fun pins s σ H Q I h => ?_⟩
  refine pairTrees_cons_walk (thn (hk.run pins s σ H _ I h) fun u s1 ⟨x, H1, I1, rx, q1⟩ => thn (hv.run pins s1 σ H1 _ I1 q1) fun r s2 ⟨y, H2, I2, ry, c, ex, q2⟩ => thn (hr.run pins s2 σ H2 _ I2 q2) fun us s3 ⟨kvs, xs, H3, I3, ca, kv, q3⟩ => ?_)
  subst ex
  exact ⟨(c, y) :: kvs, (c, r) :: xs, H3, I3, ⟨kV_is rx, rfl, ca⟩, .cons ⟨rfl, ry⟩ kv, q3⟩
theorem ppr_imp {t' : TPr} (h : PPr X ks vs pos t) (w : ∀ σ H Q, t' σ H Q → t σ H Q) : PPr X ks vs pos t' := ⟨fun pins s σ H Q I q => h.run pins s σ H Q I (w σ H Q q)⟩
def mergeV (kvs : List (Key × V)) : List (Key × V) := kvs.foldl (fun acc p => putK acc p.1 p.2) []
theorem kv_merge {kvs : List (Key × V)} {xs : List (Key × Value)} (h : KV kvs xs) : ∀ {ms : List (Key × V)} {ys : List (Key × Value)}, KV ms ys → KV (kvs.foldl (fun acc p => putK acc p.1 p.2) ms) (merged ys xs) := by
  unfold KV at h
  induction h with
  | nil => exact fun q => q
  | @cons p q ps qs a b ih =>
    intro ms ys m
    have := ih (m.put p.1 a.2)
    rw [a.1] at this
    rw [List.foldl_cons, a.1]
    exact this
theorem merge_len (kvs : List (Key × V)) : ∀ ms : List (Key × V), (kvs.foldl (fun acc p => putK acc p.1 p.2) ms).length ≤ ms.length + kvs.length := by
  induction kvs with
  | nil => intro ms; simp
  | cons p ps ih =>
    intro ms
    have a := ih (putK ms p.1 p.2)
    have b := length_putK ms p.1 p.2
    rw [List.foldl_cons, List.length_cons]
    omega
theorem pe_dict (h : PPr X ks vs pos t) (hall : ks.all (·.isSome) = true) (hl : ks.length = vs.length) (h0 : ks ≠ []) (hlen : ks.length ≤ 15) :
    PE X (.Dict ks vs pos) (fun σ H Q => ∀ p, H p = none → t σ (upd H p (.dK [])) fun kvs H1 => H1 p = some (.dK []) ∧ kvs.length ≤ 15 ∧ Q (.ref p) (upd H1 p (.dK (mergeV kvs)))) := by
  refine ⟨fun pins s σ H Q I hq => ?_⟩
  have I1 := I.laid (a := s.heap.objs.size) (o := .dK []) (t' := s.toks) (fun _ _ q => Heap.get?_push_of_some _ q) (Nat.le_refl _) (dk_empty s.heap I.big)
  refine wpAny_Dict_walk (knd := mixKind X.prog X.w) hall hl h0 hlen (thn (h.run pins _ σ _ _ I1 (hq _ (I.hok.fresh (Nat.le_refl _)))) fun us s1 ⟨kvs, xs, H1, I2, ca, kv, hp, hn, q⟩ => ?_)
  obtain ⟨z, hd, ws, rel, dd⟩ := dk_of I2.hok hp
  cases rel
  refine ⟨xs, ca, dd, fun h' dd' hs => ?_⟩
  have he : ∃ q, h'.get? s.heap.objs.size = some q := let ⟨q, _, _, hq, _⟩ := dd'; ⟨q, hq⟩
  have hz : (mergeV kvs).length ≤ sizeLine := by
    have := merge_len kvs []
    rw [sizeLine_eq]
    unfold mergeV
    simp at this
    omega
  exact ⟨.ref _, _, d_write I2 (by rw [hp]; exact True.intro) hs he (dk_new hz hd (kv_merge kv .nil) dd'), rfl, q⟩
end
/-! ### the same on data -/
def putG {β : Type} (kvs : List (Key × β)) (k : Key) (v : β) : List (Key × β) :=
  if (kvs.any fun kv => decide (kv.1 = k)) = true then kvs.map (fun kv => if kv.1 = k then (kv.1, v) else kv) else kvs ++ [(k, v)]
def valG {β : Type} (kvs : List (Key × β)) (k : Key) : Option β := (kvs.find? fun kv => decide (kv.1 = k)).map (·.2)
def mergeD (kvs : List (Key × D)) : List (Key × D) := kvs.foldl (fun acc p => putG acc p.1 p.2) []
def keyD : D → Option Key
  | .int i => some (.inl i)
  | .str x => some (.inr x)
  | _ => none
theorem keyD_rep {G : Gx} {M : Mx} {H : Hp} {v : V} {d : D} {c : Key} (r : Rep G M H v d) (h : keyD d = some c) : v = kV c := by
  cases d <;> simp [keyD] at h
  · rw [r.int_inv, ← h]; rfl
  · rw [r.str_inv, ← h]; rfl
section
variable {G : Gx} {M : Mx} {H : Hp}
theorem kreps_any {vs : List (Key × V)} {ds : List (Key × D)} (r : KReps G M H vs ds) (k : Key) : (vs.any fun kv => decide (kv.1 = k)) = ds.any fun kv => decide (kv.1 = k) := by
  unfold KReps at r
  induction r with
  | nil => rfl
  | cons h t ih => rw [List.any_cons, List.any_cons, ih, h.1]
theorem kreps_put {vs : List (Key × V)} {ds : List (Key × D)} (r : KReps G M H vs ds) (k : Key) {y : V} {d : D} (ry : Rep G M H y d) : KReps G M H (putK vs k y) (putG ds k d) := by
  unfold putK putG
  rw [kreps_any r k]
  by_cases e : (ds.any fun kv => decide (kv.1 = k)) = true
  · rw [if_pos e, if_pos e]
    clear e
    unfold KReps at r ⊢
    induction r with
    | nil => exact .nil
    | @cons p q ps qs h t ih =>
      rw [List.map_cons, List.map_cons]
      refine .cons ?_ ih
      obtain ⟨h1, h2⟩ := h
      by_cases e : p.1 = k
      · rw [if_pos e, if_pos (h1.symm.trans e)]; exact ⟨h1, ry⟩
      · rw [if_neg e, if_neg (fun z => e (h1.trans z))]; exact ⟨h1, h2⟩
  · rw [if_neg e, if_neg e]; exact Paired.snoc r ⟨rfl, ry⟩
theorem kreps_val {vs : List (Key × V)} {ds : List (Key × D)} (r : KReps G M H vs ds) (k : Key) : (valV vs k = none ∧ valG ds k = none) ∨ ∃ y d, valV vs k = some y ∧ valG ds k = some d ∧ Rep G M H y d := by
  unfold KReps at r
  induction r with
  | nil => exact .inl ⟨rfl, rfl⟩
  | @cons p q ps qs h t ih =>
    obtain ⟨h1, h2⟩ := h
    by_cases e : p.1 = k
    · exact .inr ⟨p.2, q.2, valV_pos e, by simp [valG, List.find?_cons, h1.symm.trans e], h2⟩
    · have e' : ¬ q.1 = k := fun z => e (h1.trans z)
      rw [valV_neg e, show valG (q :: qs) k = valG qs k by simp [valG, List.find?_cons, e']]
      exact ih
theorem kreps_merge {vs : List (Key × V)} {ds : List (Key × D)} (r : KReps G M H vs ds) : ∀ {us : List (Key × V)} {es : List (Key × D)}, KReps G M H us es → KReps G M H (vs.foldl (fun acc p => putK acc p.1 p.2) us) (ds.foldl (fun acc p => putG acc p.1 p.2) es) := by
  unfold KReps at r
  induction r with
  | nil => exact fun q => q
  | @cons p q ps qs a b ih =>
    intro us es m
    rw [List.foldl_cons, List.foldl_cons, ← a.1]
    exact ih (kreps_put m p.1 a.2)
theorem kreps_len {κ : Type} {vs : List (κ × V)} {ds : List (κ × D)} (r : KReps G M H vs ds) : vs.length = ds.length := Paired.length r
end
def tPr (G : Gx) (W : WX) (f : En → MS → R (List (Key × D))) : TPr := fun σ H Q => ∃ M S ρ, Rel G M S H ∧ EnvR G M H σ ρ ∧ Post G W σ M H (KReps G) (f ρ S) Q
def kN : En → MS → R (List (Key × D)) := fun _ S => .ok [] S
def kC (fk fv : En → MS → R D) (fr : En → MS → R (List (Key × D))) : En → MS → R (List (Key × D)) := fun ρ S => (fk ρ S).bind fun x S1 => (fv ρ S1).bind fun y S2 => (ofO (keyD x) S2).bind fun c S3 => (fr ρ S3).bind fun r S4 => .ok ((c, y) :: r) S4
def eDict (f : En → MS → R (List (Key × D))) : En → MS → R D := fun ρ S => (f ρ S).bind fun kvs S1 => if kvs.length ≤ 15 then .ok (.obj S1.length) (S1 ++ [.dK (mergeD kvs)]) else .bad
section
variable {X : Cx} {G : Gx} {W : WX} {k v : Expr} {ks : List (Option Expr)} {vs : List Expr} {pos : Pos} {fk fv : En → MS → R D} {fr : En → MS → R (List (Key × D))}
theorem denk_nil : PPr X [] [] pos (tPr G W kN) := ppr_imp ppr_nil fun σ H Q ⟨M, S, ρ, r, e, h⟩ => h M H [] (Ext.refl _ _) r .nil
theorem denk_cons (hk : PE X k (tD G W fk)) (hv : PE X v (tD G W fv)) (hr : PPr X ks vs pos (tPr G W fr)) : PPr X (some k :: ks) (v :: vs) pos (tPr G W (kC fk fv fr)) := by
  refine ppr_imp (ppr_cons hk hv hr) fun σ H Q ⟨M, S, ρ, r, e, h⟩ => ?_
  refine tD_mono (d_bind h r e) fun x H1 ⟨M1, S1, d1, x1, r1, p1, e1, h1⟩ => ?_
  refine tD_mono (d_bind h1 r1 e1) fun y H2 ⟨M2, S2, d2, x2, r2, p2, e2, h2⟩ => ?_
  cases z : keyD d1 with
  | none => rw [z] at h2; exact h2.elim
  | some c =>
    rw [z] at h2
    refine ⟨c, keyD_rep (p1.ext x2) z, M2, S2, ρ, r2, e2, ?_⟩
    change Post G W σ M2 H2 (KReps G) ((fr ρ S2).bind fun r S4 => .ok ((c, d2) :: r) S4) Q at h2
    cases zf : fr ρ S2 with
    | bad => rw [zf] at h2; exact h2
    | exc c' S' => rw [zf] at h2; exact h2
    | ok kvs S' =>
      rw [zf] at h2
      exact fun M3 H3 b x3 r3 p3 => h2 M3 H3 ((c, y) :: b) x3 r3 (.cons ⟨rfl, p2.ext x3⟩ p3)
theorem den_dict {f : En → MS → R (List (Key × D))} (h : PPr X ks vs pos (tPr G W f)) (hall : ks.all (·.isSome) = true := by rfl) (hl : ks.length = vs.length := by rfl) (h0 : ks ≠ [] := by simp) (hlen : ks.length ≤ 15 := by decide) : PE X (.Dict ks vs pos) (tD G W (eDict f)) := by
  refine pe_imp (pe_dict h hall hl h0 hlen) fun σ H Q ⟨M, S, ρ, r, e, h⟩ => fun p np => ?_
  refine ⟨⟨M.m, p :: M.x⟩, S, ρ, r.hide np, e.ext (Ext.hide np), ?_⟩
  unfold eDict at h
  cases z : f ρ S with
  | bad => rw [z] at h; exact h.elim
  | exc c S' => rw [z] at h; exact fun M1 H1 x1 r1 => h M1 H1 ((Ext.hide np).trans x1) r1
  | ok kvs S' =>
    rw [z] at h
    intro M1 H1 b x1 r1 p1
    have n0 : p ∉ M.m := r.fresh np
    have hp : H1 p = some (.dK []) := x1.keep p _ upd_same n0
    have n1 : p ∉ M1.m := x1.notin upd_same n0
    have hx : p ∈ M1.x := x1.subx p List.mem_cons_self
    have bl := kreps_len p1
    change Post G W σ M H (Rep G) (if kvs.length ≤ 15 then _ else _) Q at h
    by_cases q : kvs.length ≤ 15
    · rw [if_pos q] at h
      refine ⟨hp, by omega, ?_⟩
      have sub : ∀ a ∈ p :: M.x, a ∈ M1.x := x1.subx
      have r2 : Rel G ⟨M1.m, p :: M.x⟩ S' (upd H1 p (.dK (mergeV b))) := (r1.turn (o := .dK (mergeV b)) hx n1).sub sub
      have kr : KReps G ⟨M1.m ++ [p], M.x⟩ (upd H1 p (.dK (mergeV b))) (mergeV b) (mergeD kvs) := by
        have := kreps_merge (paired_imp (fun _ _ q => ⟨q.1, ((q.2.hid (o := .dK (mergeV b)) hx).sub sub).own⟩) p1 : KReps G ⟨M1.m ++ [p], M.x⟩ (upd H1 p (.dK (mergeV b))) b kvs) .nil
        exact this
      have hz : (mergeV b).length ≤ sizeLine := by
        have := merge_len b []
        rw [sizeLine_eq]
        unfold mergeV
        simp at this
        omega
      have r3 := r2.own (u := .dK (mergeD kvs)) n1 (r.freshx np) ⟨mergeV b, upd_same, hz, kr⟩
      refine h ⟨M1.m ++ [p], M.x⟩ _ (.ref p) ((((Ext.hide np).trans x1).turn np).sub.own np) r3 (.obj ?_)
      show (M1.m ++ [p])[S'.length]? = some p
      have rl : M1.m.length = S'.length := r1.len
      rw [← rl, List.getElem?_append_right (Nat.le_refl _), Nat.sub_self]; rfl
    · rw [if_neg q] at h; exact h.elim
end
/-! ### d.get(k, x) -/
def isDk (S : MS) (d : D) : Bool := match d with
  | .obj i => match S[i]? with
    | some (.dK _) => true
    | _ => false
  | _ => false
def getD2 (S : MS) (o k x : D) : Option D := match o, keyD k with
  | .obj i, some c => match S[i]? with
    | some (.dK kvs) => some ((valG kvs c).getD x)
    | _ => none
  | _, _ => none
def eGet2 (fo fk fx : En → MS → R D) : En → MS → R D := fun ρ S => (fo ρ S).bind fun o S1 => if isDk S1 o = true then (fk ρ S1).bind fun k S2 => (fx ρ S2).bind fun x S3 => ofO (getD2 S3 o k x) S3 else .bad
section
variable {X : Cx} {G : Gx} {W : WX} {o e x : Expr} {apos cpos : Pos} {fo fk fx : En → MS → R D}
theorem dk_at {M : Mx} {S : MS} {H : Hp} {v : V} {i : Nat} {kvs : List (Key × D)} (r : Rel G M S H) (p : Rep G M H v (.obj i)) (h : S[i]? = some (.dK kvs)) : ∃ a us, v = .ref a ∧ H a = some (.dK us) ∧ KReps G M H us kvs := by
  obtain ⟨a, rfl, ha⟩ := p.obj_inv
  obtain ⟨us, h1, _, h2⟩ := r.at_ i a _ ha h
  exact ⟨a, us, rfl, h1, h2⟩
theorem den_get2 (hu : X.A.units + 64 < cLine) (ho : PE X o (tD G W fo)) (hk : PE X e (tD G W fk)) (hx : PE X x (tD G W fx)) (m : M2 X o "get" apos e x cpos) : PE X (.Call (.Attribute o "get" apos) [e, x] [] cpos) (tD G W (eGet2 fo fk fx)) := by
  refine pe_imp (pe_dget2 (by omega) ho hk hx m) fun σ H Q ⟨M, S, ρ, r, e, h⟩ => ?_
  refine tD_mono (d_bind h r e) fun v H1 ⟨M1, S1, d1, x1, r1, p1, e1, h1⟩ => ?_
  cases zi : isDk S1 d1 with
  | false => rw [zi, if_neg Bool.false_ne_true] at h1; exact h1.elim
  | true =>
    rw [zi, if_pos rfl] at h1
    cases d1 with
    | obj i =>
      unfold isDk at zi
      cases zs : S1[i]? with
      | none => simp [zs] at zi
      | some u =>
        cases u with
        | dK kvs =>
          obtain ⟨a, us, rfl, ha, ka⟩ := dk_at r1 p1 zs
          refine ⟨a, rfl, .inl ⟨us, .inl ha⟩, ?_⟩
          refine tD_mono (d_bind h1 r1 e1) fun y H2 ⟨M2, S2, d2, x2, r2, p2, e2, h2⟩ => ?_
          refine tD_mono (d_bind h2 r2 e2) fun w H3 ⟨M3, S3, d3, x3, r3, p3, e3, h3⟩ => ?_
          obtain ⟨d, hd, q⟩ := post_ofO h3
          unfold getD2 at hd
          cases zk : keyD d2 with
          | none => simp [zk] at hd
          | some c =>
            simp only [zk] at hd
            cases zt : S3[i]? with
            | none => simp [zt] at hd
            | some u3 =>
              cases u3 with
              | dK kvs3 =>
                simp only [zt, Option.some.injEq] at hd
                obtain ⟨a3, us3, ea, ha3, ka3⟩ := dk_at r3 ((p1.ext x2).ext x3) zt
                cases ea
                have ek := keyD_rep p2 zk
                refine ⟨valV us3 c, .inl ⟨us3, c, .inl ha3, ek, rfl⟩, ?_⟩
                rcases kreps_val ka3 c with ⟨n1, n2⟩ | ⟨y', d', n1, n2, rr⟩
                · rw [n1]; rw [n2] at hd; subst hd
                  exact q M3 H3 _ (Ext.refl _ _) r3 p3
                · rw [n1]; rw [n2] at hd; subst hd
                  exact q M3 H3 _ (Ext.refl _ _) r3 rr
              | _ => simp [zt] at hd
        | _ => simp [zs] at zi
    | _ => simp [isDk] at zi
end
end Dn

namespace Dn
open PySem PySem.Spec PyProof.Rows L2
/-! ### sum of a tuple of ints -/
section
variable {prog : Program} {w : World} {A : Around} {E : Value → Shared → Prop} {s : Shared} {l : Addr} {xs : Array (Int × Tok)} {Q : Value → Shared → Prop}
theorem sum_intTup (hh : A.handled = none) (hl : s.heap.IsTuple l (intItems xs))
    (h : ∀ h' tk t', (∀ b o, s.heap.get? b = some o → h'.get? b = some o) → Q (.int (preSum (numAt xs) xs.size) t') { s with heap := h', toks := tk }) :
    wpAny (model prog w) A (call (.builtin "sum") [.ref l]) Q E s := by
  have hlt : l < s.heap.objs.size := by obtain ⟨_, e, _⟩ := hl; exact Heap.lt_size e
  refine call_sum_walkG (wpAny_pyIter_tuple hl ⟨_, _, _, _, _, _, numAt xs, rfl, Walks.tuple (A := A.in1) hh _ l (Nat.ne_of_lt hlt) (intItems xs), ⟨⟨_, Heap.get?_push_size _ rfl, rfl, rfl⟩, hl.push _⟩, fun b hb => ?_, (fun _ _ => intItems_at), fun h' tk t' hk => ?_⟩)
  · show b < (s.heap.push _).objs.size
    rw [Heap.size_push]
    rcases List.mem_cons.mp hb with rfl | hb
    · exact Nat.lt_succ_self _
    · rcases List.mem_cons.mp hb with rfl | hb
      · exact Nat.lt_succ_of_lt hlt
      · cases hb
  · have := h h' tk t' fun b o e => by
      refine hk b o (fun hm => ?_) (Heap.get?_push_of_some _ e)
      rcases List.mem_cons.mp hm with e1 | hm
      · exact absurd (e1 ▸ Heap.lt_size e) (Nat.lt_irrefl _)
      · cases hm
    simpa [intItems] using this
theorem sum_rawT {its : List Value} {ns : List Int} (hh : A.handled = none) (hl : s.heap.IsTuple l its.toArray) (hi : IntsAre its ns)
    (h : ∀ h' tk t', (∀ b o, s.heap.get? b = some o → h'.get? b = some o) → Q (.int ns.sum t') { s with heap := h', toks := tk }) : wpAny (model prog w) A (call (.builtin "sum") [.ref l]) Q E s := by
  obtain ⟨xs, e⟩ := hi.allInts.items
  have hn : numsOf (intItems xs).toList = ns := by rw [← e]; exact hi.numsOf
  rw [nums_intItems] at hn
  rw [e] at hl
  refine sum_intTup hh hl fun h' tk t' hk => ?_
  have := h h' tk t' hk
  rw [preSum_eq, List.take_of_length_le (by simp), hn]; exact this
end
def rSumT (K : PySem.W.Frag) : List V → Hp → VK → Prop := fun vs H Q => ∃ (a : Addr) (ns : List Int), vs = [V.ref a] ∧ SqT K H a (ns.map V.int) ∧ Q (.int ns.sum) H
theorem cr_sumT {X : Cx} (hc : X.calm = true) : CallR X (.builtin "sum") (rSumT X.K) := by
  intro pins s σ H vs us Q I r h
  obtain ⟨a, ns, rfl, hs, q⟩ := h
  obtain ⟨its, rv, hl, _⟩ := I.tuple hs
  rw [Vals.ref1 r]
  exact sum_rawT (I.ok.hd hc) hl rv.ints fun h' tk t' hk => ⟨.int _, H, I.kept hk, ⟨_, rfl⟩, q⟩
def sumT (S : MS) (ds : List D) : Option D := match ds with
  | [.tup xs] => (intsOf xs).map fun ns => .int ns.sum
  | _ => none
theorem cd_sumT {G : Gx} : CallD G (rSumT G.K) sumT := by
  intro M S H xs ds d Q r rx hg q
  unfold sumT at hg
  split at hg
  · rename_i ys
    obtain ⟨v, rfl, rv⟩ := rx.inv1
    obtain ⟨a, vs, rfl, ha, _, _, _, rs⟩ := rv.tup_inv
    cases z2 : intsOf ys with
    | none => rw [z2] at hg; cases hg
    | some bs =>
      rw [z2] at hg; cases hg
      have hs := intsOf_rep rs z2
      exact ⟨a, bs, rfl, by rw [← hs]; exact SqT.of ha, q H _ (Ext.refl _ _) r (.int _)⟩
  · cases hg
def sumA : MS → List D → Option D := orC sumD sumT
def cr_sumA {X : Cx} (hc : X.calm = true) := (cr_sum hc).or (cr_sumT (X := X) hc)
def cd_sumA {G : Gx} := (cd_sum (G := G)).or cd_sumT
end Dn

namespace Dn
open PySem PySem.Spec PyProof.Rows L2
/-! ### exceptions: caught, kept, asked for their class -/
theorem inv_track {X : Cx} {pins : List (Addr × Obj)} {σ : L2.St} {H : Hp} {s : Shared} {a : Addr} {o : HO} (I : Inv X pins σ H s) (h0 : X.s_0.heap.get? a = none) (hn : H a = none) (hl : a ≠ X.env.locals) (hc : ∀ x c, X.env.cells.lookup x = some c → c ≠ a) (hp : ∀ p ∈ X.pn ++ pins, p.1 ≠ a) (new : ObjOk X.prog X.w (upd H a o) s.heap a o) : Inv X pins σ (upd H a o) s := by
  refine ⟨I.ok, I.os, I.bare, ⟨I.base.keep, I.base.slot, fun b o' e n hx => ?_, I.base.there, fun b xs e => ?_, fun b o' u e => ?_, fun b ps e => ?_⟩, I.loc, I.cell, ?_, fun x c e => ?_, fun p hp' => ?_, I.hok.laidN (fun _ _ q => q) hn new, I.len⟩
  · have : b ≠ a := by rintro rfl; rw [h0] at e; cases e
    rw [upd_ne this]; exact I.base.free b o' e n hx
  · have q := I.base.tups b xs e; rw [upd_ne (ne_of_none q hn)]; exact q
  · have q := I.base.frzs b o' u e; rw [upd_ne (ne_of_none q hn)]; exact q
  · obtain ⟨m, q⟩ := I.base.tbls b ps e; exact ⟨m, by rw [upd_ne (ne_of_none q hn)]; exact q⟩
  · rw [upd_ne (Ne.symm hl)]; exact I.free
  · rw [upd_ne (hc x c e)]; exact I.freeC x c e
  · obtain ⟨q1, q2, q3, q4, q5⟩ := I.pin p hp'
    exact ⟨q1, by rw [upd_ne (hp p hp')]; exact q2, q3, q4, q5⟩
def wKeep (K : PySem.W.Frag) (c : Value) (i : Nat) (ts : Addr → TS) (Wout : WX) (D : Ends) : WX := fun cls d σ H =>
  ∃ b, PySem.W.exmOne K cls c = some b ∧ (b = true → d = none ∧ ∀ a, H a = none → ts a { nx := fun σ' H' => D.nx (σ'.set i none) (upd H' a (ExT cls a)), rt := fun _ _ => False, bk := fun _ _ => False, ct := fun _ _ => False } (σ.set i (some (.ref a))) H) ∧
    (b = false → Wout cls d σ H)
section
variable {X : Cx} {x n : Str} {c : Value} {i : Nat} {body suite : List Stmt} {b₀ : Stmt} {np pos pos' : Pos} {tb : WX → TS} {ts : Addr → TS} {Wout : WX}
theorem ps_try_keep (hs : X.stack = X.env :: X.outer) (hf : X.env.frame = some X.env.locals) (hex : X.ex = []) (hN : X.N.Nodup) (hi : X.N[i]? = some n) (hln : X.env.kindOf n = some .local) (hc : Names X x c) (tk : Takes X Wout)
    (hb : ∀ (W : WX) (pn : List (Addr × Obj)) (xe : Value → Shared → Prop), Takes (X.tr pn xe) W → PassesOwn (model X.prog X.w) X.A X.env xe → PSs (X.tr pn xe) body (tb W))
    (hsu : ∀ (a : Addr) (oe : Obj) (pn : List (Addr × Obj)), PSs (X.suite a ((a, oe) :: pn)) (b₀ :: suite) (ts a)) :
    PS X (.Try body [.ExceptHandler (some (.Name x np)) (some n) (b₀ :: suite) pos'] [] [] pos) (fun D σ H => tb (wKeep X.K c i ts Wout D) D σ H) := by
  refine ⟨fun pins s σ H D I h => ?_⟩
  have ok := I.ok
  have hfr : X.A.frames = some (X.env :: X.outer) := by rw [ok.frames, hs]
  have hloc : Loc X.env.scope n := .inl hln
  refine wpAny_Try_except ?_
  refine wpAny_mono ((hb (wKeep X.K c i ts Wout D) (X.pn ++ pins) (fun e s₁ => wpAny (model X.prog X.w) X.A (noteFrame e X.env) (fun _ s₂ => wpAny (model X.prog X.w) X.A (setFlight e none) (fun _ s₃ =>
    wpAny (model X.prog X.w) X.A (handleBy e X.env [.ExceptHandler (some (.Name x np)) (some n) (b₀ :: suite) pos']) (SP X pins D) X.xe s₃) X.xe s₂) X.xe s₁) (fun u s' xx => ?_) PassesOwn.looking).run [] s σ H D (I.toTry _) h) (fun f s1 hsp => ?_) (fun e s1 he => he)
  · obtain ⟨a, B, sI, pins', σ', H', cls, d, rfl, J', nb, up, sky, na, os, ag, b, hb1, hyes, hno⟩ := xx
    have J : Inv X pins σ' H' sI := J'.ofTry ok
    have sky' : Sky B (X.env :: X.outer) a (Zc cls d) X.env.locals s'.heap := by rw [← hs]; exact sky
    show wpAny (model X.prog X.w) X.A (noteFrame (.ref a) X.env) _ _ _
    refine Sky.land Zc.steady hfr hf sky' fun h3 fl3 up3 => ?_
    have J3 : Inv X pins σ' H' { s' with heap := h3 } := J.landed nb fl3.1 (up.trans up3) os ag
    obtain ⟨oe3, vs3, he3, hz3, hd3⟩ := fl3.there
    have notFr : ∀ {h : Heap} {o : Obj} {vs : Array Value}, h.FunFrames B (X.env :: X.outer) → h.get? a = some o → o.data = .fields vs → a ∉ frs (X.env :: X.outer) := fun {h o vs} ff e dd hm => by
      obtain ⟨_, o', e', hnf⟩ := ff.mem hm
      rw [e] at e'; cases e'
      exact hnf _ dd
    have nfr := notFr fl3.2.2.1 he3 hd3
    have nL : a ≠ X.env.locals := fun z => nfr (List.mem_filterMap.mpr ⟨X.env, List.mem_cons_self, by rw [hf, z]⟩)
    have nF : a ∉ X.fs := fun hm => by
      obtain ⟨e, he, q⟩ := List.mem_filterMap.mp hm
      exact nfr (List.mem_filterMap.mpr ⟨e, List.mem_cons_of_mem _ he, q⟩)
    have nI : sI.heap.get? a = none := by
      cases e : sI.heap.get? a with
      | none => rfl
      | some o =>
        have := nb a o e (by rw [hs]; exact nfr)
        rw [fl3.2.1] at this; cases this
    have n0 : X.s_0.heap.get? a = none := by
      cases e : X.s_0.heap.get? a with
      | none => rfl
      | some o =>
        obtain ⟨o', e'⟩ := J.base.there a o e (by rw [hex]; exact fun z => nomatch z)
        rw [nI] at e'; cases e'
    have S3 := J3.suite he3 hd3 na nL nF
    refine wpAny_handleBy_cons (codeAny_handlers_test ?_) (by intro q; cases q)
    have LT : PySem.W.Looks (model X.prog X.w) h3 (typeOf (.ref a)) cls := fun A Q E s k q => wpAny_typeOf_ref (k _ _ he3) (by rw [hz3.1]; exact q)
    have LM := PySem.W.exm_one (M := model X.prog X.w) (J3.kIn) LT hb1
    have test : ∀ {Q : Value → Shared → Prop} {E : Value → Shared → Prop}, Q c { s' with heap := h3 } → wpAny (model X.prog X.w) (X.A.mark (some (.ref a))) (eval (.Name x np) X.env) Q E { s' with heap := h3 } := fun {Q E} q => by
      obtain ⟨hg, hdbg, hm | ⟨hm, hv, hnn⟩⟩ := hc
      · exact ld_glob (X := X.suite a ((a, oe3) :: (X.pn ++ pins))) S3 hg hm q hdbg
      · exact ld_blt (X := X.suite a ((a, oe3) :: (X.pn ++ pins))) S3 hg hm hv q hnn hdbg
    refine test (LM.here ?_)
    cases b with
    | true =>
      obtain ⟨ed, hyes⟩ := hyes rfl
      refine codeAny_handlers_suite_as ?_
      refine HandSPX.lands_againZ fl3 fun h4 fl4 up4 => ?_
      have J4 : Inv X pins σ' H' { s' with heap := h4 } := J.landed nb fl4.1 ((up.trans up3).trans up4) os ag
      obtain ⟨oe4, vs4, he4, hz4, hd4⟩ := fl4.there
      have S4 := J4.suite he4 hd4 na nL nF
      refine store_ok (X := X.suite a ((a, oe4) :: (X.pn ++ pins))) (v := .ref a) S4 hN hi hloc rfl (fun s5 S5 => ?_) (.inr hln)
      refine wpAny_mono ((hsu a oe4 (X.pn ++ pins)).run [] s5 _ H' _ S5 (hyes a na)) (fun f s6 hsp => ?_) (fun _ _ z => False.elim z)
      have end_ : ∀ {σ6 : L2.St} {H6 : Hp} {Q : Shared → Prop}, Inv (X.suite a ((a, oe4) :: (X.pn ++ pins))) [] σ6 H6 s6 → (∀ s7, Inv X pins (σ6.set i none) (upd H6 a (ExT cls a)) s7 → Q s7) →
          wpAny (model X.prog X.w) X.A (do bindName X.env n .none; unbindBehindTheSuite X.env n pos') (fun _ s7 => Q s7) X.xe s6 := fun {σ6 H6 Q} S6 hq => by
        obtain ⟨q1, q2, _⟩ := S6.pin (a, oe4) (List.mem_append.mpr (.inl List.mem_cons_self))
        have I6 := S6.unsuite ok
        refine gone_ok (inv_track I6 n0 q2 nL (fun x c e z => ?_) (fun p hp z => ?_) (exT_ok q1 (by rw [← ed]; exact hz4) hd4)) hN hi hln hq
        · obtain ⟨v, o, ho, hcv⟩ := I6.cell x c e
          rw [z, q1] at ho
          cases ho
          rw [hd4] at hcv; cases hcv
        · obtain ⟨q, _⟩ := J.pin p hp
          rw [z, nI] at q; cases q
      cases f with
      | next =>
        obtain ⟨σ6, H6, S6, q6⟩ := hsp
        exact end_ S6 fun s7 J7 => ⟨_, _, J7, q6⟩
      | brk =>
        obtain ⟨σ6, H6, S6, q6⟩ := hsp
        exact q6.elim
      | cont =>
        obtain ⟨σ6, H6, S6, q6⟩ := hsp
        exact q6.elim
      | ret u =>
        obtain ⟨v6, σ6, H6, S6, r6, q6⟩ := hsp
        exact q6.elim
    | false =>
      show wpAny _ X.A (handleBy (.ref a) X.env []) _ _ _
      refine wpAny_handleBy_nil ?_
      obtain ⟨k1, k2, k3, oe, vs, T, oT, ts', he, hz, hd, h1, hr⟩ := id fl3
      unfold PySem.passOn
      refine wpAny_bind (wpAny_field he hd h1 ?_)
      rw [if_neg (show ¬ ((Value.ref T == Value.none) = true) from by simp)]
      have fin : wpAny (model X.prog X.w) X.A (setFlight (.ref a) X.env.frame) (fun _ s4 => wpAny (model X.prog X.w) X.A (throw (.ref a) : Sem Flow) (SP X pins D) X.xe s4) X.xe { s' with heap := h3 } := by
        rw [hf]
        refine HandSPX.setFlight_upZ fl3 fun h4 hh4 up4 => wpAny_throw (tk _ _ ?_)
        exact ⟨a, B, sI, pins, σ', H', cls, d, rfl, J, nb, (up.trans up3).trans up4, .inr (.inr (by rw [hs]; exact hh4)), na, os, ag, hno rfl⟩
      first
        | exact wpAny_bind (wpAny_pure (wpAny_bind fin))
        | exact wpAny_bind fin
  · cases f with
    | next =>
      obtain ⟨σ', H', J', q⟩ := hsp
      exact wpAny_execs_nil ⟨σ', H', J'.ofTry ok, q⟩
    | brk =>
      obtain ⟨σ', H', J', q⟩ := hsp
      exact ⟨σ', H', J'.ofTry ok, q⟩
    | cont =>
      obtain ⟨σ', H', J', q⟩ := hsp
      exact ⟨σ', H', J'.ofTry ok, q⟩
    | ret u =>
      obtain ⟨v, σ', H', J', r, q⟩ := hsp
      exact ⟨v, σ', H', J'.ofTry ok, r, q⟩
end
/-! ### try: .. / except x as n: m = n -/
def sTry (ok : Nat → Option Bool) (i j : Nat) (g : En → MS → RS) : En → MS → RS := fun ρ S => match g ρ S with
  | .exc c ρ' S' => match ok c with
    | some true => .nx (((ρ'.set i none).set j (some (.exn c))).set i none) S'
    | some false => .exc c ρ' S'
    | none => .bad
  | r => r
theorem envR_none {G : Gx} {M : Mx} {H : Hp} {σ : L2.St} {ρ : En} (e : EnvR G M H σ ρ) (i : Nat) (v : Option V) : EnvR G M H (σ.set i v) (ρ.set i none) := by
  refine ⟨by simp [e.1], fun k d hd => ?_⟩
  rw [List.getElem?_set] at hd
  by_cases q : i = k
  · rw [if_pos q] at hd
    split at hd
    · simp at hd
    · cases hd
  · rw [if_neg q] at hd
    obtain ⟨u, hu, r⟩ := e.2 k d hd
    exact ⟨u, by rw [List.getElem?_set, if_neg q]; exact hu, r⟩
section
variable {X : Cx} {G : Gx} {Wout : WX} {x n m : Str} {cv : Value} {i j : Nat} {body : List Stmt} {np pos pos' p1 p2 p3 : Pos} {g : En → MS → RS} {ok : Nat → Option Bool}
theorem ps_keepit {X : Cx} (hN : X.N.Nodup) (hi : X.N[i]? = some n) (hj : X.N[j]? = some m) (hv : Vis X.env.scope n) (hm : Loc X.env.scope m) (hf : X.fn m = true ∨ X.env.scope.names.lookup m = some .local) (hs : swapsWith (.Name n p2) (some (.Name m p1)) p3.line X.env = pure false) (hd : (n == ("__debug__" : Str)) = false) (hcd : (n == ("__classdict__" : Str)) = false) :
    PSs X [.Assign [.Name m p1] (.Name n p2) p3] (fun D σ H => ∃ v, σ[i]? = some (some v) ∧ D.nx (σ.set j (some v)) H) := by
  refine pss_one (ps_imp (ps_set hN hj hm (pe_var hi hv hd hcd) hs hf) fun D σ H h => ?_)
  obtain ⟨v, h1, h2⟩ := h
  exact ⟨v, h1, h2⟩
end
end Dn

namespace Dn
open PySem PySem.Spec PyProof.Rows L2
/-- try on data, guarded -/
def sTryG (ok : Nat → Option Bool) (i j : Nat) (g : En → MS → RS) : En → MS → RS := fun ρ S => match g ρ S with
  | .exc c ρ' S' => match ok c with
    | some true => if i < ρ'.length then .nx (((ρ'.set i none).set j (some (.exn c))).set i none) S' else .bad
    | some false => .exc c ρ' S'
    | none => .bad
  | r => r
section
variable {X : Cx} {G : Gx} {Wout : WX} {x n m : Str} {cv : Value} {i j : Nat} {body : List Stmt} {np pos pos' p1 p2 p3 : Pos} {g : En → MS → RS} {ok : Nat → Option Bool}
theorem dens_try (hN : X.N.Nodup) (hs : X.stack = X.env :: X.outer) (hf : X.env.frame = some X.env.locals) (hex : X.ex = []) (hc : Names X x cv) (tk : Takes X Wout)
    (hok : ∀ c b, ok c = some b → PySem.W.exmOne X.K (.ref (G.ca c)) cv = some b)
    (hb : ∀ (W : WX) (pn : List (Addr × Obj)) (xe : Value → Shared → Prop), Takes (X.tr pn xe) W → PassesOwn (model X.prog X.w) X.A X.env xe → PSs (X.tr pn xe) body (tS G W g))
    (hi : X.N[i]? = some n := by rfl) (hj : X.N[j]? = some m := by rfl) (hln : X.env.kindOf n = some .local := by rfl) (hv : Vis X.env.scope n := by first | exact Or.inl rfl | exact .inl (.inl rfl) | exact .inr rfl) (hm : Loc X.env.scope m := by first | exact Or.inl rfl | exact Or.inr rfl)
    (hf2 : X.fn m = true ∨ X.env.scope.names.lookup m = some .local := by first | exact .inl rfl | exact .inr rfl | assumption) (hsw : swapsWith (.Name n p2) (some (.Name m p1)) p3.line X.env = pure false := by rfl) (hd : (n == ("__debug__" : Str)) = false := by decide) (hcd : (n == ("__classdict__" : Str)) = false := by decide) :
    PS X (.Try body [.ExceptHandler (some (.Name x np)) (some n) [.Assign [.Name m p1] (.Name n p2) p3] pos'] [] [] pos) (tS G Wout (sTryG ok i j g)) := by
  refine ps_imp (ps_try_keep (tb := fun W => tS G W g) (ts := fun _ D σ H => ∃ v, σ[i]? = some (some v) ∧ D.nx (σ.set j (some v)) H) hs hf hex hN hi hln hc tk hb (fun a oe pn => ps_keepit (X := X.suite a ((a, oe) :: pn)) hN hi hj hv hm hf2 hsw hd hcd)) fun D σ H ⟨M, S, ρ, r, e, h⟩ => ⟨M, S, ρ, r, e, ?_⟩
  unfold sTryG at h
  cases z : g ρ S with
  | nx ρ' S' => rw [z] at h; exact h
  | ret d S' => rw [z] at h; exact h
  | brk ρ' S' => rw [z] at h; exact h
  | ct ρ' S' => rw [z] at h; exact h
  | bad => rw [z] at h; exact h
  | exc c ρ' S' =>
    rw [z] at h
    simp only at h
    intro M1 H1 σ1 x1 r1 e1
    cases zo : ok c with
    | none => rw [zo] at h; exact h.elim
    | some b =>
      rw [zo] at h
      cases b with
      | false => exact ⟨false, hok c false zo, (fun q => nomatch q), fun _ => h M1 H1 σ1 x1 r1 e1⟩
      | true =>
        simp only at h
        by_cases q : i < ρ'.length
        · rw [if_pos q] at h
          refine ⟨true, hok c true zo, fun _ => ⟨rfl, fun a na => ⟨.ref a, ?_, ?_⟩⟩, (fun q => nomatch q)⟩
          · rw [List.getElem?_set, if_pos rfl, if_pos (by rw [e1.1]; exact q)]
          · have x2 : Ext M1 H1 M1 (upd H1 a (ExT (.ref (G.ca c)) a)) := Ext.new na
            have rp : Rep G M1 (upd H1 a (ExT (.ref (G.ca c)) a)) (.ref a) (.exn c) := .exn upd_same (r1.fresh na) (r1.freshx na)
            exact h M1 _ _ (x1.trans x2) (r1.laid na) (envR_none ((envR_none (e1.ext x2) i (some (.ref a))).set rp j) i none)
        · rw [if_neg q] at h; exact h.elim
end
/-! ### raise C("..") -/
def sRaise (c : Nat) : En → MS → RS := fun ρ S => .exc c ρ S
structure ExF (K : PySem.W.Frag) (mg : Str → Option Value) (ca : Nat → Addr) (nm : List Str) (n : Nat) : Prop where
  glo : ∀ c x, nm[c]? = some x → mg x = some (.ref (ca c))
  exc : ∀ c, c < n → PySem.W.excIn K (ca c) He.veBase "ValueError.__new__" = true ∧ PySem.W.keepIn K (.ref (ca c)) = true ∧ PySem.W.subIn K (.ref (ca c)) (.type "BaseException") = some true ∧ PySem.W.typeIn K (.ref (ca c)) = some (.type "type")
  cls : ∀ c, c < n → ExcC K (ca c)
  kit : ∀ c k, c < n → k < n → PySem.W.kitOne K (.ref (ca c)) (.ref (ca k)) = some (decide (c = k ∨ k = 0))
  kitv : ∀ c, c < n → PySem.W.kitOne K (.ref (ca c)) (.type "ValueError") = some true
  exm : ∀ c, c < n → PySem.W.exmOne K (.ref (ca c)) (.ref (ca 0)) = some true
section
variable {X : Cx} {G : Gx} {W : WX} {nm : List Str} {n : Nat}
theorem dens_raise {x m : Str} {j c : Nat} {p p2 pos pos' : Pos} (F : ExF X.K X.mg G.ca nm n) (hc : X.calm = true) (tk : Takes X W) (hn : nm[c]? = some x := by rfl) (hl : c < n := by decide) (hg : Gl X x := by rfl) (hdb : (x == ("__debug__" : Str)) = false := by decide) :
    PS X (.Raise (some (.Call (.Name x p) [.Constant (.str m) j p2] [] pos)) none pos') (tS G W (sRaise c)) := by
  obtain ⟨h1, h2, h3, h4⟩ := F.exc c hl
  exact ps_imp (ps_raise hc tk (pmk_own PySem.F.excBase_ValueError h1 (F.glo c x hn) h2 (raises_own h3 h4) hg hdb)) fun D σ H ⟨M, S, ρ, r, e, h⟩ => h M H σ (Ext.refl _ _) r e
/-- a name of the module that holds a class or a def -/
theorem den_top {x : Str} {c : Nat} {pos : Pos} (F : ExF X.K X.mg G.ca nm n) (hn : nm[c]? = some x := by rfl) (hg : Gl X x := by rfl) (hd : (x == ("__debug__" : Str)) = false := by decide) : PE X (.Name x pos) (tD G W (eC (.top c))) :=
  den_c (v := .ref (G.ca c)) (pe_glob hg (F.glo c x hn) rfl hd) fun _ _ => .top c
end
/-! ### isinstance of a caught one -/
def rIsX (K : PySem.W.Frag) : List V → Hp → VK → Prop := fun xs H Q => ∃ (a C : Addr) (c : V) (cv : Value) (b : Bool), xs = [.ref a, c] ∧ H a = some (ExT (.ref C) a) ∧ ExcC K C ∧ (∀ u, RelV c u → u = cv) ∧ PySem.W.kitOne K (.ref C) cv = some b ∧ Q (.bl b) H
theorem cr_isX {X : Cx} : CallR X (.builtin "isinstance") (rIsX X.K) := by
  intro pins s σ H xs us Q I r h
  obtain ⟨a, D, c, cv, b, rfl, ha, C, hcv, e, q⟩ := h
  cases r with
  | cons rx rr =>
    cases rr with
    | cons rt rr =>
      cases rr
      cases rx
      have ec := hcv _ rt
      subst ec
      obtain ⟨⟨oe, vs, hget, hz, hv⟩, _⟩ := I.hok a _ ha
      have J : PySem.W.InstAt s.heap a oe D none := by
        obtain ⟨oc, od, oda, osl⟩ := oe
        obtain ⟨h1, h2⟩ := hz
        dsimp only at h1 h2 hv
        subst h1 h2 hv
        exact ⟨hget, rfl, rfl, trivial⟩
      exact PySem.W.kia_one (PySem.W.handS_kitx_exc C.hg C.hk C.hs C.hd C.ha C.hn C.ht C.hm) I.kIn J e (fun z => nomatch z) fun tk => ⟨.bl b, H, I.kept (t' := tk) fun _ _ z => z, rfl, q⟩
def isiX (n : Nat) (S : MS) (ds : List D) : Option D := match ds with
  | [.exn c, .top k] => if c < n ∧ k < n then some (.bl (decide (c = k ∨ k = 0))) else none
  | [.exn c, .ty .verr] => if c < n then some (.bl true) else none
  | _ => none
theorem exn_inv {G : Gx} {M : Mx} {H : Hp} {v : V} {c : Nat} (r : Rep G M H v (.exn c)) : ∃ a, v = .ref a ∧ H a = some (ExT (.ref (G.ca c)) a) := by
  cases r with | exn h _ _ => exact ⟨_, rfl, h⟩
theorem cd_isX {G : Gx} {mg : Str → Option Value} {nm : List Str} {n : Nat} (F : ExF G.K mg G.ca nm n) : CallD G (rIsX G.K) (isiX n) := by
  intro M S H xs ds d Q r rx hg q
  unfold isiX at hg
  split at hg
  · rename_i c k
    obtain ⟨v, w, rfl, rv, rw_⟩ := rx.inv2
    obtain ⟨a, rfl, ha⟩ := exn_inv rv
    cases rw_.top_inv
    split at hg
    · rename_i hl
      cases hg
      exact ⟨a, _, _, .ref (G.ca k), _, rfl, ha, F.cls c hl.1, fun u hu => hu, F.kit c k hl.1 hl.2, q H _ (Ext.refl _ _) r (.bl _)⟩
    · cases hg
  · rename_i c
    obtain ⟨v, w, rfl, rv, rw_⟩ := rx.inv2
    obtain ⟨a, rfl, ha⟩ := exn_inv rv
    cases rw_.ty_inv
    split at hg
    · rename_i hl
      cases hg
      exact ⟨a, _, _, .type "ValueError", _, rfl, ha, F.cls c hl, fun u hu => hu, F.kitv c hl, q H _ (Ext.refl _ _) r (.bl _)⟩
    · cases hg
  · cases hg
def isiA (n : Nat) : MS → List D → Option D := orC isiD (isiX n)
def cr_isA {X : Cx} := (call_isi (X := X)).or (cr_isX (X := X))
def cd_isA {G : Gx} {mg : Str → Option Value} {nm : List Str} {n : Nat} (F : ExF G.K mg G.ca nm n) := (cd_isi (G := G)).or (cd_isX F)
/-! ### list.index, list.count of flat things -/
theorem count_eqU {y : V} : ∀ {xs : List V} {us : List Value}, Vals xs us → xs.all flatV = true → us.countP (eqU y) = xs.countP fun z => eqV z y
  | _, _, .nil, _ => rfl
  | _, _, .cons r t, f => by
    rw [List.all_cons, Bool.and_eq_true] at f
    rw [List.countP_cons, List.countP_cons, count_eqU t f.2, eqU_of r f.1]
def rCntF (K : PySem.W.Frag) : V → List V → Hp → VK → Prop := fun x xs H Q => ∃ (a : Addr) (ys : List V) (y : V), x = V.ref a ∧ xs = [y] ∧ SqL K H a ys ∧ flatV y = true ∧ ys.all flatV = true ∧ Q (.int (ys.countP fun z => eqV z y : Nat)) H
theorem mt_countF {X : Cx} : MtR X "list.count" (rCntF X.K) := by
  intro pins s σ H x xs v us Q I rx rxs h
  obtain ⟨a, ys, y, rfl, rfl, hs, fy, fys, q⟩ := h
  cases rx
  cases rxs with
  | cons ry rt =>
    rename_i uy ut
    cases rt
    obtain ⟨its, rv, ⟨⟨cls, dd, data, sl⟩, n, ho, hc, hdn, hd⟩, hlen⟩ := I.list hs
    simp only at hc hd
    subst hc hd
    refine call_meets PySem.F.slot_list_count ⟨_, ho, rfl⟩ PySem.F.entry_list_count (PySem.F.args_list_count_2 _ _)
      (SeqAt.list_countAt a its.toArray n dd sl uy (eqU y)) ⟨ho, fun u' hu' => mem_eqAt ry fy rv fys u' (by simpa using hu'), ?_⟩
    refine ⟨.int (ys.countP fun z => eqV z y : Nat), H, I.tok _, ⟨s.toks, ?_⟩, q⟩
    show Value.int ((its.toArray.toList.countP (eqU y) : Nat) : Int) s.toks = Value.int ((ys.countP fun z => eqV z y : Nat) : Int) s.toks
    rw [show its.toArray.toList = its from rfl, count_eqU rv fys]
def idxD (S : MS) (o : D) (ds : List D) : Option (D × MS) := match rdL S o, ds with
  | some ys, [d] => if (flatD d && ys.all flatD) = true then (ys.findIdx? fun z => eqF z d).map fun j => (.int (j : Nat), S) else none
  | _, _ => none
def cntD (S : MS) (o : D) (ds : List D) : Option (D × MS) := match rdL S o, ds with
  | some ys, [d] => if (flatD d && ys.all flatD) = true then some (.int (ys.countP fun z => eqF z d : Nat), S) else none
  | _, _ => none
theorem count_eqF {G : Gx} {M : Mx} {H : Hp} {w : V} {e : D} (q : Rep G M H w e) (g : flatD e = true) : ∀ {vs : List V} {ds : List D}, Reps G M H vs ds → ds.all flatD = true → (vs.countP fun z => eqV z w) = ds.countP fun z => eqF z e
  | _, _, .nil, _ => rfl
  | _, _, .cons r t, f => by
    rw [List.all_cons, Bool.and_eq_true] at f
    rw [List.countP_cons, List.countP_cons, count_eqF q g t f.2, eqF_of r q f.1 g]
theorem md_cnt {G : Gx} : MutD G "list" (rCntF G.K) cntD := by
  intro M S S' H x xs dx ds d Q r rx rxs hg q
  unfold cntD at hg
  split at hg
  · rename_i ys d0 hy
    split at hg
    · rename_i hf
      cases hg
      have hf := Bool.and_eq_true_iff.mp hf
      obtain ⟨a, vs, rfl, hs, z, rs⟩ := rdL_inv r rx hy
      obtain ⟨v, rfl, rv⟩ := rxs.inv1
      refine ⟨a, vs, v, rfl, rfl, hs, flat_of rv hf.1, flats_of rs hf.2, q H _ (Ext.refl _ _) r ?_⟩
      rw [count_eqF rv hf.1 rs hf.2]; exact .int _
    · cases hg
  · cases hg
theorem md_idx {G : Gx} : MutD G "list" (rIndex G.K) idxD := by
  intro M S S' H x xs dx ds d Q r rx rxs hg q
  unfold idxD at hg
  split at hg
  · rename_i ys d0 hy
    split at hg
    · rename_i hf
      have hf := Bool.and_eq_true_iff.mp hf
      obtain ⟨a, vs, rfl, hs, z, rs⟩ := rdL_inv r rx hy
      obtain ⟨v, rfl, rv⟩ := rxs.inv1
      cases zi : ys.findIdx? (fun z => eqF z d0) with
      | none => rw [zi] at hg; cases hg
      | some j =>
        rw [zi] at hg; cases hg
        obtain ⟨hj, he, hno⟩ := List.findIdx?_eq_some_iff_getElem.mp zi
        obtain ⟨u, hu, ru⟩ := rs.get (List.getElem?_eq_getElem hj)
        have fy := List.all_eq_true.mp hf.2
        refine ⟨a, vs, v, j, u, rfl, rfl, hs, flat_of rv hf.1, flats_of rs hf.2, hu, ?_, ?_, q H _ (Ext.refl _ _) r (.int _)⟩
        · rw [eqF_of ru rv (fy _ (List.getElem_mem hj)) hf.1]; exact he
        · intro m z' hm hz'
          obtain ⟨d', hd', rd'⟩ := rs.get' hz'
          obtain ⟨hml, hme⟩ := List.getElem?_eq_some_iff.mp hd'
          rw [eqF_of rd' rv (fy _ (List.mem_of_getElem? hd')) hf.1, ← hme]
          have := hno m hm
          simpa using this
    · cases hg
  · cases hg
/-! ### a def that a slot holds -/
structure Dsp (P : Program) (w : World) (K : PySem.W.Frag) (mg : Str → Option Value) (base : Heap) (G : Gx) (k : Nat) (tbl : Nat → Option (List D → MS → R D)) : Prop where
  ex : ∀ c F, tbl c = some F → ∃ (fd : FuncData) (ps : List Str), FnOk P w K mg base (L2.CX P w) k (G.ca c) fd ps (spD G F) ∧ PySem.W.keepIn K (.ref (G.ca c)) = true ∧ Binds K fd ps []
def eDsp (i : Nat) (tbl : Nat → Option (List D → MS → R D)) (fs : En → MS → R (List D)) : En → MS → R D := fun ρ S => match ρ[i]? with
  | some (some (.top c)) => match tbl c with
    | some F => (fs ρ S).bind fun xs S1 => F xs S1
    | none => .bad
  | _ => .bad
section
variable {X : Cx} {G : Gx} {W : WX} {a : Expr} {es : List Expr} {fs : En → MS → R (List D)} {pos : Pos}
theorem den_dsp {x : Str} {i k : Nat} {p : Pos} {tbl : Nat → Option (List D → MS → R D)} (T : Dsp X.prog X.w X.K X.mg X.base G k tbl) (hr : Room k X.A) (tk : Takes X W) (ha : PA X (a :: es) (tA G W fs)) (hN : X.N[i]? = some x := by rfl) (hv : Vis X.env.scope x := by first | exact Or.inl rfl | exact .inl (.inl rfl) | exact .inr rfl)
    (hdb : (x == ("__debug__" : Str)) = false := by decide) (hcd : (x == ("__classdict__" : Str)) = false := by decide) (he : starEach (a :: es) X.env = (false, eval a X.env) :: starEach es X.env := by rfl) (hpl : (backTo pos (starEach es X.env)).any (·.1) = false := by rfl) :
    PE X (.Call (.Name x p) (a :: es) [] pos) (tD G W (eDsp i tbl fs)) := by
  refine ⟨fun pins s σ H Q I h => ?_⟩
  obtain ⟨M, S, ρ, r, e, h⟩ := h
  unfold eDsp at h
  split at h
  · rename_i c hc
    split at h
    · rename_i F hF
      obtain ⟨v, hv', rv⟩ := e.2 i _ hc
      cases rv.top_inv
      obtain ⟨fd, ps, Fn, hk, hb⟩ := T.ex c F hF
      refine wpAny_Call_Name_kw (thn ((pe_var (pos := p) hN hv hdb hcd).run pins s σ H (fun v H1 => v = .ref (G.ca c) ∧ H1 = H) I ⟨.ref _, hv', rfl, rfl⟩) fun u s1 ⟨v, H1, I1, r1, q1⟩ => ?_)
      obtain ⟨rfl, rfl⟩ := q1
      cases r1
      refine PySem.W.callWith_K (h₀ := X.base) I.ok.mod.kin hk (thn (ha.run pos pins s1 σ _ (fun vs H2 => spD G F vs H2 Q (WE W σ)) I1 ?_) fun us s2 ⟨vs, H2, I2, rr, q⟩ => ⟨I2.kIn, ?_⟩) he hpl
      · refine tA_mono (a_bind h r e) fun y H2 ⟨M2, S2, d2, x2, r2, p2, e2, h2⟩ => ⟨M2, S2, d2, r2, p2, ?_⟩
        cases z : F d2 S2 with
        | ok d S' => rw [z] at h2; exact h2
        | exc c S' => rw [z] at h2; exact h2
        | bad => rw [z] at h2; exact h2
      · exact run_fnS Fn hr hb (passAt tk σ) I2 rr q
    · exact h.elim
  · exact h.elim
end
/-! ### the head's look at the classes -/
def excB (K : PySem.W.Frag) (C : Addr) : Bool := PySem.W.excIn K C He.veBase "ValueError.__new__" && (PySem.W.keepIn K (.ref C) && (decide (PySem.W.subIn K (.ref C) (.type "BaseException") = some true) && (decide (PySem.W.typeIn K (.ref C) = some (.type "type")) &&
  (He.eqO (PySem.W.findIn K (.ref C) "__getattribute__") (some (some (.builtin "BaseException.__getattribute__"))) && (He.eqO (PySem.W.findIn K (.ref C) "__getattr__") (some none) && (PySem.W.hasDictIn K C && (He.eqO (PySem.W.findIn K (.ref C) "__class__") (some (some (.builtin "object.__class__"))) &&
  (He.eqO (PySem.W.specialIn K (.builtin "object.__class__") "__get__") (some (some (.builtin "getset_descriptor.__get__"))) && (decide (PySem.W.takesIn K (.builtin "object.__class__") = some true) && (decide (PySem.W.mroIn K C (.type "object") = some true) && decide (PySem.W.kitOne K (.ref C) (.type "ValueError") = some true)))))))))))
theorem excB_ok {K : PySem.W.Frag} {C : Addr} (h : excB K C = true) : (PySem.W.excIn K C He.veBase "ValueError.__new__" = true ∧ PySem.W.keepIn K (.ref C) = true ∧ PySem.W.subIn K (.ref C) (.type "BaseException") = some true ∧ PySem.W.typeIn K (.ref C) = some (.type "type")) ∧ ExcC K C ∧ PySem.W.kitOne K (.ref C) (.type "ValueError") = some true := by
  unfold excB at h
  obtain ⟨h1, h⟩ := He.ba h
  obtain ⟨h2, h⟩ := He.ba h
  obtain ⟨h3, h⟩ := He.ba h
  obtain ⟨h4, h⟩ := He.ba h
  obtain ⟨h5, h⟩ := He.ba h
  obtain ⟨h6, h⟩ := He.ba h
  obtain ⟨h7, h⟩ := He.ba h
  obtain ⟨h8, h⟩ := He.ba h
  obtain ⟨h9, h⟩ := He.ba h
  obtain ⟨h10, h⟩ := He.ba h
  obtain ⟨h11, h12⟩ := He.ba h
  exact ⟨⟨h1, h2, of_decide_eq_true h3, of_decide_eq_true h4⟩, ⟨He.eqO_ok h5, He.eqO_ok h6, of_decide_eq_true h3, h7, He.eqO_ok h8, He.eqO_ok h9, of_decide_eq_true h10, of_decide_eq_true h11⟩, of_decide_eq_true h12⟩
def caOf (K : PySem.W.Frag) (nm : List Str) (c : Nat) : Addr := He.ga K (nm.getD c "")
def exfB (nm : List Str) (n : Nat) (K : PySem.W.Frag) : Bool := (nm.all fun x => He.eqO (PySem.W.nsIn K mainGlobals x) (some (some (.ref (He.ga K x))))) &&
  ((List.range n).all fun c => excB K (caOf K nm c) && (decide (PySem.W.exmOne K (.ref (caOf K nm c)) (.ref (caOf K nm 0)) = some true) && (List.range n).all fun k => decide (PySem.W.kitOne K (.ref (caOf K nm c)) (.ref (caOf K nm k)) = some (decide (c = k ∨ k = 0)))))
theorem exf_of {nm : List Str} {n : Nat} {K : PySem.W.Frag} {h : Heap} {mg : Str → Option Value} (X : K.In h) (G : h.Ns mainGlobals mg) (b : exfB nm n K = true) : ExF K mg (caOf K nm) nm n := by
  unfold exfB at b
  obtain ⟨b1, b2⟩ := He.ba b
  have c2 : ∀ c, c < n → excB K (caOf K nm c) = true ∧ PySem.W.exmOne K (.ref (caOf K nm c)) (.ref (caOf K nm 0)) = some true ∧ ∀ k, k < n → PySem.W.kitOne K (.ref (caOf K nm c)) (.ref (caOf K nm k)) = some (decide (c = k ∨ k = 0)) := by
    intro c hc
    have := List.all_eq_true.mp b2 c (List.mem_range.mpr hc)
    obtain ⟨t1, t⟩ := He.ba this
    obtain ⟨t2, t3⟩ := He.ba t
    exact ⟨t1, of_decide_eq_true t2, fun k hk => of_decide_eq_true (List.all_eq_true.mp t3 k (List.mem_range.mpr hk))⟩
  refine ⟨fun c x e => ?_, fun c hc => (excB_ok (c2 c hc).1).1, fun c hc => (excB_ok (c2 c hc).1).2.1, fun c k hc hk => (c2 c hc).2.2 k hk, fun c hc => (excB_ok (c2 c hc).1).2.2, fun c hc => (c2 c hc).2.1⟩
  have e2 : nm.getD c "" = x := by rw [List.getD_eq_getElem?_getD, e]; rfl
  have := List.all_eq_true.mp b1 x (List.mem_of_getElem? e)
  unfold caOf
  rw [e2]
  exact PySem.W.mg_of X G (He.eqO_ok this)
end Dn
namespace Dn
open PySem PySem.Spec PyProof.Rows L2
def okF (n : Nat) (c : Nat) : Option Bool := if c < n then some true else none
theorem okF_ok {K : PySem.W.Frag} {mg : Str → Option Value} {ca : Nat → Addr} {nm : List Str} {n : Nat} (F : ExF K mg ca nm n) (c : Nat) (b : Bool) (h : okF n c = some b) : PySem.W.exmOne K (.ref (ca c)) (.ref (ca 0)) = some b := by
  unfold okF at h
  split at h
  · rename_i q; cases h; exact F.exm c q
  · cases h
theorem bt_ValueError : bootBuiltins "ValueError" = some (.type "ValueError") := by decide +kernel
end Dn
namespace Dn
open PySem PySem.Spec PyProof.Rows L2
def eBad : En → MS → R D := fun _ _ => .bad
theorem den_bad {X : Cx} {G : Gx} {W : WX} {e : Expr} : PE X e (tD G W eBad) := ⟨fun _ _ _ _ _ _ h => by obtain ⟨_, _, _, _, _, h⟩ := h; exact h.elim⟩
end Dn

namespace Dn
open PySem PySem.Spec PyProof.Rows L2
/-! ### < and <= of data that are alike -/
def noneP : PyData → Bool
  | .none => true
  | _ => false
theorem noneP_ne {p : PyData} (h : noneP p = false) : p ≠ .none := by intro e; rw [e] at h; cases h
def rLtX (K : PySem.W.Frag) : R2 := fun x y H Q => ∃ d e, Dp K H x d ∧ Dp K H y e ∧ PySem.W.alike d e = true ∧ d ≠ .none ∧ d.depth ≤ 60 ∧ Q (.bl (PySem.W.dataLt d e)) H
def rLeX (K : PySem.W.Frag) : R2 := fun x y H Q => ∃ d e, Dp K H x d ∧ Dp K H y e ∧ PySem.W.alike d e = true ∧ d ≠ .none ∧ d.depth ≤ 60 ∧ Q (.bl (!PySem.W.dataLt e d)) H
theorem op_ltX {X : Cx} (hu : X.A.units + 64 < cLine) : OpR X (compareOp .Lt) (rLtX X.K) := by
  intro pins s σ H x y v u Q I rx ry h
  obtain ⟨d, e, hd, he, ha, hn, hdep, q⟩ := h
  obtain ⟨as, r1⟩ := Dp.reads I d x v hd rx
  obtain ⟨bs, r2⟩ := Dp.reads I e y u he ry
  exact PySem.W.lt_data r1 r2 ha hn (by have := Nat.min_le_left d.depth e.depth; omega) ⟨.bl _, H, I, rfl, q⟩
theorem op_leX {X : Cx} (hu : X.A.units + 64 < cLine) : OpR X (compareOp .LtE) (rLeX X.K) := by
  intro pins s σ H x y v u Q I rx ry h
  obtain ⟨d, e, hd, he, ha, hn, hdep, q⟩ := h
  obtain ⟨as, r1⟩ := Dp.reads I d x v hd rx
  obtain ⟨bs, r2⟩ := Dp.reads I e y u he ry
  exact PySem.W.le_data r1 r2 ha hn (by have := Nat.min_le_left d.depth e.depth; omega) ⟨.bl _, H, I, rfl, q⟩
def ltX (S : MS) (x y : D) : Option D := match toP S x, toP S y with
  | some p, some q => if PySem.W.alike p q = true ∧ noneP p = false ∧ p.depth ≤ 60 then some (.bl (PySem.W.dataLt p q)) else none
  | _, _ => none
def leX (S : MS) (x y : D) : Option D := match toP S x, toP S y with
  | some p, some q => if PySem.W.alike p q = true ∧ noneP p = false ∧ p.depth ≤ 60 then some (.bl (!PySem.W.dataLt q p)) else none
  | _, _ => none
section
variable {G : Gx}
theorem od_ltX : OpD G (rLtX G.K) ltX := by
  intro M S H x y dx dy d Q r rx ry hg q
  unfold ltX at hg
  split at hg
  · rename_i p q' hp hq
    split at hg
    · rename_i hc
      cases hg
      exact ⟨p, q', dp1 r rx hp, dp1 r ry hq, hc.1, noneP_ne hc.2.1, hc.2.2, q H _ (Ext.refl _ _) r (.bl _)⟩
    · cases hg
  · cases hg
theorem od_leX : OpD G (rLeX G.K) leX := by
  intro M S H x y dx dy d Q r rx ry hg q
  unfold leX at hg
  split at hg
  · rename_i p q' hp hq
    split at hg
    · rename_i hc
      cases hg
      exact ⟨p, q', dp1 r rx hp, dp1 r ry hq, hc.1, noneP_ne hc.2.1, hc.2.2, q H _ (Ext.refl _ _) r (.bl _)⟩
    · cases hg
  · cases hg
end
def ltA : MS → D → D → Option D := orG ltI ltX
def leA : MS → D → D → Option D := orG leI leX
def or_ltA {X : Cx} (hu : X.A.units + 64 < cLine) := (op_lt (X := X)).or (op_ltX hu)
def or_leA {X : Cx} (hu : X.A.units + 64 < cLine) := (op_le (X := X)).or (op_leX hu)
def od_ltA {G : Gx} := (od_ltI (G := G)).or od_ltX
def od_leA {G : Gx} := (od_leI (G := G)).or od_leX
/-! ### sorted of data that are alike -/
def rSrtX (K : PySem.W.Frag) : List V → Hp → VK → Prop := fun vs H Q => ∃ (a : Addr) (xs : List V) (bs : List D) (enc : D → PyData) (Pr : V → D → Prop), vs = [.ref a] ∧ SqL K H a xs ∧ Paired Pr xs bs ∧ (∀ x b, Pr x b → b ∈ bs → Dp K H x (enc b)) ∧
  PySem.W.AllAlike (bs.map enc) ∧ PySem.W.Sortable (bs.map enc) ∧ (∀ b ∈ bs, (enc b).depth ≤ 60) ∧ ∀ ys p, Paired Pr ys (bs.mergeSort (PySem.W.dataLe false enc)) → H p = none → Q (.ref p) (upd H p (.lst ys))
theorem each_vals {Pr : V → D → Prop} : ∀ {xs : List V} {us : List Value} {bs : List D}, Vals xs us → Paired Pr xs bs → PySem.W.EachIs (fun u b => ∃ x, RelV x u ∧ Pr x b) us bs
  | _, _, _, .nil, .nil => .nil
  | _, _, _, .cons r t, .cons q s => .cons ⟨_, r, q⟩ (each_vals t s)
theorem vals_each {Pr : V → D → Prop} : ∀ {us : List Value} {bs : List D}, PySem.W.EachIs (fun u b => ∃ x, RelV x u ∧ Pr x b) us bs → ∃ xs, Vals xs us ∧ Paired Pr xs bs
  | _, _, .nil => ⟨[], .nil, .nil⟩
  | _, _, .cons ⟨x, r, q⟩ t => by
    obtain ⟨xs, h1, h2⟩ := vals_each t
    exact ⟨x :: xs, .cons r h1, .cons q h2⟩
theorem cr_srtX {X : Cx} (hu : X.A.units + 64 < cLine) : CallR X (.builtin "sorted") (rSrtX X.K) := by
  intro pins s σ H vs us Q I r h
  obtain ⟨a, xs, bs, enc, Pr, rfl, hs, hp, hd, hal, hso, hdep, q⟩ := h
  obtain ⟨its, rv, hl, hz⟩ := I.list hs
  rw [Vals.ref1 r]
  have e1 := each_vals rv hp
  have hlen : bs.length = its.length := by rw [← Paired.length hp, rv.length]
  have e2 : PySem.W.EachIs (fun v b => ∃ as, Reads s.heap v (enc b) as) its bs := by
    have : ∀ {us : List Value} {cs : List D}, (∀ b ∈ cs, b ∈ bs) → PySem.W.EachIs (fun u b => ∃ x, RelV x u ∧ Pr x b) us cs → PySem.W.EachIs (fun v b => ∃ as, Reads s.heap v (enc b) as) us cs := by
      intro us cs hm e
      induction e with
      | nil => exact .nil
      | cons h t ih =>
        obtain ⟨x, rx, px⟩ := h
        exact .cons (Dp.reads I _ x _ (hd x _ px (hm _ List.mem_cons_self)) rx) (ih fun b hb => hm b (List.mem_cons_of_mem _ hb))
    exact this (fun b h => h) e1
  refine PySem.W.sorted_data hl.isList e1 e2 hal hso (by rw [hlen, ← rv.length]; exact hz) (fun b hb => by have := hdep b hb; omega) fun out ho he => ?_
  obtain ⟨ys, h1, h2⟩ := vals_each he
  obtain ⟨ep, he'⟩ := PyProof.Rows.sortedAll_at s.heap its out.toArray
  have hlen2 : ys.length ≤ sizeLine := by rw [h1.length, ho, hlen, ← rv.length]; exact hz
  exact ⟨.ref _, upd H (s.heap.objs.size + 1) (.lst ys), I.laid (t' := s.toks) (fun _ _ => PyProof.Rows.sortedAll_old) (Nat.le_succ _) ⟨hlen2, out, ep, h1, by simpa using he'⟩, rfl, q ys _ h2 (I.hok.fresh (Nat.le_succ _))⟩
def encD (S : MS) (d : D) : PyData := (toP S d).getD .none
theorem toPs_enc {S : MS} : ∀ {ds : List D} {ps : List PyData}, toPs S ds = some ps → ds.map (encD S) = ps ∧ ∀ d ∈ ds, toP S d = some (encD S d)
  | [], _, h => by cases h; exact ⟨rfl, fun d h => by cases h⟩
  | d :: ds, ps, h => by
    unfold toPs at h
    cases z : toP S d with
    | none => rw [z] at h; cases h
    | some p =>
      rw [z] at h
      cases z2 : toPs S ds with
      | none => rw [z2] at h; cases h
      | some qs =>
        rw [z2] at h
        cases h
        obtain ⟨h1, h2⟩ := toPs_enc z2
        have e : encD S d = p := by unfold encD; rw [z]; rfl
        refine ⟨by rw [List.map_cons, h1, e], fun x hx => ?_⟩
        rcases List.mem_cons.mp hx with rfl | hx
        · rw [z, e]
        · exact h2 x hx
def tupP : PyData → Bool
  | .tuple (_ :: _) => true
  | _ => false
def plainP : PyData → Bool
  | .none => false
  | .tuple _ => false
  | _ => true
def srtB (ps : List PyData) : Bool := (ps.all fun d => ps.all fun e => PySem.W.alike d e) && ((ps.all tupP || ps.all plainP) && ps.all fun d => decide (d.depth ≤ 60))
def srtX (S : MS) (ds : List D) : Option D := match ds with
  | [d] => match rdL S d with
    | some ys => match toPs S ys with
      | some ps => if srtB ps = true then some (.lst (ys.mergeSort (PySem.W.dataLe false (encD S)))) else none
      | none => none
    | none => none
  | _ => none
theorem reps_paired {G : Gx} {M : Mx} {H : Hp} : ∀ {vs : List V} {ds : List D}, Reps G M H vs ds → Paired (Rep G M H) vs ds
  | _, _, .nil => .nil
  | _, _, .cons r t => .cons r (reps_paired t)
theorem paired_reps {G : Gx} {M : Mx} {H : Hp} : ∀ {vs : List V} {ds : List D}, Paired (Rep G M H) vs ds → Reps G M H vs ds
  | _, _, .nil => .nil
  | _, _, .cons r t => .cons r (paired_reps t)
theorem cd_srtX {G : Gx} : CallD G (rSrtX G.K) srtX := by
  intro M S H xs ds d Q r rx hg q
  unfold srtX at hg
  split at hg
  · rename_i d0
    obtain ⟨v, rfl, rv⟩ := rx.inv1
    split at hg
    · rename_i ys hy
      split at hg
      · rename_i ps hps
        split at hg
        · rename_i hb
          cases hg
          obtain ⟨a, vs, rfl, hs, z, rs⟩ := rdL_inv r rv hy
          obtain ⟨em, et⟩ := toPs_enc hps
          unfold srtB at hb
          rw [Bool.and_eq_true, Bool.and_eq_true, Bool.or_eq_true] at hb
          obtain ⟨h1, h2, h3⟩ := hb
          refine ⟨a, vs, ys, encD S, Rep G M H, rfl, hs, reps_paired rs, fun x b px hb => dp1 r px (et b hb), ?_, ?_, ?_, fun zs p hz np => ?_⟩
          · rw [em]
            intro x hx y hy
            exact List.all_eq_true.mp (List.all_eq_true.mp h1 x hx) y hy
          · rw [em]
            rcases h2 with h2 | h2
            · refine .inl fun x hx => ?_
              have := List.all_eq_true.mp h2 x hx
              cases x with
              | tuple l =>
                cases l with
                | nil => cases this
                | cons y l => exact ⟨y, l, rfl⟩
              | _ => cases this
            · refine .inr fun x hx => ?_
              have := List.all_eq_true.mp h2 x hx
              cases x with
              | none => cases this
              | tuple l => cases this
              | _ => exact ⟨(by intro e; cases e), (by intro l e; cases e)⟩
          · intro b hb
            have : encD S b ∈ ps := by rw [← em]; exact List.mem_map.mpr ⟨b, hb, rfl⟩
            exact of_decide_eq_true (List.all_eq_true.mp h3 _ this)
          · have hzl : zs.length ≤ sizeLine := by rw [Paired.length hz, List.length_mergeSort, ← rs.length]; exact z
            exact q _ _ (Ext.new np) (r.laid np) (.lst upd_same (r.fresh np) (r.freshx np) hzl ((paired_reps hz).ext (Ext.new np)))
        · cases hg
      · cases hg
    · cases hg
  · cases hg
def srtA : MS → List D → Option D := orC srtI srtX
def cr_srtA {X : Cx} (hu : X.A.units + 64 < cLine) := (cr_sorted (X := X)).or (cr_srtX hu)
def cd_srtA {G : Gx} := (cd_srtI (G := G)).or cd_srtX
/-! ### d[k] of a dict -/
def ixK (S : MS) (o k : D) : Option D := match o, keyD k with
  | .obj i, some c => match S[i]? with
    | some (.dK kvs) => valG kvs c
    | _ => none
  | _, _ => none
section
variable {X : Cx} {G : Gx} {W : WX} {o e : Expr} {pos : Pos} {fo fk : En → MS → R D}
theorem den_dget (hu : X.A.units + 64 < cLine) (ho : PE X o (tD G W fo)) (hk : PE X e (tD G W fk)) (hs : NoSl e := by exact fun _ _ => rfl) : PE X (.Subscript o e pos) (tD G W (eOp ixK fo fk)) := by
  refine pe_imp (pe_dget (by omega) ho hk hs) fun σ H Q ⟨M, S, ρ, r, e, h⟩ => ?_
  refine tD_mono (d_bind h r e) fun v H1 ⟨M1, S1, d1, x1, r1, p1, e1, h1⟩ => ?_
  refine tD_mono (d_bind h1 r1 e1) fun y H2 ⟨M2, S2, d2, x2, r2, p2, e2, h2⟩ => ?_
  obtain ⟨d, hd, q⟩ := post_ofO h2
  unfold ixK at hd
  cases d1 with
  | obj i =>
    cases zk : keyD d2 with
    | none => simp [zk] at hd
    | some c =>
      simp only [zk] at hd
      cases zt : S2[i]? with
      | none => simp [zt] at hd
      | some u =>
        cases u with
        | dK kvs =>
          simp only [zt] at hd
          obtain ⟨a, us, rfl, ha, ka⟩ := dk_at r2 (p1.ext x2) zt
          have ek := keyD_rep p2 zk
          rcases kreps_val ka c with ⟨n1, n2⟩ | ⟨y', d', n1, n2, rr⟩
          · rw [n2] at hd; cases hd
          · rw [n2] at hd; cases hd
            exact ⟨a, y', rfl, .inl ⟨us, c, .inl ha, ek, n1.symm⟩, q M2 H2 _ (Ext.refl _ _) r2 rr⟩
        | _ => simp [zt] at hd
  | _ => simp at hd
end
end Dn

namespace Dn
open PySem PySem.Spec PyProof.Rows L2 PySem.Calls
/-! ### sorted of a tuple of data that are alike -/
section
variable {prog : Program} {w : World} {A : Around} {E : Value → Shared → Prop} {s : Shared}
theorem collect_tuple {l : Addr} {vs : List Value} {Q : List Value → Shared → Prop} (hl : s.heap.IsTuple l vs.toArray)
    (h : Q vs { s with heap := (s.heap.push (seqObj "list" #[] 0)).update s.heap.objs.size (Obj.mapSeq (· ++ vs.toArray)) }) (hsz : vs.length ≤ sizeLine := by size_fits) :
    wpAny (model prog w) A (collect (.ref l)) Q E s := by
  obtain ⟨o, ho, hc, n, hd⟩ := id hl
  unfold collect
  refine wpAny_bind (wpAny_runValue (codeAny_builtin entry_proto_collect' ?_))
  show wpAny _ _ (do again (.builtin "list.__iadd__" ⟨[← newList [], .ref l], []⟩)) _ _ s
  refine wpAny_bind (wpAny_newList (wpAny_pure ⟨Code.quiet_builtin _ (by decide +kernel), codeAny_builtin entry_list_iadd' ?_⟩))
  show wpAny _ _ (Builtin.List.listExtendWith (.ref s.heap.objs.size) (.ref l) (.ref s.heap.objs.size)) _ _ { s with heap := s.heap.push (seqObj "list" #[] 0) }
  unfold Builtin.List.listExtendWith
  have ho' : (s.heap.push (seqObj "list" #[] 0)).get? l = some o := Heap.get?_push_of_some _ ho
  refine wpAny_bind (wpAny_typeOf (T := "tuple") ⟨o, ho', hc⟩ ?_)
  have ht : (Value.type "tuple" == Value.type "tuple") = true := by rfl
  rw [if_pos (by rw [ht]; simp)]
  refine wpAny_bind (listItems_at ho' hd ?_)
  refine wpAny_bind (listItems_at (xs := #[]) (n := 0) (Heap.get?_push_size _ rfl) rfl ?_)
  rw [if_neg (by simp)]
  refine wpAny_bind (listUpdate_at (xs := #[]) (n := 0) (Heap.get?_push_size _ rfl) rfl ?_ (Nat.zero_le _) (by show (#[] ++ vs.toArray).size ≤ sizeLine + 1; simp only [Array.size_append, List.size_toArray, List.length_nil]; omega))
  refine wpAny_pure ?_
  show wpAny (model prog w) A (do
      let o ← load s.heap.objs.size
      match o.data with
      | .seq xs _ => pure xs.toList
      | _ => unsupported "internal:collect") Q E { s with heap := (s.heap.push (seqObj "list" #[] 0)).update s.heap.objs.size (Obj.mapSeq (· ++ vs.toArray)) }
  refine wpAny_bind (wpAny_load (get?_update_seq (Heap.get?_push_size _ rfl) _) ?_)
  show wpAny _ _ (pure ((#[] : Array Value) ++ vs.toArray).toList) Q E _
  rw [show ((#[] : Array Value) ++ vs.toArray).toList = vs by simp]
  exact wpAny_pure h
theorem sortedT_of_sort {l : Addr} {vs : List Value} {kw : List (Str × Value)} {Q : Value → Shared → Prop} (hl : s.heap.IsTuple l vs.toArray) (hL : vs.length ≤ sizeLine) (ha1 : argsOk "sorted" ⟨[.ref l], kw⟩) (ha2 : ∀ x, argsOk "list.sort" ⟨[.ref x], kw⟩)
    (body : ∀ E' : Value → Shared → Prop, wpAny (model prog w) A.in1.in1 (Builtin.«list.sort» ⟨[.ref (s.heap.objs.size + 1)], kw⟩) (fun f s' => f = .done (.ret .none) ∧ Q (.ref (s.heap.objs.size + 1)) s') E' { s with heap := PySem.W.copyHeap s.heap vs }) :
    wpAny (model prog w) A (call (.builtin "sorted") [.ref l] kw) Q E s := by
  refine call_function_entry_kw kind_sorted plain_sorted entry_sorted ha1 ?_
  unfold Builtin.«sorted»
  refine wpAny_bind (m := checkCount "sorted" 1 1 _) (wpAny_pure ?_)
  refine wpAny_bind (collect_tuple hl ?_ hL)
  refine wpAny_bind (wpAny_newList ?_ hL)
  have hsz : ((s.heap.push (seqObj "list" #[] 0)).update s.heap.objs.size (Obj.mapSeq (· ++ vs.toArray))).objs.size = s.heap.objs.size + 1 := by
    rw [Heap.size_update, size_push']
  show wpAny _ _ _ _ _ { s with heap := PySem.W.copyHeap s.heap vs }
  rw [hsz]
  refine wpAny_bind (wpAny_holding (wpAny_call_entry_kw slot_list_sort ⟨_, PySem.W.copyHeap_at s.heap vs, rfl⟩ entry_list_sort ?body (ha2 _)))
  case body =>
    show wpAny (model prog w) A.in1.in1 (Builtin.«list.sort» ⟨[.ref (s.heap.objs.size + 1)], kw⟩) _ _ _
    refine wpAny_mono (body _) (fun f s' hf => ?_) fun _ _ e => e
    obtain ⟨rfl, hq⟩ := hf
    exact ⟨_, rfl, wpAny_pure ⟨_, rfl, hq⟩⟩
variable {β : Type} {vs : List Value} {bs : List β} {enc : β → PyData} {R : Value → β → Prop}
theorem sortedT_data {l : Addr} {Q : Value → Shared → Prop} (hl : s.heap.IsTuple l vs.toArray) (e : PySem.W.EachIs R vs bs) (er : PySem.W.EachIs (fun v b => ∃ as, Reads s.heap v (enc b) as) vs bs) (hal : PySem.W.AllAlike (bs.map enc)) (hk : PySem.W.Sortable (bs.map enc)) (hL : bs.length ≤ sizeLine)
    (hu : ∀ b, b ∈ bs → A.units + 2 + (enc b).depth < cLine) (h : ∀ out, out.length = bs.length → PySem.W.EachIs R out (bs.mergeSort (PySem.W.dataLe false enc)) → Q (.ref (s.heap.objs.size + 1)) { s with heap := sortedAll s.heap vs (List.toArray out) }) :
    wpAny (model prog w) A (call (.builtin "sorted") [.ref l]) Q E s := by
  have er' : PySem.W.EachIs (fun v b => ∃ as, Reads (PySem.W.sortingHeap (PySem.W.copyHeap s.heap vs) (s.heap.objs.size + 1) vs) v (enc b) as) vs bs := er.mono fun _ _ ⟨as, r⟩ => ⟨as, PyProof.Rows.Reads.keeps (fun _ _ => PySem.W.sorting_copy_old) r⟩
  have S := PySem.W.SortsAt.data (prog := prog) (w := w) (A := A.in1.in1) (s := { s with heap := PySem.W.sortingHeap (PySem.W.copyHeap s.heap vs) (s.heap.objs.size + 1) vs }) (PySem.W.each_map (R := fun v d => ∃ as, Reads (PySem.W.sortingHeap (PySem.W.copyHeap s.heap vs) (s.heap.objs.size + 1) vs) v d as) enc er') hal hk (PySem.W.bound_map hu)
  have hL' : vs.length ≤ sizeLine := by rw [e.length]; exact hL
  exact sortedT_of_sort hl hL' (args_sorted1 _) (fun _ => args_list_sort _) fun _ => PySem.W.list_sort_vals (s := { s with heap := PySem.W.copyHeap s.heap vs }) (PySem.W.copyHeap_at s.heap vs) S hL' ⟨rfl, h _ (by rw [PySem.W.sortVals_length false rfl]; exact e.length) (PySem.W.sortVals_data false e er' hal)⟩
end
def rSrtT (K : PySem.W.Frag) : List V → Hp → VK → Prop := fun vs H Q => ∃ (a : Addr) (xs : List V) (bs : List D) (enc : D → PyData) (Pr : V → D → Prop), vs = [.ref a] ∧ SqT K H a xs ∧ Paired Pr xs bs ∧ (∀ x b, Pr x b → b ∈ bs → Dp K H x (enc b)) ∧
  PySem.W.AllAlike (bs.map enc) ∧ PySem.W.Sortable (bs.map enc) ∧ (∀ b ∈ bs, (enc b).depth ≤ 60) ∧ ∀ ys p, Paired Pr ys (bs.mergeSort (PySem.W.dataLe false enc)) → H p = none → Q (.ref p) (upd H p (.lst ys))
theorem cr_srtT {X : Cx} (hu : X.A.units + 64 < cLine) : CallR X (.builtin "sorted") (rSrtT X.K) := by
  intro pins s σ H vs us Q I r h
  obtain ⟨a, xs, bs, enc, Pr, rfl, hs, hp, hd, hal, hso, hdep, q⟩ := h
  obtain ⟨its, rv, hl, hz⟩ := I.tuple hs
  rw [Vals.ref1 r]
  have e1 := each_vals rv hp
  have hlen : bs.length = its.length := by rw [← Paired.length hp, rv.length]
  have e2 : PySem.W.EachIs (fun v b => ∃ as, Reads s.heap v (enc b) as) its bs := by
    have : ∀ {us : List Value} {cs : List D}, (∀ b ∈ cs, b ∈ bs) → PySem.W.EachIs (fun u b => ∃ x, RelV x u ∧ Pr x b) us cs → PySem.W.EachIs (fun v b => ∃ as, Reads s.heap v (enc b) as) us cs := by
      intro us cs hm e
      induction e with
      | nil => exact .nil
      | cons h t ih =>
        obtain ⟨x, rx, px⟩ := h
        exact .cons (Dp.reads I _ x _ (hd x _ px (hm _ List.mem_cons_self)) rx) (ih fun b hb => hm b (List.mem_cons_of_mem _ hb))
    exact this (fun b h => h) e1
  refine sortedT_data (show s.heap.IsTuple a its.toArray from hl) e1 e2 hal hso (by rw [hlen, ← rv.length]; exact hz) (fun b hb => by have := hdep b hb; omega) fun out ho he => ?_
  obtain ⟨ys, h1, h2⟩ := vals_each he
  obtain ⟨ep, he'⟩ := PyProof.Rows.sortedAll_at s.heap its out.toArray
  have hlen2 : ys.length ≤ sizeLine := by rw [h1.length, ho, hlen, ← rv.length]; exact hz
  exact ⟨.ref _, upd H (s.heap.objs.size + 1) (.lst ys), I.laid (t' := s.toks) (fun _ _ => PyProof.Rows.sortedAll_old) (Nat.le_succ _) ⟨hlen2, out, ep, h1, by simpa using he'⟩, rfl, q ys _ h2 (I.hok.fresh (Nat.le_succ _))⟩
def srtT (S : MS) (ds : List D) : Option D := match ds with
  | [.tup ys] => match toPs S ys with
      | some ps => if srtB ps = true then some (.lst (ys.mergeSort (PySem.W.dataLe false (encD S)))) else none
      | none => none
  | _ => none
theorem cd_srtT {G : Gx} : CallD G (rSrtT G.K) srtT := by
  intro M S H xs ds d Q r rx hg q
  unfold srtT at hg
  split at hg
  · rename_i ys
    obtain ⟨v, rfl, rv⟩ := rx.inv1
    split at hg
    · rename_i ps hps
      split at hg
      · rename_i hb
        cases hg
        obtain ⟨a, vs, rfl, ha, _, _, z, rs⟩ := rv.tup_inv
        obtain ⟨em, et⟩ := toPs_enc hps
        unfold srtB at hb
        rw [Bool.and_eq_true, Bool.and_eq_true, Bool.or_eq_true] at hb
        obtain ⟨h1, h2, h3⟩ := hb
        refine ⟨a, vs, ys, encD S, Rep G M H, rfl, .of ha, reps_paired rs, fun x b px hb => dp1 r px (et b hb), ?_, ?_, ?_, fun zs p hz np => ?_⟩
        · rw [em]
          intro x hx y hy
          exact List.all_eq_true.mp (List.all_eq_true.mp h1 x hx) y hy
        · rw [em]
          rcases h2 with h2 | h2
          · refine .inl fun x hx => ?_
            have := List.all_eq_true.mp h2 x hx
            cases x with
            | tuple l =>
              cases l with
              | nil => cases this
              | cons y l => exact ⟨y, l, rfl⟩
            | _ => cases this
          · refine .inr fun x hx => ?_
            have := List.all_eq_true.mp h2 x hx
            cases x with
            | none => cases this
            | tuple l => cases this
            | _ => exact ⟨(by intro e; cases e), (by intro l e; cases e)⟩
        · intro b hb
          have : encD S b ∈ ps := by rw [← em]; exact List.mem_map.mpr ⟨b, hb, rfl⟩
          exact of_decide_eq_true (List.all_eq_true.mp h3 _ this)
        · have hzl : zs.length ≤ sizeLine := by rw [Paired.length hz, List.length_mergeSort, ← rs.length]; exact z
          exact q _ _ (Ext.new np) (r.laid np) (.lst upd_same (r.fresh np) (r.freshx np) hzl ((paired_reps hz).ext (Ext.new np)))
      · cases hg
    · cases hg
  · cases hg
def srtZ : MS → List D → Option D := orC srtA srtT
def cr_srtZ {X : Cx} (hu : X.A.units + 64 < cLine) := (cr_srtA (X := X) hu).or (cr_srtT hu)
def cd_srtZ {G : Gx} := (cd_srtA (G := G)).or cd_srtT
end Dn

namespace Dn
open PySem PySem.Spec PyProof.Rows L2 LamX
/-! ### a lambda with one parameter -/
structure LamP (sc scope : Scope) (x : Str) : Prop where
  kind : scope.kind = .function
  co : scope.isCoroutine = false
  gen : scope.isGenerator = false
  par : scope.names.lookup x = some .local
  own : ∀ y ∈ scope.names, y.2 ≠ .cell ∧ (y.2 = .local → y.1 = x)
  free : ∀ y ∈ scope.names, y.2 = .free → sc.names.lookup y.1 = some .cell ∨ sc.names.lookup y.1 = some .free
def lamPB (sc scope : Scope) (x : Str) : Bool :=
  decide (scope.kind = .function) && (!scope.isCoroutine && (!scope.isGenerator && (decide (scope.names.lookup x = some .local) && scope.names.all fun y => !decide (y.2 = .cell) && ((!decide (y.2 = .local) || decide (y.1 = x)) && (!decide (y.2 = .free) || (decide (sc.names.lookup y.1 = some .cell) || decide (sc.names.lookup y.1 = some .free)))))))
theorem lamP_by {sc scope : Scope} {x : Str} (h : lamPB sc scope x = true) : LamP sc scope x := by
  unfold lamPB at h
  simp only [Bool.and_eq_true, Bool.or_eq_true, Bool.not_eq_true', decide_eq_true_eq, decide_eq_false_iff_not, List.all_eq_true] at h
  obtain ⟨h1, h2, h3, h4, h5⟩ := h
  refine ⟨h1, h2, h3, h4, fun y hy => ⟨(h5 y hy).1, fun e => (h5 y hy).2.1.resolve_left fun q => q e⟩, fun y hy e => (h5 y hy).2.2.resolve_left fun q => q e⟩
theorem LamP.has {X : Cx} {scope : Scope} {x : Str} (L : LamP X.env.scope scope x) (ok : X.Ok) : ∀ y ∈ scope.names, y.2 = .free → ∃ c, X.env.cells.lookup y.1 = some c := fun y hy e => by
  rcases L.free y hy e with k | k
  · exact ok.has _ (.inl k)
  · exact ok.has _ (.inr k)
section
variable {X : Cx} {pins : List (Addr × Obj)} {σ : L2.St} {H HZ : Hp} {s : Shared}
theorem lam_startP {A : Around} {outer : List Env} {E : XK} {scope : Scope} {f c' : Addr} {h₁ : Heap} {tk j : Nat} {x : Str} {v : V} {u : Value} (I : Inv X pins σ H s) (L : LamP X.env.scope scope x) (hj : X.N[j]? = some x) (nd : X.N.Nodup) (rv : RelV v u)
    (e0 : Env0 X.prog X.w X.K X.mg X.base A outer s HZ) (hd : A.handled = none) (hz : ∀ b, H b = none → HZ b = none) (hns : h₁.Ns s.heap.objs.size fun y => ([(x, u)] : List (Str × Value)).reverse.lookup y) (kp : ∀ b o, s.heap.get? b = some o → h₁.get? b = some o) :
    Inv (lamCx X A outer s HZ E scope f c') [] (σ.set j (some v)) HZ { s with heap := h₁, toks := tk } := by
  -- the captured names stand for the maker's own cells
  have capt : ∀ (y : Str) (c : Addr), (cloFrom X.env.cells scope.names []).lookup y = some c → X.env.cells.lookup y = some c := by
    intro y c e
    cases cloFrom_mem (PySem.mem_of_lookup e) with
    | inl hm => cases hm
    | inr hm =>
      obtain ⟨c1, hc⟩ := L.has I.ok _ hm.1 rfl
      have hc : X.env.cells.lookup y = some c1 := hc
      have : c = c1 := by rw [hm.2, hc] <;> rfl
      exact this ▸ hc
  have there : ∀ y : Str, scope.names.lookup y = some .free → ∃ c, (cloFrom X.env.cells scope.names []).lookup y = some c := by
    intro y hl
    have hy := PySem.mem_of_lookup hl
    exact mem_lookup (cloFrom_has (cells := X.env.cells) (acc := []) hy)
  have same : ∀ (c : Addr) (w : Option Value), s.heap.IsCell c w → h₁.IsCell c w := by
    rintro c w ⟨o, ho, r⟩
    exact ⟨o, kp c o ho, r⟩
  have none_ex : ∀ b : Addr, b ∉ (lamCx X A outer s HZ E scope f c').ex := by
    intro b z
    cases (show b ∈ ([] : List Addr) from z)
  have ok : (lamCx X A outer s HZ E scope f c').Ok := by
    constructor
    case mod => exact e0.mod
    case kind => exact L.kind
    case glob => rfl
    case blt => rfl
    case above => exact Nat.le_refl _
    case inj => exact fun y z c a b => I.ok.inj y z c (capt y c a) (capt z c b)
    case has =>
      intro y hy
      cases (show scope.names.lookup y = some .cell ∨ scope.names.lookup y = some .free from hy) with
      | inl hy => exact absurd rfl (L.own _ (PySem.mem_of_lookup hy)).1
      | inr hy => exact there y hy
    case cab =>
      intro y c z _
      cases (show false = true from z)
    case hd => exact fun _ => hd
    case frames => exact Around.frames_deeper e0.frames
    case stk => exact .inr ⟨rfl, rfl⟩
    case exf => exact fun b z => (none_ex b z).elim
    case bs => exact e0.bs
    case bsz => exact e0.bsz
    case noex => exact fun b _ _ => none_ex b
    case exfs => exact fun b z => (none_ex b z).elim
    case funs => exact e0.funs
    case frf => exact e0.frf
  constructor
  case ok => exact ok
  case os => rfl
  case bare => exact e0.bare
  case base => exact Un.kept kp
  case cell =>
    intro y c e
    obtain ⟨w, z⟩ := I.cell y c (capt y c e)
    exact ⟨w, same c w z⟩
  case free => exact e0.hok.fresh (Nat.le_refl _)
  case freeC => exact fun y c e => hz c (I.freeC y c (capt y c e))
  case pin =>
    intro q hq
    cases (show q ∈ ([] : List (Addr × Obj)) from hq)
  case hok => exact e0.hok.kept kp
  case len =>
    show (σ.set j _).length = _
    rw [List.length_set]
    exact I.len
  case loc =>
    refine ⟨_, hns, ?_⟩
    intro i y v' e1 e2 e3
    have e1 : X.N[i]? = some y := e1
    rcases (show Vis scope y from e3) with k | k | k
    · obtain rfl : y = x := (L.own _ (PySem.mem_of_lookup k)).2 rfl
      have hi := List.getElem?_eq_some_iff.mp e1
      have hj' := List.getElem?_eq_some_iff.mp hj
      have eij : i = j := (List.getElem_inj nd).mp (hi.2.trans hj'.2.symm)
      subst eij
      have hl : i < σ.length := by rw [I.len]; exact hi.1
      rw [List.getElem?_set_self hl] at e2
      cases e2
      refine ⟨u, rv, .inl ⟨k, ?_⟩⟩
      show ([(y, u)] : List (Str × Value)).reverse.lookup y = some u
      simp [List.lookup]
    · exact absurd rfl (L.own _ (PySem.mem_of_lookup k)).1
    · have ne : j ≠ i := by
        rintro rfl
        rw [hj] at e1
        cases e1
        rw [L.par] at k
        cases k
      rw [List.getElem?_set_ne ne] at e2
      have up := L.free _ (PySem.mem_of_lookup k) rfl
      obtain ⟨m, _, told⟩ := I.loc
      obtain ⟨w', r, q⟩ := told i y v' e1 e2 (up.elim (fun z => .inr (.inl z)) (fun z => .inr (.inr z)))
      obtain ⟨c2, h2⟩ := there y k
      cases q with
      | inl q =>
        have q1 : X.env.scope.names.lookup y = some .local := q.1
        rcases up with z | z
        · rw [show X.env.scope.names.lookup y = some .cell from z] at q1; cases q1
        · rw [show X.env.scope.names.lookup y = some .free from z] at q1; cases q1
      | inr q =>
        obtain ⟨_, c3, e', z⟩ := q
        rw [capt y c2 h2] at e'
        cases e'
        exact ⟨w', r, .inr ⟨.inr k, c2, h2, same _ _ z⟩⟩
/-- the heap with the dict at d alone -/
def onlyD (d : Addr) (kvs : List (Key × V)) : Hp := fun b => if b = d then some (.dK kvs) else none
theorem onlyD_at {d : Addr} {kvs : List (Key × V)} : onlyD d kvs d = some (.dK kvs) := if_pos rfl
theorem onlyD_ne {d b : Addr} {kvs : List (Key × V)} (h : b ≠ d) : onlyD d kvs b = none := if_neg h
/-- what a call of the lambda leaves -/
structure LamEnd (X : Cx) (pins : List (Addr × Obj)) (σ : L2.St) (H : Hp) (d : Addr) (n : Int) (h : Str) (s : Shared) (u : Value) (s' : Shared) : Prop where
  inv : Inv X pins σ H s'
  tup : ∃ t its, u = .ref t ∧ s.heap.get? t = none ∧ t ∉ frs X.stack ∧ IsTup s'.heap t its ∧ Vals [.int n, .str h] its.toList
  keep : ∀ b o, b ≠ d → b ∉ frs X.stack → s.heap.get? b = some o → s'.heap.get? b = some o
theorem lam_callP {scope : Scope} {x hx : Str} {i j k : Nat} {f c' : Addr} {pm ctv u : Value} {params : Arguments} {d : Addr} {kvs : List (Key × V)} {n : Int} {h : Str} {p1 p2 p3 p4 p5 : Pos} {k1}
    (I : Inv X pins σ H s) (L : LamP X.env.scope scope x) (hj : X.N[j]? = some x) (hi : X.N[i]? = some hx) (nd : X.N.Nodup) (hfree : scope.names.lookup hx = some .free)
    (hf : s.heap.get? f = some (PySem.W.kla_obj "<lambda>" (X.env.qual ++ "<lambda>") params (.Tuple [.Subscript (.Name hx p1) (.Name x p2) p3, .Name x p4] k1 p5) scope (cloFrom X.env.cells scope.names []) pm c' ctv))
    (hbind : bindArgs (PySem.W.kla_fn "<lambda>" (X.env.qual ++ "<lambda>") params (.Tuple [.Subscript (.Name hx p1) (.Name x p2) p3, .Name x p4] k1 p5) scope (cloFrom X.env.cells scope.names []) pm (.ref c') ctv) ⟨[u], []⟩ = pure [(x, u)])
    (hco : s.heap.CodeRec (.ref c') (X.env.qual ++ "<lambda>")) (hd : H d = some (.dK kvs)) (hs : σ[i]? = some (some (.ref d))) (rv : RelV (.str h) u) (hv : valV kvs (.inr h) = some (.int n)) (hr : Room (k + 2) X.A)
    (dx : (x == ("__debug__" : Str)) = false) (cx : (x == ("__classdict__" : Str)) = false) (dh : (hx == ("__debug__" : Str)) = false) (ch : (hx == ("__classdict__" : Str)) = false) :
    codeAny (model X.prog X.w) X.A.in1 (.call (.ref f) ⟨[u], []⟩) (fun r s' => ∃ v, r = .ok (.ret v) ∧ LamEnd X pins σ H d n h s v s') s := by
  have hz : ∀ b, H b = none → onlyD d kvs b = none := fun b e => onlyD_ne (fun q => by rw [q, hd] at e; cases e)
  have e0 : Env0 X.prog X.w X.K X.mg X.base X.A.in1 X.stack s (onlyD d kvs) := by
    have e := I.env0.in1
    refine ⟨e.frames, e.mod, fun b o q => ⟨(e.bs b o q).1, hz b (e.bs b o q).2⟩, e.bsz, e.funs, fun b hb => hz b (e.frf b hb), fun a o q => ?_, e.bare⟩
    unfold onlyD at q
    split at q
    · rename_i ea
      cases q
      rw [ea]
      exact I.hok d _ hd
    · cases q
  have hr1 : Room (k + 1) X.A.in1 := hr.in1
  have ij : i ≠ j := by
    rintro rfl
    rw [hj] at hi
    cases hi
    rw [L.par] at hfree
    cases hfree
  have sj : j < σ.length := by rw [I.len]; exact (List.getElem?_eq_some_iff.mp hj).1
  refine PySem.W.kla_callFunE hr1.depth hf rfl L.co L.gen rfl hco ?_
  rw [hbind]
  refine wpAny_pure (wpAny_newFunctionEnv (fun y hy => (L.own y hy).1) (fun y hy => ?_) (fun h₁ hns hsb => ⟨I.nolimit.fresh _ hsb, ?_⟩) L.kind)
  · rw [List.mem_singleton.mp hy]; exact L.par
  show codeAny _ _ (.expr _ (lamEnv X scope s.heap.objs.size f c')) _ _
  have kp : ∀ b o, s.heap.get? b = some o → h₁.get? b = some o := fun b o e => hsb.extBut b o (Nat.ne_of_lt (Heap.lt_size e)) (Heap.get?_push_of_some _ e)
  have J : Inv (lamCx X X.A.in1 X.stack s (onlyD d kvs) (fun _ _ _ => False) scope f c') [] (σ.set j (some (.str h))) (onlyD d kvs) { s with heap := h₁, toks := s.toks + ([(x, u)] : List (Str × Value)).length } :=
    lam_startP I L hj nd rv e0 hr1.hd hz hns kp
  have hu : (lamCx X X.A.in1 X.stack s (onlyD d kvs) (fun _ _ _ => False) scope f c').A.units + 1 < cLine := by
    have := (hr1.deeper (lamEnv X scope s.heap.objs.size f c')).un
    show (X.A.in1.deeper (lamEnv X scope s.heap.objs.size f c')).units + 1 < cLine
    omega
  have hN1 : (lamCx X X.A.in1 X.stack s (onlyD d kvs) (fun _ _ _ => False) scope f c').N[i]? = some hx := hi
  have hN2 : (lamCx X X.A.in1 X.stack s (onlyD d kvs) (fun _ _ _ => False) scope f c').N[j]? = some x := hj
  have v1 : Vis (lamCx X X.A.in1 X.stack s (onlyD d kvs) (fun _ _ _ => False) scope f c').env.scope hx := .inr (.inr hfree)
  have v2 : Vis (lamCx X X.A.in1 X.stack s (onlyD d kvs) (fun _ _ _ => False) scope f c').env.scope x := .inl L.par
  have body := pe_tup (pos := p5) (x1 := k1) (pa_cons (pe_dget (pos := p3) hu (pe_var (pos := p1) hN1 v1 dh ch) (pe_var (pos := p2) hN2 v2 dx cx) (fun _ _ => rfl)) (pa_cons (pe_var (pos := p4) hN2 v2 dx cx) pa_nil))
  have rd : tTup (tCons (tDGet (tVar i) (tVar j)) (tCons (tVar j) tNil)) (σ.set j (some (.str h))) (onlyD d kvs) (fun v H' => ∃ p, v = .ref p ∧ onlyD d kvs p = none ∧ H' = upd (onlyD d kvs) p (.tup [.int n, .str h])) := by
    refine ⟨.ref d, by rw [List.getElem?_set_ne (Ne.symm ij)]; exact hs, .str h, List.getElem?_set_self sj, d, .int n, rfl, ?_, .str h, List.getElem?_set_self sj, by show 2 ≤ sizeLine; decide, fun p np => ⟨p, rfl, np, rfl⟩⟩
    have := DGet.k (k := (.inr h : Key)) (onlyD_at (d := d) (kvs := kvs))
    rw [hv] at this
    exact this
  refine PySem.W.kla_codeExpr (wpAny_mono (body.run [] _ _ _ _ J rd) (fun v s' hq => ?_) fun e s' hq => ?_)
  · obtain ⟨w', H', J', rv', p, rfl, np, rfl⟩ := hq
    obtain rfl : v = Value.ref p := rv'
    have un : Un (frs X.stack) [] (onlyD d kvs) (upd (onlyD d kvs) p (.tup [.int n, .str h])) s.heap s'.heap := J'.base
    have hp : s.heap.get? p = none := by
      cases q : s.heap.get? p with
      | none => rfl
      | some o =>
        have := un.free p o q np (by simp)
        rw [upd_same] at this
        cases this
    have hfr : p ∉ frs X.stack := fun z => by
      obtain ⟨_, o, ho, _⟩ := I.stack.mem z
      rw [hp] at ho; cases ho
    have keep : ∀ b o, b ≠ d → b ∉ frs X.stack → s.heap.get? b = some o → s'.heap.get? b = some o := fun b o nb fb e => un.keep b o e (onlyD_ne nb) fb (by simp)
    have pd : d ≠ p := fun q => by rw [← q, onlyD_at] at np; cases np
    refine ⟨_, rfl, ?_, ⟨p, ?_⟩, keep⟩
    · refine I.call' (ch := []) J'.os ⟨fun b o e n' fb _ => un.keep b o e (hz b n') fb (by simp), fun b o e n' fb _ => un.slot b o e (hz b n') fb (by simp), fun b o e n' _ => n', fun b o e _ => un.there b o e (by simp), fun _ _ q => q, fun _ _ _ q => q, fun b ps q => ⟨#[], by rw [q]; simp⟩⟩ ?_ J'.bare (fun b z => absurd z (by simp))
      intro a o ha
      by_cases ea : a = d
      · subst ea
        rw [hd] at ha
        cases ha
        exact J'.hok a _ (by rw [upd_ne pd]; exact onlyD_at)
      · refine (I.hok a o ha).stay (fun b u' hb e => keep b u' ?_ ?_ e) (fun b q => q) fun b xs q => q
        · rcases hb with rfl | hb
          · exact ea
          · rintro rfl; rw [hd] at hb; cases hb
        · rcases hb with rfl | hb
          · exact fun z => by have := I.stkFree _ z; rw [ha] at this; cases this
          · exact fun z => by have := I.stkFree _ z; rw [hb] at this; cases this
    · obtain ⟨_, its, r, ht⟩ := J'.hok p _ upd_same
      exact ⟨its.toArray, rfl, hp, hfr, ht, by simpa using r⟩
  · refine wpAny_mono hq (fun _ s'' z => ?_) fun e' s'' z => ?_
    · obtain ⟨_, _, _, _, _, _, _, _, _, _, _, _, q⟩ := z; exact q.elim
    · obtain ⟨_, _, _, _, _, _, _, _, _, _, _, _, q⟩ := z; exact q.elim
end
end Dn

namespace Dn
open PySem PySem.Spec PyProof.Rows L2 LamX
/-! ### min(e, key=lambda x: (d[x], x), default=None) -/
def keyP (n : Int) (h : Str) : PyData := .tuple [.int n, .str h]
def keyBt (ns : List Int) (hs : List Str) : Nat → Nat → Bool := fun a b => PySem.W.dataLt (keyP (ns.getD a 0) (hs.getD a "")) (keyP (ns.getD b 0) (hs.getD b ""))
theorem codeRec_of {P : Program} {w : World} {H : Hp} {h : Heap} {c : Addr} {q : Str} (k : HOk P w H h) (e : H c = some (CodeO c q)) : h.CodeRec (.ref c) q := by
  obtain ⟨⟨oc, vs, t, a, b, d⟩, _, _⟩ := k c _ e
  exact ⟨c, oc, vs, t, rfl, a, b, d⟩
theorem sqL_extN {K : PySem.W.Frag} {H H' : Hp} {a : Addr} {xs : List V} (e : ExtN H H') (h : SqL K H a xs) : SqL K H' a xs := by
  rcases h with (h | ⟨o, h⟩) | h
  · exact .inl (.inl (e _ _ h fun ps z => by cases z))
  · exact .inl (.inr ⟨o, e _ _ h fun ps z => by cases z⟩)
  · exact .inr h
section
variable {X : Cx} {pins : List (Addr × Obj)} {σ : L2.St} {H : Hp} {s s' : Shared}
/-- things of nobody's turn -/
theorem inv_moved {ch : List Addr} {s2 : Shared} (I2 : Inv X pins σ H s2) (hch : ∀ b ∈ ch, s2.heap.objs.size ≤ b) (I : Inv X pins σ H s) (m : Moved ch (fun a b => b = a) s s') : Inv X pins σ H s' := by
  have fr : ∀ b ∈ ch, H b = none := fun b hb => I2.hok.fresh (hch b hb)
  have ne : ∀ (b : Addr) (o : Obj), s2.heap.get? b = some o → b ∉ ch := fun b o e z => absurd (Heap.lt_size e) (Nat.not_lt.mpr (hch b z))
  refine I.call' (ch := ch) m.os ⟨fun b o e _ _ hb => m.heap b o hb e, fun b o e _ _ hb => ⟨o.slots, m.heap b o hb e⟩, fun _ _ _ n _ => n, fun b o e hb => ⟨o, m.heap b o hb e⟩, fun _ _ q => q, fun _ _ _ q => q, fun b ps q => ⟨#[], by rw [q]; simp⟩⟩ (fun a o ha => ?_) (by rw [m.gens]; exact I.bare) (fun b hb => ⟨.inr (Nat.le_trans I2.sz (hch b hb)), ?_, fun x c e z => ?_, fun p hp z => ?_⟩)
  · refine (I.hok a o ha).stay (fun b u hb e => m.heap b u (fun z => ?_) e) (fun b q => q) fun b xs q => q
    have := fr b z
    rcases hb with rfl | hb
    · rw [ha] at this; cases this
    · rw [hb] at this; cases this
  · exact fun z => absurd I2.lt (Nat.not_lt.mpr (z ▸ hch b hb))
  · obtain ⟨v, o, ho, _⟩ := I2.cell x c e
    exact ne c o ho (z ▸ hb)
  · exact ne p.1 _ (I2.pin p hp).1 (z ▸ hb)
end
/-- H1 is H, or H with the table at P grown by one, its code object new -/
structure Grown (P : Addr) (q : Str) (H H1 : Hp) : Prop where
  tab : TabS H1 P q
  way : H1 = H ∨ ∃ (ps more : Array Value) (c : Addr), H P = some (.tbl ps) ∧ H c = none ∧ H1 = upd (upd H P (.tbl (ps ++ more))) c (CodeO c q)
theorem Grown.keep {P : Addr} {q : Str} {H H1 : Hp} (g : Grown P q H H1) {b : Addr} {o : HO} (h : H b = some o) (nt : NotTab o) : H1 b = some o := by
  rcases g.way with rfl | ⟨ps, more, c, hP, hc, rfl⟩
  · exact h
  · have n1 : b ≠ c := ne_of_none h hc
    have n2 : b ≠ P := fun z => by rw [z, hP] at h; cases h; exact nt
    rw [upd_ne n1, upd_ne n2]; exact h
theorem Grown.dom {P : Addr} {q : Str} {H H1 : Hp} (g : Grown P q H H1) : ∀ b, H b ≠ none → H1 b ≠ none := by
  intro b hb
  rcases g.way with rfl | ⟨ps, more, c, hP, hc, rfl⟩
  · exact hb
  · by_cases n1 : b = c
    · rw [n1] at hb; exact absurd hc hb
    · rw [upd_ne n1]
      by_cases n2 : b = P
      · rw [n2, upd_same]; exact Option.some_ne_none _
      · rw [upd_ne n2]; exact hb
theorem Grown.other {P P' : Addr} {q q' : Str} {H H1 : Hp} (g : Grown P q H H1) (hq : P' = P → q' = q) (t : TabS H P' q') : TabS H1 P' q' := by
  by_cases e : P' = P
  · rw [hq e, e]; exact g.tab
  · obtain ⟨ps, h1, h2, h3⟩ := t
    refine ⟨ps, ?_, h2, fun pos cv hc => ?_⟩
    · rcases g.way with rfl | ⟨ps', more, c, hP, hc, rfl⟩
      · exact h1
      · rw [upd_ne (ne_of_none h1 hc), upd_ne e]; exact h1
    · obtain ⟨c, e1, e2⟩ := h3 pos cv hc
      exact ⟨c, e1, g.keep e2 True.intro⟩
section
variable {X : Cx} {pins : List (Addr × Obj)} {σ : L2.St} {H : Hp} {s : Shared}
/-- a lambda is made -/
theorem lam_new {c P : Addr} {params : Arguments} {body : Expr} {scope : Scope} {pos : Pos} {E : Value → Shared → Prop} {Q : Value → Shared → Prop} (I : Inv X pins σ H s) (TB : TabB X.base X.mg c P) (hcode : X.env.code = .ref c)
    (hT : TabS H P (X.env.qual ++ "<lambda>")) (hdef : defaultsOf params X.env = ([], [])) (hfree : ∀ y ∈ scope.names, y.2 = .free → ∃ c, X.env.cells.lookup y.1 = some c)
    (h : ∀ (f c' : Addr) (pm ctv : Value) (H1 : Hp) (s' : Shared), Inv X pins σ H1 s' → Grown P (X.env.qual ++ "<lambda>") H H1 → H1 c' = some (CodeO c' (X.env.qual ++ "<lambda>")) →
      s'.heap.get? f = some (PySem.W.kla_obj "<lambda>" (X.env.qual ++ "<lambda>") params body scope (cloFrom X.env.cells scope.names []) pm c' ctv) → s.heap.objs.size ≤ f → Q (.ref f) s') :
    wpAny (model X.prog X.w) X.A (eval (.Lambda params body scope pos) X.env) Q E s := by
  have whole := hT
  obtain ⟨ps, hP, triples, told⟩ := hT
  have atP := I.hok P _ hP
  have bm := TB.bm.keeps I.bk
  have gl := I.mod.glob.keeps I.bk
  have hd := TB.code.keeps I.bk
  refine PySem.W.kla_eval hdef ?_
  by_cases hc : codeAmong pos ps.toList = none
  · refine PySem.W.kla_makeFunction (closure_ok hfree) I.ok.glob gl hcode hd atP triples hc TB.gP bm ?_
    intro c' ctv h' tk old ge lt rec_ grown
    obtain ⟨c2, oc, vs, t, e2, hoc, hdt, hv⟩ := rec_
    cases e2
    have le : s.heap.objs.size ≤ h'.objs.size := Nat.le_trans ge (Nat.le_of_lt lt)
    have fresh : H c' = none := I.hok.fresh ge
    have el : (ps ++ #[rawInt pos.line, rawInt pos.col, .ref c']).toList = ps.toList ++ [rawInt pos.line, rawInt pos.col, .ref c'] := by simp
    refine h h'.objs.size c' _ ctv _ _ (inv_table (t' := tk) (q := X.env.qual ++ "<lambda>") I hP (fun b o hb e => Heap.get?_push_of_some _ (old b o hb e)) (Heap.get?_push_of_some _ grown) ge ⟨oc, vs, t, Heap.get?_push_of_some _ hoc, hdt, hv⟩) ⟨?_, .inr ⟨ps, _, c', hP, fresh, rfl⟩⟩ upd_same (Heap.get?_push_size _ rfl) le
    have keepC : ∀ (b : Addr), H b = some (CodeO b (X.env.qual ++ "<lambda>")) → upd (upd H P (.tbl (ps ++ #[rawInt pos.line, rawInt pos.col, .ref c']))) c' (CodeO c' (X.env.qual ++ "<lambda>")) b = some (CodeO b (X.env.qual ++ "<lambda>")) := by
      intro b e
      have n2 : b ≠ P := fun z => by rw [z, hP] at e; exact absurd (Option.some.inj e).symm (codeO_ne ps)
      rw [upd_ne (ne_of_none e fresh), upd_ne n2]; exact e
    refine ⟨_, by rw [upd_ne (ne_of_none hP fresh), upd_same], by rw [el]; exact PySem.TriplesOk_snoc _ _ _ _ triples, ?_⟩
    intro p' cv hcv
    rw [el] at hcv
    cases among_app _ triples hcv with
    | inl z =>
      obtain ⟨c0, a1, a2⟩ := told p' cv z
      exact ⟨c0, a1, keepC c0 a2⟩
    | inr z => exact ⟨c', z, upd_same⟩
  · obtain ⟨cv, hcv⟩ := Option.ne_none_iff_exists'.mp hc
    obtain ⟨c', rfl, hco⟩ := told pos cv hcv
    refine PySem.W.kla_makeFunctionHit (closure_ok hfree) I.ok.glob gl hcode hd atP triples hcv bm ?_
    intro ctv h' tk old le
    exact h h'.objs.size c' _ ctv H _ (I.kept (t' := tk) fun b o e => Heap.get?_push_of_some _ (old b o e)) ⟨whole, .inl rfl⟩ hco (Heap.get?_push_size _ rfl) le
end
def rMinK (K : PySem.W.Frag) (P : Addr) (q : Str) (i : Nat) (σ : L2.St) (Q : VK) (v : V) (H1 : Hp) : Prop := ∃ (a : Addr) (hs : List Str) (d : Addr) (kvs : List (Key × V)) (ns : List Int), v = .ref a ∧ SqL K H1 a (hs.map V.str) ∧ σ[i]? = some (some (.ref d)) ∧ H1 d = some (.dK kvs) ∧
  (∀ t : Nat, t < hs.length → valV kvs (.inr (hs.getD t "")) = some (.int (ns.getD t 0))) ∧ TabS H1 P q ∧ ∀ H2, Grown P q H1 H2 → (hs = [] → Q .non H2) ∧ (hs ≠ [] → Q (.str (hs.getD (argBest (keyBt ns hs) (hs.length - 1)) "")) H2)
def tMinK (K : PySem.W.Frag) (P : Addr) (q : Str) (i : Nat) (te : TE) : TE := fun σ H Q => te σ H (rMinK K P q i σ Q)
def oneV (R : V → Hp → Prop) : List V → Hp → Prop := fun vs H => match vs with
  | [v] => R v H
  | _ => False
theorem argBest_le (bt : Nat → Nat → Bool) : ∀ k, argBest bt k ≤ k
  | 0 => Nat.le_refl _
  | k + 1 => by
    unfold argBest
    split
    · exact Nat.le_refl _
    · exact Nat.le_succ_of_le (argBest_le bt k)
theorem sqL_grown {K : PySem.W.Frag} {P : Addr} {q : Str} {H H' : Hp} {a : Addr} {xs : List V} (g : Grown P q H H') (h : SqL K H a xs) : SqL K H' a xs := by
  rcases h with (h | ⟨o, h⟩) | h
  · exact .inl (.inl (g.keep h True.intro))
  · exact .inl (.inr ⟨o, g.keep h True.intro⟩)
  · exact .inr h
theorem pe_minkey {X : Cx} {e : Expr} {te : TE} {scope : Scope} {x hx : Str} {i j k : Nat} {c P : Addr} {params : Arguments} {p p1 p2 p3 p4 p5 lpos pos kp1 kp2 kp3 : Pos} {k1 kd}
    (hcal : X.calm = true) (hg : Gl X "min") (hm : X.mg "min" = none) (he : PE X e te) (TB : TabB X.base X.mg c P) (hcode : X.env.code = .ref c) (hr : Room (k + 2) X.A)
    (L : LamP X.env.scope scope x) (hj : X.N[j]? = some x) (hi : X.N[i]? = some hx) (nd : X.N.Nodup) (hfree : scope.names.lookup hx = some .free) (hdef : defaultsOf params X.env = ([], []))
    (hbind : ∀ (q : Str) (body : Expr) (cl : List (Str × Addr)) (pm cv ctv u : Value), bindArgs (PySem.W.kla_fn "<lambda>" q params body scope cl pm cv ctv) ⟨[u], []⟩ = pure [(x, u)])
    (dx : (x == ("__debug__" : Str)) = false := by decide) (cx : (x == ("__classdict__" : Str)) = false := by decide) (dh : (hx == ("__debug__" : Str)) = false := by decide) (chx : (hx == ("__classdict__" : Str)) = false := by decide)
    (hes : starEach [e] X.env = (false, eval e X.env) :: starEach [] X.env := by rfl)
    (he' : backTo pos (starEach [e] X.env) = (false, eval e X.env) :: backTo pos (starEach [] X.env) := by rfl) (hpl : (backTo pos (starEach [e] X.env)).any (·.1) = false := by rfl) :
    PE X (.Call (.Name "min" p) [e] [⟨some "key", .Lambda params (.Tuple [.Subscript (.Name hx p1) (.Name x p2) p3, .Name x p4] k1 p5) scope lpos, kp1⟩, ⟨some "default", .Constant .none kd kp2, kp3⟩] pos) (tMinK X.K P (X.env.qual ++ "<lambda>") i te) := by
  refine ⟨fun pins s σ H Q I h => ?_⟩
  refine wpAny_Call_Name_kw (ld_blt I hg hm boot_min ?_)
  refine PyProof.Rows.callWith_kw (thn ((pa_cons he pa_nil hes).run pos pins s σ H (oneV (rMinK X.K P (X.env.qual ++ "<lambda>") i σ Q)) I h) fun us s1 ⟨vs, H1, I1, r1, q1⟩ => ?_) he' hpl rfl rfl
  obtain ⟨v, rfl⟩ : ∃ v, vs = [v] := by
    match vs, q1 with
    | [v], _ => exact ⟨v, rfl⟩
  obtain ⟨a, hs, d, kvs, ns, rfl, hl, hd, hdk, hval, hT, q⟩ := (show rMinK X.K P (X.env.qual ++ "<lambda>") i σ Q v H1 from q1)
  obtain rfl := Vals.ref1 r1
  refine wpAny_evalAll_cons (wpAny_bind (lam_new I1 TB hcode hT hdef (L.has I1.ok) fun f c' pm ctv H2 s2 I2 g2 hco hf hge => wpAny_bind (wpAny_standAt (wpAny_pure ?_))))
  refine wpAny_evalAll_cons (wpAny_bind (Constant_none (wpAny_bind (wpAny_standAt (wpAny_pure (wpAny_evalAll_nil ?_))))))
  show wpAny _ _ (call (.builtin "min") [.ref a] [(Str.ofString "key", .ref f), (Str.ofString "default", .none)]) _ _ s2
  obtain ⟨q0, qn⟩ := q H2 g2
  have hl2 := sqL_grown g2 hl
  have hd2 : H2 d = some (.dK kvs) := g2.keep hdk True.intro
  obtain ⟨its, rvs, pl, hz⟩ := I2.list hl2
  have il := pl.isList
  have hh : X.A.in1.handled = none := I2.ok.hd hcal
  have len : its.length = hs.length := by rw [← rvs.length, List.length_map]
  -- the list is no frame, and no dict
  have aF : a ∉ frs X.stack := by
    intro z
    rcases hl2 with (hl2 | ⟨o, hl2⟩) | ⟨o, _, _, hk, _⟩
    · have := I2.stkFree a z; rw [hl2] at this; cases this
    · have := I2.stkFree a z; rw [hl2] at this; cases this
    · have := (I2.stack.mem z).1
      rw [I2.ok.mod.kin a o hk] at this; cases this
  have aD : ∀ {h : Heap} {vs}, h.IsList a vs → HOk X.prog X.w H2 h → a ≠ d := by
    rintro h vs ⟨o, e1, _, n, e2⟩ ok rfl
    obtain ⟨_, _, _, _, o2, es, ep, e3, _, e4, _⟩ := ok a _ hd2
    rw [e1] at e3; cases e3
    rw [e2] at e4; cases e4
  refine call_min_walkKD (PySem.W.iter_listW (A := X.A.in1) hh il fun s3 e3 W st hb _ hk => ?_)
  have it3 : s2.heap.objs.size < s3.heap.objs.size := hb _ List.mem_cons_self
  have chs : ∀ b ∈ [s3.heap.objs.size, s2.heap.objs.size], s2.heap.objs.size ≤ b := by
    intro b hb'
    simp only [List.mem_cons, List.not_mem_nil, or_false] at hb'
    rcases hb' with rfl | rfl
    · exact Nat.le_of_lt it3
    · exact Nat.le_refl _
  have notch : ∀ (b : Addr) (o : Obj), s2.heap.get? b = some o → b ∉ [s3.heap.objs.size, s2.heap.objs.size] := fun b o e z => absurd (Heap.lt_size e) (Nat.not_lt.mpr (chs b z))
  have chF : ∀ b ∈ [s3.heap.objs.size, s2.heap.objs.size], b ∉ frs X.stack := by
    intro b hb' z
    obtain ⟨_, o, ho, _⟩ := I2.stack.mem z
    exact notch b o ho hb'
  have chD : ∀ b ∈ [s3.heap.objs.size, s2.heap.objs.size], b ≠ d := by
    rintro b hb' rfl
    have := I2.hok.fresh (chs b hb')
    rw [hd2] at this; cases this
  have fF : f ∉ frs X.stack := by
    intro z
    obtain ⟨_, o, ho, _⟩ := I1.stack.mem z
    exact absurd (Heap.lt_size ho) (Nat.not_lt.mpr hge)
  have fD : f ≠ d := by
    rintro rfl
    obtain ⟨_, _, _, _, o2, es, ep, e3, _, e4, _⟩ := I2.hok f _ hd2
    rw [hf] at e3; cases e3; cases e4
  obtain ⟨obj, eobj⟩ : ∃ obj, obj = PySem.W.kla_obj "<lambda>" (X.env.qual ++ "<lambda>") params (.Tuple [.Subscript (.Name hx p1) (.Name x p2) p3, .Name x p4] k1 p5) scope (cloFrom X.env.cells scope.names []) pm c' ctv := ⟨_, rfl⟩
  rw [← eobj] at hf
  refine ⟨_, _, _, _, _, _, _, fun s' => Inv X pins σ H2 s' ∧ s'.heap.get? f = some obj, fun t u s' => ∃ (p : Addr) (vs : Array Value), u = .ref p ∧ p ∉ [s3.heap.objs.size, s2.heap.objs.size] ∧ p ∉ frs X.stack ∧ p ≠ d ∧ IsTup s'.heap p vs ∧ Vals [.int (ns.getD t 0), .str (hs.getD t "")] vs.toList, keyBt ns hs, rfl, W, st, hb, ?_, ⟨?_, hk f _ hf⟩, ?_, ?_⟩
  · -- the run of the keys
    constructor
    · rintro t t' ⟨J, hft⟩ m
      exact ⟨inv_moved I2 chs J m, m.heap f _ (notch f _ hf) hft⟩
    · rintro n u t t' ⟨p, vs, e1, e2, e4, e5, ⟨o, e6, e7⟩, e8⟩ m
      exact ⟨p, vs, e1, e2, e4, e5, ⟨o, m.heap p o e2 e6, e7⟩, e8⟩
    · intro n u t o Q' E' hn hP J hst hS cont
      obtain ⟨J, hft⟩ := J
      obtain ⟨⟨oi, i1, i2⟩, li⟩ := hst
      have hn' : n < hs.length := by rw [← len]; simpa using hn
      have eu : its[n]? = some u := by simpa using hP
      obtain ⟨u', hu', ru⟩ := rvs.get (i := n) (x := .str (hs.getD n "")) (by rw [List.getElem?_map, List.getElem?_eq_getElem hn', List.getD_eq_getElem?_getD, List.getElem?_eq_getElem hn']; rfl)
      rw [eu] at hu'; cases hu'
      have dS : ∃ od, t.heap.get? d = some od := by
        obtain ⟨_, _, _, _, o2, es, ep, q1, _⟩ := J.hok d _ hd2
        exact ⟨o2, q1⟩
      rw [eobj] at hft
      refine wpAny_call (codeAny_mono (lam_callP J L hj hi nd hfree hft (hbind _ _ _ _ _ _ _) (codeRec_of J.hok hco) hd2 hd ru (hval n hn') hr dx cx dh chx) fun r t' hq => ?_)
      obtain ⟨u2, rfl, fin⟩ := hq
      obtain ⟨p, vs, rfl, pn, pF, pT, pV⟩ := fin.tup
      have lD := aD li J.hok
      obtain ⟨ol, l1, l2⟩ := li
      have ps : p ∉ [s3.heap.objs.size, s2.heap.objs.size] := by
        intro z
        simp only [List.mem_cons, List.not_mem_nil, or_false] at z
        rcases z with rfl | rfl
        · rw [hS] at pn; cases pn
        · rw [i1] at pn; cases pn
      have pD : p ≠ d := by
        rintro rfl
        obtain ⟨od, q1⟩ := dS
        rw [q1] at pn; cases pn
      refine cont _ t' ⟨fin.inv, by rw [eobj]; exact fin.keep f _ fD fF hft⟩ ⟨⟨oi, fin.keep _ _ (chD _ (by simp)) (chF _ (by simp)) i1, i2⟩, ⟨ol, fin.keep a _ lD aF l1, l2⟩⟩ (fin.keep _ _ (chD _ (by simp)) (chF _ (by simp)) hS) ⟨p, vs, rfl, ps, pF, pD, pT, pV⟩ ?_
      rintro j' k' ⟨p', vs', e1, e2, e4, e5, ⟨o', e6, e7⟩, e8⟩
      exact ⟨p', vs', e1, e2, e4, e5, ⟨o', fin.keep p' o' e5 e4 e6, e7⟩, e8⟩
    · rintro m n ki kj t Q' E' ⟨J, _⟩ ⟨pi, vi, rfl, _, _, _, ⟨oi, a1, a2, a3, a4⟩, ri⟩ ⟨pj, vj, rfl, _, _, _, ⟨oj, b1, b2, b3, b4⟩, rj⟩ hq
      have rd : ∀ {n : Int} {h : Str} {ws : List Value}, Vals [.int n, .str h] ws → ReadsAll t.heap ws [.int n, .str h] [] := by
        intro n h ws r
        obtain ⟨w1, w2, rfl, x1, x2⟩ := vals2 r
        obtain ⟨t1, rfl⟩ := x1
        obtain ⟨t2, rfl⟩ := x2
        exact .cons (.int _ _) (.cons (.str _ _) .nil)
      refine PySem.W.rcLt_alike (keyP _ _) (keyP _ _) X.A.in1 t (.ref pi) (.ref pj) [] [] (.tuple a1 a2 a4 (rd ri)) (.tuple b1 b2 b4 (rd rj)) (by simp [keyP, PySem.W.alike, PySem.W.alikeAll]) (by simp [keyP]) ?_ _ _ E' Q' hq
      have := hr.un
      have dp : (keyP (ns.getD m 0) (hs.getD m "")).depth ≤ 5 := by simp [keyP, PyData.depth, PyData.depthAll]
      have mn := Nat.min_le_left (keyP (ns.getD m 0) (hs.getD m "")).depth (keyP (ns.getD n 0) (hs.getD n "")).depth
      show X.A.units + 1 + _ < cLine
      omega
  · rw [e3]
    exact I2.kept (t' := s2.toks) fun b o e => Heap.get?_push_of_some _ e
  · rintro hn s' ⟨J, _⟩
    have : hs = [] := List.eq_nil_of_length_eq_zero (by rw [← len]; simpa using hn)
    exact ⟨.non, H2, J, rfl, q0 this⟩
  · rintro hn v s' hP ⟨J, _⟩
    have hn' : 0 < hs.length := by rw [← len]; simpa using hn
    have sz : its.toArray.size = hs.length := by simpa using len
    rw [sz] at hP
    have lt : argBest (keyBt ns hs) (hs.length - 1) < hs.length := by
      have := argBest_le (keyBt ns hs) (hs.length - 1)
      omega
    have eu : its[argBest (keyBt ns hs) (hs.length - 1)]? = some v := by simpa using hP
    obtain ⟨u', hu', ru⟩ := rvs.get (i := argBest (keyBt ns hs) (hs.length - 1)) (x := .str (hs.getD (argBest (keyBt ns hs) (hs.length - 1)) "")) (by rw [List.getElem?_map, List.getElem?_eq_getElem lt, List.getD_eq_getElem?_getD, List.getElem?_eq_getElem lt]; rfl)
    rw [eu] at hu'; cases hu'
    exact ⟨_, H2, J, ru, qn (by intro z; rw [z] at hn'; exact absurd hn' (by simp))⟩
end Dn

namespace Dn
open PySem PySem.Spec PyProof.Rows L2 LamX
/-! ### min by a key -/
theorem rel_grown {G : Gx} {M : Mx} {S : MS} {H H2 : Hp} {P : Addr} {q : Str} (r : Rel G M S H) (hu : ∀ p ∈ G.tb, p.1 = P → p.2 = q) (g : Grown P q H H2) : Ext M H M H2 ∧ Rel G M S H2 := by
  have x : Ext M H M H2 := ⟨⟨[], by simp, by simp⟩, ⟨[], by simp, by simp⟩, fun a o h _ nt => g.keep h nt, g.dom, fun a o u h => g.keep h True.intro⟩
  refine ⟨x, r.len, r.nd, fun i a o hi ho => ?_, fun a ha => ?_, r.dis, fun p hp => ?_⟩
  · have h1 := r.at_ i a o hi ho
    refine h1.ext x ?_
    cases e : H a with
    | none => exact absurd e h1.some
    | some u => exact g.keep e (orep_plain h1 u e).nt
  · obtain ⟨o, e, h⟩ := r.hid a ha
    exact ⟨o, g.keep e h.pl.nt, h⟩
  · exact g.other (fun e => hu p hp e) (r.tab p hp)
def strsOf : List D → Option (List Str)
  | [] => some []
  | .str x :: ds => (strsOf ds).map (x :: ·)
  | _ :: _ => none
theorem strsOf_rep {G : Gx} {M : Mx} {H : Hp} : ∀ {ds : List D} {vs : List V} {hs : List Str}, Reps G M H vs ds → strsOf ds = some hs → vs = hs.map V.str
  | [], _, _, .nil, e => by cases e; rfl
  | d :: ds, _, hs, .cons r t, e => by
    cases d with
    | str x =>
      simp only [strsOf] at e
      cases z : strsOf ds with
      | none => rw [z] at e; cases e
      | some ys =>
        rw [z] at e
        cases e
        rw [r.str_inv, strsOf_rep t z]
        rfl
    | _ => cases e
def intAt (kvs : List (Key × D)) (h : Str) : Option Int := match valG kvs (.inr h) with
  | some (.int n) => some n
  | _ => none
def intsAt (kvs : List (Key × D)) : List Str → Option (List Int)
  | [] => some []
  | h :: hs => match intAt kvs h, intsAt kvs hs with
    | some n, some ns => some (n :: ns)
    | _, _ => none
theorem intsAt_get {kvs : List (Key × D)} : ∀ {hs : List Str} {ns : List Int}, intsAt kvs hs = some ns → ∀ t, t < hs.length → valG kvs (.inr (hs.getD t "")) = some (.int (ns.getD t 0))
  | [], _, _, t, h => by simp at h
  | h :: hs, ns, e, t, ht => by
    simp only [intsAt] at e
    cases z1 : intAt kvs h with
    | none => rw [z1] at e; cases e
    | some n =>
      cases z2 : intsAt kvs hs with
      | none => rw [z1, z2] at e; cases e
      | some ms =>
        rw [z1, z2] at e
        cases e
        cases t with
        | zero =>
          show valG kvs (.inr h) = some (.int n)
          unfold intAt at z1
          split at z1
          · rename_i w; cases z1; exact w
          · cases z1
        | succ t => exact intsAt_get z2 t (by simpa using ht)
def minKD (S : MS) (d o : D) : Option D := match rdL S d, o with
  | some xs, .obj k => match S[k]?, strsOf xs with
    | some (.dK kvs), some hs => match intsAt kvs hs with
      | some ns => if hs.isEmpty then some .non else some (.str (hs.getD (argBest (keyBt ns hs) (hs.length - 1)) ""))
      | none => none
    | _, _ => none
  | _, _ => none
def eMinK (fe : En → MS → R D) (i : Nat) : En → MS → R D := fun ρ S => (fe ρ S).bind fun d S1 => match ρ[i]? with
  | some (some o) => ofO (minKD S1 d o) S1
  | _ => .bad
theorem den_minK {X : Cx} {G : Gx} {W : WX} {fe : En → MS → R D} {e : Expr} {scope : Scope} {x hx : Str} {i j k : Nat} {c P : Addr} {params : Arguments} {p p1 p2 p3 p4 p5 lpos pos kp1 kp2 kp3 : Pos} {k1 kd}
    (hcal : X.calm = true) (hm : X.mg "min" = none) (he : PE X e (tD G W fe)) (TB : TabB X.base X.mg c P) (hcode : X.env.code = .ref c) (hr : Room (k + 2) X.A) (hmem : (P, X.env.qual ++ "<lambda>") ∈ G.tb) (hu : ∀ p ∈ G.tb, p.1 = P → p.2 = X.env.qual ++ "<lambda>")
    (L : LamP X.env.scope scope x) (hj : X.N[j]? = some x) (hi : X.N[i]? = some hx) (nd : X.N.Nodup) (hfree : scope.names.lookup hx = some .free) (hdef : defaultsOf params X.env = ([], []))
    (hbind : ∀ (q : Str) (body : Expr) (cl : List (Str × Addr)) (pm cv ctv u : Value), bindArgs (PySem.W.kla_fn "<lambda>" q params body scope cl pm cv ctv) ⟨[u], []⟩ = pure [(x, u)])
    (dx : (x == ("__debug__" : Str)) = false := by decide) (cx : (x == ("__classdict__" : Str)) = false := by decide) (dh : (hx == ("__debug__" : Str)) = false := by decide) (chx : (hx == ("__classdict__" : Str)) = false := by decide)
    (hK : X.K = G.K := by rfl) (hg : Gl X "min" := by rfl)
    (hes : starEach [e] X.env = (false, eval e X.env) :: starEach [] X.env := by rfl)
    (he' : backTo pos (starEach [e] X.env) = (false, eval e X.env) :: backTo pos (starEach [] X.env) := by rfl) (hpl : (backTo pos (starEach [e] X.env)).any (·.1) = false := by rfl) :
    PE X (.Call (.Name "min" p) [e] [⟨some "key", .Lambda params (.Tuple [.Subscript (.Name hx p1) (.Name x p2) p3, .Name x p4] k1 p5) scope lpos, kp1⟩, ⟨some "default", .Constant .none kd kp2, kp3⟩] pos) (tD G W (eMinK fe i)) := by
  refine pe_imp (pe_minkey hcal hg hm he TB hcode hr L hj hi nd hfree hdef hbind dx cx dh chx hes he' hpl) fun σ H Q ⟨M, S, ρ, r, e, h⟩ => ?_
  refine tD_mono (d_bind h r e) fun v H1 ⟨M1, S1, d1, x1, r1, q1, e1, h1⟩ => ?_
  cases zo : ρ[i]? with
  | none => rw [zo] at h1; exact h1.elim
  | some o =>
    cases o with
    | none => rw [zo] at h1; exact h1.elim
    | some o =>
      rw [zo] at h1
      obtain ⟨res, hd, q⟩ := post_ofO h1
      unfold minKD at hd
      cases zl : rdL S1 d1 with
      | none => rw [zl] at hd; cases hd
      | some xs =>
        rw [zl] at hd
        cases o with
        | obj kk =>
          simp only at hd
          cases zt : S1[kk]? with
          | none => rw [zt] at hd; cases hd
          | some u =>
            cases zs : strsOf xs with
            | none => rw [zt, zs] at hd; cases u <;> cases hd
            | some hs =>
              rw [zt, zs] at hd
              cases u with
              | dK kvs =>
                simp only at hd
                cases zn : intsAt kvs hs with
                | none => rw [zn] at hd; cases hd
                | some ns =>
                  rw [zn] at hd
                  simp only at hd
                  obtain ⟨a, vs, rfl, sq, _, rs⟩ := rdL_inv r1 q1 zl
                  obtain ⟨w, hw, rw_⟩ := e1.2 i _ zo
                  obtain ⟨da, rfl, hmd⟩ := rw_.obj_inv
                  obtain ⟨us, hdk, _, kr⟩ := r1.at_ kk da _ hmd zt
                  rw [strsOf_rep rs zs] at sq
                  refine ⟨a, hs, da, us, ns, rfl, by rw [hK]; exact sq, hw, hdk, fun t ht => ?_, r1.tab _ hmem, fun H2 g => ?_⟩
                  · have := intsAt_get zn t ht
                    rcases kreps_val kr (.inr (hs.getD t "")) with ⟨n1, n2⟩ | ⟨y, dd, n1, n2, rr⟩
                    · rw [n2] at this; cases this
                    · rw [n2] at this; cases this
                      rw [n1, rr.int_inv]
                  · obtain ⟨x2, r2⟩ := rel_grown r1 hu g
                    cases hs with
                    | nil =>
                      simp at hd
                      subst hd
                      exact ⟨fun _ => q M1 H2 _ x2 r2 .non, fun z => absurd rfl z⟩
                    | cons h0 hs =>
                      simp only [List.isEmpty_cons, Bool.false_eq_true, if_false] at hd
                      cases hd
                      exact ⟨fun z => (by cases z), fun _ => q M1 H2 _ x2 r2 (.str _)⟩
              | _ => cases hd
        | _ => cases hd
/-! ### locks -/
mutual
theorem Rep.mem {G : Gx} {M : Mx} {H : Hp} {p : Addr} {o : HO} (hp : p ∈ M.m) : ∀ {v : V} {d : D}, Rep G M H v d → Rep G M (upd H p o) v d
  | _, _, .non => .non
  | _, _, .bl b => .bl b
  | _, _, .int i => .int i
  | _, _, .str x => .str x
  | _, _, .ty n => .ty n
  | _, _, .top c => .top c
  | _, _, .tup h n k z r => .tup (by rw [upd_ne (fun q => n (by rw [q]; exact hp))]; exact h) n k z (Reps.mem hp r)
  | _, _, .exn h n k => .exn (by rw [upd_ne (fun q => n (by rw [q]; exact hp))]; exact h) n k
  | _, _, .lst h n k z r => .lst (by rw [upd_ne (fun q => n (by rw [q]; exact hp))]; exact h) n k z (Reps.mem hp r)
  | _, _, .frz h n k z r => .frz (by rw [upd_ne (fun q => n (by rw [q]; exact hp))]; exact h) n k z (Reps.mem hp r)
  | _, _, .frk h z r => .frk h z (Reps.mem hp r)
  | _, _, .obj (i := i) h => .obj h
theorem Reps.mem {G : Gx} {M : Mx} {H : Hp} {p : Addr} {o : HO} (hp : p ∈ M.m) : ∀ {vs : List V} {ds : List D}, Reps G M H vs ds → Reps G M (upd H p o) vs ds
  | _, _, .nil => .nil
  | _, _, .cons r t => .cons (Rep.mem hp r) (Reps.mem hp t)
end
theorem KReps.mem {κ : Type} {G : Gx} {M : Mx} {H : Hp} {p : Addr} {o : HO} (hp : p ∈ M.m) {vs : List (κ × V)} {ds : List (κ × D)} (h : KReps G M H vs ds) : KReps G M (upd H p o) vs ds :=
  paired_imp (fun _ _ q => ⟨q.1, q.2.mem hp⟩) h
/-- an object turns into any other -/
theorem Rel.turnO {G : Gx} {M : Mx} {S : MS} {H : Hp} (r : Rel G M S H) {i : Nat} {a : Addr} {o : HO} {u : MO} (hi : M.m[i]? = some a) (new : ORep G M (upd H a o) a u) : Rel G M (S.set i u) (upd H a o) := by
  have hj : i < S.length := by rw [← r.len]; exact (List.getElem?_eq_some_iff.mp hi).1
  have hm : a ∈ M.m := List.mem_of_getElem? hi
  have old := orep_plain (r.at_ i a S[i] hi (List.getElem?_eq_getElem hj))
  refine ⟨by simp [r.len], r.nd, fun j b w hj hw => ?_, hid_upd r.hid (.inl fun z => r.dis a z hm), r.dis, fun p hp => tab_upd (r.tab p hp) old⟩
  by_cases q : i = j
  · subst q
    rw [hi] at hj; cases hj
    rw [List.getElem?_set_self (r.len ▸ (List.getElem?_eq_some_iff.mp hi).1)] at hw
    cases hw; exact new
  · rw [List.getElem?_set_ne q] at hw
    refine (r.at_ j b w hj hw).imp (fun _ _ z => z.mem hm) (fun _ _ z => z.mem hm) (upd_ne fun z => q ?_)
    subst z
    have h1 := List.getElem?_eq_some_iff.mp hi
    have h2 := List.getElem?_eq_some_iff.mp hj
    exact (List.getElem_inj r.nd).mp (h1.2.trans h2.2.symm)
theorem Ext.unlock {M M' : Mx} {H H' : Hp} {a : Addr} {l u : HO} (nf : ∀ o u, H a ≠ some (.frz o u)) (hm : a ∈ M.m) (e : Ext M (upd H a l) M' H') : Ext M H M' (upd H' a u) := by
  have ne : ∀ b, H b = none → b ≠ a → upd H a l b = none := fun b h n => by rw [upd_ne n]; exact h
  have back : ∀ b, upd H a l b = none → H b = none := fun b h => by
    by_cases q : b = a
    · rw [q, upd_same] at h; cases h
    · rw [upd_ne q] at h; exact h
  obtain ⟨l1, q1, h1⟩ := e.more
  obtain ⟨l2, q2, h2⟩ := e.hidm
  refine ⟨⟨l1, q1, fun b hb => back b (h1 b hb)⟩, ⟨l2, q2, fun b hb => back b (h2 b hb)⟩, fun b o h n nt => ?_, fun b h => ?_, fun b o v h => ?_⟩
  · have q : b ≠ a := fun z => n (by rw [z]; exact hm)
    rw [upd_ne q]
    exact e.keep b o (by rw [upd_ne q]; exact h) n nt
  · exact upd_dom b (e.dom b (upd_dom b h))
  · have q : b ≠ a := fun z => nf o v (by rw [← z]; exact h)
    rw [upd_ne q]
    exact e.frz b o v (by rw [upd_ne q]; exact h)
/-- the dict in slot i is locked while f runs -/
def lockM (o : Option MO) : Option MO := match o with
  | some (.dK kvs) => some (.lck kvs)
  | some (.dT kvs) => some (.lckT kvs)
  | _ => none
def unlockM (o : Option MO) : Option MO := match o with
  | some (.lck kvs) => some (.dK kvs)
  | some (.lckT kvs) => some (.dT kvs)
  | _ => none
def objAt (ρ : En) (i : Nat) : Option Nat := match ρ[i]? with
  | some (some (.obj k)) => some k
  | _ => none
def eLk (i : Nat) (f : En → MS → R D) : En → MS → R D := fun ρ S => match objAt ρ i with
  | some k => match lockM S[k]? with
    | some l => (noX (f ρ (S.set k l))).bind fun d S1 => match unlockM S1[k]? with
      | some u => .ok d (S1.set k u)
      | none => .bad
    | none => .bad
  | none => .bad
theorem objAt_of {ρ : En} {i k : Nat} (h : objAt ρ i = some k) : ρ[i]? = some (some (.obj k)) := by
  unfold objAt at h
  split at h
  · rename_i w; cases h; exact w
  · cases h
/-- what a lock does -/
theorem lock_at {G : Gx} {M : Mx} {S : MS} {H : Hp} {k : Nat} {a : Addr} {l : MO} (r : Rel G M S H) (hm : M.m[k]? = some a) (hl : lockM S[k]? = some l) : ∃ u : HO, H a = some u ∧ Mut (some u) ∧ (∀ o v, H a ≠ some (.frz o v)) ∧
    ∀ od, Rel G M (S.set k l) (upd H a (.frz od u)) ∧ Ext M H M (upd H a (.frz od u)) ∧ ∀ M' S' H', Ext M (upd H a (.frz od u)) M' H' → Rel G M' S' H' → ∀ v, unlockM S'[k]? = some v → H' a = some (.frz od u) ∧ Ext M H M' (upd H' a u) ∧ Rel G M' (S'.set k v) (upd H' a u) := by
  unfold lockM at hl
  split at hl
  · rename_i kvs hs
    cases hl
    obtain ⟨vs, ha, z, kr⟩ := r.at_ k a _ hm hs
    have nf : ∀ o v, H a ≠ some (.frz o v) := fun o v q => by rw [ha] at q; cases q
    have mm : a ∈ M.m := List.mem_of_getElem? hm
    refine ⟨_, ha, trivial, nf, fun od => ⟨r.turnO hm ⟨od, vs, upd_same, z, kr.mem mm⟩, Ext.put hm nf, fun M' S' H' x r' v hv => ?_⟩⟩
    have hf : H' a = some (.frz od (.dK vs)) := x.frz a od _ upd_same
    have hm' : M'.m[k]? = some a := by
      obtain ⟨l1, q1, _⟩ := x.more
      rw [q1, List.getElem?_append_left (List.getElem?_eq_some_iff.mp hm).1]; exact hm
    refine ⟨hf, x.unlock nf mm, ?_⟩
    unfold unlockM at hv
    split at hv
    · rename_i kvs' hs'
      cases hv
      obtain ⟨o2, vs2, h2, z2, kr2⟩ := r'.at_ k a _ hm' hs'
      rw [hf] at h2; cases h2
      exact r'.turnO hm' ⟨vs, upd_same, z2, kr2.mem (List.mem_of_getElem? hm')⟩
    · rename_i kvs' hs'
      obtain ⟨o2, vs2, h2, _⟩ := r'.at_ k a _ hm' hs'
      rw [hf] at h2; cases h2
    · cases hv
  · rename_i kvs hs
    cases hl
    obtain ⟨vs, ha, z, kr⟩ := r.at_ k a _ hm hs
    have nf : ∀ o v, H a ≠ some (.frz o v) := fun o v q => by rw [ha] at q; cases q
    have mm : a ∈ M.m := List.mem_of_getElem? hm
    refine ⟨_, ha, trivial, nf, fun od => ⟨r.turnO hm ⟨od, vs, upd_same, z, kr.mem mm⟩, Ext.put hm nf, fun M' S' H' x r' v hv => ?_⟩⟩
    have hf : H' a = some (.frz od (.dT vs)) := x.frz a od _ upd_same
    have hm' : M'.m[k]? = some a := by
      obtain ⟨l1, q1, _⟩ := x.more
      rw [q1, List.getElem?_append_left (List.getElem?_eq_some_iff.mp hm).1]; exact hm
    refine ⟨hf, x.unlock nf mm, ?_⟩
    unfold unlockM at hv
    split at hv
    · rename_i kvs' hs'
      obtain ⟨o2, vs2, h2, _⟩ := r'.at_ k a _ hm' hs'
      rw [hf] at h2; cases h2
    · rename_i kvs' hs'
      cases hv
      obtain ⟨o2, vs2, h2, z2, kr2⟩ := r'.at_ k a _ hm' hs'
      rw [hf] at h2; cases h2
      exact r'.turnO hm' ⟨vs, upd_same, z2, kr2.mem (List.mem_of_getElem? hm')⟩
    · cases hv
  · cases hl
theorem den_lock {X : Cx} {G : Gx} {W : WX} {e : Expr} {i : Nat} {f : En → MS → R D} (he : PE X e (tD G W0 f)) : PE X e (tD G W (eLk i f)) := by
  refine pe_imp (pe_lock he) fun σ H Q ⟨M, S, ρ, r, e, h⟩ => ?_
  unfold eLk at h
  cases zo : objAt ρ i with
  | none => rw [zo] at h; exact h.elim
  | some k =>
    simp only [zo] at h
    cases zl : lockM S[k]? with
    | none => rw [zl] at h; exact h.elim
    | some l =>
      simp only [zl] at h
      obtain ⟨w, hw, rw_⟩ := e.2 i _ (objAt_of zo)
      obtain ⟨a, rfl, hm⟩ := rw_.obj_inv
      obtain ⟨u, ha, mu, nf, go⟩ := lock_at r hm zl
      refine ⟨a, u, ha, mu, fun od => ?_⟩
      obtain ⟨r1, x1, back⟩ := go od
      refine ⟨M, S.set k l, ρ, r1, e.ext x1, ?_⟩
      cases zf : f ρ (S.set k l) with
      | bad => rw [zf] at h; exact h.elim
      | exc c S' => rw [zf] at h; exact h.elim
      | ok d S' =>
        rw [zf] at h
        have h' : Post G W σ M H (Rep G) (match unlockM S'[k]? with | some u => .ok d (S'.set k u) | none => .bad) Q := h
        cases zu : unlockM S'[k]? with
        | none => rw [zu] at h'; exact h'.elim
        | some v =>
          rw [zu] at h'
          intro M' H' b x' r' p'
          obtain ⟨q1, q2, q3⟩ := back M' S' H' x' r' v zu
          have hm' : a ∈ M'.m := by
            obtain ⟨l1, q4, _⟩ := x'.more
            rw [q4]; exact List.mem_append_left _ (List.mem_of_getElem? hm)
          exact ⟨q1, h' M' _ b q2 q3 (p'.mem hm')⟩
end Dn

namespace Dn
open PySem PySem.Spec PyProof.Rows L2 LamX
/-! ### dict comprehensions -/
def dcL (p : Pat) (ft : En → MS → R Bool) (fk fv : En → MS → R D) (ρ : En) : List D → List (Key × D) → MS → R (List (Key × D))
  | [], acc, S => .ok acc S
  | d :: ds, acc, S => match bindP p d ρ with
    | some ρ' => (noX (ft ρ' S)).bind fun b S1 => if b = true then (noX (fk ρ' S1)).bind fun k S2 => (noX (fv ρ' S2)).bind fun v S3 => match keyD k with
        | some c => dcL p ft fk fv ρ ds (putG acc c v) S3
        | none => .bad
      else dcL p ft fk fv ρ ds acc S1
    | none => .bad
def eDc (it : En → MS → R (List D)) (p : Pat) (ft : En → MS → R Bool) (fk fv : En → MS → R D) (vs : List Nat) : En → MS → R D := fun ρ S => (it ρ S).bind fun ds S1 => if ds.length ≤ lim then (dcL p ft fk fv (wipeD ρ vs) ds [] S1).bind fun kvs S2 => .ok (.obj S2.length) (S2 ++ [.dK kvs]) else .bad
theorem putG_len {β : Type} (kvs : List (Key × β)) (k : Key) (v : β) : (putG kvs k v).length ≤ kvs.length + 1 := by
  unfold putG
  split
  · rw [List.length_map]; omega
  · rw [List.length_append, List.length_singleton]; exact Nat.le_refl _
theorem putK_len {kvs : List (Key × V)} {ds : List (Key × D)} {G : Gx} {M : Mx} {H : Hp} (r : KReps G M H kvs ds) (k : Key) {y : V} {d : D} (ry : Rep G M H y d) : (putK kvs k y).length ≤ kvs.length + 1 := by
  rw [kreps_len (kreps_put r k ry), kreps_len r]; exact putG_len _ _ _
theorem kreps_hid {G : Gx} {M : Mx} {H : Hp} {p : Addr} {o : HO} (hp : p ∈ M.x) {vs : List (Key × V)} {ds : List (Key × D)} (h : KReps G M H vs ds) : KReps G M (upd H p o) vs ds := paired_imp (fun _ _ q => ⟨q.1, q.2.hid hp⟩) h
theorem dc_read {G : Gx} {W : WX} {J : It} {p : Pat} {ft : En → MS → R Bool} {fk fv : En → MS → R D} {vs : List Nat} {M1 : Mx} {H1 : Hp} {S1 : MS} {σ : L2.St} {ρ : En} {Q : VK} {ds : List D} (hJ : ItR G M1 H1 J (vsrc ds)) (r1 : Rel G M1 S1 H1) (e1 : EnvR G M1 H1 σ ρ)
    (hs : ∀ i ∈ slots p, i ∈ vs) (hn : ds.length ≤ lim) (h : Post G W σ M1 H1 (Rep G) ((dcL p ft fk fv (wipeD ρ vs) ds [] S1).bind fun kvs S2 => .ok (.obj S2.length) (S2 ++ [.dK kvs])) Q) (D : Addr) (hD : H1 D = none) :
    ∃ Wt : Nat → Nat → Hp → Prop, (∃ m, Wt 0 m (upd H1 D (.dK []))) ∧ ∀ i m H, Wt i m H →
      (J.stop i H ∧ Q (.ref D) H) ∨ (J.go i H ∧ ∃ Nx : Hp → Prop, (∀ H', Nx H' → ∃ m', m' < m ∧ Wt (i + 1) m' H') ∧ ∀ x H', J.yld i H x H' → tPat G p x (wipe σ vs) H' fun σ2 H2 => wipe σ2 vs = wipe σ vs ∧ tT G W0 ft σ2 H2 fun b H3 =>
        if b = true then tD G W0 fk σ2 H3 fun y H4 => tD G W0 fv σ2 H4 fun z H5 => ∃ kvs k, y = kV k ∧ H5 D = some (.dK kvs) ∧ kvs.length < sizeLine ∧ Nx (upd H5 D (.dK (putK kvs k z))) else Nx H3) := by
  refine ⟨fun i m H => ∃ M S acc vacc, Ext M1 H1 M H ∧ Rel G M S H ∧ D ∈ M.x ∧ D ∉ M.m ∧ H D = some (.dK vacc) ∧ vacc.length + m ≤ ds.length ∧ ds.length = i + m ∧ KReps G M H vacc acc ∧ Post G W σ M1 H1 (Rep G) ((dcL p ft fk fv (wipeD ρ vs) (ds.drop i) acc S).bind fun kvs S2 => .ok (.obj S2.length) (S2 ++ [.dK kvs])) Q, ?_, ?_⟩
  · exact ⟨ds.length, ⟨M1.m, D :: M1.x⟩, S1, [], [], Ext.hide hD, r1.hide hD, List.mem_cons_self, r1.fresh hD, upd_same, by simp, by simp, .nil, h⟩
  intro i m H ⟨M, S, acc, vacc, x0, r, dx, dm, hd, hz, hm, ra, h⟩
  have hi := hJ M H S x0.w r i
  unfold vsrc at hi
  by_cases q : i < ds.length
  · have zd : ds[i]? = some ds[i] := List.getElem?_eq_getElem q
    rw [zd] at hi
    have hdr : ds.drop i = ds[i] :: ds.drop (i + 1) := List.drop_eq_getElem_cons q
    rw [hdr] at h
    obtain ⟨m, rfl⟩ : ∃ m', m = m' + 1 := ⟨m - 1, by omega⟩
    generalize ds[i] = d at hi h
    refine .inr ⟨hi.1, fun H => ∃ M S acc vacc, Ext M1 H1 M H ∧ Rel G M S H ∧ D ∈ M.x ∧ D ∉ M.m ∧ H D = some (.dK vacc) ∧ vacc.length + m ≤ ds.length ∧ ds.length = (i + 1) + m ∧ KReps G M H vacc acc ∧ Post G W σ M1 H1 (Rep G) ((dcL p ft fk fv (wipeD ρ vs) (ds.drop (i + 1)) acc S).bind fun kvs S2 => .ok (.obj S2.length) (S2 ++ [.dK kvs])) Q, fun H' q => ⟨m, Nat.lt_succ_self m, q⟩, fun x H' hy => ?_⟩
    obtain ⟨x2, r2, p2⟩ := hi.2 x H' hy
    have x02 := x0.trans x2
    have hd2 : H' D = some (.dK vacc) := x2.keep D _ hd dm
    unfold dcL at h
    cases zb : bindP p d (wipeD ρ vs) with
    | none => rw [zb] at h; exact h.elim
    | some ρ' =>
      simp only [zb] at h
      refine ⟨M, wipeD ρ vs, d, ρ', (e1.wipe vs).ext x02, p2, zb, fun σ2 e2 w2 => ⟨?_, M, S, ρ', r2, e2, ?_⟩⟩
      · have hw := wipe_sub w2 hs
        rw [hw, wipe_wipe]
      cases zt : ft ρ' S with
      | bad => rw [zt] at h; exact h
      | exc c S' => rw [zt] at h; exact h.elim
      | ok b S3 =>
        rw [zt] at h
        intro M3 H3 b' x3 r3 eb
        have eb' : b' = b := eb
        rw [eb']
        have x03 := x02.trans x3
        have dm3 : D ∉ M3.m := x3.notin hd2 dm
        have dx3 : D ∈ M3.x := x3.subx D dx
        have hd3 : H3 D = some (.dK vacc) := x3.keep D _ hd2 dm
        have ra3 := (KReps.ext x2 ra).ext x3
        cases hb0 : b with
        | false =>
          rw [hb0] at h
          rw [if_neg Bool.false_ne_true]
          exact ⟨M3, S3, acc, vacc, x03, r3, dx3, dm3, hd3, by omega, by omega, ra3, h⟩
        | true =>
          rw [hb0] at h
          rw [if_pos rfl]
          refine ⟨M3, S3, ρ', r3, e2.ext x3, ?_⟩
          change Post G W σ M1 H1 (Rep G) (((noX (fk ρ' S3)).bind fun k S2 => (noX (fv ρ' S2)).bind fun v S3 => match keyD k with | some c => dcL p ft fk fv (wipeD ρ vs) (ds.drop (i + 1)) (putG acc c v) S3 | none => .bad).bind fun kvs S2 => .ok (.obj S2.length) (S2 ++ [.dK kvs])) Q at h
          cases ze : fk ρ' S3 with
          | bad => rw [ze] at h; exact h
          | exc c S' => rw [ze] at h; exact h.elim
          | ok y S4 =>
            rw [ze] at h
            intro M4 H4 v x4 r4 p4
            have dm4 : D ∉ M4.m := x4.notin hd3 dm3
            have dx4 : D ∈ M4.x := x4.subx D dx3
            have hd4 : H4 D = some (.dK vacc) := x4.keep D _ hd3 dm3
            refine ⟨M4, S4, ρ', r4, (e2.ext x3).ext x4, ?_⟩
            change Post G W σ M1 H1 (Rep G) (((noX (fv ρ' S4)).bind fun v S3 => match keyD y with | some c => dcL p ft fk fv (wipeD ρ vs) (ds.drop (i + 1)) (putG acc c v) S3 | none => .bad).bind fun kvs S2 => .ok (.obj S2.length) (S2 ++ [.dK kvs])) Q at h
            cases zv : fv ρ' S4 with
            | bad => rw [zv] at h; exact h
            | exc c S' => rw [zv] at h; exact h.elim
            | ok y2 S5 =>
              rw [zv] at h
              intro M5 H5 v2 x5 r5 p5
              have dm5 : D ∉ M5.m := x5.notin hd4 dm4
              have dx5 : D ∈ M5.x := x5.subx D dx4
              have hd5 : H5 D = some (.dK vacc) := x5.keep D _ hd4 dm4
              change Post G W σ M1 H1 (Rep G) (R.bind (match keyD y with | some c => dcL p ft fk fv (wipeD ρ vs) (ds.drop (i + 1)) (putG acc c y2) S5 | none => .bad) fun kvs S2 => .ok (.obj S2.length) (S2 ++ [MO.dK kvs])) Q at h
              cases zk : keyD y with
              | none => rw [zk] at h; exact h.elim
              | some c =>
                rw [zk] at h
                have kr5 := (ra3.ext x4).ext x5
                have kl := putK_len kr5 c p5
                refine ⟨vacc, c, keyD_rep (p4.ext x5) zk, hd5, Nat.lt_of_lt_of_le (show vacc.length < 100000 by unfold lim at hn; omega) (by decide), M5, S5, putG acc c y2, putK vacc c v2, ((x03.trans x4).trans x5).turn hD, r5.turn dx5 dm5, dx5, dm5, upd_same, by omega, by omega, kreps_put (kreps_hid dx5 kr5) c (p5.hid dx5), h⟩
  · have zd : ds[i]? = none := List.getElem?_eq_none (by omega)
    rw [zd] at hi
    have hdr : ds.drop i = [] := List.drop_eq_nil_of_le (by omega)
    rw [hdr] at h
    change Post G W σ M1 H1 (Rep G) (.ok (.obj S.length) (S ++ [.dK acc])) Q at h
    refine .inl ⟨hi, ?_⟩
    have sub : ∀ a ∈ D :: M1.x, a ∈ M.x := fun a ha => by
      rcases List.mem_cons.mp ha with rfl | ha
      · exact dx
      · exact x0.subx a ha
    have r' : Rel G ⟨M.m, D :: M1.x⟩ S H := r.sub sub
    have hz2 : vacc.length ≤ sizeLine := Nat.le_trans (show vacc.length ≤ 100000 by unfold lim at hn; omega) (by decide)
    have kr : KReps G ⟨M.m ++ [D], M1.x⟩ H vacc acc := paired_imp (fun _ _ q => ⟨q.1, (q.2.sub sub : Rep G ⟨M.m, D :: M1.x⟩ H _ _).own⟩) ra
    refine h ⟨M.m ++ [D], M1.x⟩ H (.ref D) (x0.sub.own hD) (r'.own dm (r1.freshx hD) ⟨vacc, hd, hz2, kr⟩) (.obj ?_)
    show (M.m ++ [D])[S.length]? = some D
    have rl : M.m.length = S.length := r.len
    rw [← rl, List.getElem?_append_right (Nat.le_refl _), Nat.sub_self]; rfl
section
variable {X : Cx} {G : Gx} {W : WX} {kx vx tg iter : Expr} {ifs : List Expr} {scope : Scope} {own : List (Str × Nat)} {pos : Pos} {p : Pat} {ft : En → MS → R Bool} {fk fv : En → MS → R D}
theorem den_dc {it : En → MS → R (List D)} (hc : X.calm = true) (hN : X.N.Nodup) (hi : PI X tg iter (tIV G W it)) (ok : BlkOk X.N X.env.scope scope own) (hs : ∀ i ∈ slots p, i ∈ own.map (·.2))
    (hg : ∀ (s : Shared) (H : Hp) (C : Addr) (cl : List (Str × Addr)) (fp : List Addr), PG (X.blk s H scope (compEnvC scope cl C X.env) fp) tg (tPat G p))
    (ht : ∀ (s : Shared) (H : Hp) (C : Addr) (cl : List (Str × Addr)) (fp : List Addr), PTs (X.blk s H scope (compEnvC scope cl C X.env) fp) ifs (tT G W0 ft))
    (hk : ∀ (s : Shared) (H : Hp) (C : Addr) (cl : List (Str × Addr)) (fp : List Addr), PE (X.blk s H scope (compEnvC scope cl C X.env) fp) kx (tD G W0 fk))
    (he : ∀ (s : Shared) (H : Hp) (C : Addr) (cl : List (Str × Addr)) (fp : List Addr), PE (X.blk s H scope (compEnvC scope cl C X.env) fp) vx (tD G W0 fv)) (hfs : ∀ x, foldedSetIterable iter X.env x = pure x := by intro _; rfl) :
    PE X (.DictComp kx vx [⟨tg, iter, ifs, 0⟩] scope pos) (tD G W (eDc it p ft fk fv (own.map (·.2)))) := by
  refine pe_imp (pe_dc hc hN hi ok hg ht hk he hfs) fun σ H Q ⟨M, S, ρ, r, e, h⟩ => ⟨M, S, ρ, r, e, ?_⟩
  unfold eDc at h
  cases z : it ρ S with
  | bad => rw [z] at h; exact h
  | exc c S' => rw [z] at h; exact h
  | ok ds S' =>
    rw [z] at h
    intro M1 H1 J x1 r1 hJ D hD
    by_cases q : ds.length ≤ lim
    · change Post G W σ M H (Rep G) (if ds.length ≤ lim then _ else _) Q at h
      rw [if_pos q] at h
      exact dc_read hJ r1 (e.ext x1) hs q (h.ext x1) D hD
    · change Post G W σ M H (Rep G) (if ds.length ≤ lim then _ else _) Q at h
      rw [if_neg q] at h; exact h.elim
end
/-! ### d[k] = v, d[k] op= v -/
def putD (S : MS) (o k v : D) : Option MS := match o, keyD k with
  | .obj i, some c => match S[i]? with
    | some (.dK kvs) => if kvs.length < lim then some (S.set i (.dK (putG kvs c v))) else none
    | _ => none
  | _, _ => none
theorem dk_nf {H : Hp} {a : Addr} {vs : List (Key × V)} (h : H a = some (.dK vs)) : ∀ o u, H a ≠ some (.frz o u) := fun o u z => by rw [h] at z; cases z
theorem putD_ok {G : Gx} {M : Mx} {S S' : MS} {H : Hp} {vo vk vv : V} {o k v : D} (r : Rel G M S H) (ro : Rep G M H vo o) (rk : Rep G M H vk k) (rv : Rep G M H vv v) (h : putD S o k v = some S') : ∃ a H', vo = .ref a ∧ DPut H a vk vv H' ∧ Ext M H M H' ∧ Rel G M S' H' := by
  unfold putD at h
  split at h
  · rename_i i c hk
    split at h
    · rename_i kvs hs
      split at h
      · rename_i hl
        cases h
        obtain ⟨a, rfl, hm⟩ := ro.obj_inv
        obtain ⟨us, ha, z, kr⟩ := r.at_ i a _ hm hs
        have ul : us.length < 100000 := by rw [kreps_len kr]; exact hl
        have ek := keyD_rep rk hk
        subst ek
        have x := Ext.put (o := .dK (putK us c vv)) hm (dk_nf ha)
        refine ⟨a, _, rfl, DPut.k ha (Nat.lt_of_lt_of_le ul (by decide)), x, r.put hm (dk_nf ha) ⟨putK us c vv, upd_same, ?_, kreps_put (KReps.ext x kr) c (rv.ext x)⟩⟩
        have := putK_len kr c rv
        exact Nat.le_trans (show _ ≤ 100000 by omega) (by decide)
      · cases h
    · cases h
  · cases h
def sDput (fv fo fk : En → MS → R D) : En → MS → RS := fun ρ S => (fv ρ S).bindS ρ fun v S1 => (fo ρ S1).bindS ρ fun o S2 => (fk ρ S2).bindS ρ fun k S3 => match putD S3 o k v with
  | some S4 => .nx ρ S4
  | none => .bad
theorem dens_dput {X : Cx} {G : Gx} {W : WX} {o i value : Expr} {pos pos' : Pos} {fv fo fk : En → MS → R D} (hu : X.A.units + 64 < cLine) (hv : PE X value (tD G W fv)) (ho : PE X o (tD G W fo)) (hi : PE X i (tD G W fk)) (hs : swapsWith value (some (.Subscript o i pos')) pos.line X.env = pure false := by rfl) :
    PS X (.Assign [.Subscript o i pos'] value pos) (tS G W (sDput fv fo fk)) := by
  refine ps_imp (ps_dput (by omega) ho hi hv hs) fun D σ H ⟨M, S, ρ, r, e, h⟩ => ?_
  refine tD_mono (ds_bind h r e) fun v H1 ⟨M1, S1, d1, x1, r1, p1, e1, h1⟩ => ?_
  refine tD_mono (ds_bind h1 r1 e1) fun vo H2 ⟨M2, S2, d2, x2, r2, p2, e2, h2⟩ => ?_
  refine tD_mono (ds_bind h2 r2 e2) fun vk H3 ⟨M3, S3, d3, x3, r3, p3, e3, h3⟩ => ?_
  cases z : putD S3 d2 d3 d1 with
  | none => rw [z] at h3; exact h3.elim
  | some S4 =>
    rw [z] at h3
    obtain ⟨a, H', ea, dp, x4, r4⟩ := putD_ok r3 (p2.ext x3) p3 ((p1.ext x2).ext x3) z
    exact ⟨a, H', ea, dp, h3 M3 H' σ x4 r4 (e3.ext x4)⟩
/-- an operator in place: on data that don't turn, the plain one -/
def sDaug (g : MS → D → D → Option D) (fo fk fv : En → MS → R D) : En → MS → RS := fun ρ S => (fo ρ S).bindS ρ fun o S1 => (fk ρ S1).bindS ρ fun k S2 => (ofO (ixK S2 o k) S2).bindS ρ fun x S3 => (fv ρ S3).bindS ρ fun y S4 => (ofO (g S4 x y) S4).bindS ρ fun z S5 => match putD S5 o k z with
  | some S6 => .nx ρ S6
  | none => .bad
theorem ixK_ok {G : Gx} {M : Mx} {S : MS} {H : Hp} {vo vk : V} {o k d : D} (r : Rel G M S H) (ro : Rep G M H vo o) (rk : Rep G M H vk k) (h : ixK S o k = some d) : ∃ a y, vo = .ref a ∧ DGet H a vk (some y) ∧ Rep G M H y d := by
  unfold ixK at h
  split at h
  · rename_i i c hk
    split at h
    · rename_i kvs hs
      obtain ⟨a, us, rfl, ha, kr⟩ := dk_at r ro hs
      rcases kreps_val kr c with ⟨n1, n2⟩ | ⟨y, d', n1, n2, rr⟩
      · rw [n2] at h; cases h
      · rw [n2] at h; cases h
        exact ⟨a, y, rfl, .inl ⟨us, c, .inl ha, keyD_rep rk hk, n1.symm⟩, rr⟩
    · cases h
  · cases h
theorem dens_daug {X : Cx} {G : Gx} {W : WX} {op : Operator} {rd : R2} {g : MS → D → D → Option D} {o i value : Expr} {pos tpos : Pos} {fv fo fk : En → MS → R D} (hu : X.A.units + 64 < cLine) (hop : InOp X op rd) (hg : OpD G rd g) (ho : PE X o (tD G W fo)) (hi : PE X i (tD G W fk)) (hv : PE X value (tD G W fv))
    (ha : ∀ ov iv new, augStore i ov iv new = (do holding [new, ov, iv] (setItem ov iv new); release [new, ov, iv] []; pure .next) := by intros; rfl) : PS X (.AugAssign (.Subscript o i tpos) op value pos) (tS G W (sDaug g fo fk fv)) := by
  refine ps_imp (ps_daug (by omega) ho hi hv hop ha) fun D σ H ⟨M, S, ρ, r, e, h⟩ => ?_
  refine tD_mono (ds_bind h r e) fun vo H1 ⟨M1, S1, d1, x1, r1, p1, e1, h1⟩ => ?_
  refine tD_mono (ds_bind h1 r1 e1) fun vk H2 ⟨M2, S2, d2, x2, r2, p2, e2, h2⟩ => ?_
  cases z : ixK S2 d1 d2 with
  | none => rw [z] at h2; exact h2.elim
  | some dx =>
    rw [z] at h2
    obtain ⟨a, y, ea, dg, ry⟩ := ixK_ok r2 (p1.ext x2) p2 z
    refine ⟨a, y, ea, dg, tD_mono (ds_bind h2 r2 e2) fun v H3 ⟨M3, S3, d3, x3, r3, p3, e3, h3⟩ => ?_⟩
    cases zg : g S3 dx d3 with
    | none => rw [zg] at h3; exact h3.elim
    | some dz =>
      rw [zg] at h3
      refine hg M3 S3 H3 y v dx d3 dz _ r3 (ry.ext x3) p3 zg fun H4 w x4 r4 p4 => ?_
      change PostS G W M3 H3 (match putD S3 d1 d2 dz with | some S6 => .nx ρ S6 | none => .bad) D at h3
      cases zp : putD S3 d1 d2 dz with
      | none => rw [zp] at h3; exact h3.elim
      | some S6 =>
        rw [zp] at h3
        obtain ⟨a', H', ea', dp, x5, r5⟩ := putD_ok r4 (((p1.ext x2).ext x3).ext x4) ((p2.ext x3).ext x4) p4 zp
        rw [ea] at ea'; cases ea'
        exact ⟨H', dp, h3 M3 H' σ (x4.trans x5) r5 ((e3.ext x4).ext x5)⟩
/-! ### the keys of a locked dict -/
def keyToD : Key → D
  | .inl i => .int i
  | .inr x => .str x
def keysD (S : MS) (d : D) : Option (List D) := match d with
  | .obj k => match S[k]? with
    | some (.lck kvs) => some (kvs.map fun p => keyToD p.1)
    | some (.lckT kvs) => if (kvs.all fun p => decide (p.1.length ≤ 1000)) = true then some (kvs.map fun p => .tup (p.1.map keyToD)) else none
    | _ => none
  | _ => none
def iKeyD (f : En → MS → R D) : En → MS → R (List D) := fun ρ S => (f ρ S).bind fun d S1 => ofO (keysD S1 d) S1
theorem keyToD_rep {G : Gx} {M : Mx} {H : Hp} (k : Key) : Rep G M H (kV k) (keyToD k) := by
  cases k with
  | inl i => exact .int i
  | inr x => exact .str x
theorem keysToD_rep {G : Gx} {M : Mx} {H : Hp} : ∀ ks : List Key, Reps G M H (ks.map kV) (ks.map keyToD)
  | [] => .nil
  | k :: ks => .cons (keyToD_rep k) (keysToD_rep ks)
theorem kreps_at {κ : Type} {G : Gx} {M : Mx} {H : Hp} : ∀ {vs : List (κ × V)} {ds : List (κ × D)}, KReps G M H vs ds → ∀ i : Nat, vs[i]?.map (·.1) = ds[i]?.map (·.1)
  | _, _, .nil, i => by simp
  | _, _, .cons r t, 0 => by simp [r.1]
  | _, _, .cons r t, i + 1 => by simpa using kreps_at t i
theorem rel_notup {G : Gx} {M : Mx} {S : MS} {H : Hp} (r : Rel G M S H) {a : Addr} {xs : List V} (h : H a = some (.tup xs)) : a ∉ M.m ∧ a ∉ M.x := by
  constructor
  · intro hm
    obtain ⟨i, hi, rfl⟩ := List.mem_iff_getElem.mp hm
    have hj : i < S.length := by rw [← r.len]; exact hi
    have o := r.at_ i M.m[i] S[i] (List.getElem?_eq_getElem hi) (List.getElem?_eq_getElem hj)
    cases q : S[i] with
    | lst ys => rw [q] at o; obtain ⟨_, e, _⟩ := o; rw [h] at e; cases e
    | dK ys => rw [q] at o; obtain ⟨_, e, _⟩ := o; rw [h] at e; cases e
    | dT ys => rw [q] at o; obtain ⟨_, e, _⟩ := o; rw [h] at e; cases e
    | ins c ys => rw [q] at o; obtain ⟨_, _, e, _⟩ := o; rw [h] at e; cases e
    | lck ys => rw [q] at o; obtain ⟨_, _, e, _⟩ := o; rw [h] at e; cases e
    | lckT ys => rw [q] at o; obtain ⟨_, _, e, _⟩ := o; rw [h] at e; cases e
    | out => rw [q] at o; exact o
  · intro hx
    obtain ⟨o, e, hh⟩ := r.hid a hx
    rw [h] at e; cases e; exact hh
theorem deni_keys {X : Cx} {G : Gx} {W : WX} {tg e : Expr} {f : En → MS → R D} (he : PE X e (tD G W f)) : PI X tg e (tIV G W (iKeyD f)) := by
  refine pi_imp (pi_keys he) fun σ H Rk ⟨M, S, ρ, r, e, h⟩ => ?_
  unfold iKeyD at h
  refine ⟨M, S, ρ, r, e, ?_⟩
  cases z : f ρ S with
  | bad => rw [z] at h; exact h.elim
  | exc c S' => rw [z] at h; exact h
  | ok d S' =>
    rw [z] at h
    intro M1 H1 v x1 r1 p1
    change match ofO (keysD S' d) S' with | .ok ds S'' => ∀ M' H' J, Ext M H M' H' → Rel G M' S'' H' → ItR G M' H' J (vsrc ds) → Rk J H' | .exc c S'' => _ | .bad => False at h
    cases zk : keysD S' d with
    | none => rw [zk] at h; exact h.elim
    | some ks =>
      rw [zk] at h
      change ∀ M' H' J, Ext M H M' H' → Rel G M' S' H' → ItR G M' H' J (vsrc ks) → Rk J H' at h
      unfold keysD at zk
      split at zk
      · rename_i k
        obtain ⟨a, rfl, hm⟩ := p1.obj_inv
        split at zk
        · rename_i kvs hs
          cases zk
          obtain ⟨o, us, ha, _, kr⟩ := r1.at_ k a _ hm hs
          refine ⟨a, o, rfl, .inl ⟨us, ha, h M1 H1 _ x1 r1 fun M2 H2 S2 x2 r2 i => ?_⟩⟩
          have hf := x2.frz a o _ ha
          have ki := kreps_at kr i
          unfold vsrc
          rw [List.getElem?_map]
          cases q : kvs[i]? with
          | none =>
            show H2 a = some (.frz o (.dK us)) ∧ us.length ≤ i
            refine ⟨hf, ?_⟩
            rw [kreps_len kr]
            exact List.getElem?_eq_none_iff.mp q
          | some w =>
            rw [q] at ki
            refine ⟨⟨hf, ?_⟩, fun x H3 hy => ?_⟩
            · rw [kreps_len kr]; exact (List.getElem?_eq_some_iff.mp q).1
            · obtain ⟨rfl, k', v', e1, rfl⟩ := hy
              rw [e1] at ki
              have ek : k' = w.1 := by simpa using ki
              exact ⟨Ext.refl _ _, r2, by rw [ek]; exact keyToD_rep w.1⟩
        · rename_i kvs hs
          split at zk
          · rename_i hall
            cases zk
            obtain ⟨o, us, ha, _, kr⟩ := r1.at_ k a _ hm hs
            refine ⟨a, o, rfl, .inr ⟨us, ha, h M1 H1 _ x1 r1 fun M2 H2 S2 x2 r2 i => ?_⟩⟩
            have hf := x2.frz a o _ ha
            have ki := kreps_at kr i
            unfold vsrc
            rw [List.getElem?_map]
            cases q : kvs[i]? with
            | none =>
              show H2 a = some (.frz o (.dT us)) ∧ us.length ≤ i
              refine ⟨hf, ?_⟩
              rw [kreps_len kr]
              exact List.getElem?_eq_none_iff.mp q
            | some w =>
              rw [q] at ki
              refine ⟨⟨hf, ?_⟩, fun x H3 hy => ?_⟩
              · rw [kreps_len kr]; exact (List.getElem?_eq_some_iff.mp q).1
              · obtain ⟨rfl, k', v', qa, e1, rfl, hq⟩ := hy
                rw [e1] at ki
                have ek : k' = w.1 := by simpa using ki
                have hl := List.all_eq_true.mp hall w (List.mem_of_getElem? q)
                rw [decide_eq_true_eq] at hl
                obtain ⟨n1, n2⟩ := rel_notup r2 hq
                refine ⟨Ext.refl _ _, r2, ?_⟩
                rw [ek] at hq
                exact .tup hq n1 n2 (thou (by rw [List.length_map]; exact hl)) (keysToD_rep _)
          · cases zk
        · cases zk
      · cases zk
/-! ### min of data -/
def rMinX (K : PySem.W.Frag) : List V → Hp → VK → Prop := fun vs H Q => ∃ (a : Addr) (xs : List V) (ps : List PyData), vs = [.ref a] ∧ SqL K H a xs ∧ xs.length = ps.length ∧ (∀ i x, xs[i]? = some x → Dp K H x (ps.getD i .none)) ∧ ps ≠ [] ∧ (∀ d ∈ ps, ∀ e ∈ ps, PySem.W.alike d e = true) ∧ (∀ d ∈ ps, d ≠ .none) ∧ (∀ d ∈ ps, d.depth ≤ 60) ∧
  ∀ y, xs[argBest (fun i j => PySem.W.dataLt (ps.getD i .none) (ps.getD j .none)) (ps.length - 1)]? = some y → Q y H
theorem getD_mem {ps : List PyData} {i : Nat} (h : i < ps.length) : ps.getD i .none ∈ ps := by
  rw [List.getD_eq_getElem?_getD, List.getElem?_eq_getElem h]; exact List.getElem_mem _
theorem cr_minX {X : Cx} (hc : X.calm = true) (hu : X.A.units + 64 < cLine) : CallR X (.builtin "min") (rMinX X.K) := by
  intro pins s σ H vs us Q I r h
  obtain ⟨a, xs, ps, rfl, hs, hl, hd, hne, hal, hnn, hdep, q⟩ := h
  obtain ⟨its, rv, pl, hz⟩ := I.list hs
  obtain rfl := Vals.ref1 r
  have hh : X.A.in1.handled = none := I.ok.hd hc
  have len : its.length = ps.length := by rw [← rv.length, hl]
  have pos : 0 < ps.length := List.length_pos_iff.mpr hne
  have rd : ∀ i v, its.toArray[i]? = some v → i < ps.length ∧ ∃ as, Reads s.heap v (ps.getD i .none) as := by
    intro i v hv
    have hv' : its[i]? = some v := by simpa using hv
    have hi := (List.getElem?_eq_some_iff.mp hv').1
    have hx : xs[i]? = some xs[i] := List.getElem?_eq_getElem (by rw [hl, ← len]; exact hi)
    obtain ⟨u, hu', ru⟩ := rv.get hx
    rw [hv'] at hu'; cases hu'
    exact ⟨by rw [← len]; exact hi, Dp.reads I _ _ _ (hd i _ hx) ru⟩
  refine call_min_walkH (PySem.W.iter_listW (A := X.A.in1) hh pl.isList fun s3 e3 W st hb hw hk => ⟨_, _, _, _, _, _, _, s.heap, fun i j => PySem.W.dataLt (ps.getD i .none) (ps.getD j .none), rfl, W, st, hb, ?_, hw, hk, ?_, fun v s' hP m => ?_⟩)
  · show 0 < its.toArray.size
    simpa [len] using pos
  · intro i j vi vj s' Q' E' hkp hi hj hq
    obtain ⟨l1, as1, r1⟩ := rd i vi hi
    obtain ⟨l2, as2, r2⟩ := rd j vj hj
    refine PySem.W.rcLt_alike _ _ X.A.in1 s' vi vj _ _ (PyProof.Rows.Reads.keeps hkp r1) (PyProof.Rows.Reads.keeps hkp r2) (hal _ (getD_mem l1) _ (getD_mem l2)) (hnn _ (getD_mem l1)) ?_ _ _ E' Q' hq
    have := hdep _ (getD_mem l1)
    have mn := Nat.min_le_left (ps.getD i .none).depth (ps.getD j .none).depth
    show X.A.units + 1 + _ < cLine
    omega
  · obtain ⟨h', tk, rfl, hk'⟩ := PySem.W.moved_old e3 rfl m
    have sz : its.toArray.size = ps.length := by simpa using len
    rw [sz] at hP
    have hP' : its[argBest (fun i j => PySem.W.dataLt (ps.getD i .none) (ps.getD j .none)) (ps.length - 1)]? = some v := by simpa using hP
    have hi := (List.getElem?_eq_some_iff.mp hP').1
    generalize hb' : argBest (fun i j => PySem.W.dataLt (ps.getD i .none) (ps.getD j .none)) (ps.length - 1) = b at hP' hi q
    have hbx : b < xs.length := by rw [hl, ← len]; exact hi
    obtain ⟨u, hu', ru⟩ := rv.get (List.getElem?_eq_getElem hbx)
    rw [hP'] at hu'; cases hu'
    exact ⟨_, H, I.kept (t' := tk) hk', ru, q _ (List.getElem?_eq_getElem hbx)⟩
def minX (S : MS) (ds : List D) : Option D := match ds with
  | [d] => match rdL S d with
    | some ys => match toPs S ys with
      | some ps => if !ps.isEmpty && ((ps.all fun d => ps.all fun e => PySem.W.alike d e) && (ps.all (fun d => !noneP d) && ps.all fun d => decide (d.depth ≤ 60))) then ys[argBest (fun i j => PySem.W.dataLt (ps.getD i .none) (ps.getD j .none)) (ps.length - 1)]? else none
      | none => none
    | none => none
  | _ => none
theorem toPs_len {S : MS} : ∀ {ds : List D} {ps : List PyData}, toPs S ds = some ps → ds.length = ps.length
  | [], _, h => by cases h; rfl
  | d :: ds, ps, h => by
    have := (toPs_enc h).1
    rw [← this, List.length_map]
theorem cd_minX {G : Gx} : CallD G (rMinX G.K) minX := by
  intro M S H xs ds d Q r rx hg q
  unfold minX at hg
  split at hg
  · rename_i d0
    obtain ⟨v, rfl, rv⟩ := rx.inv1
    split at hg
    · rename_i ys hy
      split at hg
      · rename_i ps hps
        split at hg
        · rename_i hb
          simp only [Bool.and_eq_true, Bool.not_eq_true', List.all_eq_true, decide_eq_true_eq] at hb
          obtain ⟨h1, h2, h3, h4⟩ := hb
          obtain ⟨a, vs, rfl, sq, z, rs⟩ := rdL_inv r rv hy
          obtain ⟨em, et⟩ := toPs_enc hps
          have ll := toPs_len hps
          refine ⟨a, vs, ps, rfl, sq, by rw [rs.length, ll], fun i x hx => ?_, ?_, h2, fun d hd => noneP_ne (h3 d hd), h4, fun y hy' => ?_⟩
          · obtain ⟨dd, hdd, rr⟩ := rs.get' hx
            have := et dd (List.mem_of_getElem? hdd)
            have e2 : ps.getD i .none = encD S dd := by
              rw [← em, List.getD_eq_getElem?_getD, List.getElem?_map, hdd]; rfl
            rw [e2]
            exact dp1 r rr this
          · intro e; rw [e] at h1; cases h1
          · obtain ⟨dd, hdd, rr⟩ := rs.get' hy'
            rw [hdd] at hg; cases hg
            exact q H y (Ext.refl _ _) r rr
        · cases hg
      · cases hg
    · cases hg
  · cases hg
def minZ : MS → List D → Option D := orC minA minX
def cr_minZ {X : Cx} (hc : X.calm = true) (hu : X.A.units + 64 < cLine) := (cr_minA (X := X) hc).or (cr_minX hc hu)
def cd_minZ {G : Gx} := (cd_minA (G := G)).or cd_minX
end Dn

namespace Dn
open PySem PySem.Spec PyProof.Rows L2
/-- a law whose def may raise -/
theorem walk_ofW {l : PySem.W.OpenLaw} {n k : Nat} {q : Program} {loose : List Str} {XP : (Str → Option Value) → Heap → Prop} {YP : World → Heap → Prop} {d : DefRec} {x : Str}
    (hn : l.most = some n) (hn2 : n ≤ sizeLine) (hdf : d.params.defaults = []) (hr : Room k callerA)
    (F : ∀ (w : World) (mg : Str → Option Value) (fa : Addr) (h : Heap), YP w h → h.Ns mainGlobals mg → mg d.name = some (.ref fa) →
      ∃ (K : PySem.W.Frag) (fd : FuncData) (sp : Sp), K.In h ∧ (∀ (s : Shared) (u : Value), BindsTo s fd ⟨[u], []⟩ [(x, u)]) ∧
        (∀ (H : Hp) (a : Addr) (ns : List Int), ns.length ≤ n → Only H → SqL K H a (ns.map V.int) → sp [.ref a] H (fun v _ => v = .bl true) fun _ _ _ => False) ∧
        ∀ base : Heap, K.In base → base.Ns mainGlobals mg → FnOk l.prog w K mg base (L2.CX l.prog w) k fa fd [x] sp) :
    PySem.W.WalkO q loose XP YP l.row.toRowW d [] (fun f vs => PySem.call f vs) := by
  refine Att.attach_call hn hdf fun w s₀ s₁ mg mb fa o pm cd doc a vs ns G Y ho hd hcd hmg hobj hints hlen hg => ?_
  obtain ⟨K, fd, sp, KX, hb, hsp, hF⟩ := F w mg fa _ Y G.T.g hmg
  exact law_call KX G.T.g G.T.b G.T.builtins G.T.nolimit hg hobj hints (Nat.le_trans hlen hn2) hr hF hb (fun H hO hS => hsp H a ns hlen hO hS) fun H e s' ⟨_, _, _, _, _, _, _, _, _, _, _, _, z⟩ => z
/-! ### the head with a look at the classes -/
def hookX (n : Nat) (fa : List He.Fa) (fn : List He.FnD) (xb : PySem.W.Frag → Bool) : PySem.W.Hook where
  α := He.Al × Bool
  obs := fun s => (He.obsG n fa fn s.heap.get?, xb (He.frG s.heap.get? (He.asG s.heap.get? n)))
  val := fun _ => (He.valE fn, true)
  says := fun _ h => ∃ K : PySem.W.Frag, K.In h ∧ He.SaysE fa fn K ∧ xb K = true
  of := fun _ _ e => ⟨_, He.frG_in, congrArg Prod.fst e, congrArg Prod.snd e⟩
  keeps := fun _ _ _ ⟨K, hK, c⟩ k => ⟨K, PySem.W.Frag.In.keeps hK k, c⟩
theorem obsX_eq {n : Nat} {fa : List He.Fa} {fn : List He.FnD} {xb : PySem.W.Frag → Bool} {g : Addr → Option Obj} {s : Shared} (h : ∀ a, g a = s.heap.get? a) : (He.obsG n fa fn g, xb (He.frG g (He.asG g n))) = (hookX n fa fn xb).obs s := by
  have e : g = s.heap.get? := funext h
  rw [e] <;> rfl
end Dn

namespace Dn
open PySem PySem.Spec PyProof.Rows L2 LamX
/-! ### y = {k: v for ..} -/
theorem ps_setDc {X : Cx} {i : Nat} {y : Str} {py : Pos} {kx vx tg iter : Expr} {ifs : List Expr} {scope : Scope} {own : List (Str × Nat)} {pos spos : Pos} {wi : TI} {g : TG} {tt : TT} {tk tv : TE} (hc : X.calm = true) (hN : X.N.Nodup) (hy : X.N[i]? = some y) (hyl : X.env.scope.names.lookup y = some .local)
    (hsw : swapsWith (.DictComp kx vx [⟨tg, iter, ifs, 0⟩] scope pos) (some (.Name y py)) spos.line X.env = pure true) (hi : PI X tg iter wi) (ok : BlkOk X.N X.env.scope scope own)
    (hg : ∀ (s : Shared) (H : Hp) (C : Addr) (cl : List (Str × Addr)) (fp : List Addr), PG (X.blk s H scope (compEnvC scope cl C X.env) fp) tg g)
    (ht : ∀ (s : Shared) (H : Hp) (C : Addr) (cl : List (Str × Addr)) (fp : List Addr), PTs (X.blk s H scope (compEnvC scope cl C X.env) fp) ifs tt)
    (hk : ∀ (s : Shared) (H : Hp) (C : Addr) (cl : List (Str × Addr)) (fp : List Addr), PE (X.blk s H scope (compEnvC scope cl C X.env) fp) kx tk)
    (he : ∀ (s : Shared) (H : Hp) (C : Addr) (cl : List (Str × Addr)) (fp : List Addr), PE (X.blk s H scope (compEnvC scope cl C X.env) fp) vx tv) (hs : ∀ x, foldedSetIterable iter X.env x = pure x) :
    PS X (.Assign [.Name y py] (.DictComp kx vx [⟨tg, iter, ifs, 0⟩] scope pos) spos) (tAsg (tDc wi g tt tk tv (own.map (·.2))) (gName i)) := by
  constructor
  intro pins s σ H D I h
  rw [exec_Assign_Name_used _ _ _ _ hsw]
  refine wpAny_bind (wpAny_standAt (wpAny_bind ?_))
  show wpAny _ X.A (do let _ ← comprehension (.DictComp kx vx [⟨tg, iter, ifs, 0⟩] scope pos) scope X.env (firstIterPos [⟨tg, iter, ifs, 0⟩] pos) newDict false (eval iter X.env) (some (assign (.Name y py) X.env))) _ _ s
  have h' : tDc wi g tt tk tv (own.map (·.2)) σ H (fun x H1 => gName i x σ H1 D.nx) := h
  refine wpAny_bind (thn (dc_core (Qf := fun _ s' => SP X pins D .next s') hc hN I hi ok hg ht hk he hs h' ?_) fun _ s' hq => wpAny_pure (wpAny_pure hq))
  intro L C s' m H' I' q hn f
  show wpAny _ _ (assign (.Name y py) X.env (.ref L)) _ _ _
  refine wpAny_assign_Name (store_ok2 (v := V.ref L) I' hN hy (.inl hyl) rfl (fun s2 I2 w => ?_) (.inr hyl))
  obtain ⟨a, sb, ha⟩ := w
  obtain ⟨f0, f1, f2, f3, f4, f5⟩ := f
  have apart : C ≠ a := ha.elim (fun z => by rw [z]; exact f1) (fun z e => f4 y a z e.symm)
  exact ⟨m, hn.sameBut sb apart, fun h3 sb3 => ⟨_, H', I2.turned (t' := s2.toks) (fun b o hb e => (sb3.2 b hb).trans e) f0 f1 f3 f4 f5, q⟩⟩
theorem sw_dict {kx vx : Expr} {gs : List Comprehension} {scope : Scope} {pos py : Pos} {y : Str} {l : Nat} {env : Env} (hk : env.scope.kind = .function) (hy : env.scope.names.lookup y = some .local) (hl : (py.line == pos.line) = true)
    (ha : (scope.names.any fun (n, k) => n == y && (k == .local || k == .cell)) = false) : swapsWith (.DictComp kx vx gs scope pos) (some (.Name y py)) l env = pure true := by
  have e1 : env.kindOf y = some .local := hy
  have e2 : env.blockKind = .function := by unfold Env.blockKind; rw [hk]; rfl
  unfold swapsWith
  simp only [e1, e2, ha, Expr.pos, hl]
  rfl
theorem dc_of {G : Gx} {W : WX} {p : Pat} {ft : En → MS → R Bool} {fk fv : En → MS → R D} {it : En → MS → R (List D)} {vs : List Nat} (hs : ∀ i ∈ slots p, i ∈ vs) {σ : L2.St} {H : Hp} {Q : VK} (h : tD G W (eDc it p ft fk fv vs) σ H Q) : tDc (tIV G W it) (tPat G p) (tT G W0 ft) (tD G W0 fk) (tD G W0 fv) vs σ H Q := by
  obtain ⟨M, S, ρ, r, e, h⟩ := h
  refine ⟨M, S, ρ, r, e, ?_⟩
  unfold eDc at h
  cases z : it ρ S with
  | bad => rw [z] at h; exact h
  | exc c S' => rw [z] at h; exact h
  | ok ds S' =>
    rw [z] at h
    intro M1 H1 J x1 r1 hJ D hD
    by_cases q : ds.length ≤ lim
    · change Post G W σ M H (Rep G) (if ds.length ≤ lim then _ else _) Q at h
      rw [if_pos q] at h
      exact dc_read hJ r1 (e.ext x1) hs q (h.ext x1) D hD
    · change Post G W σ M H (Rep G) (if ds.length ≤ lim then _ else _) Q at h
      rw [if_neg q] at h; exact h.elim
theorem dens_setDc {X : Cx} {G : Gx} {W : WX} {kx vx tg iter : Expr} {ifs : List Expr} {scope : Scope} {own : List (Str × Nat)} {pos : Pos} {p : Pat} {ft : En → MS → R Bool} {fk fv : En → MS → R D} {i : Nat} {y : Str} {py spos : Pos} {it : En → MS → R (List D)} (hc : X.calm = true) (hN : X.N.Nodup) (hi : PI X tg iter (tIV G W it)) (ok : BlkOk X.N X.env.scope scope own) (hs : ∀ i ∈ slots p, i ∈ own.map (·.2))
    (hg : ∀ (s : Shared) (H : Hp) (C : Addr) (cl : List (Str × Addr)) (fp : List Addr), PG (X.blk s H scope (compEnvC scope cl C X.env) fp) tg (tPat G p))
    (ht : ∀ (s : Shared) (H : Hp) (C : Addr) (cl : List (Str × Addr)) (fp : List Addr), PTs (X.blk s H scope (compEnvC scope cl C X.env) fp) ifs (tT G W0 ft))
    (hk : ∀ (s : Shared) (H : Hp) (C : Addr) (cl : List (Str × Addr)) (fp : List Addr), PE (X.blk s H scope (compEnvC scope cl C X.env) fp) kx (tD G W0 fk))
    (he : ∀ (s : Shared) (H : Hp) (C : Addr) (cl : List (Str × Addr)) (fp : List Addr), PE (X.blk s H scope (compEnvC scope cl C X.env) fp) vx (tD G W0 fv))
    (hsw : swapsWith (.DictComp kx vx [⟨tg, iter, ifs, 0⟩] scope pos) (some (.Name y py)) spos.line X.env = pure true)
    (hy : X.N[i]? = some y := by rfl) (hyl : X.env.scope.names.lookup y = some .local := by rfl) (hfs : ∀ x, foldedSetIterable iter X.env x = pure x := by intro _; rfl) :
    PS X (.Assign [.Name y py] (.DictComp kx vx [⟨tg, iter, ifs, 0⟩] scope pos) spos) (tS G W (sSet i (eDc it p ft fk fv (own.map (·.2))))) :=
  ps_imp (ps_setDc hc hN hy hyl hsw hi ok hg ht hk he hfs) fun D σ H h => dc_of hs (set_read h)
/-! ### defs that make lambdas -/
theorem fn_denC {P : Program} {w : World} {K : PySem.W.Frag} {mg : Str → Option Value} {base : Heap} {G : Gx} {x qual : Str} {st : Stmt} {f : Addr} {fd : FuncData} {N ps : List Str} {k n : Nat} {g : En → MS → RS} (F : Fun K x qual st f fd) (S : FnScope N ps (defScope st)) (hn : N.length = n) {j : Nat} (hj : ps.length = j)
    (hbody : ∀ (cdv : Value) (A : Around) (outer : List Env) (s : Shared) (H : Hp) (E : XK), fd.code = cdv → Room k (A.deeper (envOfC qual (defScope st) s.heap.objs.size f cdv)) →
      PSs (cxOf (L2.CX P w) P w K mg base N qual (defScope st) f cdv A outer s H E) (defBody st) (tS G (WE0 E) g)) : FnOk P w K mg base (L2.CX P w) (k + 1) f fd ps (spD G (fnD j n g)) := by
  subst hn; subst hj
  obtain ⟨oc, od, kV, doc, pm, an, cdv, ct, osl, rfl, lk, hcd⟩ := F.ex
  refine fn_of lk hcd S (fun vs H Q E h => ?_) (fun A outer s H vs Q E hr h => ⟨_, hbody cdv A outer s H E rfl hr, ?_⟩)
  · obtain ⟨M, S, ds, r, rs, h⟩ := h
    unfold fnD at h
    by_cases q : ds.length = ps.length
    · rw [rs.length, q]
    · rw [if_neg q] at h; exact h.elim
  · obtain ⟨M, S, ds, r, rs, h⟩ := h
    unfold fnD at h
    by_cases q : ds.length = ps.length
    · rw [if_pos q] at h
      refine ⟨M, S, startD N.length ds, r, envR_start rs, ?_⟩
      cases z : g (startD N.length ds) S with
      | nx ρ S' => rw [z] at h; exact fun M' H' σ' x' r' e' => h M' H' .non x' r' .non
      | ret d S' => rw [z] at h; exact h
      | exc c ρ S' => rw [z] at h; exact fun M' H' σ' x' r' e' => h M' H' x' r'
      | brk ρ S' => rw [z] at h; exact h.elim
      | ct ρ S' => rw [z] at h; exact h.elim
      | bad => rw [z] at h; exact h
    · rw [if_neg q] at h; exact h.elim
def lamQ (q : Str) : Str := q ++ ".<locals>." ++ "<lambda>"
/-! ### the head, with the tables of some defs -/
structure TabK (tf : List He.Defn) (h : Heap) (K : PySem.W.Frag) : Prop where
  hd : ∀ p ∈ tf, PySem.W.codeHdIn K (He.cT K p).1 (He.cT K p).2 = true
  out : ∀ p ∈ tf, K.lookup (He.cT K p).2 = none
  empty : ∀ p ∈ tf, h.get? (He.cT K p).2 = some { cls := .none, data := .fields #[] }
theorem tabK_of {n : Nat} {tf : List He.Defn} {h : Heap} (e : He.tabsB h.get? tf (He.frT h.get? (He.asG h.get? n)) = true) : TabK tf h (He.frT h.get? (He.asG h.get? n)) := by
  have one : ∀ p ∈ tf, PySem.W.codeHdIn (He.frT h.get? (He.asG h.get? n)) (He.cT (He.frT h.get? (He.asG h.get? n)) p).1 (He.cT (He.frT h.get? (He.asG h.get? n)) p).2 = true ∧ ∃ o, h.get? (He.cT (He.frT h.get? (He.asG h.get? n)) p).2 = some o ∧ He.emptyTab o = true := by
    intro p hp
    have z := List.all_eq_true.mp e p hp
    rw [Bool.and_eq_true] at z
    refine ⟨z.1, ?_⟩
    have z2 := z.2
    split at z2
    · rename_i o ho
      exact ⟨o, ho, z2⟩
    · cases z2
  refine ⟨fun p hp => (one p hp).1, fun p hp => ?_, fun p hp => ?_⟩
  · obtain ⟨_, o, a, b⟩ := one p hp
    exact He.frT_none a b
  · obtain ⟨_, o, a, b⟩ := one p hp
    rw [a, He.emptyTab_eq b]
def obsTb (n : Nat) (fa : List He.Fa) (fn : List He.FnD) (xb : PySem.W.Frag → Bool) (tf : List He.Defn) (g : Addr → Option Obj) : He.Al × Bool := (He.obsE fa fn (He.frT g (He.asG g n)), xb (He.frT g (He.asG g n)) && He.tabsB g tf (He.frT g (He.asG g n)))
def hookTb (n : Nat) (fa : List He.Fa) (fn : List He.FnD) (xb : PySem.W.Frag → Bool) (tf : List He.Defn) : PySem.W.Hook where
  α := He.Al × Bool
  obs := fun s => obsTb n fa fn xb tf s.heap.get?
  val := fun _ => (He.valE fn, true)
  says := fun _ h => ∃ K : PySem.W.Frag, K.In h ∧ He.SaysE fa fn K ∧ xb K = true ∧ TabK tf h K
  of := fun _ _ e => by
    have e1 := congrArg Prod.fst e
    have e2 := congrArg Prod.snd e
    have e3 := (Bool.and_eq_true _ _).mp e2
    exact ⟨_, He.frT_in, e1, e3.1, tabK_of e3.2⟩
  keeps := fun _ _ _ ⟨K, hK, c, d, t⟩ k => ⟨K, PySem.W.Frag.In.keeps hK k, c, d, t.hd, t.out, fun p hp => k _ _ (t.empty p hp)⟩
theorem obsTb_eq {n : Nat} {fa : List He.Fa} {fn : List He.FnD} {xb : PySem.W.Frag → Bool} {tf : List He.Defn} {g : Addr → Option Obj} {s : Shared} (h : ∀ a, g a = s.heap.get? a) : obsTb n fa fn xb tf g = (hookTb n fa fn xb tf).obs s := by
  have e : g = s.heap.get? := funext h
  rw [e] <;> rfl
theorem walk_ofTb {l : PySem.W.OpenLaw} {n k : Nat} {q : Program} {loose : List Str} {XP : (Str → Option Value) → Heap → Prop} {YP : World → Heap → Prop} {d : DefRec} {x : Str}
    (hn : l.most = some n) (hn2 : n ≤ sizeLine) (hdf : d.params.defaults = []) (hr : Room k callerA)
    (F : ∀ (w : World) (mg : Str → Option Value) (fa : Addr) (h : Heap), YP w h → h.Ns mainGlobals mg → mg d.name = some (.ref fa) →
      ∃ (K : PySem.W.Frag) (fd : FuncData) (cs : List (Addr × Addr)) (sp : Sp), K.In h ∧ ((∀ p ∈ cs, h.get? p.2 = some { cls := .none, data := .fields #[] }) ∧ (∀ p ∈ cs, K.lookup p.2 = none) ∧ ∀ p ∈ cs, PySem.W.CodeHd h p.1 p.2) ∧ (∀ (s : Shared) (u : Value), BindsTo s fd ⟨[u], []⟩ [(x, u)]) ∧
        (∀ (H : Hp) (a : Addr) (ns : List Int), ns.length ≤ n → (∀ p ∈ cs, H p.2 = some (.tbl #[])) → SqL K H a (ns.map V.int) → sp [.ref a] H (fun v _ => v = .bl true) fun _ _ _ => False) ∧
        ∀ base : Heap, K.In base → base.Ns mainGlobals mg → (∀ p ∈ cs, TabB base mg p.1 p.2) → FnOk l.prog w K mg base (L2.CX l.prog w) k fa fd [x] sp) :
    PySem.W.WalkO q loose XP YP l.row.toRowW d [] (fun f vs => PySem.call f vs) := by
  refine Att.attach_call hn hdf fun w s₀ s₁ mg mb fa o pm cd doc a vs ns G Y ho hd hcd hmg hobj hints hlen hg => ?_
  obtain ⟨K, fd, cs, sp, KX, ⟨t1, t2, t3⟩, hb, hsp, hF⟩ := F w mg fa _ Y G.T.g hmg
  exact law_callTs KX G.T.g G.T.b G.T.builtins G.T.nolimit hg t1 t2 t3 G.T.bmain hobj hints (Nat.le_trans hlen hn2) hr hF hb (fun H h1 h2 => hsp H a ns hlen h1 h2) fun H e s' ⟨_, _, _, _, _, _, _, _, _, _, _, _, z⟩ => z
/-- the script, locked or not -/
def scr (b : Bool) (ns : List Int) : D := match b with
  | true => .frz (ns.map .int)
  | false => .lst (ns.map .int)
theorem law_endT {G : Gx} {F : List D → MS → R D} (hF : ∀ (b : Bool) (ns : List Int), ns.length ≤ 63 → ∃ S, F [scr b ns] [] = .ok (.bl true) S) (H : Hp) (a : Addr) (ns : List Int) (hl : ns.length ≤ 63) (h : SqL G.K H a (ns.map V.int)) (ht : ∀ p ∈ G.tb, H p.1 = some (.tbl #[])) :
    spD G F [.ref a] H (fun v _ => v = .bl true) fun _ _ _ => False := by
  have hz : (ns.map V.int).length ≤ sizeLine := by rw [List.length_map]; exact Nat.le_trans hl (by decide)
  have r : Rel G ⟨[], []⟩ [] H := ⟨rfl, List.nodup_nil, fun i a o h => by simp at h, fun a h => by simp at h, fun a h => by simp at h, fun p hp => TabS.nil (ht p hp)⟩
  obtain ⟨b, rp⟩ : ∃ b, Rep G ⟨[], []⟩ H (.ref a) (scr b ns) := by
    rcases h with (h | ⟨ob, h⟩) | h
    · exact ⟨false, .lst h (by simp) (by simp) hz (map_int_rep ns)⟩
    · exact ⟨true, .frz h (by simp) (by simp) hz (map_int_rep ns)⟩
    · exact ⟨true, .frk h hz (map_int_rep ns)⟩
  refine ⟨⟨[], []⟩, [], [scr b ns], r, .one rp, ?_⟩
  obtain ⟨S, e⟩ := hF b ns hl
  rw [e]
  exact fun M' H' v _ _ r => r.bl_inv
end Dn

namespace Dn
open PySem PySem.Spec PyProof.Rows L2 LamX
/-! ### dicts of both kinds of keys, locked or not -/
def putX {κ β : Type} [DecidableEq κ] (kvs : List (κ × β)) (k : κ) (v : β) : List (κ × β) :=
  if (kvs.any fun kv => decide (kv.1 = k)) = true then kvs.map (fun kv => if kv.1 = k then (kv.1, v) else kv) else kvs ++ [(k, v)]
def valX {κ β : Type} [DecidableEq κ] (kvs : List (κ × β)) (k : κ) : Option β := (kvs.find? fun kv => decide (kv.1 = k)).map (·.2)
section
variable {κ : Type} [DecidableEq κ] {G : Gx} {M : Mx} {H : Hp}
theorem krepx_any {vs : List (κ × V)} {ds : List (κ × D)} (r : KReps G M H vs ds) (k : κ) : (vs.any fun kv => decide (kv.1 = k)) = ds.any fun kv => decide (kv.1 = k) := by
  unfold KReps at r
  induction r with
  | nil => rfl
  | cons h t ih => rw [List.any_cons, List.any_cons, ih, h.1]
theorem krepx_put {vs : List (κ × V)} {ds : List (κ × D)} (r : KReps G M H vs ds) (k : κ) {y : V} {d : D} (ry : Rep G M H y d) : KReps G M H (putK vs k y) (putX ds k d) := by
  unfold putK putX
  rw [krepx_any r k]
  by_cases e : (ds.any fun kv => decide (kv.1 = k)) = true
  · rw [if_pos e, if_pos e]
    clear e
    unfold KReps at r ⊢
    induction r with
    | nil => exact .nil
    | @cons p q ps qs h t ih =>
      rw [List.map_cons, List.map_cons]
      refine .cons ?_ ih
      obtain ⟨h1, h2⟩ := h
      by_cases e : p.1 = k
      · rw [if_pos e, if_pos (h1.symm.trans e)]; exact ⟨h1, ry⟩
      · rw [if_neg e, if_neg (fun z => e (h1.trans z))]; exact ⟨h1, h2⟩
  · rw [if_neg e, if_neg e]; exact Paired.snoc r ⟨rfl, ry⟩
theorem krepx_val {vs : List (κ × V)} {ds : List (κ × D)} (r : KReps G M H vs ds) (k : κ) : (valV vs k = none ∧ valX ds k = none) ∨ ∃ y d, valV vs k = some y ∧ valX ds k = some d ∧ Rep G M H y d := by
  unfold KReps at r
  induction r with
  | nil => exact .inl ⟨rfl, rfl⟩
  | @cons p q ps qs h t ih =>
    obtain ⟨h1, h2⟩ := h
    by_cases e : p.1 = k
    · exact .inr ⟨p.2, q.2, valV_pos e, by simp [valX, List.find?_cons, h1.symm.trans e], h2⟩
    · have e' : ¬ q.1 = k := fun z => e (h1.trans z)
      rw [valV_neg e, show valX (q :: qs) k = valX qs k by simp [valX, List.find?_cons, e']]
      exact ih
theorem putX_len {β : Type} (kvs : List (κ × β)) (k : κ) (v : β) : (putX kvs k v).length ≤ kvs.length + 1 := by
  unfold putX
  split
  · rw [List.length_map]; omega
  · rw [List.length_append, List.length_singleton]; exact Nat.le_refl _
end
def keysOf : List D → Option (List Key)
  | [] => some []
  | d :: ds => match keyD d, keysOf ds with
    | some k, some ks => some (k :: ks)
    | _, _ => none
def keyT (d : D) : Option (List Key) := match d with
  | .tup ds => keysOf ds
  | _ => none
theorem keysOf_rep {G : Gx} {M : Mx} {H : Hp} : ∀ {ds : List D} {vs : List V} {ks : List Key}, Reps G M H vs ds → keysOf ds = some ks → vs = ks.map kV
  | [], _, _, .nil, e => by cases e; rfl
  | d :: ds, _, ks, .cons r t, e => by
    simp only [keysOf] at e
    cases z1 : keyD d with
    | none => rw [z1] at e; cases e
    | some k =>
      cases z2 : keysOf ds with
      | none => rw [z1, z2] at e; cases e
      | some ks' =>
        rw [z1, z2] at e
        cases e
        rw [keyD_rep r z1, keysOf_rep t z2]; rfl
theorem keyT_rep {G : Gx} {M : Mx} {H : Hp} {v : V} {d : D} {ks : List Key} (r : Rep G M H v d) (h : keyT d = some ks) : ∃ b, v = .ref b ∧ H b = some (.tup (ks.map kV)) := by
  unfold keyT at h
  split at h
  · obtain ⟨b, vs, rfl, hb, _, _, _, rs⟩ := r.tup_inv
    rw [keysOf_rep rs h] at hb
    exact ⟨b, rfl, hb⟩
  · cases h
/-- what a dict holds at a key: none: no dict, or no key for it -/
def getZ (S : MS) (o k : D) : Option (Option D) := match o with
  | .obj i => match S[i]? with
    | some (.dK kvs) => (keyD k).map (valX kvs)
    | some (.lck kvs) => (keyD k).map (valX kvs)
    | some (.dT kvs) => (keyT k).map (valX kvs)
    | some (.lckT kvs) => (keyT k).map (valX kvs)
    | _ => none
  | _ => none
theorem getZ_ok {G : Gx} {M : Mx} {S : MS} {H : Hp} {vo vk : V} {o k : D} {d : Option D} (r : Rel G M S H) (ro : Rep G M H vo o) (rk : Rep G M H vk k) (h : getZ S o k = some d) : ∃ a y, vo = .ref a ∧ DGet H a vk y ∧ ((y = none ∧ d = none) ∨ ∃ w e, y = some w ∧ d = some e ∧ Rep G M H w e) := by
  unfold getZ at h
  split at h
  · rename_i i
    obtain ⟨a, rfl, hm⟩ := ro.obj_inv
    have fin : ∀ {κ : Type} [DecidableEq κ] {us : List (κ × V)} {kvs : List (κ × D)} {c : κ}, KReps G M H us kvs → DGet H a vk (valV us c) → d = valX kvs c → ∃ a' y, V.ref a = .ref a' ∧ DGet H a' vk y ∧ ((y = none ∧ d = none) ∨ ∃ w e, y = some w ∧ d = some e ∧ Rep G M H w e) := by
      intro κ _ us kvs c kr g e
      refine ⟨a, _, rfl, g, ?_⟩
      rcases krepx_val kr c with ⟨n1, n2⟩ | ⟨y, d', n1, n2, rr⟩
      · exact .inl ⟨n1, e.trans n2⟩
      · exact .inr ⟨y, d', n1, e.trans n2, rr⟩
    split at h
    · rename_i kvs hs
      obtain ⟨c, hc, e⟩ := Option.map_eq_some_iff.mp h
      obtain ⟨us, ha, _, kr⟩ := r.at_ i a _ hm hs
      exact fin kr (.inl ⟨us, c, .inl ha, keyD_rep rk hc, rfl⟩) e.symm
    · rename_i kvs hs
      obtain ⟨c, hc, e⟩ := Option.map_eq_some_iff.mp h
      obtain ⟨o, us, ha, _, kr⟩ := r.at_ i a _ hm hs
      exact fin kr (.inl ⟨us, c, .inr ⟨o, ha⟩, keyD_rep rk hc, rfl⟩) e.symm
    · rename_i kvs hs
      obtain ⟨c, hc, e⟩ := Option.map_eq_some_iff.mp h
      obtain ⟨us, ha, _, kr⟩ := r.at_ i a _ hm hs
      obtain ⟨b, ek, hb⟩ := keyT_rep rk hc
      exact fin kr (.inr ⟨us, c, b, .inl ha, ek, hb, rfl⟩) e.symm
    · rename_i kvs hs
      obtain ⟨c, hc, e⟩ := Option.map_eq_some_iff.mp h
      obtain ⟨o, us, ha, _, kr⟩ := r.at_ i a _ hm hs
      obtain ⟨b, ek, hb⟩ := keyT_rep rk hc
      exact fin kr (.inr ⟨us, c, b, .inr ⟨o, ha⟩, ek, hb, rfl⟩) e.symm
    · cases h
  · cases h
def ixZ (S : MS) (o k : D) : Option D := (getZ S o k).bind id
section
variable {X : Cx} {G : Gx} {W : WX} {o e x : Expr} {pos apos cpos : Pos} {fo fk fx : En → MS → R D}
theorem den_dgetZ (hu : X.A.units + 64 < cLine) (ho : PE X o (tD G W fo)) (hk : PE X e (tD G W fk)) (hs : NoSl e := by exact fun _ _ => rfl) : PE X (.Subscript o e pos) (tD G W (eOp ixZ fo fk)) := by
  refine pe_imp (pe_dget (by omega) ho hk hs) fun σ H Q ⟨M, S, ρ, r, e, h⟩ => ?_
  refine tD_mono (d_bind h r e) fun v H1 ⟨M1, S1, d1, x1, r1, p1, e1, h1⟩ => ?_
  refine tD_mono (d_bind h1 r1 e1) fun y H2 ⟨M2, S2, d2, x2, r2, p2, e2, h2⟩ => ?_
  obtain ⟨d, hd, q⟩ := post_ofO h2
  unfold ixZ at hd
  cases z : getZ S2 d1 d2 with
  | none => rw [z] at hd; cases hd
  | some w =>
    rw [z] at hd
    change w = some d at hd
    obtain ⟨a, y', ea, g, z2⟩ := getZ_ok r2 (p1.ext x2) p2 z
    rcases z2 with ⟨_, z2⟩ | ⟨u, e', ey, ed, rr⟩
    · rw [z2] at hd; cases hd
    · rw [ed] at hd; cases hd
      rw [ey] at g
      exact ⟨a, u, ea, g, q M2 H2 _ (Ext.refl _ _) r2 rr⟩
def inZ (S : MS) (k o : D) : Option D := (getZ S o k).map fun w => .bl w.isSome
def notInZ (S : MS) (k o : D) : Option D := (getZ S o k).map fun w => .bl (!w.isSome)
theorem din_read {g : MS → D → D → Option D} {b : Bool → Bool} (hg : ∀ S k o, g S k o = (getZ S o k).map fun w => .bl (b w.isSome)) {σ : L2.St} {H : Hp} {Q : VK} (h : tD G W (eOp g fk fo) σ H Q) :
    tD G W fk σ H fun y H1 => tD G W fo σ H1 fun x H2 => ∃ a o, x = .ref a ∧ DGet H2 a y o ∧ Q (.bl (b o.isSome)) H2 := by
  obtain ⟨M, S, ρ, r, e, h⟩ := h
  refine tD_mono (d_bind h r e) fun y H1 ⟨M1, S1, d1, x1, r1, p1, e1, h1⟩ => ?_
  refine tD_mono (d_bind h1 r1 e1) fun v H2 ⟨M2, S2, d2, x2, r2, p2, e2, h2⟩ => ?_
  obtain ⟨d, hd, q⟩ := post_ofO h2
  rw [hg] at hd
  obtain ⟨w, hw, e3⟩ := Option.map_eq_some_iff.mp hd
  obtain ⟨a, o, ea, g, z⟩ := getZ_ok r2 p2 (p1.ext x2) hw
  refine ⟨a, o, ea, g, ?_⟩
  have es : o.isSome = w.isSome := by
    rcases z with ⟨z1, z2⟩ | ⟨u, e', z1, z2, _⟩
    · rw [z1, z2]; rfl
    · rw [z1, z2]; rfl
  rw [es]
  exact q M2 H2 _ (Ext.refl _ _) r2 (by rw [← e3]; exact .bl _)
theorem den_dinZ (hu : X.A.units + 64 < cLine) (hk : PE X e (tD G W fk)) (ho : PE X o (tD G W fo)) (hm : behindInMarks .In o = false) : PE X (.Compare e [.In] [o] pos) (tD G W (eOp inZ fk fo)) :=
  pe_imp (pe_cmp (pc_din (by omega) hk ho) hm) fun _ _ _ h => din_read (b := id) (fun _ _ _ => rfl) h
theorem dent_dinZ (hu : X.A.units + 64 < cLine) (hk : PE X e (tD G W fk)) (ho : PE X o (tD G W fo)) (hm : behindInMarks .In o = false) : PT X (.Compare e [.In] [o] pos) (tT G W (bT (eOp inZ fk fo))) :=
  pt_imp (pt_cmp (pc_din (by omega) hk ho) hm) fun _ _ _ h => din_read (b := id) (fun _ _ _ => rfl) (test_read h)
theorem den_dnotZ (hu : X.A.units + 64 < cLine) (hk : PE X e (tD G W fk)) (ho : PE X o (tD G W fo)) (hm : behindInMarks .NotIn o = false) : PE X (.Compare e [.NotIn] [o] pos) (tD G W (eOp notInZ fk fo)) :=
  pe_imp (pe_cmp (pc_dnotin (by omega) hk ho) hm) fun _ _ _ h => din_read (b := not) (fun _ _ _ => rfl) h
theorem dent_dnotZ (hu : X.A.units + 64 < cLine) (hk : PE X e (tD G W fk)) (ho : PE X o (tD G W fo)) (hm : behindInMarks .NotIn o = false) : PT X (.Compare e [.NotIn] [o] pos) (tT G W (bT (eOp notInZ fk fo))) :=
  pt_imp (pt_cmp (pc_dnotin (by omega) hk ho) hm) fun _ _ _ h => din_read (b := not) (fun _ _ _ => rfl) (test_read h)
end
/-! ### stores -/
def putZ (S : MS) (o k v : D) : Option MS := match o with
  | .obj i => match S[i]? with
    | some (.dK kvs) => match keyD k with
      | some c => if kvs.length < lim then some (S.set i (.dK (putX kvs c v))) else none
      | none => none
    | some (.dT kvs) => match keyT k with
      | some c => if kvs.length < lim then some (S.set i (.dT (putX kvs c v))) else none
      | none => none
    | _ => none
  | _ => none
theorem putZ_ok {G : Gx} {M : Mx} {S S' : MS} {H : Hp} {vo vk vv : V} {o k v : D} (r : Rel G M S H) (ro : Rep G M H vo o) (rk : Rep G M H vk k) (rv : Rep G M H vv v) (h : putZ S o k v = some S') : ∃ a H', vo = .ref a ∧ DPut H a vk vv H' ∧ Ext M H M H' ∧ Rel G M S' H' := by
  unfold putZ at h
  split at h
  · rename_i i
    obtain ⟨a, rfl, hm⟩ := ro.obj_inv
    split at h
    · rename_i kvs hs
      split at h
      · rename_i c hc
        split at h
        · rename_i hl
          cases h
          obtain ⟨us, ha, z, kr⟩ := r.at_ i a _ hm hs
          have ul : us.length < 100000 := by rw [kreps_len kr]; exact hl
          have ek := keyD_rep rk hc
          subst ek
          have nf : ∀ o u, H a ≠ some (.frz o u) := fun o u z => by rw [ha] at z; cases z
          have x := Ext.put (o := .dK (putK us c vv)) hm nf
          refine ⟨a, _, rfl, DPut.k ha (Nat.lt_of_lt_of_le ul (by decide)), x, r.put hm nf ⟨putK us c vv, upd_same, ?_, krepx_put (KReps.ext x kr) c (rv.ext x)⟩⟩
          have h1 := kreps_len (krepx_put kr c rv)
          have h2 := putX_len kvs c v
          have h3 := kreps_len kr
          exact Nat.le_trans (show _ ≤ 100000 by omega) (by decide)
        · cases h
      · cases h
    · rename_i kvs hs
      split at h
      · rename_i c hc
        split at h
        · rename_i hl
          cases h
          obtain ⟨us, ha, z, kr⟩ := r.at_ i a _ hm hs
          have ul : us.length < 100000 := by rw [kreps_len kr]; exact hl
          obtain ⟨b, rfl, hb⟩ := keyT_rep rk hc
          have nf : ∀ o u, H a ≠ some (.frz o u) := fun o u z => by rw [ha] at z; cases z
          have x := Ext.put (o := .dT (putK us c vv)) hm nf
          refine ⟨a, _, rfl, .inr ⟨us, c, b, ha, rfl, hb, Nat.lt_of_lt_of_le ul (by decide), rfl⟩, x, r.put hm nf ⟨putK us c vv, upd_same, ?_, krepx_put (KReps.ext x kr) c (rv.ext x)⟩⟩
          have h1 := kreps_len (krepx_put kr c rv)
          have h2 := putX_len kvs c v
          have h3 := kreps_len kr
          exact Nat.le_trans (show _ ≤ 100000 by omega) (by decide)
        · cases h
      · cases h
    · cases h
  · cases h
def sDputZ (fv fo fk : En → MS → R D) : En → MS → RS := fun ρ S => (fv ρ S).bindS ρ fun v S1 => (fo ρ S1).bindS ρ fun o S2 => (fk ρ S2).bindS ρ fun k S3 => match putZ S3 o k v with
  | some S4 => .nx ρ S4
  | none => .bad
theorem dens_dputZ {X : Cx} {G : Gx} {W : WX} {o i value : Expr} {pos pos' : Pos} {fv fo fk : En → MS → R D} (hu : X.A.units + 64 < cLine) (hv : PE X value (tD G W fv)) (ho : PE X o (tD G W fo)) (hi : PE X i (tD G W fk)) (hs : swapsWith value (some (.Subscript o i pos')) pos.line X.env = pure false := by rfl) :
    PS X (.Assign [.Subscript o i pos'] value pos) (tS G W (sDputZ fv fo fk)) := by
  refine ps_imp (ps_dput (by omega) ho hi hv hs) fun D σ H ⟨M, S, ρ, r, e, h⟩ => ?_
  refine tD_mono (ds_bind h r e) fun v H1 ⟨M1, S1, d1, x1, r1, p1, e1, h1⟩ => ?_
  refine tD_mono (ds_bind h1 r1 e1) fun vo H2 ⟨M2, S2, d2, x2, r2, p2, e2, h2⟩ => ?_
  refine tD_mono (ds_bind h2 r2 e2) fun vk H3 ⟨M3, S3, d3, x3, r3, p3, e3, h3⟩ => ?_
  cases z : putZ S3 d2 d3 d1 with
  | none => rw [z] at h3; exact h3.elim
  | some S4 =>
    rw [z] at h3
    obtain ⟨a, H', ea, dp, x4, r4⟩ := putZ_ok r3 (p2.ext x3) p3 ((p1.ext x2).ext x3) z
    exact ⟨a, H', ea, dp, h3 M3 H' σ x4 r4 (e3.ext x4)⟩
def sDaugZ (g : MS → D → D → Option D) (fo fk fv : En → MS → R D) : En → MS → RS := fun ρ S => (fo ρ S).bindS ρ fun o S1 => (fk ρ S1).bindS ρ fun k S2 => (ofO (ixZ S2 o k) S2).bindS ρ fun x S3 => (fv ρ S3).bindS ρ fun y S4 => (ofO (g S4 x y) S4).bindS ρ fun z S5 => match putZ S5 o k z with
  | some S6 => .nx ρ S6
  | none => .bad
theorem dens_daugZ {X : Cx} {G : Gx} {W : WX} {op : Operator} {rd : R2} {g : MS → D → D → Option D} {o i value : Expr} {pos tpos : Pos} {fv fo fk : En → MS → R D} (hu : X.A.units + 64 < cLine) (hop : InOp X op rd) (hg : OpD G rd g) (ho : PE X o (tD G W fo)) (hi : PE X i (tD G W fk)) (hv : PE X value (tD G W fv))
    (ha : ∀ ov iv new, augStore i ov iv new = (do holding [new, ov, iv] (setItem ov iv new); release [new, ov, iv] []; pure .next) := by intros; rfl) : PS X (.AugAssign (.Subscript o i tpos) op value pos) (tS G W (sDaugZ g fo fk fv)) := by
  refine ps_imp (ps_daug (by omega) ho hi hv hop ha) fun D σ H ⟨M, S, ρ, r, e, h⟩ => ?_
  refine tD_mono (ds_bind h r e) fun vo H1 ⟨M1, S1, d1, x1, r1, p1, e1, h1⟩ => ?_
  refine tD_mono (ds_bind h1 r1 e1) fun vk H2 ⟨M2, S2, d2, x2, r2, p2, e2, h2⟩ => ?_
  unfold ixZ at h2
  cases z : getZ S2 d1 d2 with
  | none => rw [z] at h2; exact h2.elim
  | some w =>
    rw [z] at h2
    obtain ⟨a, y, ea, dg, zz⟩ := getZ_ok r2 (p1.ext x2) p2 z
    rcases zz with ⟨_, z2⟩ | ⟨u, dx, ey, ed, ry⟩
    · rw [z2] at h2; exact h2.elim
    · rw [ed] at h2
      rw [ey] at dg
      refine ⟨a, u, ea, dg, tD_mono (ds_bind h2 r2 e2) fun v H3 ⟨M3, S3, d3, x3, r3, p3, e3, h3⟩ => ?_⟩
      change PostS G W M3 H3 ((ofO (g S3 dx d3) S3).bindS ρ fun z S5 => match putZ S5 d1 d2 z with | some S6 => .nx ρ S6 | none => .bad) D at h3
      cases zg : g S3 dx d3 with
      | none => rw [zg] at h3; exact h3.elim
      | some dz =>
        rw [zg] at h3
        refine hg M3 S3 H3 u v dx d3 dz _ r3 (ry.ext x3) p3 zg fun H4 w x4 r4 p4 => ?_
        change PostS G W M3 H3 (match putZ S3 d1 d2 dz with | some S6 => .nx ρ S6 | none => .bad) D at h3
        cases zp : putZ S3 d1 d2 dz with
        | none => rw [zp] at h3; exact h3.elim
        | some S6 =>
          rw [zp] at h3
          obtain ⟨a', H', ea', dp, x5, r5⟩ := putZ_ok r4 (((p1.ext x2).ext x3).ext x4) ((p2.ext x3).ext x4) p4 zp
          rw [ea] at ea'; cases ea'
          exact ⟨H', dp, h3 M3 H' σ (x4.trans x5) r5 ((e3.ext x4).ext x5)⟩
/-- {} -/
def eNewK : En → MS → R D := fun _ S => .ok (.obj S.length) (S ++ [.dK []])
def eNewT : En → MS → R D := fun _ S => .ok (.obj S.length) (S ++ [.dT []])
theorem den_newK {X : Cx} {G : Gx} {W : WX} {pos : Pos} : PE X (.Dict [] [] pos) (tD G W eNewK) := by
  refine pe_imp pe_dnewK fun σ H Q ⟨M, S, ρ, r, e, h⟩ p np => ?_
  refine h ⟨M.m ++ [p], M.x⟩ _ (.ref p) (Ext.newObj np) (r.laidObj np ⟨[], upd_same, Nat.zero_le _, .nil⟩) (.obj ?_)
  show (M.m ++ [p])[S.length]? = some p
  have rl : M.m.length = S.length := r.len
  rw [← rl, List.getElem?_append_right (Nat.le_refl _), Nat.sub_self]; rfl
theorem den_newT {X : Cx} {G : Gx} {W : WX} {pos : Pos} : PE X (.Dict [] [] pos) (tD G W eNewT) := by
  refine pe_imp pe_dnewT fun σ H Q ⟨M, S, ρ, r, e, h⟩ p np => ?_
  refine h ⟨M.m ++ [p], M.x⟩ _ (.ref p) (Ext.newObj np) (r.laidObj np ⟨[], upd_same, Nat.zero_le _, .nil⟩) (.obj ?_)
  show (M.m ++ [p])[S.length]? = some p
  have rl : M.m.length = S.length := r.len
  rw [← rl, List.getElem?_append_right (Nat.le_refl _), Nat.sub_self]; rfl
section
variable {X : Cx} {G : Gx} {W : WX} {pos : Pos} {elt tg iter : Expr} {ifs : List Expr} {scope : Scope} {own : List (Str × Nat)} {p : Pat} {ft : En → MS → R Bool} {fe : En → MS → R D}
theorem dens_setLcQ {i : Nat} {y : Str} {py spos : Pos} {it : En → MS → R (Src × Nat)} (hc : X.calm = true) (hN : X.N.Nodup) (hi : PI X tg iter (tIO G W it)) (ok : BlkOk X.N X.env.scope scope own) (hs : ∀ i ∈ slots p, i ∈ own.map (·.2))
    (hg : ∀ (s : Shared) (H : Hp) (C : Addr) (cl : List (Str × Addr)) (fp : List Addr), PG (X.blk s H scope (compEnvC scope cl C X.env) fp) tg (tPat G p))
    (ht : ∀ (s : Shared) (H : Hp) (C : Addr) (cl : List (Str × Addr)) (fp : List Addr), PTs (X.blk s H scope (compEnvC scope cl C X.env) fp) ifs (tT G W0 ft))
    (he : ∀ (s : Shared) (H : Hp) (C : Addr) (cl : List (Str × Addr)) (fp : List Addr), PE (X.blk s H scope (compEnvC scope cl C X.env) fp) elt (tD G W0 fe))
    (hsw : swapsWith (.ListComp elt [⟨tg, iter, ifs, 0⟩] scope pos) (some (.Name y py)) spos.line X.env = pure true)
    (hy : X.N[i]? = some y := by rfl) (hyl : X.env.scope.names.lookup y = some .local := by rfl) (hfs : ∀ x, foldedSetIterable iter X.env x = pure x := by intro _; rfl) :
    PS X (.Assign [.Name y py] (.ListComp elt [⟨tg, iter, ifs, 0⟩] scope pos) spos) (tS G W (sSet i (eVal (eLcO it p ft fe (own.map (·.2)))))) :=
  ps_imp (ps_setLc hc hN hy hyl hsw hi ok hg ht he hfs) fun D σ H h => lcO_read hs (val_read (set_read h))
end
end Dn

namespace Dn
open PySem PySem.Spec PyProof.Rows L2 LamX
/-! ### the pairs of a locked dict with tuple keys -/
def Itit (d : Addr) (o : Obj) (kvs : List (List Key × V)) : It :=
  ⟨fun i H => H d = some (.frz o (.dT kvs)) ∧ i < kvs.length, fun i H x H' => ∃ T k v q, kvs[i]? = some (k, v) ∧ x = .ref T ∧ H T = none ∧ H q = some (.tup (k.map kV)) ∧ H' = upd H T (.tup [.ref q, v]), fun i H => H d = some (.frz o (.dT kvs)) ∧ kvs.length ≤ i⟩
theorem frzV {X : Cx} {pins : List (Addr × Obj)} {σ : L2.St} {H : Hp} {s : Shared} {d : Addr} {o : Obj} {kvs : List (List Key × V)} (I : Inv X pins σ H s) (h : H d = some (.frz o (.dT kvs))) :
    (d == sysModules) = false ∧ s.heap.get? d = some o ∧ o.ExactDict ∧ ∃ (es : Array DictEntry) (ep : Nat), o.data = .dict es ep ∧ es.size = kvs.length ∧
      ∀ (i : Nat) (k : List Key) (v : V), kvs[i]? = some (k, v) → ∃ (en : DictEntry) (q : Addr), es[i]? = some en ∧ en.key = .ref q ∧ H q = some (.tup (k.map kV)) ∧ RelV v en.val := by
  obtain ⟨hd, z, hs, xs, pr, o', es, ep, ho, hx, hdt, he, _⟩ := I.hok d _ h
  rw [hd] at ho
  cases ho
  refine ⟨hs, hd, hx, es, ep, hdt, ?_, fun i k v e => ?_⟩
  · have l1 : es.size = xs.length := size_of_entries he
    have l2 : kvs.length = xs.length := Paired.length pr
    omega
  · obtain ⟨b, hb, e1, e2, e3⟩ := paired_get pr e
    have q := entry_at he i
    rw [hb] at q
    exact ⟨_, b.2.1, q, rfl, e2, e3⟩
section
variable {P : Program} {w : World} {K : PySem.W.Frag} {d : Addr} {o : Obj} {es : Array DictEntry} {ep : Nat}
theorem turn_itemsT {kvs : List (List Key × V)} {elts : List Expr} {kk : Nat} {tpos : Pos} (it : Addr) (hod : o.data = .dict es ep) :
    Turn P w K (.Tuple elts kk tpos) (Itit d o kvs) [it] it (fun i h => ∃ ok ov, IsItemIter h it d i kvs.length ep ok ov) where
  mem := by simp
  obj := fun i h st b hb => by
    have e : b = it := by simpa using hb
    subst e
    obtain ⟨ok, ov, e⟩ := st
    exact ⟨_, e, fun v z => nomatch z⟩
  keep := fun i h h' st k => let ⟨ok, ov, e⟩ := st; ⟨ok, ov, k it (by simp) _ e⟩
  item := by
    intro X hP hw hK hc i pins s σ H E I hf st hg
    subst hP hw hK
    obtain ⟨hd, hi⟩ := hg
    obtain ⟨hs, hgd, hx, es', ep', hdt, hsz, ent⟩ := frzV I hd
    obtain ⟨rfl, rfl⟩ := dict_ep hod hdt
    obtain ⟨⟨k, v⟩, hkv⟩ : ∃ p, kvs[i]? = some p := ⟨kvs[i], List.getElem?_eq_getElem hi⟩
    obtain ⟨en, q, hen, hkey, hq, hv⟩ := ent i k v hkv
    obtain ⟨ok, ov, he⟩ := st
    rw [← hsz] at he
    have hlt : it < s.heap.objs.size := Heap.lt_size he
    have hie : i < es'.size := by rw [hsz]; exact hi
    have een : es'[i] = en := by
      rw [Array.getElem?_eq_getElem hie] at hen
      exact Option.some.inj hen
    refine DT.nextI he ⟨o, hgd, hx, hdt⟩ hie fun h' ho hT hz hk => ?_
    rw [een] at ho hT
    refine ⟨_, rfl, wpAny_letOwnedTupleGo_items (s := { s with heap := h' }) ho fun h'' he' sb => ?_⟩
    have hT2 : h''.get? s.heap.objs.size = some { cls := .type "tuple", data := .seq #[en.key, en.val] } := (sb.2 _ (Nat.ne_of_gt hlt)).trans hT
    have new : ObjOk X.prog X.w (upd H s.heap.objs.size (.tup [.ref q, v])) h'' s.heap.objs.size (.tup [.ref q, v]) :=
      ⟨by show 2 ≤ sizeLine; decide, [en.key, en.val], .cons hkey (.cons hv .nil), ⟨_, hT2, rfl, _, rfl⟩⟩
    have I1 : Inv X pins σ (upd H s.heap.objs.size (.tup [.ref q, v])) { s with heap := h'' } :=
      I.turnedNew (t' := s.toks) (ch := [it]) (fun b ob hb e => (sb.2 b (by simpa using hb)).trans (hk b ob (by simpa using hb) e)) hf (Nat.le_refl _) new
    refine ⟨.ref s.heap.objs.size, _, I1, rfl, ⟨_, k, v, q, hkv, rfl, I.hok.fresh (Nat.le_refl _), hq, rfl⟩, ⟨en.key, en.val, ?_⟩, fun b hb => ?_⟩
    · rw [← hsz]; exact he'
    · have e : b = it := by simpa using hb
      rw [e, upd_ne (Nat.ne_of_lt hlt)]
      exact (hf it (by simp)).1
  done := by
    intro X hP hw hK hc i pins s σ H E I hf st hg
    subst hP hw hK
    obtain ⟨hd, hi⟩ := hg
    obtain ⟨f0, f1, f2, f3, f4, f5⟩ := hf it (by simp)
    obtain ⟨hs, hgd, hx, es', ep', hdt, hsz, ent⟩ := frzV I hd
    obtain ⟨rfl, rfl⟩ := dict_ep hod hdt
    obtain ⟨ok, ov, he⟩ := st
    rw [← hsz] at he
    exact DT.endI (I.ok.hd hc) he ⟨o, hgd, hx, hdt⟩ (by omega) fun h' eb => ⟨rfl, I.turned (t' := s.toks) (fun b ob hb e => eb b ob hb e) f0 f1 f3 f4 f5⟩
  self := fun A i s Q E st h => let ⟨_, _, e⟩ := st; PySem.W.kcp_self e h
end
def iItemsT (td : TE) : TI := fun σ H R => td σ H fun x H1 => ∃ d o kvs, x = .ref d ∧ H1 d = some (.frz o (.dT kvs)) ∧ R (Itit d o kvs) H1
theorem pi_itemsT {X : Cx} {e : Expr} {td : TE} {apos cpos : Pos} {elts : List Expr} {kk : Nat} {tpos : Pos} (he : PE X e td) (hbase : attributeBase e "items" X.env (eval e X.env) = eval e X.env := by rfl) (hline : (apos.endLine == cpos.line) = true := by rfl) :
    PI X (.Tuple elts kk tpos) (.Call (.Attribute e "items" apos) [] [] cpos) (iItemsT td) := by
  refine ⟨fun pins s σ H R I h => ?_⟩
  refine wpAny_Call_method (T := "dict") (id := "dict.items") hbase rfl hline F.plainAttrs_dict F.slot_dict_items F.type_dict_items (thn (he.run pins s σ H _ I h) fun u s1 ⟨x, H1, I1, rx, d, o, kvs, ex, hd, q⟩ => ?_)
  subst ex
  obtain rfl : u = Value.ref d := rx
  obtain ⟨hs, hgd, hx, es, ep, hdt, hsz, ent⟩ := frzV I1 hd
  have hm : DT.Raw s1.heap d es ep := ⟨o, hgd, hx, hdt⟩
  refine ⟨hm.typeIs, fun a e => by cases e; exact ⟨o, hgd, by first | exact hx.2 | exact hx.2.1 | exact hx.2.2⟩, ?_⟩
  have I2 : Inv X pins σ H1 { s1 with heap := s1.heap.push { cls := .type "dict_items", data := .fields #[.ref d] } } := I1.kept (t' := s1.toks) fun b ob q => Heap.get?_push_of_some _ q
  have fin : wpAny (model X.prog X.w) X.A (pyIter (.ref s1.heap.objs.size)) (PIE X pins σ (.Tuple elts kk tpos) R) X.xe { s1 with heap := s1.heap.push { cls := .type "dict_items", data := .fields #[.ref d] } } := by
    refine DT.iterI (d := d) (es := es) (ep := ep) ⟨_, Heap.get?_push_size _ rfl, rfl, rfl⟩ (hm.push _) (pi_one (tk := s1.toks) I2 _ (turn_itemsT _ hdt) ⟨.none, .none, ?_⟩ q)
    rw [← hsz]
    exact Heap.get?_push_size _ rfl
  show wpAny _ _ (callWith cpos (.builtin "dict.items") [.ref d] [] []) _ X.xe s1
  exact method_meetsIn F.slot_dict_items F.entry_dict_items rfl (PySem.evalArgs_none ⟨rfl, hm.typeIs, F.args_dict_items_1 _, _, DT.meetsItems (es := es) (ep := ep) hs, hm, fin⟩)
/-! ### .. on data -/
def pairsT (S : MS) (d : D) : Option (List D) := match d with
  | .obj k => match S[k]? with
    | some (.lckT kvs) => if (kvs.all fun p => decide (p.1.length ≤ 1000)) = true then some (kvs.map fun p => .tup [.tup (p.1.map keyToD), p.2]) else none
    | _ => none
  | _ => none
def iItD (f : En → MS → R D) : En → MS → R (List D) := fun ρ S => (f ρ S).bind fun d S1 => ofO (pairsT S1 d) S1
theorem kreps_get {κ : Type} {G : Gx} {M : Mx} {H : Hp} : ∀ {vs : List (κ × V)} {ds : List (κ × D)}, KReps G M H vs ds → ∀ {i : Nat} {w : κ × D}, ds[i]? = some w → ∃ u, vs[i]? = some u ∧ u.1 = w.1 ∧ Rep G M H u.2 w.2
  | _, _, .nil, i, w, h => by simp at h
  | _, _, .cons r t, 0, w, h => by
    simp at h; subst h
    exact ⟨_, rfl, r.1, r.2⟩
  | _, _, .cons r t, i + 1, w, h => kreps_get t (by simpa using h)
theorem deni_items {X : Cx} {G : Gx} {W : WX} {e : Expr} {f : En → MS → R D} {apos cpos : Pos} {elts : List Expr} {kk : Nat} {tpos : Pos} (he : PE X e (tD G W f)) (hbase : attributeBase e "items" X.env (eval e X.env) = eval e X.env := by rfl) (hline : (apos.endLine == cpos.line) = true := by rfl) :
    PI X (.Tuple elts kk tpos) (.Call (.Attribute e "items" apos) [] [] cpos) (tIV G W (iItD f)) := by
  refine pi_imp (pi_itemsT he hbase hline) fun σ H Rk ⟨M, S, ρ, r, e, h⟩ => ?_
  unfold iItD at h
  refine ⟨M, S, ρ, r, e, ?_⟩
  cases z : f ρ S with
  | bad => rw [z] at h; exact h.elim
  | exc c S' => rw [z] at h; exact h
  | ok d S' =>
    rw [z] at h
    intro M1 H1 v x1 r1 p1
    change match ofO (pairsT S' d) S' with | .ok ds S'' => ∀ M' H' J, Ext M H M' H' → Rel G M' S'' H' → ItR G M' H' J (vsrc ds) → Rk J H' | .exc c S'' => _ | .bad => False at h
    cases zk : pairsT S' d with
    | none => rw [zk] at h; exact h.elim
    | some ks =>
      rw [zk] at h
      change ∀ M' H' J, Ext M H M' H' → Rel G M' S' H' → ItR G M' H' J (vsrc ks) → Rk J H' at h
      unfold pairsT at zk
      split at zk
      · rename_i k
        obtain ⟨a, rfl, hm⟩ := p1.obj_inv
        split at zk
        · rename_i kvs hs
          split at zk
          · rename_i hall
            cases zk
            obtain ⟨o, us, ha, _, kr⟩ := r1.at_ k a _ hm hs
            refine ⟨a, o, us, rfl, ha, h M1 H1 _ x1 r1 fun M2 H2 S2 x2 r2 i => ?_⟩
            have hf := x2.frz a o _ ha
            unfold vsrc
            rw [List.getElem?_map]
            cases q : kvs[i]? with
            | none =>
              show H2 a = some (.frz o (.dT us)) ∧ us.length ≤ i
              refine ⟨hf, ?_⟩
              rw [kreps_len kr]
              exact List.getElem?_eq_none_iff.mp q
            | some w =>
              obtain ⟨u, hu, eu, ru⟩ := kreps_get kr q
              refine ⟨⟨hf, ?_⟩, fun x H3 hy => ?_⟩
              · rw [kreps_len kr]; exact (List.getElem?_eq_some_iff.mp q).1
              · obtain ⟨T, k', v', qa, e1, rfl, nT, hq, rfl⟩ := hy
                rw [hu] at e1; cases e1
                have hl := List.all_eq_true.mp hall w (List.mem_of_getElem? q)
                rw [decide_eq_true_eq] at hl
                obtain ⟨n1, n2⟩ := rel_notup r2 hq
                simp only at eu ru
                rw [eu] at hq
                exact pair_new r2 nT (.tup hq n1 n2 (thou (by rw [List.length_map]; exact hl)) (keysToD_rep _)) (ru.extW x2)
          · cases zk
        · cases zk
      · cases zk
/-! ### a statement that runs while a dict is locked -/
def unlkS (k : Nat) (S : MS) (f : MS → RS) : RS := match unlockM S[k]? with
  | some u => f (S.set k u)
  | none => .bad
def sLk (i : Nat) (g : En → MS → RS) : En → MS → RS := fun ρ S => match objAt ρ i with
  | some k => match lockM S[k]? with
    | some l => match g ρ (S.set k l) with
      | .nx ρ' S' => unlkS k S' (.nx ρ')
      | .ret d S' => unlkS k S' (.ret d)
      | .brk ρ' S' => unlkS k S' (.brk ρ')
      | .ct ρ' S' => unlkS k S' (.ct ρ')
      | _ => .bad
    | none => .bad
  | none => .bad
theorem EnvR.mem {G : Gx} {M : Mx} {H : Hp} {σ : L2.St} {ρ : En} {a : Addr} {o : HO} (e : EnvR G M H σ ρ) (hm : a ∈ M.m) : EnvR G M (upd H a o) σ ρ :=
  ⟨e.1, fun i d h => let ⟨w, hw, r⟩ := e.2 i d h; ⟨w, hw, r.mem hm⟩⟩
theorem dens_lock {X : Cx} {G : Gx} {W : WX} {st : Stmt} {i : Nat} {g : En → MS → RS} (hs : PS X st (tS G W0 g)) : PS X st (tS G W (sLk i g)) := by
  refine ps_imp (ps_lock hs) fun D σ H ⟨M, S, ρ, r, e, h⟩ => ?_
  unfold sLk at h
  cases zo : objAt ρ i with
  | none => rw [zo] at h; exact h.elim
  | some k =>
    simp only [zo] at h
    cases zl : lockM S[k]? with
    | none => rw [zl] at h; exact h.elim
    | some l =>
      simp only [zl] at h
      obtain ⟨w, hw, rw_⟩ := e.2 i _ (objAt_of zo)
      obtain ⟨a, rfl, hm⟩ := rw_.obj_inv
      obtain ⟨u, ha, mu, nf, go⟩ := lock_at r hm zl
      refine ⟨a, u, ha, mu, fun od => ?_⟩
      obtain ⟨r1, x1, back⟩ := go od
      refine ⟨M, S.set k l, ρ, r1, e.ext x1, ?_⟩
      have hin : ∀ {M' : Mx} {H' : Hp}, Ext M (upd H a (.frz od u)) M' H' → a ∈ M'.m := fun {M' H'} x' => by
        obtain ⟨l1, q4, _⟩ := x'.more
        rw [q4]; exact List.mem_append_left _ (List.mem_of_getElem? hm)
      cases zf : g ρ (S.set k l) with
      | bad => rw [zf] at h; exact h.elim
      | exc c ρ' S' => rw [zf] at h; exact h.elim
      | nx ρ' S' =>
        rw [zf] at h
        change PostS G W M H (unlkS k S' (.nx ρ')) D at h
        unfold unlkS at h
        cases zu : unlockM S'[k]? with
        | none => rw [zu] at h; exact h.elim
        | some v =>
          rw [zu] at h
          intro M' H' σ' x' r' e'
          obtain ⟨q1, q2, q3⟩ := back M' S' H' x' r' v zu
          exact ⟨q1, h M' _ σ' q2 q3 (e'.mem (hin x'))⟩
      | ret d S' =>
        rw [zf] at h
        change PostS G W M H (unlkS k S' (.ret d)) D at h
        unfold unlkS at h
        cases zu : unlockM S'[k]? with
        | none => rw [zu] at h; exact h.elim
        | some v =>
          rw [zu] at h
          intro M' H' b x' r' p'
          obtain ⟨q1, q2, q3⟩ := back M' S' H' x' r' v zu
          exact ⟨q1, h M' _ b q2 q3 (p'.mem (hin x'))⟩
      | brk ρ' S' =>
        rw [zf] at h
        change PostS G W M H (unlkS k S' (.brk ρ')) D at h
        unfold unlkS at h
        cases zu : unlockM S'[k]? with
        | none => rw [zu] at h; exact h.elim
        | some v =>
          rw [zu] at h
          intro M' H' σ' x' r' e'
          obtain ⟨q1, q2, q3⟩ := back M' S' H' x' r' v zu
          exact ⟨q1, h M' _ σ' q2 q3 (e'.mem (hin x'))⟩
      | ct ρ' S' =>
        rw [zf] at h
        change PostS G W M H (unlkS k S' (.ct ρ')) D at h
        unfold unlkS at h
        cases zu : unlockM S'[k]? with
        | none => rw [zu] at h; exact h.elim
        | some v =>
          rw [zu] at h
          intro M' H' σ' x' r' e'
          obtain ⟨q1, q2, q3⟩ := back M' S' H' x' r' v zu
          exact ⟨q1, h M' _ σ' q2 q3 (e'.mem (hin x'))⟩
end Dn

namespace Dn
open PySem PySem.Spec PyProof.Rows L2 LamX
/-! ### {k: v}, k a tuple of ints and texts -/
theorem pe_disp1T {X : Cx} {k v : Expr} {pos : Pos} {tk tv : TE} (hu : X.A.units + 1 < cLine) (hk : PE X k tk) (hv : PE X v tv) : PE X (.Dict [some k] [v] pos) (fun σ H Q => ∀ p, H p = none → tk σ (upd H p (.dT [])) fun x H1 => tv σ H1 fun y H2 => H2 p = some (.dT []) ∧ ∃ b c, x = .ref b ∧ H2 b = some (.tup (c.map kV)) ∧ Q (.ref p) (upd H2 p (.dT [(c, y)]))) := by
  refine ⟨fun pins s σ H Q I hq => ?_⟩
  have I1 := I.laid (a := s.heap.objs.size) (o := .dT []) (t' := s.toks) (fun _ _ q => Heap.get?_push_of_some _ q) (Nat.le_refl _) (dt_empty s.heap I.big)
  refine wpAny_Dict_any rfl rfl (by simp) (by simp) ?_
  refine pairTrees_cons_walk (thn (hk.run pins _ σ _ _ I1 (hq _ (I.hok.fresh (Nat.le_refl _)))) fun u s1 ⟨x, H1, I1', rx, q1⟩ => thn (hv.run pins s1 σ H1 _ I1' q1) fun r s2 ⟨y, H2, I2, ry, hp, b, c, ex, hb, q2⟩ => pairTrees_nil_walk ?_)
  subst ex
  obtain rfl : u = Value.ref b := rx
  obtain ⟨z, hd, xs, rel, dd⟩ := dt_of I2.hok hp
  cases rel
  unfold storeAll
  rw [List.forIn_cons]
  refine wpAny_bind (wpAny_bind ?_)
  refine wpAny_dictSet_heap (hsz := by simp) (knd := tupleKind (mixKind X.prog X.w)) (show X.A.units < cLine by omega) (key_of I2.hok hb) dd fun h' dd' hs => ?_
  refine wpAny_pure ?_
  simp only
  rw [List.forIn_nil]
  refine wpAny_pure ?_
  obtain ⟨q, es, ep, hq, h2, h3, h4, _, h5⟩ := dd'
  refine ⟨.ref s.heap.objs.size, _, d_write I2 (ob := .dT [(c, y)]) (by rw [hp]; exact True.intro) hs ⟨q, hq⟩ ⟨by show 1 ≤ sizeLine; decide, hd, [(c, b, r)], .cons ⟨rfl, ?_, ry⟩ .nil, q, es, ep, hq, h2, h3, h4, h5⟩, rfl, q2⟩
  rw [upd_ne (ne_of hb hp (fun z => nomatch z))]
  exact hb
def eDt1 (fk fv : En → MS → R D) : En → MS → R D := fun ρ S => (fk ρ S).bind fun k S1 => (fv ρ S1).bind fun v S2 => match keyT k with
  | some c => .ok (.obj S2.length) (S2 ++ [.dT [(c, v)]])
  | none => .bad
theorem den_disp1T {X : Cx} {G : Gx} {W : WX} {k v : Expr} {pos : Pos} {fk fv : En → MS → R D} (hu : X.A.units + 64 < cLine) (hk : PE X k (tD G W fk)) (hv : PE X v (tD G W fv)) : PE X (.Dict [some k] [v] pos) (tD G W (eDt1 fk fv)) := by
  refine pe_imp (pe_disp1T (by omega) hk hv) fun σ H Q ⟨M, S, ρ, r, e, h⟩ => fun p np => ?_
  have n0 : p ∉ M.m := r.fresh np
  have e0 := e.ext (Ext.hide (o := .dT []) np)
  refine ⟨⟨M.m, p :: M.x⟩, S, ρ, r.hide np, e0, ?_⟩
  unfold eDt1 at h
  cases z : fk ρ S with
  | bad => rw [z] at h; exact h.elim
  | exc c S' => rw [z] at h; exact fun M1 H1 x1 r1 => h M1 H1 ((Ext.hide np).trans x1) r1
  | ok dk S1 =>
    rw [z] at h
    intro M1 H1 x x1 r1 p1
    refine ⟨M1, S1, ρ, r1, e0.ext x1, ?_⟩
    change Post G W σ M H (Rep G) ((fv ρ S1).bind fun v S2 => match keyT dk with | some c => .ok (.obj S2.length) (S2 ++ [.dT [(c, v)]]) | none => .bad) Q at h
    cases z2 : fv ρ S1 with
    | bad => rw [z2] at h; exact h.elim
    | exc c S' => rw [z2] at h; exact fun M2 H2 x2 r2 => h M2 H2 ((Ext.hide np).trans (x1.trans x2)) r2
    | ok dv S2 =>
      rw [z2] at h
      intro M2 H2 y x2 r2 p2
      change Post G W σ M H (Rep G) (match keyT dk with | some c => .ok (.obj S2.length) (S2 ++ [.dT [(c, dv)]]) | none => .bad) Q at h
      cases zk : keyT dk with
      | none => rw [zk] at h; exact h.elim
      | some c =>
        rw [zk] at h
        have x12 := x1.trans x2
        have hp : H2 p = some (.dT []) := x12.keep p _ upd_same n0
        have n1 : p ∉ M2.m := x12.notin upd_same n0
        have hx : p ∈ M2.x := x12.subx p List.mem_cons_self
        obtain ⟨b, rfl, hb⟩ := keyT_rep (p1.ext x2) zk
        refine ⟨hp, b, c, rfl, hb, ?_⟩
        have sub : ∀ a ∈ p :: M.x, a ∈ M2.x := x12.subx
        have r3 : Rel G ⟨M2.m, p :: M.x⟩ S2 (upd H2 p (.dT [(c, y)])) := (r2.turn (o := .dT [(c, y)]) hx n1).sub sub
        have kr : KReps G ⟨M2.m ++ [p], M.x⟩ (upd H2 p (.dT [(c, y)])) [(c, y)] [(c, dv)] := .cons ⟨rfl, ((p2.hid (o := .dT [(c, y)]) hx).sub sub).own⟩ .nil
        have r4 := r3.own (u := .dT [(c, dv)]) n1 (r.freshx np) ⟨[(c, y)], upd_same, by show 1 ≤ sizeLine; decide, kr⟩
        refine h ⟨M2.m ++ [p], M.x⟩ _ (.ref p) ((((Ext.hide np).trans x12).turn np).sub.own np) r4 (.obj ?_)
        show (M2.m ++ [p])[S2.length]? = some p
        have rl : M2.m.length = S2.length := r2.len
        rw [← rl, List.getElem?_append_right (Nat.le_refl _), Nat.sub_self]; rfl
def get2Z (S : MS) (o k x : D) : Option D := (getZ S o k).map fun w => w.getD x
def isDz (S : MS) (d : D) : Bool := match d with
  | .obj i => match S[i]? with
    | some (.dK _) => true
    | some (.dT _) => true
    | some (.lck _) => true
    | some (.lckT _) => true
    | _ => false
  | _ => false
def eGet2Z (fo fk fx : En → MS → R D) : En → MS → R D := fun ρ S => (fo ρ S).bind fun o S1 => if isDz S1 o = true then (fk ρ S1).bind fun k S2 => (fx ρ S2).bind fun x S3 => ofO (get2Z S3 o k x) S3 else .bad
theorem isDz_rep {G : Gx} {M : Mx} {S : MS} {H : Hp} {v : V} {d : D} (r : Rel G M S H) (p : Rep G M H v d) (h : isDz S d = true) : ∃ a, v = .ref a ∧ IsD H a := by
  unfold isDz at h
  split at h
  · rename_i i
    obtain ⟨a, rfl, ha⟩ := p.obj_inv
    refine ⟨a, rfl, ?_⟩
    split at h
    · rename_i hs; obtain ⟨vs, e, _⟩ := r.at_ i a _ ha hs; exact .inl ⟨vs, .inl e⟩
    · rename_i hs; obtain ⟨vs, e, _⟩ := r.at_ i a _ ha hs; exact .inr ⟨vs, .inl e⟩
    · rename_i hs; obtain ⟨o, vs, e, _⟩ := r.at_ i a _ ha hs; exact .inl ⟨vs, .inr ⟨o, e⟩⟩
    · rename_i hs; obtain ⟨o, vs, e, _⟩ := r.at_ i a _ ha hs; exact .inr ⟨vs, .inr ⟨o, e⟩⟩
    · cases h
  · cases h
theorem den_get2Z {X : Cx} {G : Gx} {W : WX} {o e x : Expr} {apos cpos : Pos} {fo fk fx : En → MS → R D} (hu : X.A.units + 64 < cLine) (ho : PE X o (tD G W fo)) (hk : PE X e (tD G W fk)) (hx : PE X x (tD G W fx)) (m : M2 X o "get" apos e x cpos) : PE X (.Call (.Attribute o "get" apos) [e, x] [] cpos) (tD G W (eGet2Z fo fk fx)) := by
  refine pe_imp (pe_dget2 (by omega) ho hk hx m) fun σ H Q ⟨M, S, ρ, r, e, h⟩ => ?_
  refine tD_mono (d_bind h r e) fun v H1 ⟨M1, S1, d1, x1, r1, p1, e1, h1⟩ => ?_
  cases zi : isDz S1 d1 with
  | false => rw [zi, if_neg Bool.false_ne_true] at h1; exact h1.elim
  | true =>
    rw [zi, if_pos rfl] at h1
    obtain ⟨a, rfl, ia⟩ := isDz_rep r1 p1 zi
    refine ⟨a, rfl, ia, ?_⟩
    refine tD_mono (d_bind h1 r1 e1) fun y H2 ⟨M2, S2, d2, x2, r2, p2, e2, h2⟩ => ?_
    refine tD_mono (d_bind h2 r2 e2) fun w H3 ⟨M3, S3, d3, x3, r3, p3, e3, h3⟩ => ?_
    obtain ⟨d, hd, q⟩ := post_ofO h3
    unfold get2Z at hd
    cases zg : getZ S3 d1 d2 with
    | none => rw [zg] at hd; cases hd
    | some w' =>
      rw [zg] at hd
      simp only [Option.map_some, Option.some.injEq] at hd
      subst hd
      obtain ⟨a', y', ea, dg, zz⟩ := getZ_ok r3 ((p1.ext x2).ext x3) (p2.ext x3) zg
      cases ea
      refine ⟨y', dg, ?_⟩
      rcases zz with ⟨rfl, rfl⟩ | ⟨w1, e1', rfl, rfl, rr⟩
      · exact q M3 H3 _ (Ext.refl _ _) r3 p3
      · exact q M3 H3 _ (Ext.refl _ _) r3 rr
end Dn

namespace Dn
open PySem PySem.Spec PyProof.Rows L2 LamX
/-! ### sorted(d.keys()), the keys tuples -/
def keysO (p d : Addr) : HO := .ext fun h => PySem.W.KdlKeysView h p d
theorem keysO_ok {P : Program} {w : World} {H : Hp} {h : Heap} {p d : Addr} (e : h.get? p = some { cls := .type "dict_keys", data := .fields #[.ref d] }) : ObjOk P w H h p (keysO p d) :=
  ⟨⟨_, e, rfl, rfl⟩, ⟨_, e⟩, fun h1 h2 x k => let ⟨o, ho, r⟩ := x; ⟨o, k o ho, r⟩⟩
def rKeysT : V → List V → Hp → VK → Prop := fun x xs H Q => ∃ (a : Addr) (kvs : List (List Key × V)), x = .ref a ∧ xs = [] ∧ H a = some (.dT kvs) ∧ ∀ p, H p = none → Q (.ref p) (upd H p (keysO p a))
theorem mt_keysT {X : Cx} : MtR X "dict.keys" rKeysT := by
  intro pins s σ H x xs v us Q I rx rxs h
  obtain ⟨a, kvs, rfl, rfl, ha, q⟩ := h
  cases rx
  cases rxs
  obtain ⟨z, hd, xs', rel, o, es, ep, ho, hx, hdat, _⟩ := dt_of I.hok ha
  have hm : s.heap.DictRaw a es ep := ⟨o, ho, hx, hdat⟩
  have hf : H s.heap.objs.size = none := I.hok.fresh (Nat.le_refl _)
  exact call_meetsIn PySem.F.slot_dict_keys hm.typeIs PySem.F.entry_dict_keys (PySem.F.args_dict_keys_1 _) (PySem.meets_dict_keys_raw a hd) ⟨⟨es, ep, hm⟩, .ref s.heap.objs.size, upd H s.heap.objs.size (keysO s.heap.objs.size a), I.laid (t' := s.toks) (fun b u e => Heap.get?_push_of_some _ e) (Nat.le_refl _) (keysO_ok (Heap.get?_push_size _ rfl)), rfl, q _ hf⟩
section
variable {prog : Program} {w : World} {A : Around} {E : Value → Shared → Prop} {s : Shared}
theorem items_keys {es : Array DictEntry} {acc : Array Value} (h : ItemsOf (fun i v => ∃ hi : i < es.size, v = es[i].key) acc es.size) : acc.toList = es.toList.map (·.key) := by
  obtain ⟨h1, h2⟩ := h
  refine List.ext_getElem? fun j => ?_
  rw [Array.getElem?_toList, List.getElem?_map, Array.getElem?_toList]
  by_cases q : j < es.size
  · have hj : j < acc.size := by omega
    obtain ⟨hi, e⟩ := h2 j acc[j] (Array.getElem?_eq_getElem hj)
    rw [Array.getElem?_eq_getElem hj, Array.getElem?_eq_getElem q, e]; rfl
  · rw [Array.getElem?_eq_none (by omega), Array.getElem?_eq_none (by omega)]; rfl
theorem sortedK_of_sort {p d : Addr} {es : Array DictEntry} {ep : Nat} {Q : Value → Shared → Prop} (hh : A.handled = none) (hv : PySem.W.KdlKeysView s.heap p d) (hm : s.heap.DictRaw d es ep) (hn : es.size ≤ sizeLine)
    (body : ∀ (E' : Value → Shared → Prop) (h' : Heap) (tk : Nat), (∀ b o, s.heap.get? b = some o → h'.get? b = some o) →
      wpAny (model prog w) A.in1.in1 (Builtin.«list.sort» ⟨[.ref h'.objs.size], []⟩) (fun f s' => f = .done (.ret .none) ∧ Q (.ref h'.objs.size) s') E' { s with heap := h'.push (seqObj "list" (es.toList.map (·.key)).toArray 0), toks := tk }) :
    wpAny (model prog w) A (call (.builtin "sorted") [.ref p]) Q E s := by
  refine call_function_entry_kw (kw := []) kind_sorted plain_sorted entry_sorted (args_sorted1 _) ?_
  unfold Builtin.«sorted»
  refine wpAny_bind (m := checkCount "sorted" 1 1 _) (wpAny_pure ?_)
  refine wpAny_bind (PySem.W.kdu_collect (A := A.in1) (PySem.KdlSrc.rawKeys (es := es) (ep := ep)) hh ⟨hv, hm⟩ hn fun h' tk acc hk hacc => ?_)
  rw [items_keys hacc]
  refine wpAny_bind (wpAny_newList ?_ (by rw [List.length_map, Array.length_toList]; exact hn))
  refine wpAny_bind (wpAny_holding (wpAny_call_entry_kw slot_list_sort ⟨_, Heap.get?_push_size _ rfl, rfl⟩ entry_list_sort ?body (args_list_sort _)))
  case body =>
    show wpAny (model prog w) A.in1.in1 (Builtin.«list.sort» ⟨[.ref h'.objs.size], []⟩) _ _ _
    refine wpAny_mono (body _ h' tk hk) (fun f s' hf => ?_) fun _ _ e => e
    obtain ⟨rfl, hq⟩ := hf
    exact ⟨_, rfl, wpAny_pure ⟨_, rfl, hq⟩⟩
end
/-- what is tracked stands -/
theorem laidN_absurd {X : Cx} {pins : List (Addr × Obj)} {σ : L2.St} {H : Hp} {s : Shared} {b : Addr} {u : HO} (I : Inv X pins σ H s) (e : H b = some u) (ha : s.heap.get? b = none) : False := by
  have hok := I.hok b u e
  cases u with
  | lst xs => obtain ⟨_, _, _, _, q⟩ := hok; rw [ha] at q; cases q
  | tup xs => obtain ⟨_, _, _, ob, q, _⟩ := hok; rw [ha] at q; cases q
  | dK kvs => obtain ⟨_, _, _, _, ob, _, _, q, _⟩ := hok; rw [ha] at q; cases q
  | dT kvs => obtain ⟨_, _, _, _, ob, _, _, q, _⟩ := hok; rw [ha] at q; cases q
  | set T n => obtain ⟨ob, _, _, _, q, _⟩ := hok; rw [ha] at q; cases q
  | ins C dx fs => obtain ⟨_, _, _, q, _⟩ := hok; rw [ha] at q; cases q
  | own y => obtain ⟨_, q⟩ := hok; rw [ha] at q; cases q
  | xd fs => obtain ⟨_, ⟨_, _, _, q, _⟩, _⟩ := hok; rw [ha] at q; cases q
  | met f x => rw [show s.heap.get? b = _ from hok] at ha; cases ha
  | rng lo hi => obtain ⟨_, _, _, q⟩ := hok; rw [ha] at q; cases q
  | frz ob v => obtain ⟨q, _⟩ := hok; rw [ha] at q; cases q
  | tbl ps => rw [show s.heap.get? b = _ from hok] at ha; cases ha
  | ext φ => obtain ⟨_, ⟨_, q⟩, _⟩ := hok; rw [ha] at q; cases q
/-- a new object, at an address where nothing stood -/
theorem laidN {X : Cx} {pins : List (Addr × Obj)} {σ : L2.St} {H : Hp} {s : Shared} {h' : Heap} {a : Addr} {o : HO} {t' : Nat} (I : Inv X pins σ H s) (k : ∀ b u, s.heap.get? b = some u → h'.get? b = some u) (ha : s.heap.get? a = none) (new : ObjOk X.prog X.w (upd H a o) h' a o) :
    Inv X pins σ (upd H a o) { s with heap := h', toks := t' } := by
  have there : ∀ b u, H b = some u → b ≠ a := fun b u e z => laidN_absurd I e (by rw [z]; exact ha)
  refine I.un (H' := upd H a o) (h' := h') ⟨fun b u e _ _ _ => k b u e, fun b u e _ _ _ => ⟨u.slots, k b u e⟩, fun b u e n _ => ?_, fun b u e _ => ⟨u, k b u e⟩, fun b xs e => ?_, fun b x u e => ?_, fun b ps e => ⟨#[], ?_⟩⟩ fun b u e => ?_
  · have : b ≠ a := fun z => by rw [z, ha] at e; cases e
    rw [upd_ne this]; exact n
  · rw [upd_ne (there b _ e)]; exact e
  · rw [upd_ne (there b _ e)]; exact e
  · rw [upd_ne (there b _ e), Array.append_empty]; exact e
  · by_cases q : b = a
    · subst q; rw [upd_same] at e; cases e; exact new
    · rw [upd_ne q] at e
      exact (I.hok b u e).stay (fun c v _ z => k c v z) (fun c z => by rw [upd_ne (there c _ z)]; exact z) fun c xs z => by rw [upd_ne (there c _ z)]; exact z
def keyPd : Key → PyData
  | .inl i => .int i
  | .inr x => .str x
def encK (k : List Key) : PyData := .tuple (k.map keyPd)
theorem encK_dep (k : List Key) : (encK k).depth ≤ 60 := by
  have : ∀ ks : List Key, PyData.depthAll (ks.map keyPd) ≤ 1 := by
    intro ks
    induction ks with
    | nil => simp [PyData.depthAll]
    | cons x xs ih => cases x <;> simp [PyData.depthAll, keyPd, PyData.depth] <;> omega
  have := this k
  simp [encK, PyData.depth]
  omega
def KeyAt (H : Hp) (x : V) (k : List Key) : Prop := ∃ q, x = .ref q ∧ H q = some (.tup (k.map kV))
theorem key_dp {K : PySem.W.Frag} {H : Hp} {x : V} {k : List Key} (h : KeyAt H x k) : Dp K H x (encK k) := by
  obtain ⟨q, rfl, e⟩ := h
  refine .tup (SqT.of e) ?_
  clear e
  induction k with
  | nil => exact .nil
  | cons c cs ih => cases c <;> exact .cons (by constructor) ih
theorem each_mono' {α β : Type} {R R' : α → β → Prop} (f : ∀ a b, R a b → R' a b) : ∀ {as : List α} {bs : List β}, Paired R as bs → Paired R' as bs := fun h => paired_imp f h
theorem eachV {Pr : V → List Key → Prop} : ∀ {us : List Value} {bs : List (List Key)}, PySem.W.EachIs (fun u b => ∃ x, RelV x u ∧ Pr x b) us bs → ∃ xs, Vals xs us ∧ Paired Pr xs bs
  | _, _, .nil => ⟨[], .nil, .nil⟩
  | _, _, .cons ⟨x, r, q⟩ t => by
    obtain ⟨xs, h1, h2⟩ := eachV t
    exact ⟨x :: xs, .cons r h1, .cons q h2⟩
theorem each_kt {H : Hp} : ∀ {kvs : List (List Key × V)} {xs : List (List Key × Addr × Value)}, KT H kvs xs → PySem.W.EachIs (fun u k => ∃ x, RelV x u ∧ KeyAt H x k) (xs.map fun x => Value.ref x.2.1) (kvs.map (·.1))
  | _, _, .nil => .nil
  | _, _, .cons (b := b) r t => .cons ⟨V.ref b.2.1, rfl, b.2.1, rfl, r.2.1⟩ (each_kt t)
def rSrtK : List V → Hp → VK → Prop := fun vs H Q => ∃ (p d : Addr) (kvs : List (List Key × V)), vs = [.ref p] ∧ H p = some (keysO p d) ∧ H d = some (.dT kvs) ∧
  (kvs.length ≤ 1 ∨ PySem.W.AllAlike ((kvs.map (·.1)).map encK) ∧ PySem.W.Sortable ((kvs.map (·.1)).map encK)) ∧ ∀ ys l, Paired (KeyAt H) ys ((kvs.map (·.1)).mergeSort (PySem.W.dataLe false encK)) → H l = none → Q (.ref l) (upd H l (.lst ys))
theorem cr_srtK {X : Cx} (hc : X.calm = true) (hu : X.A.units + 64 < cLine) : CallR X (.builtin "sorted") rSrtK := by
  intro pins s σ H vs us Q I r h
  obtain ⟨p, d, kvs, rfl, hp, hD, hcs, q⟩ := h
  rw [Vals.ref1 r]
  obtain ⟨hv, _, _⟩ := I.hok p _ hp
  obtain ⟨z, hsm, xs, rel, o, es, ep, ho, hx, hdat, hes, _, _⟩ := dt_of I.hok hD
  have hks : es.toList.map (·.key) = xs.map fun x => Value.ref x.2.1 := by rw [hes, List.map_map]; rfl
  have hxl : kvs.length = xs.length := Paired.length rel
  have hsz : es.size = xs.length := by rw [← Array.length_toList, hes, List.length_map]
  have e1 := each_kt rel
  refine sortedK_of_sort (I.ok.hd hc) hv ⟨o, ho, hx, hdat⟩ (by omega) fun E' h' tk hk => ?_
  rw [hks]
  generalize hvs : (xs.map fun x => Value.ref x.2.1) = vals at e1
  have hvl : vals.length = kvs.length := by rw [← hvs, List.length_map, hxl]
  have old : ∀ b u, s.heap.get? b = some u → b ≠ h'.objs.size := fun b u e => Nat.ne_of_lt (Heap.lt_size (hk b u e))
  have hL : vals.length ≤ sizeLine := by omega
  have hn0 : s.heap.get? h'.objs.size = none := by
    cases zz : s.heap.get? h'.objs.size with
    | none => rfl
    | some u => exact absurd rfl (old _ u zz)
  have hH : H h'.objs.size = none := by
    cases zz : H h'.objs.size with
    | none => rfl
    | some u =>
      have := (I.hok _ u zz).lt
      exact absurd hn0 (by
        intro e0
        exact (laidN_absurd I zz e0).elim)
  rcases hcs with hone | ⟨hal, hso⟩
  · refine Srt.list_sort_any (s := { s with heap := h'.push (seqObj "list" vals.toArray 0), toks := tk }) (Heap.get?_push_size _ rfl) hL (fun h2 => absurd h2 (by omega)) fun out hperm => ⟨rfl, ?_⟩
    have eo : out = vals := by
      match vals, hvl, hperm with
      | [], _, hp => exact List.perm_nil.mp hp
      | [v], _, hp => exact List.perm_singleton.mp hp
      | _ :: _ :: _, hv, _ => simp only [List.length_cons] at hv; omega
    subst eo
    obtain ⟨ys, h1, h2⟩ := eachV e1
    have em : (kvs.map (·.1)).mergeSort (PySem.W.dataLe false encK) = kvs.map (·.1) := by
      match kvs, hone with
      | [], _ => simp
      | [_], _ => simp
    rw [← em] at h2
    obtain ⟨ep', hat⟩ := PyProof.Rows.sortedHeap_at (h := h'.push (seqObj "list" out.toArray 0)) (a := h'.objs.size) (vs := out) (n := 0) (out := out.toArray) (Heap.get?_push_size _ rfl)
    have hyl : ys.length ≤ sizeLine := by rw [h1.length]; exact hL
    exact ⟨.ref h'.objs.size, upd H h'.objs.size (.lst ys), laidN (s := s) (t' := tk) I (fun b u e => by
      rw [PyProof.Rows.sortedHeap_old (old b u e) (Heap.lt_size (Heap.get?_push_of_some _ (hk b u e)))]
      exact Heap.get?_push_of_some _ (hk b u e)) hn0 ⟨hyl, _, ep', h1, by simpa using hat⟩, rfl, q ys _ h2 hH⟩
  · have er : PySem.W.EachIs (fun v k => ∃ as, Reads (PySem.W.sortingHeap (h'.push (seqObj "list" vals.toArray 0)) h'.objs.size vals) v (encK k) as) vals (kvs.map (·.1)) := by
      refine e1.mono fun v k ⟨x, rx, kx⟩ => ?_
      obtain ⟨as, rd⟩ := Dp.reads I _ x _ (key_dp (K := X.K) kx) rx
      exact ⟨as, PyProof.Rows.Reads.keeps (fun b u e => PySem.W.sortingHeap_old (old b u e) (Heap.get?_push_of_some _ (hk b u e))) rd⟩
    have S := PySem.W.SortsAt.data (prog := X.prog) (w := X.w) (A := X.A.in1.in1) (s := { s with heap := PySem.W.sortingHeap (h'.push (seqObj "list" vals.toArray 0)) h'.objs.size vals, toks := tk }) (PySem.W.each_map (R := fun v d => ∃ as, Reads (PySem.W.sortingHeap (h'.push (seqObj "list" vals.toArray 0)) h'.objs.size vals) v d as) encK er) hal hso (PySem.W.bound_map fun b hb => by
      have := encK_dep b
      show X.A.units + 2 + (encK b).depth < cLine
      omega)
    refine PySem.W.list_sort_vals (s := { s with heap := h'.push (seqObj "list" vals.toArray 0), toks := tk }) (Heap.get?_push_size _ rfl) S hL ⟨rfl, ?_⟩
    have fin := PySem.W.sortVals_data false e1 er hal
    obtain ⟨ys, h1, h2⟩ := eachV fin
    obtain ⟨ep', hat⟩ := PyProof.Rows.sortedHeap_at (h := h'.push (seqObj "list" vals.toArray 0)) (a := h'.objs.size) (vs := vals) (n := 0) (out := (PySem.W.sortVals (PySem.W.dataKind (PySem.W.sortingHeap (h'.push (seqObj "list" vals.toArray 0)) h'.objs.size vals) ((kvs.map (·.1)).map encK)) false vals vals).toArray) (Heap.get?_push_size _ rfl)
    have hyl : ys.length ≤ sizeLine := by
      rw [h1.length, PySem.W.sortVals_length false rfl]; exact hL
    exact ⟨.ref h'.objs.size, upd H h'.objs.size (.lst ys), laidN (s := s) (t' := tk) I (fun b u e => by
      rw [PyProof.Rows.sortedHeap_old (old b u e) (Heap.lt_size (Heap.get?_push_of_some _ (hk b u e)))]
      exact Heap.get?_push_of_some _ (hk b u e)) hn0 ⟨hyl, _, ep', h1, by simpa using hat⟩, rfl, q ys _ h2 hH⟩
end Dn

namespace Dn
open PySem PySem.Spec PyProof.Rows L2 LamX
/-! ### sorted(d.keys()) on data -/
def keyTD (k : List Key) : D := .tup (k.map keyToD)
def srtKeys (S : MS) (o : D) : Option D := match o with
  | .obj k => match S[k]? with
    | some (.dT kvs) => if ((decide (kvs.length ≤ 1) || srtB ((kvs.map (·.1)).map encK)) && kvs.all fun p => decide (p.1.length ≤ 1000)) = true then some (.lst (((kvs.map (·.1)).mergeSort (PySem.W.dataLe false encK)).map keyTD)) else none
    | _ => none
  | _ => none
def eSrtK (f : En → MS → R D) : En → MS → R D := fun ρ S => (f ρ S).bind fun d S1 => ofO (srtKeys S1 d) S1
theorem kreps_keys {κ : Type} {G : Gx} {M : Mx} {H : Hp} : ∀ {vs : List (κ × V)} {ds : List (κ × D)}, KReps G M H vs ds → vs.map (·.1) = ds.map (·.1)
  | _, _, .nil => rfl
  | _, _, .cons r t => by rw [List.map_cons, List.map_cons, r.1, kreps_keys t]
theorem srtB_two {ps : List PyData} (hb : srtB ps = true) : PySem.W.AllAlike ps ∧ PySem.W.Sortable ps := by
  unfold srtB at hb
  rw [Bool.and_eq_true, Bool.and_eq_true, Bool.or_eq_true] at hb
  obtain ⟨h1, h2, h3⟩ := hb
  refine ⟨fun x hx y hy => List.all_eq_true.mp (List.all_eq_true.mp h1 x hx) y hy, ?_⟩
  rcases h2 with h2 | h2
  · refine .inl fun x hx => ?_
    have := List.all_eq_true.mp h2 x hx
    cases x with
    | tuple l =>
      cases l with
      | nil => cases this
      | cons y l => exact ⟨y, l, rfl⟩
    | _ => cases this
  · refine .inr fun x hx => ?_
    have := List.all_eq_true.mp h2 x hx
    cases x with
    | none => cases this
    | tuple l => cases this
    | _ => exact ⟨(by intro e; cases e), (by intro l e; cases e)⟩
theorem keyAt_reps {G : Gx} {M : Mx} {S : MS} {H : Hp} (r : Rel G M S H) : ∀ {ys : List V} {ks : List (List Key)}, (∀ k ∈ ks, k.length ≤ 1000) → Paired (KeyAt H) ys ks → Reps G M H ys (ks.map keyTD)
  | [], [], _, .nil => .nil
  | y :: ys, k :: ks, hl, .cons h t => by
    obtain ⟨q, rfl, e⟩ := h
    obtain ⟨n1, n2⟩ := rel_notup r e
    refine .cons ?_ (keyAt_reps r (fun c hc => hl c (List.mem_cons_of_mem _ hc)) t)
    exact .tup e n1 n2 (thou (by rw [List.length_map]; exact hl k List.mem_cons_self)) (keysToD_rep _)
theorem den_srtKeys {X : Cx} {G : Gx} {W : WX} {o : Expr} {f : En → MS → R D} {apos cpos p pos : Pos} (hc : X.calm = true) (hu : X.A.units + 64 < cLine) (hg : Gl X "sorted") (hm : X.mg "sorted" = none) (ho : PE X o (tD G W f))
    (hbase : attributeBase o "keys" X.env (eval o X.env) = eval o X.env := by rfl) (hline : (apos.endLine == cpos.line) = true := by rfl)
    (he : starEach [.Call (.Attribute o "keys" apos) [] [] cpos] X.env = (false, eval (.Call (.Attribute o "keys" apos) [] [] cpos) X.env) :: starEach [] X.env := by rfl) (hpl : (backTo pos (starEach [] X.env)).any (·.1) = false := by rfl) :
    PE X (.Call (.Name "sorted" p) [.Call (.Attribute o "keys" apos) [] [] cpos] [] pos) (tD G W (eSrtK f)) := by
  refine pe_imp (pe_callB (cr_srtK hc hu) hg hm bt_sorted (pa_cons (pe_bm0 F.plainAttrs_dict F.slot_dict_keys F.type_dict_keys mt_keysT ho hbase hline) pa_nil he) (by decide) (by decide) he hpl) fun σ H Q ⟨M, S, ρ, r, e, h⟩ => ?_
  refine tD_mono (d_bind h r e) fun v H1 ⟨M1, S1, d1, x1, r1, p1, e1, h1⟩ => ?_
  obtain ⟨d, hd, q⟩ := post_ofO h1
  unfold srtKeys at hd
  split at hd
  · rename_i k
    obtain ⟨a, rfl, ha⟩ := p1.obj_inv
    split at hd
    · rename_i kvs hs
      split at hd
      · rename_i hb
        cases hd
        rw [Bool.and_eq_true] at hb
        obtain ⟨us, hu1, z, kr⟩ := r1.at_ k a _ ha hs
        have ek := kreps_keys kr
        have hkl0 : us.length = kvs.length := by have := congrArg List.length ek; simpa using this
        have h23 : us.length ≤ 1 ∨ PySem.W.AllAlike ((kvs.map (·.1)).map encK) ∧ PySem.W.Sortable ((kvs.map (·.1)).map encK) := by
          rcases (Bool.or_eq_true _ _).mp hb.1 with z | z
          · exact .inl (by rw [hkl0]; exact of_decide_eq_true z)
          · exact .inr (srtB_two z)
        refine ⟨.inr (.inr (.inl ⟨rfl, .inr ⟨us, hu1⟩⟩)), a, us, rfl, rfl, hu1, fun pv np => ?_⟩
        have r2 := r1.laid (o := keysO pv a) np
        refine ⟨pv, a, us, rfl, upd_same, by rw [upd_ne (ne_of_none hu1 np)]; exact hu1, by rw [ek]; exact h23, fun ys l hp hl => ?_⟩
        rw [ek] at hp
        have hkl : ∀ c ∈ (kvs.map (·.1)).mergeSort (PySem.W.dataLe false encK), c.length ≤ 1000 := by
          intro c hc
          have := (List.mergeSort_perm _ _).mem_iff.mp hc
          obtain ⟨w, hw, rfl⟩ := List.mem_map.mp this
          exact of_decide_eq_true (List.all_eq_true.mp hb.2 w hw)
        have hyl : ys.length ≤ sizeLine := by
          rw [Paired.length hp, List.length_mergeSort, List.length_map, ← kreps_len kr]; exact z
        exact q M1 _ _ ((Ext.new np).trans (Ext.new hl)) (r2.laid hl) (.lst upd_same (r2.fresh hl) (r2.freshx hl) hyl ((keyAt_reps r2 hkl hp).ext (Ext.new hl)))
      · cases hd
    · cases hd
  · cases hd
end Dn

namespace Dn
open PySem PySem.Spec PyProof.Rows L2 LamX
/-! ### int(b) -/
def intB (S : MS) (ds : List D) : Option D := match ds with
  | [.int i] => some (.int i)
  | [.bl b] => some (.int (if b then 1 else 0))
  | _ => none
theorem cd_intB {G : Gx} : CallD G (fun xs H Q => (∃ i, xs = [.int i] ∧ Q (.int i) H) ∨ ∃ k, xs = [.bl k] ∧ Q (.int (if k then 1 else 0)) H) intB := by
  intro M S H xs ds d Q r rx hg q
  unfold intB at hg
  split at hg
  · obtain ⟨v, rfl, rv⟩ := rx.inv1
    cases hg
    rw [rv.int_inv]
    exact .inl ⟨_, rfl, q _ _ (Ext.refl _ _) r (.int _)⟩
  · obtain ⟨v, rfl, rv⟩ := rx.inv1
    cases hg
    cases rv
    exact .inr ⟨_, rfl, q _ _ (Ext.refl _ _) r (.int _)⟩
  · cases hg
/-! ### min(t, default=d), t a tuple of data -/
def btP (ps : List PyData) : Nat → Nat → Bool := fun i j => PySem.W.dataLt (ps.getD i .none) (ps.getD j .none)
def tMinD (K : PySem.W.Frag) (te td : TE) : TE := fun σ H Q => te σ H fun v H1 => td σ H1 fun y H2 => ∃ (a : Addr) (xs : List V) (ps : List PyData), v = .ref a ∧ SqT K H2 a xs ∧ xs.length = ps.length ∧ (∀ i x, xs[i]? = some x → Dp K H2 x (ps.getD i .none)) ∧ (∀ d ∈ ps, ∀ e ∈ ps, PySem.W.alike d e = true) ∧ (∀ d ∈ ps, d ≠ .none) ∧ (∀ d ∈ ps, d.depth ≤ 60) ∧
  (ps = [] → Q y H2) ∧ (ps ≠ [] → ∀ z, xs[argBest (btP ps) (ps.length - 1)]? = some z → Q z H2)
def oneW (R : V → Hp → Prop) : List V → Hp → Prop := fun vs H => match vs with
  | [v] => R v H
  | _ => False
theorem pe_minD {X : Cx} {e de : Expr} {te td : TE} {p pos kp : Pos} (hcal : X.calm = true) (hu : X.A.units + 64 < cLine) (hg : Gl X "min") (hm : X.mg "min" = none) (he : PE X e te) (hd : PE X de td)
    (hes : starEach [e] X.env = (false, eval e X.env) :: starEach [] X.env := by rfl)
    (he' : backTo pos (starEach [e] X.env) = (false, eval e X.env) :: backTo pos (starEach [] X.env) := by rfl) (hpl : (backTo pos (starEach [e] X.env)).any (·.1) = false := by rfl)
    (hk1 : (backToKw pos (keywordEach [⟨some "default", de, kp⟩] X.env)).all (fun x => x.1.isSome) = true := by rfl) :
    PE X (.Call (.Name "min" p) [e] [⟨some "default", de, kp⟩] pos) (tMinD X.K te td) := by
  refine ⟨fun pins s σ H Q I h => ?_⟩
  refine wpAny_Call_Name_kw (ld_blt I hg hm boot_min ?_)
  refine PyProof.Rows.callWith_kw (thn ((pa_cons he pa_nil hes).run pos pins s σ H (oneW fun v H1 => td σ H1 fun y H2 => ∃ (a : Addr) (xs : List V) (ps : List PyData), v = .ref a ∧ SqT X.K H2 a xs ∧ xs.length = ps.length ∧ (∀ i x, xs[i]? = some x → Dp X.K H2 x (ps.getD i .none)) ∧ (∀ d ∈ ps, ∀ e ∈ ps, PySem.W.alike d e = true) ∧ (∀ d ∈ ps, d ≠ .none) ∧ (∀ d ∈ ps, d.depth ≤ 60) ∧
  (ps = [] → Q y H2) ∧ (ps ≠ [] → ∀ z, xs[argBest (btP ps) (ps.length - 1)]? = some z → Q z H2)) I h) fun us s1 ⟨vs, H1, I1, r1, q1⟩ => ?_) he' hpl rfl rfl
  obtain ⟨v, rfl⟩ : ∃ v, vs = [v] := by
    match vs, q1 with
    | [v], _ => exact ⟨v, rfl⟩
  refine wpAny_evalAll_cons (wpAny_bind (thn (hd.run pins s1 σ H1 _ I1 q1) fun u2 s2 ⟨y, H2, I2, ry, a, xs, ps, ev, hs, hl, hdp, hal, hnn, hdep, q0, qn⟩ => wpAny_bind (wpAny_standAt (wpAny_pure (wpAny_evalAll_nil ?_)))))
  subst ev
  obtain rfl := Vals.ref1 r1
  show wpAny _ _ (call (.builtin "min") [.ref a] [(Str.ofString "default", u2)]) _ _ s2
  obtain ⟨its, rv, pl, hz⟩ := I2.tuple hs
  have hh : X.A.in1.handled = none := I2.ok.hd hcal
  have len : its.length = ps.length := by rw [← rv.length, hl]
  have rd : ∀ i v, its.toArray[i]? = some v → i < ps.length ∧ ∃ as, Reads s2.heap v (ps.getD i .none) as := by
    intro i v hv
    have hv' : its[i]? = some v := by simpa using hv
    have hi := (List.getElem?_eq_some_iff.mp hv').1
    have hx : xs[i]? = some xs[i] := List.getElem?_eq_getElem (by rw [hl, ← len]; exact hi)
    obtain ⟨u, hu', ru⟩ := rv.get hx
    rw [hv'] at hu'; cases hu'
    exact ⟨by rw [← len]; exact hi, Dp.reads I2 _ _ _ (hdp i _ hx) ru⟩
  have sz : its.toArray.size = ps.length := by simpa using len
  refine call_min_walkD (PySem.W.iter_tupleW (A := X.A.in1) hh pl fun s3 e3 W st hb hw hk => ⟨_, _, _, _, _, _, _, s2.heap, btP ps, rfl, W, st, hb, hw, hk, fun h0 s' m => ?_, fun hpos => ⟨?_, fun v s' hP m => ?_⟩⟩)
  · obtain ⟨h', tk, rfl, hk'⟩ := PySem.W.moved_old e3 rfl m
    have : ps = [] := List.length_eq_zero_iff.mp (by rw [← sz]; exact h0)
    exact ⟨_, H2, I2.kept (t' := tk) hk', ry, q0 this⟩
  · intro i j vi vj s' Q' E' hkp hi hj hq
    obtain ⟨l1, as1, r1⟩ := rd i vi hi
    obtain ⟨l2, as2, r2⟩ := rd j vj hj
    refine PySem.W.rcLt_alike _ _ X.A.in1 s' vi vj _ _ (PyProof.Rows.Reads.keeps hkp r1) (PyProof.Rows.Reads.keeps hkp r2) (hal _ (getD_mem l1) _ (getD_mem l2)) (hnn _ (getD_mem l1)) ?_ _ _ E' Q' hq
    have := hdep _ (getD_mem l1)
    have mn := Nat.min_le_left (ps.getD i .none).depth (ps.getD j .none).depth
    show X.A.units + 1 + _ < cLine
    omega
  · obtain ⟨h', tk, rfl, hk'⟩ := PySem.W.moved_old e3 rfl m
    rw [sz] at hP hpos
    have hne : ps ≠ [] := List.length_pos_iff.mp hpos
    have hP' : its[argBest (btP ps) (ps.length - 1)]? = some v := by simpa using hP
    have hi := (List.getElem?_eq_some_iff.mp hP').1
    have qq := qn hne
    generalize argBest (btP ps) (ps.length - 1) = b at hP' hi qq
    have hbx : b < xs.length := by rw [hl, ← len]; exact hi
    obtain ⟨u, hu', ru⟩ := rv.get (List.getElem?_eq_getElem hbx)
    rw [hP'] at hu'; cases hu'
    exact ⟨_, H2, I2.kept (t' := tk) hk', ru, qq _ (List.getElem?_eq_getElem hbx)⟩
def minDD (S : MS) (d y : D) : Option D := match d with
  | .tup ys => match toPs S ys with
    | some ps => if ((ps.all fun d => ps.all fun e => PySem.W.alike d e) && (ps.all (fun d => !noneP d) && ps.all fun d => decide (d.depth ≤ 60))) = true then (if ps.isEmpty = true then some y else ys[argBest (btP ps) (ps.length - 1)]?) else none
    | none => none
  | _ => none
def eMinD (f fd : En → MS → R D) : En → MS → R D := fun ρ S => (f ρ S).bind fun d S1 => (fd ρ S1).bind fun y S2 => ofO (minDD S2 d y) S2
theorem den_minD {X : Cx} {G : Gx} {W : WX} {e de : Expr} {f fd : En → MS → R D} {p pos kp : Pos} (hcal : X.calm = true) (hu : X.A.units + 64 < cLine) (hg : Gl X "min") (hm : X.mg "min" = none) (he : PE X e (tD G W f)) (hd : PE X de (tD G W fd)) (hK : X.K = G.K := by rfl)
    (hes : starEach [e] X.env = (false, eval e X.env) :: starEach [] X.env := by rfl)
    (he' : backTo pos (starEach [e] X.env) = (false, eval e X.env) :: backTo pos (starEach [] X.env) := by rfl) (hpl : (backTo pos (starEach [e] X.env)).any (·.1) = false := by rfl)
    (hk1 : (backToKw pos (keywordEach [⟨some "default", de, kp⟩] X.env)).all (fun x => x.1.isSome) = true := by rfl) :
    PE X (.Call (.Name "min" p) [e] [⟨some "default", de, kp⟩] pos) (tD G W (eMinD f fd)) := by
  refine pe_imp (pe_minD hcal hu hg hm he hd hes he' hpl hk1) fun σ H Q ⟨M, S, ρ, r, e, h⟩ => ?_
  refine tD_mono (d_bind h r e) fun v H1 ⟨M1, S1, d1, x1, r1, p1, e1, h1⟩ => ?_
  refine tD_mono (d_bind h1 r1 e1) fun y H2 ⟨M2, S2, d2, x2, r2, p2, e2, h2⟩ => ?_
  obtain ⟨d, hd', q⟩ := post_ofO h2
  cases d1 with
  | tup ys =>
    simp only [minDD] at hd'
    split at hd'
    · rename_i ps hps
      split at hd'
      · rename_i hb
        rw [Bool.and_eq_true, Bool.and_eq_true] at hb
        obtain ⟨a, vs, rfl, ha, n1, n2, z, rs⟩ := (p1.ext x2).tup_inv
        obtain ⟨em, et⟩ := toPs_enc hps
        have hl : vs.length = ps.length := by rw [rs.length, ← em, List.length_map]
        rw [hK]
        refine ⟨a, vs, ps, rfl, SqT.of ha, hl, fun i x hx => ?_, ?_, ?_, ?_, fun h0 => ?_, fun hne z hz => ?_⟩
        · have hi : i < ys.length := by rw [← rs.length]; exact (List.getElem?_eq_some_iff.mp hx).1
          obtain ⟨w, hw, rw_⟩ := rs.get (List.getElem?_eq_getElem hi)
          rw [hx] at hw; cases hw
          have := dp1 r2 rw_ (et _ (List.getElem_mem hi))
          rw [← em, List.getD_eq_getElem?_getD, List.getElem?_map, List.getElem?_eq_getElem hi]
          exact this
        · intro x hx y hy
          exact List.all_eq_true.mp (List.all_eq_true.mp hb.1 x hx) y hy
        · intro x hx en
          have := List.all_eq_true.mp hb.2.1 x hx
          subst en
          cases this
        · intro x hx
          exact of_decide_eq_true (List.all_eq_true.mp hb.2.2 x hx)
        · rw [if_pos (by rw [h0]; rfl)] at hd'
          cases hd'
          exact q M2 H2 _ (Ext.refl _ _) r2 p2
        · have : ps.isEmpty = false := by cases ps with | nil => exact absurd rfl hne | cons _ _ => rfl
          rw [if_neg (by rw [this]; simp)] at hd'
          obtain ⟨w, hw, rw_⟩ := rs.get hd'
          rw [hz] at hw; cases hw
          exact q M2 H2 _ (Ext.refl _ _) r2 rw_
      · cases hd'
    · cases hd'
  | _ => simp [minDD] at hd'
end Dn

namespace Dn
open PySem PySem.Spec PyProof.Rows L2 LamX
/-! ### x in l, data of any depth -/
def inP (S : MS) (x y : D) : Option D := match toP S x, toP S y with
  | some p, some (.list ps) => if (SeqAt.shaped p && SeqAt.shaped (.list ps)) = true then some (.bl (ps.any fun z => PyData.eqv z p)) else none
  | _, _ => none
theorem od_inP {G : Gx} : OpD G (rInD G.K) inP := by
  intro M S H x y dx dy d Q r rx ry hg q
  unfold inP at hg
  split at hg
  · rename_i p ps hp hps
    split at hg
    · rename_i hs
      cases hg
      rw [Bool.and_eq_true] at hs
      exact ⟨p, ps, dp1 r rx hp, dp1 r ry hps, hs.1, hs.2, q H _ (Ext.refl _ _) r (.bl _)⟩
    · cases hg
  · cases hg
def inQ : MS → D → D → Option D := orG inA inP
def or_inQ {X : Cx} (hu : X.A.units + 65 < cLine) := (or_in (X := X)).or (op_inD hu)
def od_inQ {G : Gx} := (od_inA (G := G)).or od_inP
theorem units65 {k : Nat} {A : Around} (r : Room k A) : A.units + 65 < cLine := by have := r.un; omega
end Dn

namespace Dn
open PySem PySem.Spec PyProof.Rows L2 LamX
/-! ### l[i] op= e, x op= e, abs -/
theorem get_list {X : Cx} : PGet X (rIxL X.K) := by
  intro pins s σ H lv kv ov iv Q Iv r1 r2 ⟨pa, ys, kk, zv, e1, e2, hsq, hat, fq⟩
  subst e1; subst e2
  cases r1
  obtain ⟨tk, rfl⟩ := r2
  obtain ⟨us, rus, plain, _⟩ := Iv.list hsq
  obtain ⟨jj, si, gj, lj, lo, up⟩ := atI_get hat
  obtain ⟨wv, gw, relw⟩ := rus.get gj
  have lens := rus.length
  have l63 := line63
  have last : EP X pins σ Q wv s := ⟨zv, H, Iv, relw, fq⟩
  by_cases nn : 0 ≤ kk
  · have ej : kk.toNat = jj := by
      have := si
      rw [seqIndex_of nn up] at this
      cases this; rfl
    refine wpAny_getItem_list plain.isList nn (by omega) ?_ last
    rw [ej]; simpa using gw
  · have ej : (kk + (us.toArray.size : Int)).toNat = jj := by
      have := si
      rw [seqIndex_neg (by omega) lo] at this
      cases this
      rw [List.size_toArray, ← lens]
    refine wpAny_getItem_list_neg plain.isList (by omega) ?_ (by omega) ?_ last
    · rw [List.size_toArray]; omega
    · rw [ej]; simpa using gw
/-- an item of a list that is an object -/
def ixO (S : MS) (o i : D) : Option D := match o, i with
  | .obj n, .int k => match S[n]? with
    | some (.lst xs) => atI xs k
    | _ => none
  | _, _ => none
def sAugL (g : MS → D → D → Option D) (fo fi fv : En → MS → R D) : En → MS → RS := fun ρ S => (fo ρ S).bindS ρ fun o S1 => (fi ρ S1).bindS ρ fun i S2 => (ofO (ixO S2 o i) S2).bindS ρ fun x S3 => (fv ρ S3).bindS ρ fun y S4 => (ofO (g S4 x y) S4).bindS ρ fun z S5 => match putL S5 o i z with
  | some S6 => .nx ρ S6
  | none => .bad
theorem dens_augL {X : Cx} {G : Gx} {W : WX} {op : Operator} {rd : R2} {g : MS → D → D → Option D} {o i value : Expr} {pos tpos : Pos} {fv fo fi : En → MS → R D} (hK : X.K = G.K) (hop : InOp X op rd) (hg : OpD G rd g) (ho : PE X o (tD G W fo)) (hi : PE X i (tD G W fi)) (hv : PE X value (tD G W fv))
    (ha : ∀ ov iv new, augStore i ov iv new = (do holding [new, ov, iv] (setItem ov iv new); release [new, ov, iv] []; pure .next) := by intros; rfl) : PS X (.AugAssign (.Subscript o i tpos) op value pos) (tS G W (sAugL g fo fi fv)) := by
  refine ps_imp (ps_augS ho hi get_list hv hop set_list ha) fun D σ H ⟨M, S, ρ, r, e, h⟩ => ?_
  refine tD_mono (ds_bind h r e) fun vo H1 ⟨M1, S1, d1, x1, r1, p1, e1, h1⟩ => ?_
  refine tD_mono (ds_bind h1 r1 e1) fun vk H2 ⟨M2, S2, d2, x2, r2, p2, e2, h2⟩ => ?_
  cases z : ixO S2 d1 d2 with
  | none => rw [z] at h2; exact h2.elim
  | some w =>
    rw [z] at h2
    change PostS G W M2 H2 ((fv ρ S2).bindS ρ fun y S4 => (ofO (g S4 w y) S4).bindS ρ fun z S5 => match putL S5 d1 d2 z with | some S6 => .nx ρ S6 | none => .bad) D at h2
    cases d1 with
    | obj n =>
      cases d2 with
      | int k =>
        simp only [ixO] at z
        cases hS : S2[n]? with
        | none => rw [hS] at z; cases z
        | some mo =>
          cases mo with
          | lst xs =>
            rw [hS] at z
            obtain ⟨a, rfl, hm⟩ := (p1.ext x2).obj_inv
            obtain ⟨vs, hA, zl, rs⟩ := r2.at_ n a _ hm hS
            obtain ⟨v, hv', rv⟩ := atI_rep rs z
            refine ⟨a, vs, k, v, rfl, p2.int_inv, .inl (.inl hA), hv', ?_⟩
            refine tD_mono (ds_bind h2 r2 e2) fun vy H3 ⟨M3, S3, d3, x3, r3, p3, e3, h3⟩ => ?_
            cases zg : g S3 w d3 with
            | none => rw [zg] at h3; exact h3.elim
            | some dz =>
              rw [zg] at h3
              change PostS G W M3 H3 (match putL S3 (.obj n) (.int k) dz with | some S6 => .nx ρ S6 | none => .bad) D at h3
              refine hg M3 S3 H3 v vy w d3 dz _ r3 (rv.ext x3) p3 zg fun H4 wv x4 r4 p4 => ?_
              cases zp : putL S3 (.obj n) (.int k) dz with
              | none => rw [zp] at h3; exact h3.elim
              | some S6 =>
                rw [zp] at h3
                exact pd_list M3 S3 S6 H4 _ _ wv (.obj n) (.int k) dz _ r4 ((((p1.ext x2).ext x3)).ext x4) ((p2.ext x3).ext x4) p4 zp fun H' x' r' => h3 M3 H' σ (x4.trans x') r' ((e3.ext x4).ext x')
          | _ => rw [hS] at z; cases z
      | _ => simp [ixO] at z
    | _ => simp [ixO] at z
theorem dens_augN {X : Cx} {G : Gx} {W : WX} {op : Operator} {rd : R2} {g : MS → D → D → Option D} {i : Nat} {x : Str} {value : Expr} {pos pos' : Pos} {fv : En → MS → R D} (hN : X.N.Nodup) (hop : InOp X op rd) (hg : OpD G rd g) (hv : PE X value (tD G W fv)) (hi : X.N[i]? = some x := by rfl) (hx : Loc X.env.scope x := by first | exact .inl rfl | exact .inr rfl)
    (hf : X.fn x = true ∨ X.env.scope.names.lookup x = some .local := by first | exact .inl rfl | exact .inr rfl) : PS X (.AugAssign (.Name x pos') op value pos) (tS G W (sSet i (eOp g (eV i) fv))) := by
  refine ps_imp (ps_aug hN hi hx hv hop hf) fun D σ H ⟨M, S, ρ, r, e, h⟩ => ?_
  unfold sSet eOp eV at h
  cases z : ρ[i]? with
  | none => rw [z] at h; exact h.elim
  | some od =>
    cases od with
    | none => rw [z] at h; exact h.elim
    | some d =>
      rw [z] at h
      obtain ⟨v, hv1, rv⟩ := e.2 i d z
      refine ⟨v, hv1, ?_⟩
      have h' : PostS G W M H ((fv ρ S).bindS ρ fun y S2 => (ofO (g S2 d y) S2).bindS ρ fun d S1 => .nx (ρ.set i (some d)) S1) D := by
        change PostS G W M H (((fv ρ S).bind fun y S2 => ofO (g S2 d y) S2).bindS ρ fun d S1 => .nx (ρ.set i (some d)) S1) D at h
        cases zf : fv ρ S with
        | ok y S2 => rw [zf] at h; exact h
        | exc c S2 => rw [zf] at h; exact h
        | bad => rw [zf] at h; exact h
      refine tD_mono (ds_bind h' r e) fun vy H1 ⟨M1, S1, d1, x1, r1, p1, e1, h1⟩ => ?_
      cases zg : g S1 d d1 with
      | none => rw [zg] at h1; exact h1.elim
      | some dz =>
        rw [zg] at h1
        refine hg M1 S1 H1 v vy d d1 dz _ r1 (rv.ext x1) p1 zg fun H2 wv x2 r2 p2 => ?_
        exact h1 M1 H2 _ x2 r2 ((e1.ext x2).set p2 i)
def absD (S : MS) (ds : List D) : Option D := match ds with
  | [.int i] => some (.int (if i < 0 then -i else i))
  | _ => none
theorem cd_abs {G : Gx} : CallD G (fun xs H Q => ∃ i, xs = [.int i] ∧ Q (.int (if i < 0 then -i else i)) H) absD := by
  intro M S H xs ds d Q r rx hg q
  unfold absD at hg
  split at hg
  · obtain ⟨v, rfl, rv⟩ := rx.inv1
    cases hg
    rw [rv.int_inv]
    exact ⟨_, rfl, q _ _ (Ext.refl _ _) r (.int _)⟩
  · cases hg
theorem bt_abs : bootBuiltins "abs" = some (.builtin "abs") := by decide +kernel
end Dn

namespace Dn
open PySem PySem.Spec PyProof.Rows L2 LamX
/-! ### enumerate of a list that is an object -/
def srcE (i : Nat) : Src := fun S k => match S[i]? with
  | some (.lst xs) => some (xs[k]?.map fun d => .tup [.int (k : Nat), d])
  | _ => none
def enumSrc (S : MS) (ds : List D) : Option (Src × Nat) := match ds with
  | [.obj i] => match S[i]? with
    | some (.lst xs) => some (srcE i, xs.length)
    | _ => none
  | _ => none
def iEnO (fs : En → MS → R (List D)) : En → MS → R (Src × Nat) := fun ρ S => (fs ρ S).bind fun ds S1 => ofO (enumSrc S1 ds) S1
theorem itR_enO {G : Gx} {K : PySem.W.Frag} {M : Mx} {H : Hp} {a : Addr} {j : Nat} (hm : M.m[j]? = some a) : ItR G M H (Ite K a) (srcE j) := by
  intro M2 H2 S2 x2 r2 i
  obtain ⟨l, el, _⟩ := x2.more
  have hm2 : M2.m[j]? = some a := by
    rw [el, List.getElem?_append_left (List.getElem?_eq_some_iff.mp hm).1]; exact hm
  unfold srcE
  cases z : S2[j]? with
  | none => exact trivial
  | some o =>
    cases o with
    | lst xs =>
      obtain ⟨vs, ha, zl, rs⟩ := r2.at_ j a _ hm2 z
      have hs : SqL K H2 a vs := SqL.of ha
      show match (some (xs[i]?.map fun d => D.tup [.int (i : Nat), d]) : Option (Option D)) with | some (some d) => _ | some none => _ | none => _
      cases z2 : xs[i]? with
      | none =>
        refine ⟨vs, hs, ?_⟩
        rw [rs.length]; exact List.getElem?_eq_none_iff.mp z2
      | some d =>
        obtain ⟨v, hv, rv⟩ := rs.get z2
        refine ⟨⟨vs, v, hs, hv⟩, fun y H3 hy => ?_⟩
        obtain ⟨T, x, rfl, nT, rfl, hy⟩ := hy
        have := hy vs hs
        rw [hv] at this; cases this
        exact pair_new r2 nT (.int _) rv
    | _ => exact trivial
theorem deni_enO {X : Cx} {G : Gx} {W : WX} {a : Expr} {p pos tpos : Pos} {elts : List Expr} {kk : Nat} {fs : En → MS → R (List D)} (hm : X.mg "enumerate" = none) (ha : PA X [a] (tA G W fs)) (hg : Gl X "enumerate" := by rfl) (hs : starEach [a] X.env = [(false, eval a X.env)] := by rfl) :
    PI X (.Tuple elts kk tpos) (.Call (.Name "enumerate" p) [a] [] pos) (tIO G W (iEnO fs)) := by
  refine pi_imp (pi_enum hg hm ha hs) fun σ H Rk ⟨M, S, ρ, r, e, h⟩ => ?_
  unfold iEnO at h
  refine ⟨M, S, ρ, r, e, ?_⟩
  cases z : fs ρ S with
  | bad => rw [z] at h; exact h.elim
  | exc c S' => rw [z] at h; exact h
  | ok ds S' =>
    rw [z] at h
    intro M1 H1 vs x1 r1 p1
    match ds, p1 with
    | [.obj j], p1 =>
      obtain ⟨v, rfl, rv⟩ := p1.inv1
      obtain ⟨a, rfl, hm1⟩ := rv.obj_inv
      cases z2 : S'[j]? with
      | none => simp only [R.bind, enumSrc, z2, ofO] at h
      | some o =>
        cases o with
        | lst xs =>
          simp only [R.bind, enumSrc, z2, ofO] at h
          obtain ⟨ws, hA, zl, rs⟩ := r1.at_ j a _ hm1 z2
          exact ⟨a, ws, rfl, SqL.of hA, h M1 H1 _ x1 r1 (itR_enO hm1)⟩
        | _ => simp only [R.bind, enumSrc, z2, ofO] at h
    | [], _ => exact h.elim
    | [.non], _ => exact h.elim
    | [.bl _], _ => exact h.elim
    | [.int _], _ => exact h.elim
    | [.str _], _ => exact h.elim
    | [.ty _], _ => exact h.elim
    | [.top _], _ => exact h.elim
    | [.exn _], _ => exact h.elim
    | [.tup _], _ => exact h.elim
    | [.lst _], _ => exact h.elim
    | [.frz _], _ => exact h.elim
    | x :: y :: l, _ => have : enumSrc S' (x :: y :: l) = none := by cases x <;> rfl
                        simp only [R.bind, this, ofO] at h
end Dn

namespace Dn
open PySem PySem.Spec PyProof.Rows L2 LamX
/-! ### // by a greater divisor -/
def CDivB (_ j : Int) : Prop := 0 < j ∧ j < b64
theorem op_fdivB {X : Cx} : OpR X (binaryOp .FloorDiv) (rI CDivB fun i j => .int (i / j)) := opI fun i j _ _ _ _ _ hc q => by
  have ⟨h1, h2⟩ := hc
  have hne : j ≠ 0 := by omega
  have q' := q
  rw [← Int.fdiv_eq_ediv_of_nonneg i (Int.le_of_lt h1)] at q'
  refine floordiv_int hne q' (.inl (PyProof.noPylong_of_log2 ?_))
  have h3 : j.natAbs < 2 ^ 64 := by unfold b64 at h2; omega
  have := (Nat.log2_lt (by omega)).mpr h3
  omega
def divB : MS → D → D → Option D := iic (fun _ j => decide (0 < j ∧ j < b64)) fun i j => .int (i / j)
theorem od_divB {G : Gx} : OpD G (rI CDivB fun i j => .int (i / j)) divB := opd_iic (fun i j h => by simpa [CDivB] using h) fun _ _ _ _ => .int _
end Dn

namespace Dn
open PySem PySem.Spec PyProof.Rows L2 LamX
/-! ### instances: fields read and written, methods, making one -/
/-- the field f of an instance of the class c -/
def fldD (c : Nat) (f : Str) (S : MS) (d : D) : Option D := match d with
  | .obj i => match S[i]? with
    | some (.ins k fs) => if k = c then fs.lookup f else none
    | _ => none
  | _ => none
theorem KReps.look {G : Gx} {M : Mx} {H : Hp} {f : Str} {d : D} : ∀ {vs : List (Str × V)} {fs : List (Str × D)}, KReps G M H vs fs → fs.lookup f = some d → ∃ v, vs.lookup f = some v ∧ Rep G M H v d
  | _, _, .nil, h => by cases h
  | _, _, .cons (a := p) (b := q) r t, h => by
    obtain ⟨x, v⟩ := p
    obtain ⟨y, w⟩ := q
    obtain ⟨e, rv⟩ := r
    cases e
    rw [List.lookup_cons] at h ⊢
    cases z : f == x with
    | true => rw [z] at h; cases h; exact ⟨v, rfl, rv⟩
    | false => rw [z] at h; exact KReps.look t h
theorem KReps.lookN {G : Gx} {M : Mx} {H : Hp} {f : Str} : ∀ {vs : List (Str × V)} {fs : List (Str × D)}, KReps G M H vs fs → fs.lookup f = none → vs.lookup f = none
  | _, _, .nil, h => rfl
  | _, _, .cons (a := p) (b := q) r t, h => by
    obtain ⟨x, v⟩ := p
    obtain ⟨y, w⟩ := q
    obtain ⟨e, rv⟩ := r
    cases e
    rw [List.lookup_cons] at h ⊢
    cases z : f == x with
    | true => rw [z] at h; cases h
    | false => rw [z] at h; exact KReps.lookN t h
theorem KReps.len {κ : Type} {G : Gx} {M : Mx} {H : Hp} : ∀ {vs : List (κ × V)} {fs : List (κ × D)}, KReps G M H vs fs → vs.length = fs.length
  | _, _, .nil => rfl
  | _, _, .cons _ t => by rw [List.length_cons, List.length_cons, KReps.len t]
/-- an instance at a number -/
theorem ins_at {G : Gx} {M : Mx} {S : MS} {H : Hp} {v : V} {i c : Nat} {fs : List (Str × D)} (r : Rel G M S H) (p : Rep G M H v (.obj i)) (hS : S[i]? = some (.ins c fs)) : ∃ a dx vs, v = .ref a ∧ M.m[i]? = some a ∧ H a = some (.ins (G.ca c) dx vs) ∧ KReps G M H vs fs := by
  obtain ⟨a, rfl, hm⟩ := p.obj_inv
  obtain ⟨dx, vs, ha, kr⟩ := r.at_ i a _ hm hS
  exact ⟨a, dx, vs, rfl, hm, ha, kr⟩
theorem fldD_some {c : Nat} {f : Str} {S : MS} {x d : D} (h : fldD c f S x = some d) : ∃ i fs, x = .obj i ∧ S[i]? = some (.ins c fs) ∧ fs.lookup f = some d := by
  unfold fldD at h
  split at h
  · rename_i i
    split at h
    · rename_i k fs hS
      split at h
      · rename_i e; subst e; exact ⟨i, fs, rfl, hS, h⟩
      · cases h
    · cases h
  · cases h
section
variable {X : Cx} {G : Gx} {W : WX} {o e value : Expr} {f : Str} {pos pos' : Pos} {fo fv : En → MS → R D}
theorem den_fld (c : Nat) (he : PE X o (tD G W fo)) (cl : Cls X.K (G.ca c)) (na : NoAttr X.K (G.ca c) f) (hb : attributeBase o f X.env (eval o X.env) = eval o X.env := by rfl) : PE X (.Attribute o f pos) (tD G W (eUn (fldD c f) fo)) := by
  refine pe_imp (pe_fld he hb) fun σ H Q ⟨M, S, ρ, r, e, h⟩ => ?_
  refine tD_mono (d_bind h r e) fun x H1 ⟨M1, S1, d1, x1, r1, p1, e1, h1⟩ => ?_
  obtain ⟨d, hd, q⟩ := post_ofO h1
  obtain ⟨i, fs, rfl, hS, hl⟩ := fldD_some hd
  obtain ⟨a, dx, vs, rfl, hm, ha, kr⟩ := ins_at r1 p1 hS
  obtain ⟨v, hv, rv⟩ := kr.look hl
  exact ⟨a, _, dx, vs, v, rfl, ha, cl, na, hv, q M1 H1 v (Ext.refl _ _) r1 rv⟩
/-- the fields with f at d -/
def pfD (f : Str) (d : D) : List (Str × D) → List (Str × D)
  | [] => [(f, d)]
  | q :: t => if q.1 = f then (q.1, d) :: t else q :: pfD f d t
theorem KReps.put {G : Gx} {M : Mx} {H : Hp} {f : Str} {v : V} {d : D} (rv : Rep G M H v d) : ∀ {vs : List (Str × V)} {fs : List (Str × D)}, KReps G M H vs fs → KReps G M H (putF f v vs) (pfD f d fs)
  | _, _, .nil => .cons ⟨rfl, rv⟩ .nil
  | _, _, .cons (a := p) (b := q) r t => by
    obtain ⟨x, v1⟩ := p
    obtain ⟨y, w⟩ := q
    obtain ⟨e, rw_⟩ := r
    cases e
    unfold putF pfD
    by_cases z : x = f
    · rw [if_pos z, if_pos z]; exact .cons ⟨rfl, rv⟩ t
    · rw [if_neg z, if_neg z]; exact .cons ⟨rfl, rw_⟩ (KReps.put rv t)
def setFD (c : Nat) (f : Str) (S : MS) (x d : D) : Option MS := match x with
  | .obj i => match S[i]? with
    | some (.ins k fs) => if k = c ∧ fs.length < 1000 then some (S.set i (.ins k (pfD f d fs))) else none
    | _ => none
  | _ => none
theorem setFD_some {c : Nat} {f : Str} {S S' : MS} {x d : D} (h : setFD c f S x d = some S') : ∃ i fs, x = .obj i ∧ S[i]? = some (.ins c fs) ∧ fs.length < 1000 ∧ S' = S.set i (.ins c (pfD f d fs)) := by
  unfold setFD at h
  split at h
  · rename_i i
    split at h
    · rename_i k fs hS
      split at h
      · rename_i e; obtain ⟨e, hl⟩ := e; subst e; cases h; exact ⟨i, fs, rfl, hS, hl, rfl⟩
      · cases h
    · cases h
  · cases h
def sFd (c : Nat) (f : Str) (fo fv : En → MS → R D) : En → MS → RS := fun ρ S => (fv ρ S).bindS ρ fun y S1 => (fo ρ S1).bindS ρ fun x S2 => match setFD c f S2 x y with
  | some S3 => .nx ρ S3
  | none => .bad
theorem dens_fld (c : Nat) (he : PE X o (tD G W fo)) (hv : PE X value (tD G W fv)) (cl : Cls X.K (G.ca c)) (na : NoAttr X.K (G.ca c) f) (hs : swapsWith value (some (.Attribute o f pos')) pos.line X.env = pure false := by rfl) : PS X (.Assign [.Attribute o f pos'] value pos) (tS G W (sFd c f fo fv)) := by
  refine ps_imp (ps_fld he hv hs) fun D σ H ⟨M, S, ρ, r, e, h⟩ => ?_
  refine tD_mono (ds_bind h r e) fun y H1 ⟨M1, S1, d1, x1, r1, p1, e1, h1⟩ => ?_
  refine tD_mono (ds_bind h1 r1 e1) fun x H2 ⟨M2, S2, d2, x2, r2, p2, e2, h2⟩ => ?_
  cases z : setFD c f S2 d2 d1 with
  | none => rw [z] at h2; exact h2.elim
  | some S3 =>
    rw [z] at h2
    obtain ⟨i, fs, rfl, hS, hl, rfl⟩ := setFD_some z
    obtain ⟨a, dx, vs, rfl, hm, ha, kr⟩ := ins_at r2 p2 hS
    have nf : ∀ o u, H2 a ≠ some (.frz o u) := fun o u z => by rw [ha] at z; cases z
    have x3 : Ext M2 H2 M2 (upd H2 a (.ins (G.ca c) dx (putF f y vs))) := Ext.put hm nf
    have k3 : KReps G M2 (upd H2 a (.ins (G.ca c) dx (putF f y vs))) (putF f y vs) (pfD f d1 fs) := KReps.put ((p1.ext x2).ext x3) (kr.ext x3)
    refine ⟨a, _, dx, vs, rfl, ha, cl, na, by rw [kr.len]; exact hl, ?_⟩
    exact h2 M2 _ σ x3 (r2.put hm nf ⟨dx, _, upd_same, k3⟩) (e2.ext x3)
end
/-! making one -/
section
variable {X : Cx} {k : Nat} {f C : Addr} {fd : FuncData} {ps : List Str} {sp : Sp}
theorem mk_run {pins : List (Addr × Obj)} {σ : L2.St} {H : Hp} {s : Shared} {Q : VK} {us : List Value} {vs : List V} {E : XK} {CXX : CXT} (mk : Mk X.K C f) (Fo : FnOk X.prog X.w X.K X.mg X.base CXX k f fd ps sp) (room : Room (k + 1) X.A) (bi : Binds X.K fd ps []) (pass : PassesAt CXX X σ E) (Iv : Inv X pins σ H s) (rel : Vals vs us)
    (wish : ∀ x dx, H x = none → H dx = none → dx ≠ x → sp (.ref x :: vs) (upd (upd H dx (.own x)) x (.ins C dx [])) (fun v H2 => v = .non ∧ Q (.ref x) H2) E) : wpAny (model X.prog X.w) X.A (call (.ref C) us) (EP X pins σ Q) X.xe s := by
  let n := s.heap.objs.size
  have free0 : H n = none := Iv.hok.fresh (Nat.le_refl _)
  have free1 : H (n + 1) = none := Iv.hok.fresh (Nat.le_succ _)
  have want := wish (n + 1) n free1 free0 (Nat.ne_of_lt (Nat.lt_succ_self _))
  have laid := Inv.made (C := C) Iv
  have both : Vals (V.ref (n + 1) :: vs) (Value.ref (n + 1) :: us) := .cons rfl rel
  have many : (Value.ref (n + 1) :: us).length = ps.length := by rw [← both.length]; exact Fo.len _ _ _ _ want
  have bound := bi _ (Value.ref (n + 1) :: us) laid.kIn (by rw [List.append_nil]; exact many)
  rw [List.append_nil] at bound
  have ran := Fo.run _ X.stack _ _ ⟨Value.ref (n + 1) :: us, []⟩ (Value.ref (n + 1) :: us) _ _ E (room.make C us []) (laid.env0.make C us []) bound both want
  refine wpAny_call (make_map (f := f) Iv.kIn mk.makes mk.init (beq_iff_eq.mp mk.fn) (codeAny_mono ran fun res s' got => ?_))
  match res, got with
  | .error ev, got => exact pass pins _ _ ev s' laid got
  | .ok (.ret u), got =>
    obtain ⟨v, H', I3, rv, hn, q3⟩ := laid.after got
    subst hn
    exact ⟨rv, V.ref (n + 1), H', I3, rfl, q3⟩
  | .ok .next, got => exact got.elim
  | .ok .brk, got => exact got.elim
  | .ok .cont, got => exact got.elim
end
structure CalI (P : Program) (w : World) (K : PySem.W.Frag) (mg : Str → Option Value) (base : Heap) (G : Gx) (k : Nat) (x : Str) (c : Nat) (F : List D → MS → R D) : Prop where
  ex : ∃ (f : Addr) (fd : FuncData) (ps : List Str), FnOk P w K mg base (L2.CX P w) k f fd ps (spD G F) ∧ mg x = some (.ref (G.ca c)) ∧ Mk K (G.ca c) f ∧ Binds K fd ps []
structure CalM (P : Program) (w : World) (K : PySem.W.Frag) (mg : Str → Option Value) (base : Heap) (G : Gx) (k : Nat) (c : Nat) (m : Str) (F : List D → MS → R D) : Prop where
  ex : ∃ (f : Addr) (fd : FuncData) (ps : List Str), FnOk P w K mg base (L2.CX P w) k f fd ps (spD G F) ∧ Cls K (G.ca c) ∧ Meth K (G.ca c) m f ∧ Binds K fd ps []
def nonR (d : D) : R D → R D
  | .ok .non S => .ok d S
  | .ok _ _ => .bad
  | .exc k S => .exc k S
  | .bad => .bad
def eMk (c : Nat) (F : List D → MS → R D) (fs : En → MS → R (List D)) : En → MS → R D := fun ρ S => (fs ρ S).bind fun xs S1 => nonR (.obj S1.length) (F (.obj S1.length :: xs) (S1 ++ [.ins c []]))
def insB (c : Nat) (m : Str) (S : MS) (d : D) : Bool := match d with
  | .obj i => match S[i]? with
    | some (.ins k fs) => decide (k = c) && (fs.lookup m).isNone
    | _ => false
  | _ => false
theorem insB_some {c : Nat} {m : Str} {S : MS} {d : D} (h : insB c m S d = true) : ∃ i fs, d = .obj i ∧ S[i]? = some (.ins c fs) ∧ fs.lookup m = none := by
  unfold insB at h
  split at h
  · rename_i i
    split at h
    · rename_i k fs hS
      rw [Bool.and_eq_true, decide_eq_true_eq, Option.isNone_iff_eq_none] at h
      obtain ⟨e, h⟩ := h
      subst e
      exact ⟨i, fs, rfl, hS, h⟩
    · cases h
  · cases h
def eMt (c : Nat) (m : Str) (F : List D → MS → R D) (fo : En → MS → R D) (fs : En → MS → R (List D)) : En → MS → R D := fun ρ S => (fo ρ S).bind fun x S1 => if insB c m S1 x = true then (fs ρ S1).bind fun xs S2 => F (x :: xs) S2 else .bad
section
variable {X : Cx} {G : Gx} {W : WX} {a o : Expr} {es : List Expr} {fo : En → MS → R D} {fs : En → MS → R (List D)} {pos apos p : Pos} {k : Nat} {F : List D → MS → R D} {m x : Str}
theorem post_spD {M : Mx} {S : MS} {H : Hp} {σ : L2.St} {vs : List V} {ds : List D} {Q : VK} (r : Rel G M S H) (rs : Reps G M H vs ds) (h : Post G W σ M H (Rep G) (F ds S) Q) : spD G F vs H Q (WE W σ) := by
  refine ⟨M, S, ds, r, rs, ?_⟩
  cases z : F ds S with
  | ok d S' => rw [z] at h; exact h
  | exc c S' => rw [z] at h; exact h
  | bad => rw [z] at h; exact h
theorem made_sp {c : Nat} {M : Mx} {S : MS} {H : Hp} {σ : L2.St} {vs : List V} {ds : List D} {Q : VK} (r : Rel G M S H) (rs : Reps G M H vs ds) (h : Post G W σ M H (Rep G) (nonR (.obj S.length) (F (.obj S.length :: ds) (S ++ [.ins c []]))) Q) (x dx : Addr) (hx : H x = none) (hd : H dx = none) (ne : dx ≠ x) :
    spD G F (.ref x :: vs) (upd (upd H dx (.own x)) x (.ins (G.ca c) dx [])) (fun v H2 => v = .non ∧ Q (.ref x) H2) (WE W σ) := by
  have hx1 : upd H dx (.own x) x = none := by rw [upd_ne (fun z => ne z.symm)]; exact hx
  have r1 : Rel G M S (upd H dx (.own x)) := r.laid hd
  have x1 : Ext M H M (upd H dx (.own x)) := Ext.new hd
  have x2 : Ext M (upd H dx (.own x)) ⟨M.m ++ [x], M.x⟩ (upd (upd H dx (.own x)) x (.ins (G.ca c) dx [])) := Ext.newObj hx1
  have r2 := r1.laidObj (o := .ins (G.ca c) dx []) (u := .ins c []) hx1 ⟨dx, [], upd_same, .nil⟩
  have hat : (M.m ++ [x])[S.length]? = some x := by
    rw [← r.len, List.getElem?_append_right (Nat.le_refl _), Nat.sub_self]; rfl
  refine ⟨_, _, .obj S.length :: ds, r2, .cons (.obj hat) (rs.ext (x1.trans x2)), ?_⟩
  cases z : F (.obj S.length :: ds) (S ++ [.ins c []]) with
  | bad => rw [z] at h; exact h.elim
  | exc k S' => rw [z] at h; exact fun M' H' x' r' => h M' H' ((x1.trans x2).trans x') r'
  | ok d S' =>
    rw [z] at h
    cases d with
    | non =>
      intro M' H' v x' r' p'
      refine ⟨p'.non_inv, h M' H' (.ref x) ((x1.trans x2).trans x') r' (.obj ?_)⟩
      obtain ⟨l, q, _⟩ := x'.more
      rw [q]
      exact (List.getElem?_append_left (by simp [r.len])).trans hat
    | _ => exact h.elim
theorem den_make {c : Nat} (ci : CalI X.prog X.w X.K X.mg X.base G k x c F) (hr : Room (k + 1) X.A) (tk : Takes X W) (ha : PA X (a :: es) (tA G W fs)) (hg : Gl X x := by rfl) (hdb : (x == ("__debug__" : Str)) = false := by decide) (he : starEach (a :: es) X.env = (false, eval a X.env) :: starEach es X.env := by rfl) (hpl : (backTo pos (starEach es X.env)).any (·.1) = false := by rfl) :
    PE X (.Call (.Name x p) (a :: es) [] pos) (tD G W (eMk c F fs)) := by
  obtain ⟨f, fd, ps, Fo, hm, mk, hb⟩ := ci.ex
  refine ⟨fun pins s σ H Q Iv ⟨M, S, ρ, r, e, h⟩ => ?_⟩
  refine wpAny_Call_Name_kw (ld_glob Iv hg hm ?_ hdb)
  refine PySem.W.callWith_K (h₀ := X.base) Iv.ok.mod.kin mk.kp (thn (ha.run pos pins s σ H _ Iv (a_bind h r e)) fun us s1 ⟨vs, H1, I1, rv, M1, S1, d1, x1, r1, p1, e1, h1⟩ => ⟨I1.kIn, ?_⟩) he hpl
  exact mk_run mk Fo hr hb (passAt tk σ) I1 rv fun x dx hx hd ne => made_sp r1 p1 h1 x dx hx hd ne
theorem den_meth {c : Nat} {pl : Sem Bool} (cm : CalM X.prog X.w X.K X.mg X.base G k c m F) (hr : Room k X.A) (tk : Takes X W) (ho : PE X o (tD G W fo)) (ha : PA X (a :: es) (tA G W fs)) (he : starEach (a :: es) X.env = (false, eval a X.env) :: starEach es X.env := by rfl) (hpl : (backTo pos (starEach es X.env)).any (·.1) = false := by rfl)
    (hev : eval (.Call (.Attribute o m apos) (a :: es) [] pos) X.env = (eval o X.env >>= fun ov => standAt apos.atName >>= fun _ => holding [ov] (getMethod ov m pl) >>= fun q => callWith pos q.1 q.2 (backTo pos (starEach (a :: es) X.env)) (backToKw pos (keywordEach [] X.env))) := by rfl) :
    PE X (.Call (.Attribute o m apos) (a :: es) [] pos) (tD G W (eMt c m F fo fs)) := by
  obtain ⟨f, fd, ps, Fo, cl, me, hb⟩ := cm.ex
  refine ⟨fun pins s σ H Q Iv ⟨M, S, ρ, r, e, h⟩ => ?_⟩
  refine PySem.W.methodCall_KW (pl := pl) (thn (ho.run pins s σ H _ Iv (d_bind h r e)) fun u s1 ⟨v, H1, I1, rv, M1, S1, d1, x1, r1, p1, e1, h1⟩ => ?_) hev
  by_cases z : insB c m S1 d1 = true
  · rw [if_pos z] at h1
    obtain ⟨i, fs', rfl, hS, hl⟩ := insB_some z
    obtain ⟨ad, dx, vs, rfl, hm, had, kr⟩ := ins_at r1 p1 hS
    obtain rfl : u = Value.ref ad := rv
    refine getmeth_ok I1 had cl me (kr.lookN hl) ?_
    refine PySem.W.callWith_K (first := [.ref ad]) (h₀ := X.base) Iv.ok.mod.kin me.kp (thn (ha.run pos pins s1 σ H1 _ I1 (a_bind h1 r1 e1)) fun us s2 ⟨ws, H2, I2, rw_, M2, S2, d2, x2, r2, p2, e2, h2⟩ => ⟨I2.kIn, ?_⟩) he hpl
    exact run_fnS (E := WE W) (us := .ref ad :: us) (vs := .ref ad :: ws) Fo hr hb (passAt tk σ) I2 (.cons rfl rw_) (post_spD r2 (.cons (p1.ext x2) p2) h2)
  · rw [if_neg z] at h1; exact h1.elim
theorem den_meth0 {c : Nat} {pl : Sem Bool} (cm : CalM X.prog X.w X.K X.mg X.base G k c m F) (hr : Room k X.A) (tk : Takes X W) (ho : PE X o (tD G W fo))
    (hev : eval (.Call (.Attribute o m apos) [] [] pos) X.env = (eval o X.env >>= fun ov => standAt apos.atName >>= fun _ => holding [ov] (getMethod ov m pl) >>= fun q => callWith pos q.1 q.2 (backTo pos (starEach [] X.env)) (backToKw pos (keywordEach [] X.env))) := by rfl) :
    PE X (.Call (.Attribute o m apos) [] [] pos) (tD G W (eMt c m F fo aN)) := by
  obtain ⟨f, fd, ps, Fo, cl, me, hb⟩ := cm.ex
  refine ⟨fun pins s σ H Q Iv ⟨M, S, ρ, r, e, h⟩ => ?_⟩
  refine PySem.W.methodCall_KW (pl := pl) (thn (ho.run pins s σ H _ Iv (d_bind h r e)) fun u s1 ⟨v, H1, I1, rv, M1, S1, d1, x1, r1, p1, e1, h1⟩ => ?_) hev
  by_cases z : insB c m S1 d1 = true
  · rw [if_pos z] at h1
    obtain ⟨i, fs', rfl, hS, hl⟩ := insB_some z
    obtain ⟨ad, dx, vs, rfl, hm, had, kr⟩ := ins_at r1 p1 hS
    obtain rfl : u = Value.ref ad := rv
    refine getmeth_ok I1 had cl me (kr.lookN hl) ?_
    exact PySem.W.callWith_K0 (first := [.ref ad]) I1.kIn me.kp (run_fnS (E := WE W) (us := [.ref ad]) (vs := [.ref ad]) Fo hr hb (passAt tk σ) I1 (.cons rfl .nil) (post_spD r1 (.cons p1 .nil) h1))
  · rw [if_neg z] at h1; exact h1.elim
end
end Dn

namespace Dn
open PySem L2
section
variable {α β : Type} {a : α} {S S1 : MS} {ρ : En} {d d1 d2 x y : D} {ds xs ys : List D} {i n : Nat}
@[simp] theorem bind_ok (k : α → MS → R β) : (R.ok a S).bind k = k a S := rfl
@[simp] theorem bind_bad (k : α → MS → R β) : (R.bad : R α).bind k = .bad := rfl
@[simp] theorem bindS_ok (k : α → MS → RS) : (R.ok a S).bindS ρ k = k a S := rfl
@[simp] theorem bindS_bad (k : α → MS → RS) : (R.bad : R α).bindS ρ k = .bad := rfl
@[simp] theorem bind_ite {c : Prop} [Decidable c] (r r' : R α) (k : α → MS → R β) : (if c then r else r').bind k = if c then r.bind k else r'.bind k := by split <;> rfl
@[simp] theorem bindS_ite {c : Prop} [Decidable c] (r r' : R α) (k : α → MS → RS) : (if c then r else r').bindS ρ k = if c then r.bindS ρ k else r'.bindS ρ k := by split <;> rfl
@[simp] theorem noX_ok : noX (R.ok a S) = .ok a S := rfl
@[simp] theorem ofO_some : ofO (some a) S = .ok a S := rfl
@[simp] theorem ofOS_some : ofOS (some (a, S)) = .ok a S := rfl
@[simp] theorem eV_0 : eV 0 (some d :: ρ) S = .ok d S := rfl
@[simp] theorem eV_s {o : Option D} : eV (i + 1) (o :: ρ) S = eV i ρ S := rfl
@[simp] theorem eC_a : eC d ρ S = .ok d S := rfl
@[simp] theorem aN_a : aN ρ S = .ok [] S := rfl
@[simp] theorem aC_a (f : En → MS → R D) (fs : En → MS → R (List D)) : aC f fs ρ S = (f ρ S).bind fun x S1 => (fs ρ S1).bind fun xs S2 => .ok (x :: xs) S2 := rfl
@[simp] theorem eOp_a (g : MS → D → D → Option D) (f1 f2 : En → MS → R D) : eOp g f1 f2 ρ S = (f1 ρ S).bind fun x S1 => (f2 ρ S1).bind fun y S2 => ofO (g S2 x y) S2 := rfl
@[simp] theorem eUn_a (g : MS → D → Option D) (f : En → MS → R D) : eUn g f ρ S = (f ρ S).bind fun x S1 => ofO (g S1 x) S1 := rfl
@[simp] theorem eB_a (g : MS → List D → Option D) (fs : En → MS → R (List D)) : eB g fs ρ S = (fs ρ S).bind fun xs S1 => ofO (g S1 xs) S1 := rfl
@[simp] theorem eF_a (F : List D → MS → R D) (fs : En → MS → R (List D)) : eF F fs ρ S = (fs ρ S).bind fun xs S1 => F xs S1 := rfl
@[simp] theorem eTup_a (fs : En → MS → R (List D)) : eTup fs ρ S = (fs ρ S).bind fun xs S1 => if xs.length ≤ 1000 then .ok (.tup xs) S1 else .bad := rfl
@[simp] theorem eLst_a (fs : En → MS → R (List D)) : eLst fs ρ S = (fs ρ S).bind fun xs S1 => if xs.length ≤ 1000 then .ok xs S1 else .bad := rfl
@[simp] theorem eIf_a (c : En → MS → R Bool) (f g : En → MS → R D) : eIf c f g ρ S = (c ρ S).bind fun b S1 => if b = true then f ρ S1 else g ρ S1 := rfl
@[simp] theorem eVal_a (f : En → MS → R (List D)) : eVal f ρ S = (f ρ S).bind fun xs S1 => .ok (.lst xs) S1 := rfl
@[simp] theorem eObj_a (f : En → MS → R (List D)) : eObj f ρ S = (f ρ S).bind fun xs S1 => .ok (.obj S1.length) (S1 ++ [.lst xs]) := rfl
@[simp] theorem isB_bl {b : Bool} : isB (.bl b) = some b := rfl
@[simp] theorem bT_a (f : En → MS → R D) : bT f ρ S = (f ρ S).bind fun d S1 => ofO (isB d) S1 := rfl
@[simp] theorem trT_a (f : En → MS → R D) : trT f ρ S = (f ρ S).bind fun d S1 => ofO (truD S1 d) S1 := rfl
@[simp] theorem truD_bl {b : Bool} : truD S (.bl b) = some b := rfl
@[simp] theorem truD_non : truD S .non = some false := rfl
@[simp] theorem truD_tup : truD S (.tup xs) = some (!xs.isEmpty) := rfl
@[simp] theorem truD_lst : truD S (.lst xs) = some (!xs.isEmpty) := rfl
@[simp] theorem truD_int {k : Int} : truD S (.int k) = some (k != 0) := rfl
@[simp] theorem tAnd_a (f g : En → MS → R Bool) : tAndD f g ρ S = (f ρ S).bind fun b S1 => if b = true then g ρ S1 else .ok false S1 := rfl
@[simp] theorem tOr_a (f g : En → MS → R Bool) : tOrD f g ρ S = (f ρ S).bind fun b S1 => if b = true then .ok true S1 else g ρ S1 := rfl
@[simp] theorem tNot_a (f : En → MS → R Bool) : tNotD f ρ S = (f ρ S).bind fun b S1 => .ok (!b) S1 := rfl
@[simp] theorem yesD_a : yesD ρ S = .ok true S := rfl
@[simp] theorem eAnd_a (f g : En → MS → R D) : eAnd f g ρ S = (f ρ S).bind fun d S1 => (ofO (isB d) S1).bind fun b S2 => if b = true then g ρ S2 else .ok (.bl false) S2 := rfl
@[simp] theorem eOr_a (f g : En → MS → R D) : eOr f g ρ S = (f ρ S).bind fun d S1 => (ofO (isB d) S1).bind fun b S2 => if b = true then .ok (.bl true) S2 else g ρ S2 := rfl
@[simp] theorem eNot_a (f : En → MS → R D) : eNot f ρ S = (f ρ S).bind fun d S1 => (ofO (isB d) S1).bind fun b S2 => .ok (.bl (!b)) S2 := rfl
@[simp] theorem eOrT_a (f g : En → MS → R D) : eOrT f g ρ S = (f ρ S).bind fun d S1 => (ofO (truD S1 d) S1).bind fun k S2 => if k = true then .ok d S2 else g ρ S2 := rfl
@[simp] theorem eChain_a (g g' : MS → D → D → Option D) (fa fb fc : En → MS → R D) : eChain g g' fa fb fc ρ S = (fa ρ S).bind fun x S1 => (fb ρ S1).bind fun y S2 => (ofO (g S2 x y) S2).bind fun z S3 => (ofO (isB z) S3).bind fun k S4 =>
  if k = true then (fc ρ S4).bind fun w S5 => ofO (g' S5 y w) S5 else .ok (.bl false) S4 := rfl
@[simp] theorem eSl_a (g : MS → D → Option Int → Option Int → Option D) (fa : En → MS → R D) (fl fh : En → MS → R (Option Int)) : eSl g fa fl fh ρ S = (fa ρ S).bind fun x S1 => (fl ρ S1).bind fun l S2 => (fh ρ S2).bind fun u S3 => ofO (g S3 x l u) S3 := rfl
@[simp] theorem pNo_a : pNo ρ S = .ok none S := rfl
@[simp] theorem pSm_a (f : En → MS → R D) : pSm f ρ S = (f ρ S).bind fun d S1 => (ofO (oInt d) S1).bind fun i S2 => .ok (some i) S2 := rfl
@[simp] theorem oInt_int {k : Int} : oInt (.int k) = some k := rfl
@[simp] theorem slT_tup {lo hi : Option Int} : slT S (.tup xs) lo hi = some (.tup (cutD xs lo hi)) := rfl
@[simp] theorem slT_lst {lo hi : Option Int} : slT S (.lst xs) lo hi = some (.lst (cutD xs lo hi)) := rfl
@[simp] theorem iSeq_a (f : En → MS → R D) : iSeq f ρ S = (f ρ S).bind fun d S1 => ofO (itemsD d) S1 := rfl
@[simp] theorem itemsD_tup : itemsD (.tup xs) = some xs := rfl
@[simp] theorem itemsD_lst : itemsD (.lst xs) = some xs := rfl
@[simp] theorem itemsD_frz : itemsD (.frz xs) = some xs := rfl
@[simp] theorem iB_a (g : List D → Option (List D)) (fs : En → MS → R (List D)) : iB g fs ρ S = (fs ρ S).bind fun ds S1 => ofO (g ds) S1 := rfl
@[simp] theorem eLc_a (it : En → MS → R (List D)) (p : Pat) (ft : En → MS → R Bool) (fe : En → MS → R D) (vs : List Nat) : eLc it p ft fe vs ρ S = (it ρ S).bind fun ds S1 => if ds.length ≤ lim then compL p ft fe (wipeD ρ vs) ds S1 else .bad := rfl
@[simp] theorem wipeD_nil : wipeD ρ [] = ρ := rfl
@[simp] theorem wipeD_cons {v : Nat} {vs : List Nat} : wipeD ρ (v :: vs) = (wipeD ρ vs).set v none := rfl
variable {k j : Int}
@[simp] theorem addI_a : addI S (.int k) (.int j) = some (.int (k + j)) := rfl
@[simp] theorem addD_int : addD S (.int k) (.int j) = some (.int (k + j)) := rfl
@[simp] theorem subI_a : subI S (.int k) (.int j) = some (.int (k - j)) := rfl
@[simp] theorem ltI_a : ltI S (.int k) (.int j) = some (.bl (decide (k < j))) := rfl
@[simp] theorem leI_a : leI S (.int k) (.int j) = some (.bl (decide (k ≤ j))) := rfl
@[simp] theorem gtI_a : gtI S (.int k) (.int j) = some (.bl (decide (j < k))) := rfl
@[simp] theorem geI_a : geI S (.int k) (.int j) = some (.bl (decide (j ≤ k))) := rfl
theorem modI_a (h : 0 < j) : modI S (.int k) (.int j) = some (.int (k % j)) := by simp [modI, iic, h]
theorem divI_a (h : 0 < j) (h2 : j < 1073741824) : divI S (.int k) (.int j) = some (.int (k / j)) := by simp [divI, iic, h, h2]
theorem mulI_r (h : -b64 < j) (h2 : j < b64) : mulI S (.int k) (.int j) = some (.int (k * j)) := by simp [mulI, iic, h, h2]
theorem mulI_l (h : -b64 < k) (h2 : k < b64) : mulI S (.int k) (.int j) = some (.int (k * j)) := by simp [mulI, iic, h, h2]
theorem mulD_r (h : -b64 < j) (h2 : j < b64) : mulD S (.int k) (.int j) = some (.int (k * j)) := by simp [mulD, orG, mulI_r h h2]
theorem mulD_l (h : -b64 < k) (h2 : k < b64) : mulD S (.int k) (.int j) = some (.int (k * j)) := by simp [mulD, orG, mulI_l h h2]
theorem powI_a (h : 0 ≤ j) (h1 : j ≤ 1000000) (h2 : k.natAbs < 2 ^ 64) : powI S (.int k) (.int j) = some (.int (k ^ j.toNat)) := by simp [powI, iic, h, h1]; omega
theorem addD_tup (h : xs.length + ys.length ≤ lim) : addD S (.tup xs) (.tup ys) = some (.tup (xs ++ ys)) := by simp [addD, orG, addI, ii, catT, h]
theorem addD_lst (h : xs.length + ys.length ≤ lim) : addD S (.lst xs) (.lst ys) = some (.lst (xs ++ ys)) := by simp [addD, orG, addI, ii, catT, catS, catL, rdM, h]
theorem mulD_tup (h : -1000 ≤ k) (h1 : k ≤ 1000) (h2 : xs.length ≤ 1000) : mulD S (.tup xs) (.int k) = some (.tup (List.replicate k.toNat xs).flatten) := by simp [mulD, orG, mulI, iic, repT, h, h1, h2]
@[simp] theorem isA_non : isA S d .non = some (.bl (nonD d)) := rfl
@[simp] theorem isNotA_non : isNotA S d .non = some (.bl (!nonD d)) := rfl
@[simp] theorem nonD_non : nonD .non = true := rfl
@[simp] theorem nonD_tup : nonD (.tup xs) = false := rfl
@[simp] theorem nonD_int : nonD (.int k) = false := rfl
@[simp] theorem isA_bl {b c : Bool} : isA S (.bl b) (.bl c) = some (.bl (decide (b = c))) := rfl
@[simp] theorem isNotA_bl {b c : Bool} : isNotA S (.bl b) (.bl c) = some (.bl (!decide (b = c))) := rfl
@[simp] theorem lenD_tup : lenD S [.tup xs] = some (.int xs.length) := rfl
@[simp] theorem lenD_lst : lenD S [.lst xs] = some (.int xs.length) := rfl
@[simp] theorem lenD_frz : lenD S [.frz xs] = some (.int xs.length) := rfl
@[simp] theorem tupD_tup : tupD S [.tup xs] = some (.tup xs) := rfl
@[simp] theorem tupD_lst : tupD S [.lst xs] = some (.tup xs) := rfl
@[simp] theorem tupD_frz : tupD S [.frz xs] = some (.tup xs) := rfl
@[simp] theorem listD_tup : listD S [.tup xs] = some (.lst xs) := rfl
@[simp] theorem listD_lst : listD S [.lst xs] = some (.lst xs) := rfl
@[simp] theorem listD_frz : listD S [.frz xs] = some (.lst xs) := rfl
@[simp] theorem revD_tup : revD S (.tup xs) = some (.tup xs.reverse) := rfl
@[simp] theorem revD_lst : revD S (.lst xs) = some (.lst xs.reverse) := rfl
@[simp] theorem enumG_tup : enumG [.tup xs] = some (enumL xs) := rfl
@[simp] theorem enumG_lst : enumG [.lst xs] = some (enumL xs) := rfl
@[simp] theorem zipG_tup : zipG [.tup xs, .tup ys] = some (zipL xs ys) := rfl
@[simp] theorem zipG_lst : zipG [.lst xs, .lst ys] = some (zipL xs ys) := rfl
theorem rng1_a (h : -big ≤ k) (h2 : k < big) : rng1 [.int k] = some (intsD 0 k.toNat) := by simp [rng1, h, h2]
theorem rng2_a (h : -big ≤ k) (h2 : k < big) (h3 : -big ≤ j) (h4 : j < big) : rng2 [.int k, .int j] = some (intsD k (j - k).toNat) := by simp [rng2, h, h2, h3, h4]
@[simp] theorem isi_int_int : isiD S [.int k, .ty .int] = some (.bl true) := rfl
@[simp] theorem isi_int_bool : isiD S [.int k, .ty .bool] = some (.bl false) := rfl
@[simp] theorem isi_int_tup : isiD S [.int k, .ty .tuple] = some (.bl false) := rfl
@[simp] theorem isi_tup_tup : isiD S [.tup xs, .ty .tuple] = some (.bl true) := rfl
@[simp] theorem isi_tup_int : isiD S [.tup xs, .ty .int] = some (.bl false) := rfl
@[simp] theorem isi_str_str {x : Str} : isiD S [.str x, .ty .str] = some (.bl true) := rfl
@[simp] theorem isi_non {t : Ty} : isiD S [.non, .ty t] = some (.bl false) := by cases t <;> rfl
@[simp] theorem eqD_int : eqD S (.int k) (.int j) = some (.bl (decide (k = j))) := by
  have h : ∀ k : Int, SeqAt.shaped (PyData.int k) = true := fun k => by simp [SeqAt.shaped, PyData.canLay0, PyData.depth]
  have e : PyData.eqv (.int k) (.int j) = decide (k = j) := by simp [PyData.eqv]; rfl
  simp [eqD, toP, h, e]
@[simp] theorem neD_int : neD S (.int k) (.int j) = some (.bl (!decide (k = j))) := by
  have h : ∀ k : Int, SeqAt.shaped (PyData.int k) = true := fun k => by simp [SeqAt.shaped, PyData.canLay0, PyData.depth]
  have e : PyData.eqv (.int k) (.int j) = decide (k = j) := by simp [PyData.eqv]; rfl
  simp [neD, toP, h, e]
theorem ixD_q (h : rdQ S d = some xs) (h1 : atI xs k = some x) : ixD S d (.int k) = some x := by simp [ixD, h, h1]
@[simp] theorem rdQ_tup : rdQ S (.tup xs) = some xs := rfl
@[simp] theorem rdQ_lst : rdQ S (.lst xs) = some xs := rfl
@[simp] theorem rdQ_frz : rdQ S (.frz xs) = some xs := rfl
@[simp] theorem rdL_lst : rdL S (.lst xs) = some xs := rfl
@[simp] theorem rdL_frz : rdL S (.frz xs) = some xs := rfl
@[simp] theorem rdQ_obj0 : rdQ (.lst xs :: S) (.obj 0) = some xs := rfl
@[simp] theorem ixD_tup : ixD S (.tup xs) (.int k) = atI xs k := rfl
@[simp] theorem ixD_lst : ixD S (.lst xs) (.int k) = atI xs k := rfl
@[simp] theorem ixD_frz : ixD S (.frz xs) (.int k) = atI xs k := rfl
@[simp] theorem atI_0 {x : α} {xs : List α} : atI (x :: xs) 0 = some x := by simp [atI, ixN]
theorem atI_nat {xs : List α} {n : Nat} (h : n < xs.length) : atI xs (n : Int) = xs[n]? := by
  unfold atI ixN
  rw [if_pos (by omega), if_pos (by omega)]
  rfl
@[simp] theorem atI_s {x : α} {xs : List α} {n : Nat} : atI (x :: xs) ((n + 1 : Nat) : Int) = atI xs (n : Int) := by
  unfold atI ixN
  by_cases h : n < xs.length
  · rw [if_pos (by omega), if_pos (by simp; omega), if_pos (by omega), if_pos (by omega)]
    simp
  · rw [if_pos (by omega), if_neg (by simp; omega), if_pos (by omega), if_neg (by omega)]
    rfl
@[simp] theorem atI_1 {x : α} {xs : List α} : atI (x :: xs) 1 = atI xs 0 := atI_s (n := 0)
@[simp] theorem atI_2 {x : α} {xs : List α} : atI (x :: xs) 2 = atI xs 1 := atI_s (n := 1)
@[simp] theorem atI_3 {x : α} {xs : List α} : atI (x :: xs) 3 = atI xs 2 := atI_s (n := 2)
@[simp] theorem atI_4 {x : α} {xs : List α} : atI (x :: xs) 4 = atI xs 3 := atI_s (n := 3)
theorem atI_map {f : α → β} {xs : List α} {k : Int} : atI (xs.map f) k = (atI xs k).map f := by
  unfold atI
  rw [List.length_map]
  cases ixN xs.length k with
  | none => rfl
  | some j => simp
def nth (xs : List Int) (k : Int) : Int := xs.getD k.toNat 0
theorem atI_int {xs : List Int} {k : Int} (h0 : 0 ≤ k) (h1 : k < xs.length) : atI (xs.map D.int) k = some (.int (nth xs k)) := by
  unfold nth
  obtain ⟨n, rfl⟩ := Int.eq_ofNat_of_zero_le h0
  rw [atI_map, atI_nat (by omega)]
  rw [List.getElem?_eq_getElem (by omega)]
  simp [List.getD_eq_getElem?_getD, List.getElem?_eq_getElem (show n < xs.length by omega)]
theorem bools_map (f : α → Bool) (xs : List α) : bools (xs.map fun a => .bl (f a)) = some (xs.map f) := by
  induction xs with
  | nil => rfl
  | cons a xs ih => simp [bools, ih]
theorem ints_map (f : α → Int) (xs : List α) : intsOf (xs.map fun a => .int (f a)) = some (xs.map f) := by
  induction xs with
  | nil => rfl
  | cons a xs ih => simp [intsOf, ih]
theorem ints_id (xs : List Int) : intsOf (xs.map .int) = some xs := by
  have := ints_map (fun a : Int => a) xs
  simpa using this
theorem allD_map (f : α → Bool) (xs : List α) : allD S [.lst (xs.map fun a => .bl (f a))] = some (.bl (xs.all f)) := by
  simp [allD, bools_map, List.all_map]
theorem anyD_map (f : α → Bool) (xs : List α) : anyD S [.lst (xs.map fun a => .bl (f a))] = some (.bl (xs.any f)) := by
  simp [anyD, bools_map, List.any_map]
theorem sumD_map (f : α → Int) (xs : List α) : sumD S [.lst (xs.map fun a => .int (f a))] = some (.int (xs.map f).sum) := by
  simp [sumD, ints_map]
theorem maxA_map (f : α → Int) (x : α) (xs : List α) : maxA S [.lst ((x :: xs).map fun a => .int (f a))] = some (.int ((xs.map f).foldl max (f x))) := by
  simp [maxA, orC, max2D, maxD, intsOf, ints_map, maxOf]
@[simp] theorem maxA_2 : maxA S [.int k, .int j] = some (.int (if k < j then j else k)) := rfl
@[simp] theorem minA_2 : minA S [.int k, .int j] = some (.int (if j < k then j else k)) := rfl
end
/-- a comprehension that changes nothing -/
theorem compL_ok {α : Type} {p : Pat} {ft : En → MS → R Bool} {fe : En → MS → R D} {ρ : En} {S : MS} (inj : α → D) (c : α → Bool) (g : α → D) : ∀ (xs : List α), (∀ a ∈ xs, ∃ ρ', bindP p (inj a) ρ = some ρ' ∧ ft ρ' S = .ok (c a) S ∧ (c a = true → fe ρ' S = .ok (g a) S)) →
    compL p ft fe ρ (xs.map inj) S = .ok ((xs.filter c).map g) S
  | [], _ => rfl
  | a :: xs, h => by
    obtain ⟨ρ', e, e1, e2⟩ := h a List.mem_cons_self
    have ih := compL_ok inj c g xs fun b hb => h b (List.mem_cons_of_mem _ hb)
    show compB p ft fe ρ (inj a) (compL p ft fe ρ (xs.map inj)) S = _
    unfold compB
    rw [e]
    show (noX (ft ρ' S)).bind _ = _
    rw [e1]
    by_cases z : c a = true
    · simp [z, e2 z, ih]
    · simp [z, ih]
theorem compL_all {α : Type} {p : Pat} {fe : En → MS → R D} {ρ : En} {S : MS} (inj : α → D) (g : α → D) (xs : List α) (h : ∀ a ∈ xs, ∃ ρ', bindP p (inj a) ρ = some ρ' ∧ fe ρ' S = .ok (g a) S) :
    compL p yesD fe ρ (xs.map inj) S = .ok (xs.map g) S := by
  have := compL_ok (p := p) (ft := yesD) (fe := fe) (ρ := ρ) (S := S) inj (fun _ => true) g xs fun a ha => by
    obtain ⟨ρ', e, e1⟩ := h a ha
    exact ⟨ρ', e, rfl, fun _ => e1⟩
  rwa [List.filter_eq_self.mpr (fun _ _ => rfl)] at this
theorem intsD_map (lo : Int) (n : Nat) : intsD lo n = ((List.range n).map fun (i : Nat) => lo + (i : Int)).map .int := by
  simp [intsD]
theorem zipL_map {α β : Type} (f : α → D) (g : β → D) (xs : List α) (ys : List β) : zipL (xs.map f) (ys.map g) = (xs.zip ys).map fun p => .tup [f p.1, g p.2] := by
  unfold zipL
  rw [List.zipWith_map, List.zip, List.map_zipWith]
theorem zipL_tail {α : Type} (f : α → D) (xs : List α) : zipL (xs.map f) (xs.map f).tail = (xs.zip xs.tail).map fun p => .tup [f p.1, f p.2] := by
  rw [← List.map_tail, zipL_map]
@[simp] theorem cut_tail (xs : List D) : cutD xs (some 1) none = xs.tail := by
  unfold cutD
  have : HT.sIx xs.length 0 (some 1) = min 1 xs.length := HT.sIx_nat xs.length 0 1
  rw [this, HT.sIx_none]
  cases xs with
  | nil => rfl
  | cons x xs => simp [List.take_of_length_le]
theorem enumL_map {α : Type} (f : α → D) (xs : List α) : enumL (xs.map f) = xs.zipIdx.map fun p => .tup [.int (p.2 : Nat), f p.1] := by
  unfold enumL
  rw [List.zipIdx_map, List.map_map]
  rfl
section
variable {Φ : RS → Prop} {ρ : En} {S S1 : MS} {g g1 g2 : En → MS → RS} {f : En → MS → R D} {c : En → MS → R Bool} {i : Nat} {d : D}
theorem st_set (h : f ρ S = .ok d S1) (k : Φ (g (ρ.set i (some d)) S1)) : Φ (sSq (sSet i f) g ρ S) := by
  have : sSq (sSet i f) g ρ S = g (ρ.set i (some d)) S1 := by simp [sSq, sSet, h]
  rw [this]; exact k
theorem st_ex (h : f ρ S = .ok d S1) (k : Φ (g ρ S1)) : Φ (sSq (sEx f) g ρ S) := by
  have : sSq (sEx f) g ρ S = g ρ S1 := by simp [sSq, sEx, h]
  rw [this]; exact k
theorem st_skip (h : c ρ S = .ok false S1) (k : Φ (g ρ S1)) : Φ (sSq (sIf c g1 sNx) g ρ S) := by
  have : sSq (sIf c g1 sNx) g ρ S = g ρ S1 := by simp [sSq, sIf, h, sNx]
  rw [this]; exact k
theorem st_then (h : c ρ S = .ok true S1) (k : Φ (sSq g1 g ρ S1)) : Φ (sSq (sIf c g1 g2) g ρ S) := by
  have : sSq (sIf c g1 g2) g ρ S = sSq g1 g ρ S1 := by simp [sSq, sIf, h]
  rw [this]; exact k
theorem st_else (h : c ρ S = .ok false S1) (k : Φ (sSq g2 g ρ S1)) : Φ (sSq (sIf c g1 g2) g ρ S) := by
  have : sSq (sIf c g1 g2) g ρ S = sSq g2 g ρ S1 := by simp [sSq, sIf, h]
  rw [this]; exact k
theorem st_sq {g3 : En → MS → RS} (k : Φ (sSq g1 (sSq g2 g3) ρ S)) : Φ (sSq (sSq g1 g2) g3 ρ S) := by
  have : sSq (sSq g1 g2) g3 ρ S = sSq g1 (sSq g2 g3) ρ S := by
    unfold sSq
    cases g1 ρ S <;> rfl
  rw [this]; exact k
theorem st_nx (k : Φ (g ρ S)) : Φ (sSq sNx g ρ S) := k
theorem st_ret (h : f ρ S = .ok d S1) (k : Φ (.ret d S1)) : Φ (sRet f ρ S) := by
  have : sRet f ρ S = .ret d S1 := by simp [sRet, h]
  rw [this]; exact k
theorem st_retq (h : f ρ S = .ok d S1) (k : Φ (.ret d S1)) : Φ (sSq (sRet f) g ρ S) := by
  have : sSq (sRet f) g ρ S = .ret d S1 := by simp [sSq, sRet, h]
  rw [this]; exact k
theorem st_ifl (h : c ρ S = .ok false S1) (k : Φ (g2 ρ S1)) : Φ (sIf c g1 g2 ρ S) := by
  have : sIf c g1 g2 ρ S = g2 ρ S1 := by simp [sIf, h]
  rw [this]; exact k
theorem st_ift (h : c ρ S = .ok true S1) (k : Φ (g1 ρ S1)) : Φ (sIf c g1 g2 ρ S) := by
  have : sIf c g1 g2 ρ S = g1 ρ S1 := by simp [sIf, h]
  rw [this]; exact k
theorem st_pat {p : Pat} {ρ' : En} (h : f ρ S = .ok d S1) (hp : bindP p d ρ = some ρ') (k : Φ (g ρ' S1)) : Φ (sSq (sPat p f) g ρ S) := by
  have : sSq (sPat p f) g ρ S = g ρ' S1 := by simp [sSq, sPat, h, hp]
  rw [this]; exact k
end
section
variable {Φ : RS → Prop} {ρ ρ' : En} {S S1 S2 : MS} {g g2 : En → MS → RS} {it : En → MS → R (List D)} {p : Pat} {ds : List D} {d : D}
theorem st_forn (h : it ρ S = .ok ds S1) (hf : forL (forB p g) ds ρ S1 = .nx ρ' S2) (k : Φ (g2 ρ' S2)) : Φ (sSq (sForV it p g) g2 ρ S) := by
  have : sSq (sForV it p g) g2 ρ S = g2 ρ' S2 := by simp [sSq, sForV, h, hf]
  rw [this]; exact k
theorem st_forr (h : it ρ S = .ok ds S1) (hf : forL (forB p g) ds ρ S1 = .ret d S2) (k : Φ (.ret d S2)) : Φ (sSq (sForV it p g) g2 ρ S) := by
  have : sSq (sForV it p g) g2 ρ S = .ret d S2 := by simp [sSq, sForV, h, hf]
  rw [this]; exact k
end
def Is (r : R D) (x : RS) : Prop := fin x = r
def Sat (P : D → MS → Prop) (x : RS) : Prop := ∃ d S, fin x = .ok d S ∧ P d S
theorem Is.ret {d : D} {S : MS} : Is (.ok d S) (.ret d S) := rfl
theorem Is.nx {ρ : En} {S : MS} : Is (.ok .non S) (.nx ρ S) := rfl
theorem Sat.ret {P : D → MS → Prop} {d : D} {S : MS} (h : P d S) : Sat P (.ret d S) := ⟨d, S, rfl, h⟩
theorem fn_is {k n : Nat} {g : En → MS → RS} {ds : List D} {S : MS} {r : R D} (hl : ds.length = k) (h : Is r (g (startD n ds) S)) : fnD k n g ds S = r := by
  unfold fnD
  rw [if_pos hl]
  exact h
theorem fn_sat {k n : Nat} {g : En → MS → RS} {ds : List D} {S : MS} {P : D → MS → Prop} (hl : ds.length = k) (h : Sat P (g (startD n ds) S)) : ∃ d S', fnD k n g ds S = .ok d S' ∧ P d S' := by
  unfold fnD
  rw [if_pos hl]
  exact h
/-- a loop that looks for something -/
theorem forL_find {α : Type} {b : D → En → MS → RS} {S : MS} (inj : α → D) (c : α → Bool) (r : α → D) (Inv : En → Prop) : ∀ (xs : List α), (∀ a ∈ xs, ∀ ρ, Inv ρ → (c a = true → b (inj a) ρ S = .ret (r a) S) ∧ (c a = false → ∃ ρ', b (inj a) ρ S = .nx ρ' S ∧ Inv ρ')) → ∀ ρ, Inv ρ →
    (∃ a ∈ xs, c a = true ∧ forL b (xs.map inj) ρ S = .ret (r a) S) ∨ (∃ ρ', (∀ a ∈ xs, c a = false) ∧ forL b (xs.map inj) ρ S = .nx ρ' S ∧ Inv ρ')
  | [], _, ρ, i => .inr ⟨ρ, fun a h => by simp at h, rfl, i⟩
  | a :: xs, h, ρ, i => by
    obtain ⟨h1, h2⟩ := h a List.mem_cons_self ρ i
    cases z : c a with
    | true => exact .inl ⟨a, List.mem_cons_self, z, by simp [forL, h1 z, RS.loop]⟩
    | false =>
      obtain ⟨ρ', e, i'⟩ := h2 z
      rcases forL_find inj c r Inv xs (fun b hb => h b (List.mem_cons_of_mem _ hb)) ρ' i' with ⟨y, hy, cy, ey⟩ | ⟨ρ2, n2, e2, i2⟩
      · exact .inl ⟨y, List.mem_cons_of_mem _ hy, cy, by simp [forL, e, RS.loop, ey]⟩
      · refine .inr ⟨ρ2, fun y hy => ?_, by simp [forL, e, RS.loop, e2], i2⟩
        rcases List.mem_cons.mp hy with rfl | hy
        · exact z
        · exact n2 y hy
theorem comp2L_ok {α : Type} {p p1 : Pat} {ft ft1 : En → MS → R Bool} {it1 : En → MS → R (List D)} {fe : En → MS → R D} {vs1 : List Nat} {ρ : En} {S : MS} (inj : α → D) (g : α → List D) : ∀ (xs : List α), (∀ a ∈ xs, ∃ ρ' ds, bindP p (inj a) ρ = some ρ' ∧ ft ρ' S = .ok true S ∧ it1 ρ' S = .ok ds S ∧ ds.length ≤ 1000 ∧ compL p1 ft1 fe (wipeD ρ' vs1) ds S = .ok (g a) S) →
    comp2L p ft it1 p1 ft1 fe vs1 ρ (xs.map inj) S = .ok (xs.map g).flatten S
  | [], _ => rfl
  | a :: xs, h => by
    obtain ⟨ρ', ds, e, e1, e2, e3, e4⟩ := h a List.mem_cons_self
    have ih := comp2L_ok (p := p) (ft := ft) (it1 := it1) (p1 := p1) (ft1 := ft1) (fe := fe) (vs1 := vs1) (ρ := ρ) (S := S) inj g xs fun b hb => h b (List.mem_cons_of_mem _ hb)
    rw [List.map_cons, comp2L, e]
    show (noX (ft ρ' S)).bind _ = _
    rw [e1]
    simp [e2, e3, e4, ih]
/-- the greatest of a list -/
def maxs : List Int → Int
  | [] => 0
  | x :: xs => xs.foldl max x
theorem foldl_max_le {k : Int} : ∀ (xs : List Int) (x : Int), xs.foldl max x ≤ k ↔ x ≤ k ∧ ∀ y ∈ xs, y ≤ k
  | [], x => by simp
  | y :: xs, x => by
    rw [List.foldl_cons, foldl_max_le xs, List.forall_mem_cons, Int.max_le, and_assoc]
theorem maxs_le {k : Int} {xs : List Int} (h : xs ≠ []) : maxs xs ≤ k ↔ ∀ y ∈ xs, y ≤ k := by
  cases xs with
  | nil => exact absurd rfl h
  | cons x xs => rw [maxs, foldl_max_le, List.forall_mem_cons]
theorem maxs_eq {xs ys : List Int} (hx : xs ≠ []) (hy : ys ≠ []) (h : ∀ z, z ∈ xs ↔ z ∈ ys) : maxs xs = maxs ys := by
  have a := (maxs_le (k := maxs ys) hx).mpr fun y m => (maxs_le (k := maxs ys) hy).mp (by omega) y ((h y).mp m)
  have b := (maxs_le (k := maxs xs) hy).mpr fun y m => (maxs_le (k := maxs xs) hx).mp (by omega) y ((h y).mpr m)
  omega
theorem le_maxs {xs : List Int} {y : Int} (h : y ∈ xs) : y ≤ maxs xs := (maxs_le (k := maxs xs) (by intro e; simp [e] at h)).mp (by omega) y h
theorem maxA_ints {S : MS} {xs : List Int} (h : xs ≠ []) : maxA S [.lst (xs.map .int)] = some (.int (maxs xs)) := by
  cases xs with
  | nil => exact absurd rfl h
  | cons x xs => simp [maxA, orC, max2D, maxD, intsOf, ints_id, maxOf, maxs]
/-- data that can be compared -/
structure Shp (S : MS) (k : Nat) (d : D) (p : PyData) : Prop where
  to : toP S d = some p
  lay : p.canLay0 = true
  dep : p.depth ≤ k
structure Shps (S : MS) (k : Nat) (ds : List D) (ps : List PyData) : Prop where
  to : toPs S ds = some ps
  lay : PyData.canLayAll0 ps = true
  dep : PyData.depthAll ps ≤ k
theorem Shp.int {S : MS} {k : Nat} {i : Int} : Shp S k (.int i) (.int i) := ⟨rfl, by simp [PyData.canLay0], by simp [PyData.depth]⟩
theorem Shp.bl {S : MS} {k : Nat} {i : Bool} : Shp S k (.bl i) (.bool i) := ⟨rfl, by simp [PyData.canLay0], by simp [PyData.depth]⟩
theorem Shp.non {S : MS} {k : Nat} : Shp S k .non .none := ⟨rfl, by simp [PyData.canLay0], by simp [PyData.depth]⟩
theorem Shps.nil {S : MS} {k : Nat} : Shps S k [] [] := ⟨rfl, by simp [PyData.canLayAll0], by simp [PyData.depthAll]⟩
theorem Shps.cons {S : MS} {k : Nat} {d : D} {p : PyData} {ds : List D} {ps : List PyData} (h : Shp S k d p) (hs : Shps S k ds ps) : Shps S k (d :: ds) (p :: ps) :=
  ⟨by simp [toPs, h.to, hs.to], by simp [PyData.canLayAll0, h.lay, hs.lay], by have := h.dep; have := hs.dep; simp [PyData.depthAll]; omega⟩
theorem Shp.tup {S : MS} {k : Nat} {ds : List D} {ps : List PyData} (h : Shps S k ds ps) : Shp S (k + 1) (.tup ds) (.tuple ps) :=
  ⟨by simp [toP, h.to], by simp [PyData.canLay0, h.lay], by have := h.dep; simp [PyData.depth]; omega⟩
theorem Shp.lst {S : MS} {k : Nat} {ds : List D} {ps : List PyData} (h : Shps S k ds ps) : Shp S (k + 1) (.lst ds) (.list ps) :=
  ⟨by simp [toP, h.to], by simp [PyData.canLay0, h.lay], by have := h.dep; simp [PyData.depth]; omega⟩
theorem Shp.frz {S : MS} {k : Nat} {ds : List D} {ps : List PyData} (h : Shps S k ds ps) : Shp S (k + 1) (.frz ds) (.list ps) :=
  ⟨by simp [toP, h.to], by simp [PyData.canLay0, h.lay], by have := h.dep; simp [PyData.depth]; omega⟩
theorem Shps.map {α : Type} {S : MS} {k : Nat} (f : α → D) (g : α → PyData) (h : ∀ a, Shp S k (f a) (g a)) : ∀ xs : List α, Shps S k (xs.map f) (xs.map g)
  | [] => .nil
  | a :: xs => .cons (h a) (Shps.map f g h xs)
theorem eqD_shp {S : MS} {k : Nat} {d e : D} {p q : PyData} (h : Shp S k d p) (h' : Shp S k e q) (hk : k ≤ 64) : eqD S d e = some (.bl (PyData.eqv p q)) := by
  have a : SeqAt.shaped p = true := by unfold SeqAt.shaped; simp [h.lay]; exact Nat.le_trans h.dep hk
  have b : SeqAt.shaped q = true := by unfold SeqAt.shaped; simp [h'.lay]; exact Nat.le_trans h'.dep hk
  simp [eqD, h.to, h'.to, a, b]
theorem neD_shp {S : MS} {k : Nat} {d e : D} {p q : PyData} (h : Shp S k d p) (h' : Shp S k e q) (hk : k ≤ 64) : neD S d e = some (.bl (!PyData.eqv p q)) := by
  have a : SeqAt.shaped p = true := by unfold SeqAt.shaped; simp [h.lay]; exact Nat.le_trans h.dep hk
  have b : SeqAt.shaped q = true := by unfold SeqAt.shaped; simp [h'.lay]; exact Nat.le_trans h'.dep hk
  simp [neD, h.to, h'.to, a, b]
theorem eqv_map {α : Type} [DecidableEq α] {f : α → PyData} (h : ∀ a b, PyData.eqv (f a) (f b) = decide (a = b)) : ∀ xs ys : List α, PyData.eqvAll (xs.map f) (ys.map f) = decide (xs = ys)
  | [], [] => by simp [PyData.eqvAll]
  | [], _ :: _ => by simp [PyData.eqvAll]
  | _ :: _, [] => by simp [PyData.eqvAll]
  | x :: xs, y :: ys => by
    simp only [List.map_cons, PyData.eqvAll, h, eqv_map h xs ys]
    by_cases a : x = y <;> by_cases b : xs = ys <;> simp [a, b]
theorem eqv_int {i j : Int} : PyData.eqv (.int i) (.int j) = decide (i = j) := by simp [PyData.eqv]; rfl
theorem eqD_script {S : MS} {ns : List Int} : eqD S (.frz (ns.map .int)) (.lst []) = some (.bl (decide (ns = []))) := by
  rw [eqD_shp (.frz (Shps.map D.int PyData.int (fun _ => .int) ns)) (.lst (k := 0) .nil) (by omega)]
  have := eqv_map (fun a b => eqv_int (i := a) (j := b)) ns []
  rw [List.map_nil] at this
  simp [PyData.eqv, this]
theorem eqD_ti {S : MS} {xs ys : List Int} : eqD S (.tup (xs.map .int)) (.tup (ys.map .int)) = some (.bl (decide (xs = ys))) := by
  rw [eqD_shp (.tup (Shps.map D.int PyData.int (fun _ => .int) xs)) (.tup (k := 0) (Shps.map D.int PyData.int (fun _ => .int) ys)) (by omega)]
  have := eqv_map (fun a b => eqv_int (i := a) (j := b)) xs ys
  simp [PyData.eqv, this]
section
variable {Φ : RS → Prop} {ρ : En} {S S1 S2 S3 S4 : MS} {g2 : En → MS → RS} {g : MS → D → D → D → Option MS} {fv fo fi : En → MS → R D} {v o i : D}
theorem st_put (h : fv ρ S = .ok v S1) (h1 : fo ρ S1 = .ok o S2) (h2 : fi ρ S2 = .ok i S3) (h3 : g S3 o i v = some S4) (k : Φ (g2 ρ S4)) : Φ (sSq (sPut g fv fo fi) g2 ρ S) := by
  have : sSq (sPut g fv fo fi) g2 ρ S = g2 ρ S4 := by simp [sSq, sPut, h, h1, h2, h3]
  rw [this]; exact k
end
theorem putL_0 {xs : List D} {j v : D} {r : MS} : putL (.lst (j :: xs) :: r) (.obj 0) (.int 0) v = some (.lst (v :: xs) :: r) := by
  simp [putL, L2.ixN]
theorem putL_s {xs : List D} {y v : D} {j : Int} {r : MS} (h0 : 0 ≤ j) (h1 : j < xs.length) : putL (.lst (y :: xs) :: r) (.obj 0) (.int (1 + j)) v = some (.lst (y :: xs.set j.toNat v) :: r) := by
  have e : L2.ixN (y :: xs).length (1 + j) = some (1 + j).toNat := by
    unfold L2.ixN
    rw [if_pos (by omega), if_pos (by simp; omega)]
  have e2 : (1 + j).toNat = j.toNat + 1 := by omega
  rw [e2] at e
  show (match L2.ixN (y :: xs).length (1 + j) with | some j => some (MO.lst ((y :: xs).set j v) :: r) | none => none) = _
  rw [e]
  rfl
theorem ixD_o {xs : List D} {j : Int} {r : MS} : ixD (.lst xs :: r) (.obj 0) (.int j) = L2.atI xs j := rfl
theorem atI_s1 {xs : List Int} {y : D} {j : Int} (h0 : 0 ≤ j) (h1 : j < xs.length) : L2.atI (y :: xs.map .int) (1 + j) = some (.int (nth xs j)) := by
  obtain ⟨n, rfl⟩ := Int.eq_ofNat_of_zero_le h0
  rw [show (1 + (n : Int)) = ((n + 1 : Nat) : Int) by omega, atI_s, atI_int (by omega) h1]
/-- a part of a body that goes on -/
def NxS (Q : En → MS → Prop) (x : RS) : Prop := ∃ ρ S, x = .nx ρ S ∧ Q ρ S
theorem NxS.nx {Q : En → MS → Prop} {ρ : En} {S : MS} (h : Q ρ S) : NxS Q (.nx ρ S) := ⟨ρ, S, rfl, h⟩
theorem st_any {Φ : RS → Prop} {ρ : En} {S : MS} {g g1 : En → MS → RS} (Q : En → MS → Prop) (h : NxS Q (g1 ρ S)) (k : ∀ ρ' S', Q ρ' S' → Φ (g ρ' S')) : Φ (sSq g1 g ρ S) := by
  obtain ⟨ρ', S', e, q⟩ := h
  have : sSq g1 g ρ S = g ρ' S' := by simp [sSq, e]
  rw [this]; exact k ρ' S' q
theorem cut_take (xs : List D) {k : Int} (h : 0 ≤ k) : cutD xs none (some k) = xs.take k.toNat := by
  obtain ⟨n, rfl⟩ := Int.eq_ofNat_of_zero_le h
  unfold cutD
  rw [HT.sIx_none, HT.sIx_nat]
  simp
theorem cut_drop (xs : List D) {k : Int} (h : 0 ≤ k) : cutD xs (some k) none = xs.drop k.toNat := by
  obtain ⟨n, rfl⟩ := Int.eq_ofNat_of_zero_le h
  unfold cutD
  rw [HT.sIx_none, HT.sIx_nat]
  simp
  rcases Nat.le_total n xs.length with q | q
  · rw [Nat.min_eq_left q, List.take_of_length_le (by simp)]
  · rw [Nat.min_eq_right q, List.drop_eq_nil_iff.mpr (Nat.le_refl _), List.drop_eq_nil_iff.mpr q]; simp
/-- loops -/
theorem forL_first {α : Type} {b : D → En → MS → RS} {S : MS} (inj : α → D) (c : α → Bool) (r : α → D) (Inv : En → Prop) : ∀ (xs : List α), (∀ a ∈ xs, ∀ ρ, Inv ρ → (c a = true → b (inj a) ρ S = .ret (r a) S) ∧ (c a = false → ∃ ρ', b (inj a) ρ S = .nx ρ' S ∧ Inv ρ')) → ∀ ρ, Inv ρ →
    match xs.find? c with
    | some a => forL b (xs.map inj) ρ S = .ret (r a) S
    | none => ∃ ρ', forL b (xs.map inj) ρ S = .nx ρ' S ∧ Inv ρ'
  | [], _, ρ, i => ⟨ρ, rfl, i⟩
  | a :: xs, h, ρ, i => by
    obtain ⟨h1, h2⟩ := h a List.mem_cons_self ρ i
    cases z : c a with
    | true => rw [List.find?_cons_of_pos z]; simp [forL, h1 z, RS.loop]
    | false =>
      obtain ⟨ρ', e, i'⟩ := h2 z
      have ih := forL_first inj c r Inv xs (fun b hb => h b (List.mem_cons_of_mem _ hb)) ρ' i'
      rw [List.find?_cons_of_neg (by simp [z])]
      cases q : xs.find? c with
      | some y => rw [q] at ih; simp only at ih ⊢; simp [forL, e, RS.loop, ih]
      | none =>
        rw [q] at ih
        obtain ⟨ρ2, e2, i2⟩ := ih
        exact ⟨ρ2, by simp [forL, e, RS.loop, e2], i2⟩
theorem forL_acc {α β : Type} {b : D → En → MS → RS} (inj : α → D) (enc : β → En) (es : β → MS) (step : β → α → β) : ∀ (xs : List α), (∀ a ∈ xs, ∀ s, b (inj a) (enc s) (es s) = .nx (enc (step s a)) (es (step s a))) → ∀ s,
    forL b (xs.map inj) (enc s) (es s) = .nx (enc (xs.foldl step s)) (es (xs.foldl step s))
  | [], _, s => rfl
  | a :: xs, h, s => by
    have ih := forL_acc inj enc es step xs (fun b hb => h b (List.mem_cons_of_mem _ hb)) (step s a)
    simp [forL, h a List.mem_cons_self s, RS.loop, ih]
theorem zipIdx_range (cs : List Int) : cs.zipIdx = (List.range cs.length).map fun (i : Nat) => (nth cs (i : Int), i) := by
  apply List.ext_getElem
  · simp
  · intro i h1 h2
    simp [nth]
    simp at h1
    rw [List.getElem?_eq_getElem h1]; rfl
theorem foldl_app {α : Type} (f : α → Int) : ∀ (xs : List α) (ys : List Int), xs.foldl (fun s a => s ++ [f a]) ys = ys ++ xs.map f
  | [], ys => by simp
  | a :: xs, ys => by rw [List.foldl_cons, foldl_app f xs]; simp
theorem foldl_max_map {α : Type} (f : α → Int) : ∀ (xs : List α) (m : Int), xs.foldl (fun s a => if s < f a then f a else s) m = (xs.map f).foldl max m
  | [], m => rfl
  | a :: xs, m => by
    rw [List.foldl_cons, foldl_max_map f xs, List.map_cons, List.foldl_cons]
    congr 1
    split <;> omega
theorem foldl_max_maxs {xs : List Int} (h : xs ≠ []) (h0 : ∀ x ∈ xs, 0 ≤ x) : xs.foldl max 0 = maxs xs := by
  have a := (foldl_max_le (k := maxs xs) xs 0).mpr ⟨by
    cases xs with
    | nil => exact absurd rfl h
    | cons x xs => exact Int.le_trans (h0 x List.mem_cons_self) (le_maxs List.mem_cons_self), fun y hy => le_maxs hy⟩
  have b := (maxs_le (k := xs.foldl max 0) h).mpr ((foldl_max_le (k := xs.foldl max 0) xs 0).mp (by omega)).2
  omega
theorem maxA_obj {S : MS} {i : Nat} {xs : List Int} (h : S[i]? = some (.lst (xs.map .int))) (hx : xs ≠ []) : maxA S [.obj i] = some (.int (maxs xs)) := by
  cases xs with
  | nil => exact absurd rfl hx
  | cons x xs => simp [maxA, orC, max2D, maxD, rdL, h, intsOf, ints_id, maxOf, maxs]
theorem minOf_eq {xs : List Int} {k : Int} (h : k ∈ xs) (hl : ∀ x ∈ xs, k ≤ x) : minOf xs = some k := by
  cases xs with
  | nil => simp at h
  | cons x xs =>
    have : ∀ (xs : List Int) (x : Int), (∀ y ∈ xs, k ≤ y) → k ≤ x → (k = x ∨ k ∈ xs) → xs.foldl min x = k := by
      intro xs
      induction xs with
      | nil => intro x _ _ h; rcases h with h | h; exact h.symm; simp at h
      | cons y ys ih =>
        intro x a b c
        rw [List.foldl_cons]
        have a1 := a y List.mem_cons_self
        refine ih _ (fun z hz => a z (List.mem_cons_of_mem _ hz)) (by omega) ?_
        rcases c with c | c
        · left; omega
        · rcases List.mem_cons.mp c with c | c
          · left; omega
          · right; exact c
    simp only [minOf, Option.some.injEq]
    exact this xs x (fun y hy => hl y (List.mem_cons_of_mem _ hy)) (hl x List.mem_cons_self) (List.mem_cons.mp h)
/-- the newest object -/
theorem get_last {S : MS} {o : MO} : (S ++ [o])[S.length]? = some o := by simp
theorem set_last {S : MS} {o o' : MO} : (S ++ [o]).set S.length o' = S ++ [o'] := by simp
theorem tyM_last {S : MS} {xs : List D} : tyM (S ++ [.lst xs]) (.obj S.length) "list" = true := by
  simp [tyM]
theorem appD_last {S : MS} {xs : List D} {d : D} (h : xs.length < lim) : appD (S ++ [.lst xs]) (.obj S.length) [d] = some (.non, S ++ [.lst (xs ++ [d])]) := by
  simp [appD, h]
theorem ixD_last {S : MS} {xs : List D} {j : Int} : ixD (S ++ [.lst xs]) (.obj S.length) (.int j) = L2.atI xs j := by
  simp [ixD, rdQ, rdL]
theorem lenD_last {S : MS} {xs : List D} : lenD (S ++ [.lst xs]) [.obj S.length] = some (.int xs.length) := by
  simp [lenD, rdQ, rdL]
theorem tupD_last {S : MS} {xs : List D} : tupD (S ++ [.lst xs]) [.obj S.length] = some (.tup xs) := by
  simp [tupD, rdL]
@[simp] theorem eBM_a (T : String) (g : MS → D → List D → Option (D × MS)) (fo : En → MS → R D) (fs : En → MS → R (List D)) (ρ : En) (S : MS) : eBM T g fo fs ρ S = (fo ρ S).bind fun o S1 => if tyM S1 o T = true then (fs ρ S1).bind fun xs S2 => ofOS (g S2 o xs) else .bad := rfl
theorem compO_ok {α : Type} {p : Pat} {ft : En → MS → R Bool} {fe : En → MS → R D} {ρ : En} {S : MS} {src : Src} {ys : List D} (hsrc : ∀ k, src S k = some ys[k]?) (inj : α → D) (c : α → Bool) (g : α → D) : ∀ (xs : List α) (i n : Nat), ys.drop i = xs.map inj → xs.length ≤ n → (∀ a ∈ xs, ∃ ρ', bindP p (inj a) ρ = some ρ' ∧ ft ρ' S = .ok (c a) S ∧ (c a = true → fe ρ' S = .ok (g a) S)) →
    compO src p ft fe ρ n i S = .ok ((xs.filter c).map g) S
  | [], i, n, e, _, _ => by
    have : ys[i]? = none := List.getElem?_eq_none (List.drop_eq_nil_iff.mp e)
    cases n with
    | zero => simp [compO, hsrc, this]
    | succ n => simp [compO, hsrc, this]
  | a :: xs, i, 0, e, hn, h => by simp at hn
  | a :: xs, i, n + 1, e, hn, h => by
    have hi : ys[i]? = some (inj a) := by
      have : (ys.drop i)[0]? = some (inj a) := by rw [e]; rfl
      simpa using this
    have e2 : ys.drop (i + 1) = xs.map inj := by
      have : (ys.drop i).drop 1 = xs.map inj := by rw [e]; rfl
      rw [List.drop_drop] at this
      exact this
    obtain ⟨ρ', b1, b2, b3⟩ := h a List.mem_cons_self
    have ih := compO_ok hsrc inj c g xs (i + 1) n e2 (by simpa using hn) fun b hb => h b (List.mem_cons_of_mem _ hb)
    simp only [compO, hsrc, hi, compB, b1, b2, noX_ok, bind_ok]
    by_cases z : c a = true
    · simp [z, b3 z, ih]
    · simp [z, ih]
@[simp] theorem eLcO_a (it : En → MS → R (Src × Nat)) (p : Pat) (ft : En → MS → R Bool) (fe : En → MS → R D) (vs : List Nat) (ρ : En) (S : MS) : eLcO it p ft fe vs ρ S = (it ρ S).bind fun ds S1 => if ds.2 ≤ lim then compO ds.1 p ft fe (wipeD ρ vs) ds.2 0 S1 else .bad := rfl
@[simp] theorem iObj_a (f : En → MS → R D) (ρ : En) (S : MS) : iObj f ρ S = (f ρ S).bind fun d S1 => ofO (objSrc S1 d) S1 := rfl
theorem objSrc_last {S : MS} {xs : List D} : objSrc (S ++ [.lst xs]) (.obj S.length) = some (srcO S.length, xs.length) := by
  simp [objSrc]
theorem srcO_last {S : MS} {xs : List D} {k : Nat} : srcO S.length (S ++ [.lst xs]) k = some xs[k]? := by
  simp [srcO]
theorem forL_accI {α β : Type} {b : D → En → MS → RS} (inj : α → D) (enc : β → En) (es : β → MS) (step : β → α → β) (I : Nat → β → Prop) (N : Nat) : ∀ (xs : List α), (∀ a ∈ xs, ∀ i s, I i s → i < N → b (inj a) (enc s) (es s) = .nx (enc (step s a)) (es (step s a)) ∧ I (i + 1) (step s a)) → ∀ i s, I i s → i + xs.length ≤ N →
    forL b (xs.map inj) (enc s) (es s) = .nx (enc (xs.foldl step s)) (es (xs.foldl step s)) ∧ I (i + xs.length) (xs.foldl step s)
  | [], _, i, s, h, _ => ⟨rfl, h⟩
  | a :: xs, h, i, s, hi, hn => by
    rw [List.length_cons] at hn
    obtain ⟨e, i'⟩ := h a List.mem_cons_self i s hi (by omega)
    obtain ⟨e2, i2⟩ := forL_accI inj enc es step I N xs (fun b hb => h b (List.mem_cons_of_mem _ hb)) (i + 1) (step s a) i' (by omega)
    refine ⟨by simp [forL, e, RS.loop, e2], ?_⟩
    rw [List.length_cons, show i + (xs.length + 1) = i + 1 + xs.length by omega]
    exact i2
@[simp] theorem eqD_bl {S : MS} {a b : Bool} : eqD S (.bl a) (.bl b) = some (.bl (decide (a = b))) := by
  rw [eqD_shp (k := 0) .bl .bl (by omega)]
  cases a <;> cases b <;> rfl
@[simp] theorem neD_bl {S : MS} {a b : Bool} : neD S (.bl a) (.bl b) = some (.bl (!decide (a = b))) := by
  rw [neD_shp (k := 0) .bl .bl (by omega)]
  cases a <;> cases b <;> rfl
/-- the least whole number not below a part -/
theorem ceil_ge {a k : Int} (hk : 0 < k) : a ≤ (a + k - 1) / k * k := by
  have h1 := Int.emod_lt_of_pos (a + k - 1) hk
  have h2 := Int.mul_ediv_add_emod (a + k - 1) k
  have h3 : (a + k - 1) / k * k = k * ((a + k - 1) / k) := Int.mul_comm _ _
  omega
theorem ceil_le {a k x : Int} (hk : 0 < k) (h : a ≤ x * k) : (a + k - 1) / k ≤ x := by
  have : (a + k - 1) / k < x + 1 := by
    rw [Int.ediv_lt_iff_lt_mul hk, Int.add_mul, Int.one_mul]
    omega
  omega
theorem ceil_lt {a k : Int} (hk : 0 < k) : ((a + k - 1) / k - 1) * k < a := by
  have h2 := Int.mul_ediv_add_emod (a + k - 1) k
  have h1 := Int.emod_nonneg (a + k - 1) (show k ≠ 0 by omega)
  have h3 : (a + k - 1) / k * k = k * ((a + k - 1) / k) := Int.mul_comm _ _
  rw [Int.sub_mul, Int.one_mul]
  omega
theorem minA_ints {S : MS} {xs : List Int} {k : Int} (h : k ∈ xs) (hl : ∀ x ∈ xs, k ≤ x) : minA S [.lst (xs.map .int)] = some (.int k) := by
  simp [minA, orC, min2D, minD, ints_id, minOf_eq h hl]
theorem forL_ex {b : D → En → MS → RS} (I : Nat → En → MS → Prop) (N : Nat) : ∀ (xs : List D), (∀ a ∈ xs, ∀ i ρ S, I i ρ S → i < N → ∃ ρ' S', b a ρ S = .nx ρ' S' ∧ I (i + 1) ρ' S') → ∀ i ρ S, I i ρ S → i + xs.length ≤ N →
    ∃ ρ' S', forL b xs ρ S = .nx ρ' S' ∧ I (i + xs.length) ρ' S'
  | [], _, i, ρ, S, h, _ => ⟨ρ, S, rfl, h⟩
  | a :: xs, h, i, ρ, S, hi, hn => by
    rw [List.length_cons] at hn
    obtain ⟨ρ1, S1, e, i'⟩ := h a List.mem_cons_self i ρ S hi (by omega)
    obtain ⟨ρ2, S2, e2, i2⟩ := forL_ex I N xs (fun b hb => h b (List.mem_cons_of_mem _ hb)) (i + 1) ρ1 S1 i' (by omega)
    refine ⟨ρ2, S2, by simp [forL, e, RS.loop, e2], ?_⟩
    rw [List.length_cons, show i + (xs.length + 1) = i + 1 + xs.length by omega]
    exact i2
section
variable {it : En → MS → R (List D)} {p : Pat} {ft : En → MS → R Bool} {fe : En → MS → R D} {vs : List Nat} {ρ ρ' : En} {S S1 S2 : MS} {ds ys : List D}
theorem eLc_go (hit : it ρ S = .ok ds S1) (hl : ds.length ≤ lim) (hw : wipeD ρ vs = ρ') (hc : compL p ft fe ρ' ds S1 = .ok ys S2) : eLc it p ft fe vs ρ S = .ok ys S2 := by
  rw [eLc_a, hit, bind_ok, if_pos hl, hw, hc]
theorem tup_go {f : En → MS → R (List D)} (h : f ρ S = .ok ys S2) : eB tupD (aC (eVal f) aN) ρ S = .ok (.tup ys) S2 := by
  rw [eB_a, aC_a, eVal_a, h]; rfl
theorem len_go {f : En → MS → R (List D)} (h : f ρ S = .ok ys S2) : eB lenD (aC (eVal f) aN) ρ S = .ok (.int ys.length) S2 := by
  rw [eB_a, aC_a, eVal_a, h]; rfl
end
theorem iB_go {g : List D → Option (List D)} {fs : En → MS → R (List D)} {ρ : En} {S S1 : MS} {ds ys : List D} (h : fs ρ S = .ok ds S1) (hg : g ds = some ys) : iB g fs ρ S = .ok ys S1 := by
  rw [iB_a, h, bind_ok, hg]; rfl
section
variable {ρ : En} {S S1 S2 : MS} {x y d : D} {xs : List D} {f f1 f2 : En → MS → R D} {fs : En → MS → R (List D)} {r : R D} {b : Bool}
theorem eF_go {F : List D → MS → R D} (h : fs ρ S = .ok xs S1) (hF : F xs S1 = r) : eF F fs ρ S = r := by rw [eF_a, h, bind_ok, hF]
theorem aC_go (h : f ρ S = .ok x S1) (hs : fs ρ S1 = .ok xs S2) : aC f fs ρ S = .ok (x :: xs) S2 := by rw [aC_a, h, bind_ok, hs, bind_ok]
theorem eVal_go (h : fs ρ S = .ok xs S1) : eVal fs ρ S = .ok (.lst xs) S1 := by rw [eVal_a, h, bind_ok]
theorem eOp_go {g : MS → D → D → Option D} (h1 : f1 ρ S = .ok x S1) (h2 : f2 ρ S1 = .ok y S2) (hg : g S2 x y = some d) : eOp g f1 f2 ρ S = .ok d S2 := by rw [eOp_a, h1, bind_ok, h2, bind_ok, hg]; rfl
theorem eUn_go {g : MS → D → Option D} (h1 : f1 ρ S = .ok x S1) (hg : g S1 x = some d) : eUn g f1 ρ S = .ok d S1 := by rw [eUn_a, h1, bind_ok, hg]; rfl
theorem eB_go {g : MS → List D → Option D} (h : fs ρ S = .ok xs S1) (hg : g S1 xs = some d) : eB g fs ρ S = .ok d S1 := by rw [eB_a, h, bind_ok, hg]; rfl
theorem bT_go (h : f ρ S = .ok (.bl b) S1) : bT f ρ S = .ok b S1 := by rw [bT_a, h, bind_ok]; rfl
theorem trT_go (h : f ρ S = .ok d S1) (hd : truD S1 d = some b) : trT f ρ S = .ok b S1 := by rw [trT_a, h, bind_ok, hd]; rfl
theorem tNot_go {c : En → MS → R Bool} (h : c ρ S = .ok b S1) : tNotD c ρ S = .ok (!b) S1 := by rw [tNot_a, h, bind_ok]
theorem tAnd_go {c c' : En → MS → R Bool} (h : c ρ S = .ok true S1) {b : Bool} (h' : c' ρ S1 = .ok b S2) : tAndD c c' ρ S = .ok b S2 := by rw [tAnd_a, h, bind_ok, if_pos rfl, h']
theorem tAnd_no {c c' : En → MS → R Bool} (h : c ρ S = .ok false S1) : tAndD c c' ρ S = .ok false S1 := by rw [tAnd_a, h, bind_ok, if_neg (by simp)]
theorem eTup_go (h : fs ρ S = .ok xs S1) (hl : xs.length ≤ 1000) : eTup fs ρ S = .ok (.tup xs) S1 := by rw [eTup_a, h, bind_ok, if_pos hl]
theorem eLst_go (h : fs ρ S = .ok xs S1) (hl : xs.length ≤ 1000) : eLst fs ρ S = .ok xs S1 := by rw [eLst_a, h, bind_ok, if_pos hl]
theorem iSeq_go {ys : List D} (h : f ρ S = .ok d S1) (hd : itemsD d = some ys) : iSeq f ρ S = .ok ys S1 := by rw [iSeq_a, h, bind_ok, hd]; rfl
end
theorem neD_ti {S : MS} {xs ys : List Int} : neD S (.tup (xs.map .int)) (.tup (ys.map .int)) = some (.bl (!decide (xs = ys))) := by
  rw [neD_shp (.tup (Shps.map D.int PyData.int (fun _ => .int) xs)) (.tup (k := 0) (Shps.map D.int PyData.int (fun _ => .int) ys)) (by omega)]
  have := eqv_map (fun a b => eqv_int (i := a) (j := b)) xs ys
  simp [PyData.eqv, this]
theorem eqD_nil {S : MS} : eqD S (.lst []) (.lst []) = some (.bl true) := by
  rw [eqD_shp (.lst (k := 0) .nil) (.lst .nil) (by omega)]; rfl
theorem compL_none {p : Pat} {ft : En → MS → R Bool} {fe : En → MS → R D} {ρ : En} {S : MS} {ds : List D} (h : ∀ d ∈ ds, ∃ ρ', bindP p d ρ = some ρ' ∧ ft ρ' S = .ok false S) : compL p ft fe ρ ds S = .ok [] S := by
  have := compL_ok (p := p) (ft := ft) (fe := fe) (ρ := ρ) (S := S) (fun d : D => d) (fun _ => false) (fun d => d) ds fun d hd => by
    obtain ⟨ρ', a, b⟩ := h d hd
    exact ⟨ρ', a, b, fun q => by simp at q⟩
  have e : ds.filter (fun _ => false) = [] := by rw [List.filter_eq_nil_iff]; simp
  rw [e] at this
  simpa using this
end Dn

namespace Dn
open PySem
theorem forL_ix {b : D → En → MS → RS} (I : Nat → En → MS → Prop) : ∀ (xs : List D) (k : Nat), (∀ i a ρ S, xs[i]? = some a → I (k + i) ρ S → ∃ ρ' S', b a ρ S = .nx ρ' S' ∧ I (k + i + 1) ρ' S') → ∀ ρ S, I k ρ S → ∃ ρ' S', forL b xs ρ S = .nx ρ' S' ∧ I (k + xs.length) ρ' S'
  | [], k, _, ρ, S, h => ⟨ρ, S, rfl, h⟩
  | a :: xs, k, h, ρ, S, hi => by
    obtain ⟨ρ1, S1, e, i1⟩ := h 0 a ρ S rfl hi
    obtain ⟨ρ2, S2, e2, i2⟩ := forL_ix I xs (k + 1) (fun i a' ρ' S' ha hI => by
      have := h (i + 1) a' ρ' S' (by simpa using ha) (by rw [show k + (i + 1) = k + 1 + i by omega]; exact hI)
      rw [show k + (i + 1) + 1 = k + 1 + i + 1 by omega] at this
      exact this) ρ1 S1 i1
    refine ⟨ρ2, S2, by simp [forL, e, RS.loop, e2], ?_⟩
    rw [List.length_cons, show k + (xs.length + 1) = k + 1 + xs.length by omega]
    exact i2
section
variable {Φ : RS → Prop} {ρ ρ' : En} {S S1 : MS} {g g1 g2 : En → MS → RS} {f : En → MS → R D} {cnd : En → MS → R Bool} {c i j n : Nat} {r : R D}
theorem is_ret (h : f ρ S = r) : Is r (sRet f ρ S) := by subst h; unfold Is sRet; cases f ρ S <;> rfl
theorem is_retq (h : f ρ S = r) : Is r (sSq (sRet f) g ρ S) := by subst h; unfold Is sSq sRet; cases f ρ S <;> rfl
theorem Is.exc : Is (.exc c S) (.exc c ρ S) := rfl
theorem st_exc (h : f ρ S = .exc c S1) (k : Φ (.exc c ρ S1)) : Φ (sSq (sEx f) g ρ S) := by
  have : sSq (sEx f) g ρ S = .exc c ρ S1 := by unfold sSq sEx; rw [h]; rfl
  rw [this]; exact k
theorem st_exc1 (h : f ρ S = .exc c S1) (k : Φ (.exc c ρ S1)) : Φ (sEx f ρ S) := by
  have : sEx f ρ S = .exc c ρ S1 := by unfold sEx; rw [h]; rfl
  rw [this]; exact k
theorem st_ex1 {d : D} (h : f ρ S = .ok d S1) (k : Φ (.nx ρ S1)) : Φ (sEx f ρ S) := by
  have : sEx f ρ S = .nx ρ S1 := by unfold sEx; rw [h]; rfl
  rw [this]; exact k
theorem st_raise (h : cnd ρ S = .ok true S1) (k : Φ (.exc c ρ S1)) : Φ (sSq (sIf cnd (sRaise c) g2) g ρ S) := by
  have : sSq (sIf cnd (sRaise c) g2) g ρ S = .exc c ρ S1 := by unfold sSq sIf; rw [h]; rfl
  rw [this]; exact k
theorem st_raise1 (h : cnd ρ S = .ok true S1) (k : Φ (.exc c ρ S1)) : Φ (sIf cnd (sRaise c) g2 ρ S) := by
  have : sIf cnd (sRaise c) g2 ρ S = .exc c ρ S1 := by unfold sIf; rw [h]; rfl
  rw [this]; exact k
theorem st_try (h : g1 ρ S = .exc c ρ' S1) (hc : c < n) (hi : i < ρ'.length) (k : Φ (g (((ρ'.set i none).set j (some (.exn c))).set i none) S1)) : Φ (sSq (sTryG (okF n) i j g1) g ρ S) := by
  have : sSq (sTryG (okF n) i j g1) g ρ S = g (((ρ'.set i none).set j (some (.exn c))).set i none) S1 := by
    unfold sSq sTryG
    rw [h]
    simp only [okF, if_pos hc, if_pos hi]
  rw [this]; exact k
theorem eIf_t (h : cnd ρ S = .ok true S1) {f1 f2 : En → MS → R D} : eIf cnd f1 f2 ρ S = f1 ρ S1 := by rw [eIf_a, h, bind_ok, if_pos rfl]
theorem eIf_f (h : cnd ρ S = .ok false S1) {f1 f2 : En → MS → R D} : eIf cnd f1 f2 ρ S = f2 ρ S1 := by rw [eIf_a, h, bind_ok, if_neg (by simp)]
end
section
variable {Φ : RS → Prop} {ρ ρ' : En} {S S1 : MS} {g g1 g2 : En → MS → RS}
theorem st_for {it : En → MS → R (List D)} {p : Pat} {ds : List D} (I : Nat → En → MS → Prop) (h : it ρ S = .ok ds S1) (h0 : I 0 ρ S1) (step : ∀ i a ρ S, ds[i]? = some a → I i ρ S → NxS (I (i + 1)) (forB p g a ρ S)) (k : ∀ ρ' S', I ds.length ρ' S' → Φ (g2 ρ' S')) : Φ (sSq (sForV it p g) g2 ρ S) := by
  obtain ⟨ρ', S', e, q⟩ := forL_ix (b := forB p g) I ds 0 (fun i a ρ S ha hI => by
    rw [Nat.zero_add] at hI ⊢
    exact step i a ρ S ha hI) ρ S1 h0
  rw [Nat.zero_add] at q
  exact st_forn h e (k ρ' S' q)
theorem st_forl {it : En → MS → R (List D)} {p : Pat} {ds : List D} (I : Nat → En → MS → Prop) (h : it ρ S = .ok ds S1) (h0 : I 0 ρ S1) (step : ∀ i a ρ S, ds[i]? = some a → I i ρ S → NxS (I (i + 1)) (forB p g a ρ S)) : NxS (I ds.length) (sForV it p g ρ S) := by
  obtain ⟨ρ', S', e, q⟩ := forL_ix (b := forB p g) I ds 0 (fun i a ρ S ha hI => by
    rw [Nat.zero_add] at hI ⊢
    exact step i a ρ S ha hI) ρ S1 h0
  rw [Nat.zero_add] at q
  refine ⟨ρ', S', ?_, q⟩
  simp [sForV, h, e]
theorem st_bind {p : Pat} {d : D} (h : bindP p d ρ = some ρ') (k : Φ (g ρ' S)) : Φ (forB p g d ρ S) := by
  unfold forB; rw [h]; exact k
theorem st_par2 {fs : En → MS → R (List D)} {i j : Nat} {x y : D} (h : fs ρ S = .ok [x, y] S1) (k : Φ (g ((ρ.set i (some x)).set j (some y)) S1)) : Φ (sSq (sPar2 i j fs) g ρ S) := by
  have : sSq (sPar2 i j fs) g ρ S = g ((ρ.set i (some x)).set j (some y)) S1 := by unfold sSq sPar2; rw [h]; rfl
  rw [this]; exact k
theorem st_par2l {fs : En → MS → R (List D)} {i j : Nat} {x y : D} (h : fs ρ S = .ok [x, y] S1) (k : Φ (.nx ((ρ.set i (some x)).set j (some y)) S1)) : Φ (sPar2 i j fs ρ S) := by
  have : sPar2 i j fs ρ S = .nx ((ρ.set i (some x)).set j (some y)) S1 := by unfold sPar2; rw [h]; rfl
  rw [this]; exact k
theorem tOr_go {c c' : En → MS → R Bool} {b : Bool} {S2 : MS} (h : c ρ S = .ok false S1) (h' : c' ρ S1 = .ok b S2) : tOrD c c' ρ S = .ok b S2 := by rw [tOr_a, h, bind_ok, if_neg (by simp), h']
end
variable {S : MS}
theorem flat_rep (d : D) : ∀ n : Nat, (List.replicate n [d]).flatten = List.replicate n d
  | 0 => rfl
  | n + 1 => by rw [List.replicate_succ, List.flatten_cons, flat_rep d n, List.replicate_succ]; rfl
theorem mulD_ld {d : D} {k : Int} (h0 : 0 ≤ k) (h1 : k ≤ 1000) : mulD S (.lst [d]) (.int k) = some (.lst (List.replicate k.toNat d)) := by
  have : k < 100000 ∧ -100000 < k ∧ k.toNat ≤ lim := by unfold lim; omega
  simp [mulD, orG, mulI, iic, repT, repL, rdM, this, flat_rep]
theorem mulD_td {d : D} {k : Int} (h0 : 0 ≤ k) (h1 : k ≤ 1000) : mulD S (.tup [d]) (.int k) = some (.tup (List.replicate k.toNat d)) := by
  rw [mulD_tup (by omega) h1 (by simp), flat_rep]
theorem srt_pw (ks : List Int) : List.Pairwise (fun a b => a ≤ b) (ks.mergeSort (fun a b => decide (a ≤ b))) := by
  have := List.pairwise_mergeSort (le := fun a b : Int => decide (a ≤ b)) (by intro a b c; simp; omega) (by intro a b; simp; omega) ks
  simpa using this
theorem srtI_a {ks : List Int} (sl : ks.length < 64) : srtI S [.lst (ks.map .int)] = some (.lst ((ks.mergeSort (fun a b => decide (a ≤ b))).map .int)) := by simp [srtI, ints_id, sl]
theorem mem_of_get {xs : List D} {i : Nat} {d : D} (h : xs[i]? = some d) : d ∈ xs := List.mem_of_getElem? h
theorem eAnd_go {f g : En → MS → R D} {ρ : En} {S1 : MS} {r : R D} (h : f ρ S = .ok (.bl true) S1) (h' : g ρ S1 = r) : eAnd f g ρ S = r := by rw [eAnd_a, h]; simp [h']
end Dn

namespace Dn
open PySem L2
section
variable {S : MS} {sb : Bool} {ns : List Int} {k : Int}
@[simp] theorem listD_scr : listD S [scr sb ns] = some (.lst (ns.map .int)) := by cases sb <;> rfl
@[simp] theorem lenD_scr : lenD S [scr sb ns] = some (.int (ns.map D.int).length) := by cases sb <;> rfl
@[simp] theorem ixD_scr : ixD S (scr sb ns) (.int k) = atI (ns.map D.int) k := by cases sb <;> rfl
theorem eqD_scr : eqD S (scr sb ns) (.lst []) = some (.bl (decide (ns = []))) := by
  cases sb with
  | true => exact eqD_script
  | false =>
    show eqD S (.lst (ns.map .int)) (.lst []) = _
    rw [eqD_shp (k := 1) (.lst (Shps.map D.int PyData.int (fun _ => .int) ns)) (.lst .nil) (by omega)]
    cases ns <;> simp [PyData.eqv, PyData.eqvAll]
end
end Dn
namespace Dn
open PySem L2
/-! ### sorting by insertion: what the kernel computes -/
def insL {α : Type} (le : α → α → Bool) (a : α) : List α → List α
  | [] => [a]
  | b :: l => if le a b then a :: b :: l else b :: insL le a l
def isortL {α : Type} (le : α → α → Bool) : List α → List α
  | [] => []
  | a :: l => insL le a (isortL le l)
theorem insL_at {α : Type} {le : α → α → Bool} {a : α} : ∀ (l1 l2 : List α), (∀ b ∈ l1, le a b = false) → (∀ b ∈ l2, le a b = true) → insL le a (l1 ++ l2) = l1 ++ a :: l2
  | [], [], _, _ => rfl
  | [], b :: l2, _, h => by simp [insL, h b List.mem_cons_self]
  | b :: l1, l2, h1, h2 => by
    simp only [List.cons_append, insL, h1 b List.mem_cons_self, Bool.false_eq_true, if_false]
    rw [insL_at l1 l2 (fun c hc => h1 c (List.mem_cons_of_mem _ hc)) h2]
theorem isort_eq {α : Type} {le : α → α → Bool} (trans : ∀ a b c, le a b = true → le b c = true → le a c = true) (total : ∀ a b, (le a b || le b a) = true) : ∀ l : List α, l.mergeSort le = isortL le l
  | [] => by simp [isortL]
  | a :: l => by
    obtain ⟨l1, l2, e1, e2, h⟩ := List.mergeSort_cons trans total a l
    have hp := List.pairwise_mergeSort trans total (a :: l)
    rw [e1] at hp
    rw [e1, isortL, ← isort_eq trans total l, e2, insL_at l1 l2 (fun b hb => by simpa using h b hb) (fun b hb => ?_)]
    have := (List.pairwise_append.mp hp).2.1
    exact (List.pairwise_cons.mp this).1 b hb
def srtII (S : MS) (ds : List D) : Option D := match ds with
  | [d] => match (rdL S d).bind intsOf with
    | some ns => if ns.length < 64 then some (.lst ((isortL (fun a b => decide (a ≤ b)) ns).map .int)) else none
    | none => none
  | _ => none
def srtXI (S : MS) (ds : List D) : Option D := match ds with
  | [d] => match rdL S d with
    | some ys => match toPs S ys with
      | some ps => if srtB ps = true then some (.lst (isortL (PySem.W.dataLe false (encD S)) ys)) else none
      | none => none
    | none => none
  | _ => none
def srtTI (S : MS) (ds : List D) : Option D := match ds with
  | [.tup ys] => match toPs S ys with
      | some ps => if srtB ps = true then some (.lst (isortL (PySem.W.dataLe false (encD S)) ys)) else none
      | none => none
  | _ => none
def srtZI : MS → List D → Option D := orC (orC srtII srtXI) srtTI
def srtAI : MS → List D → Option D := orC srtII srtXI
end Dn
namespace Dn
open PySem L2
theorem int_isort (ns : List Int) : ns.mergeSort (fun a b => decide (a ≤ b)) = isortL (fun a b => decide (a ≤ b)) ns := isort_eq (fun a b c h1 h2 => by simp at h1 h2 ⊢; omega) (fun a b => by simp; omega) ns
theorem srtII_eq : srtI = srtII := by
  funext S ds
  unfold srtI srtII
  simp only [int_isort]
  all_goals rfl
theorem dataLe_isort {S : MS} (ys : List D) : ys.mergeSort (PySem.W.dataLe false (encD S)) = isortL (PySem.W.dataLe false (encD S)) ys := by
  have t : PySem.W.TotalLe (PySem.W.dataLe false (encD S)) := PySem.W.sortLe_total _ _ _
  exact isort_eq t.trans (fun a b => by rcases t.total a b with h | h <;> simp [h]) ys
theorem srtXI_eq : srtX = srtXI := by
  funext S ds
  unfold srtX srtXI
  simp only [dataLe_isort]
  all_goals rfl
theorem srtTI_eq : srtT = srtTI := by
  funext S ds
  unfold srtT srtTI
  simp only [dataLe_isort]
  all_goals rfl
theorem srtAI_eq : srtA = srtAI := by unfold srtA srtAI; rw [srtII_eq, srtXI_eq]
theorem srtZI_eq : srtZ = srtZI := by
  have := srtAI_eq
  unfold srtAI at this
  unfold srtZ srtZI
  rw [this, srtTI_eq]
end Dn

namespace Dn
open PySem L2
/-! ### counting dicts, in plain Lean -/
section
variable {κ : Type} [DecidableEq κ]
def bump (t : List (κ × Int)) (k : κ) (v : Int) : List (κ × Int) := putX t k ((valX t k).getD 0 + v)
def totX (t : List (κ × Int)) (f : κ → Int) : Int := (t.map fun p => p.2 * f p.1).sum
theorem totX_cons {p : κ × Int} {t : List (κ × Int)} {f : κ → Int} : totX (p :: t) f = p.2 * f p.1 + totX t f := by simp [totX]
theorem putX_keys {β : Type} (t : List (κ × β)) (k : κ) (v : β) : (putX t k v).map (·.1) = if k ∈ t.map (·.1) then t.map (·.1) else t.map (·.1) ++ [k] := by
  unfold putX
  have e : (t.any fun kv => decide (kv.1 = k)) = true ↔ k ∈ t.map (·.1) := by simp [List.any_eq_true]
  by_cases h : k ∈ t.map (·.1)
  · rw [if_pos (e.mpr h), if_pos h, List.map_map]
    apply List.map_congr_left
    intro a _
    show (if a.1 = k then (a.1, v) else a).1 = a.1
    split <;> rfl
  · rw [if_neg (fun z => h (e.mp z)), if_neg h, List.map_append]; rfl
theorem putX_nodup {β : Type} {t : List (κ × β)} (h : (t.map (·.1)).Nodup) (k : κ) (v : β) : ((putX t k v).map (·.1)).Nodup := by
  rw [putX_keys]
  split
  · exact h
  · rename_i n
    rw [List.nodup_append]
    exact ⟨h, by simp, fun a ha b hb => by simp at hb; subst hb; exact fun e => n (e ▸ ha)⟩
theorem valX_none {β : Type} {t : List (κ × β)} {k : κ} (h : k ∉ t.map (·.1)) : valX t k = none := by
  unfold valX
  rw [Option.map_eq_none_iff, List.find?_eq_none]
  intro x hx e
  exact h (List.mem_map.mpr ⟨x, hx, of_decide_eq_true e⟩)
theorem valX_isSome {β : Type} {t : List (κ × β)} {k : κ} : (valX t k).isSome = decide (k ∈ t.map (·.1)) := by
  by_cases h : k ∈ t.map (·.1)
  · rw [decide_eq_true h]
    obtain ⟨p, hp, e⟩ := List.mem_map.mp h
    unfold valX
    rw [Option.isSome_map, List.find?_isSome]
    exact ⟨p, hp, by simp [e]⟩
  · rw [valX_none h, decide_eq_false h]; rfl
theorem valX_cons {β : Type} {p : κ × β} {t : List (κ × β)} {k : κ} : valX (p :: t) k = if p.1 = k then some p.2 else valX t k := by
  unfold valX
  rw [List.find?_cons]
  by_cases h : p.1 = k
  · simp [h]
  · simp [h]
theorem tot_notin {t : List (κ × Int)} {k : κ} (h : k ∉ t.map (·.1)) : totX t (fun c => if c = k then 1 else 0) = 0 := by
  induction t with
  | nil => rfl
  | cons p t ih =>
    rw [List.map_cons, List.mem_cons, not_or] at h
    rw [totX_cons, ih h.2, if_neg (fun e => h.1 e.symm)]; simp
theorem valX_tot {t : List (κ × Int)} (h : (t.map (·.1)).Nodup) (k : κ) : (valX t k).getD 0 = totX t fun c => if c = k then 1 else 0 := by
  induction t with
  | nil => rfl
  | cons p t ih =>
    rw [List.map_cons, List.nodup_cons] at h
    rw [valX_cons, totX_cons]
    by_cases e : p.1 = k
    · rw [if_pos e, if_pos e, tot_notin (by rw [← e]; exact h.1)]; simp
    · rw [if_neg e, if_neg e, ih h.2]; simp
theorem tot_map_ne {t : List (κ × Int)} {k : κ} {v : Int} {f : κ → Int} (h : k ∉ t.map (·.1)) : totX (t.map fun kv => if kv.1 = k then (kv.1, v) else kv) f = totX t f := by
  induction t with
  | nil => rfl
  | cons p t ih =>
    rw [List.map_cons, List.mem_cons, not_or] at h
    rw [List.map_cons, totX_cons, totX_cons, ih h.2, if_neg (fun e => h.1 e.symm)]
theorem tot_put {t : List (κ × Int)} (h : (t.map (·.1)).Nodup) (k : κ) (v : Int) (f : κ → Int) : totX (putX t k v) f = totX t f + (v - (valX t k).getD 0) * f k := by
  unfold putX
  have e : (t.any fun kv => decide (kv.1 = k)) = true ↔ k ∈ t.map (·.1) := by simp [List.any_eq_true]
  by_cases hm : k ∈ t.map (·.1)
  · rw [if_pos (e.mpr hm)]
    clear e
    induction t with
    | nil => simp at hm
    | cons p t ih =>
      rw [List.map_cons, List.nodup_cons] at h
      rw [List.map_cons, totX_cons, totX_cons, valX_cons]
      by_cases ep : p.1 = k
      · rw [if_pos ep, if_pos ep, tot_map_ne (by rw [← ep]; exact h.1), ep]
        simp only [Option.getD_some]
        rw [Int.sub_mul]; omega
      · rw [if_neg ep, if_neg ep]
        rw [List.map_cons, List.mem_cons] at hm
        rcases hm with hm | hm
        · exact absurd hm.symm ep
        · rw [ih h.2 hm]; omega
  · rw [if_neg (fun z => hm (e.mp z)), valX_none hm]
    unfold totX
    rw [List.map_append, List.sum_append]
    simp
theorem tot_bump {t : List (κ × Int)} (h : (t.map (·.1)).Nodup) (k : κ) (v : Int) (f : κ → Int) : totX (bump t k v) f = totX t f + v * f k := by
  unfold bump
  rw [tot_put h, show (valX t k).getD 0 + v - (valX t k).getD 0 = v by omega]
theorem bump_nodup {t : List (κ × Int)} (h : (t.map (·.1)).Nodup) (k : κ) (v : Int) : ((bump t k v).map (·.1)).Nodup := putX_nodup h k _
theorem putX_mem {β : Type} {t : List (κ × β)} {k : κ} {v : β} {q : κ × β} (h : q ∈ putX t k v) : q = (k, v) ∨ q ∈ t := by
  unfold putX at h
  split at h
  · obtain ⟨p, hp, e⟩ := List.mem_map.mp h
    split at e
    · rename_i ek; left; rw [← e, ek]
    · right; rw [← e]; exact hp
  · rcases List.mem_append.mp h with h | h
    · exact .inr h
    · exact .inl (by simpa using h)
theorem valX_mem {β : Type} {t : List (κ × β)} {k : κ} {v : β} (h : valX t k = some v) : (k, v) ∈ t := by
  unfold valX at h
  obtain ⟨p, hp, e⟩ := Option.map_eq_some_iff.mp h
  have h1 := List.mem_of_find?_eq_some hp
  have h2 := List.find?_some hp
  rw [decide_eq_true_eq] at h2
  rw [← h2, ← e]; exact h1
theorem valX_of_mem {β : Type} {t : List (κ × β)} (hn : (t.map (·.1)).Nodup) {k : κ} {v : β} (h : (k, v) ∈ t) : valX t k = some v := by
  induction t with
  | nil => simp at h
  | cons p t ih =>
    rw [List.map_cons, List.nodup_cons] at hn
    rw [valX_cons]
    rcases List.mem_cons.mp h with h | h
    · rw [if_pos (by rw [← h]), ← h]
    · rw [if_neg, ih hn.2 h]
      intro e
      exact hn.1 (List.mem_map.mpr ⟨_, h, e.symm⟩)
theorem bump_pos {t : List (κ × Int)} (h : ∀ p ∈ t, 0 < p.2) {k : κ} {v : Int} (hv : 0 < v) : ∀ p ∈ bump t k v, 0 < p.2 := by
  intro p hp
  rcases putX_mem hp with e | e
  · rw [e]
    cases z : valX t k with
    | none => simpa [z] using hv
    | some w => have := h _ (valX_mem z); simp at this ⊢; omega
  · exact h p e
theorem bump_keys {t : List (κ × Int)} {k : κ} {v : Int} {P : κ → Prop} (h : ∀ p ∈ t, P p.1) (hk : P k) : ∀ p ∈ bump t k v, P p.1 := by
  intro p hp
  rcases putX_mem hp with e | e
  · rw [e]; exact hk
  · exact h p e
theorem bump_len {t : List (κ × Int)} {k : κ} {v : Int} : (bump t k v).length ≤ t.length + 1 := putX_len t k _
/-- a counting dict of good form -/
structure Cnt (t : List (κ × Int)) : Prop where
  nd : (t.map (·.1)).Nodup
  pos : ∀ p ∈ t, 0 < p.2
theorem Cnt.nil : Cnt ([] : List (κ × Int)) := ⟨by simp, by simp⟩
theorem Cnt.one {k : κ} : Cnt [(k, 1)] := ⟨by simp, by simp⟩
theorem Cnt.bump {t : List (κ × Int)} (h : Cnt t) {k : κ} {v : Int} (hv : 0 < v) : Cnt (bump t k v) := ⟨bump_nodup h.nd k v, bump_pos h.pos hv⟩
theorem tot_nonneg {t : List (κ × Int)} (h : ∀ p ∈ t, 0 < p.2) {f : κ → Int} (hf : ∀ k, 0 ≤ f k) : 0 ≤ totX t f := by
  induction t with
  | nil => simp [totX]
  | cons p t ih =>
    rw [totX_cons]
    have h1 := ih fun q hq => h q (List.mem_cons_of_mem _ hq)
    have h2 := h p List.mem_cons_self
    have := Int.mul_nonneg (by omega : 0 ≤ p.2) (hf p.1)
    omega
theorem Cnt.there {t : List (κ × Int)} (h : Cnt t) (k : κ) : (valX t k).isSome = decide (0 < totX t fun c => if c = k then 1 else 0) := by
  rw [← valX_tot h.nd k]
  cases z : valX t k with
  | none => simp
  | some w => have := h.pos _ (valX_mem z); simp at this ⊢; omega
theorem sum_map_mul {α : Type} (f : α → Int) (c : Int) : ∀ xs : List α, (xs.map fun x => c * f x).sum = c * (xs.map f).sum
  | [] => by simp
  | x :: xs => by rw [List.map_cons, List.sum_cons, sum_map_mul f c xs, List.map_cons, List.sum_cons, Int.mul_add]
theorem sum_map_add {α : Type} (f g : α → Int) : ∀ xs : List α, (xs.map fun x => f x + g x).sum = (xs.map f).sum + (xs.map g).sum
  | [] => by simp
  | x :: xs => by rw [List.map_cons, List.sum_cons, sum_map_add f g xs]; simp; omega
theorem sum_map_zero {α : Type} : ∀ xs : List α, (xs.map fun _ => (0 : Int)).sum = 0
  | [] => rfl
  | x :: xs => by rw [List.map_cons, List.sum_cons, sum_map_zero xs]; rfl
theorem sum_swap {α β : Type} (f : α → β → Int) (ys : List β) : ∀ xs : List α, (xs.map fun x => (ys.map fun y => f x y).sum).sum = (ys.map fun y => (xs.map fun x => f x y).sum).sum
  | [] => by simp [sum_map_zero]
  | x :: xs => by
    rw [List.map_cons, List.sum_cons, sum_swap f ys xs, ← sum_map_add]
    congr 1
theorem sum_flatMap {α β : Type} (g : α → List β) (f : β → Int) : ∀ xs : List α, ((xs.flatMap g).map f).sum = (xs.map fun x => ((g x).map f).sum).sum
  | [] => by simp
  | x :: xs => by rw [List.flatMap_cons, List.map_append, List.sum_append, sum_flatMap g f xs]; simp
theorem sum_filter {α : Type} (P : α → Bool) : ∀ xs : List α, ((xs.filter P).length : Int) = (xs.map fun x => if P x = true then (1 : Int) else 0).sum
  | [] => by simp
  | x :: xs => by
    rw [List.filter_cons, List.map_cons, List.sum_cons, ← sum_filter P xs]
    split <;> simp <;> omega
/-- bumps one by one -/
def bumps {α : Type} (ok : α → Bool) (g : α → κ) (w : α → Int) (xs : List α) (t : List (κ × Int)) : List (κ × Int) := xs.foldl (fun t x => if ok x = true then bump t (g x) (w x) else t) t
theorem bumps_cnt {α : Type} {ok : α → Bool} {g : α → κ} {w : α → Int} : ∀ (xs : List α) (t : List (κ × Int)), (∀ x ∈ xs, 0 < w x) → Cnt t → Cnt (bumps ok g w xs t)
  | [], _, _, h => h
  | x :: xs, t, hw, h => by
    refine bumps_cnt xs _ (fun y hy => hw y (List.mem_cons_of_mem _ hy)) ?_
    dsimp only
    split
    · exact h.bump (hw x List.mem_cons_self)
    · exact h
theorem bumps_tot {α : Type} {ok : α → Bool} {g : α → κ} {w : α → Int} (f : κ → Int) : ∀ (xs : List α) (t : List (κ × Int)), (t.map (·.1)).Nodup → totX (bumps ok g w xs t) f = totX t f + (xs.map fun x => if ok x = true then w x * f (g x) else 0).sum
  | [], t, _ => by simp [bumps]
  | x :: xs, t, h => by
    have e : bumps ok g w (x :: xs) t = bumps ok g w xs (if ok x = true then bump t (g x) (w x) else t) := rfl
    rw [e, bumps_tot f xs _ (by split; exact bump_nodup h _ _; exact h), List.map_cons, List.sum_cons]
    split
    · rw [tot_bump h]; omega
    · omega
theorem bumps_nodup {α : Type} {ok : α → Bool} {g : α → κ} {w : α → Int} : ∀ (xs : List α) (t : List (κ × Int)), (t.map (·.1)).Nodup → ((bumps ok g w xs t).map (·.1)).Nodup
  | [], _, h => h
  | x :: xs, t, h => by
    refine bumps_nodup xs _ ?_
    dsimp only
    split
    · exact bump_nodup h _ _
    · exact h
theorem bumps_keys {α : Type} {ok : α → Bool} {g : α → κ} {w : α → Int} {P : κ → Prop} : ∀ (xs : List α) (t : List (κ × Int)), (∀ p ∈ t, P p.1) → (∀ x ∈ xs, ok x = true → P (g x)) → ∀ p ∈ bumps ok g w xs t, P p.1
  | [], _, h, _ => h
  | x :: xs, t, h, hx => by
    refine bumps_keys xs _ ?_ fun y hy => hx y (List.mem_cons_of_mem _ hy)
    dsimp only
    split
    · rename_i e; exact bump_keys h (hx x List.mem_cons_self e)
    · exact h
theorem bumps_len {α : Type} {ok : α → Bool} {g : α → κ} {w : α → Int} : ∀ (xs : List α) (t : List (κ × Int)), (bumps ok g w xs t).length ≤ t.length + xs.length
  | [], t => by simp [bumps]
  | x :: xs, t => by
    have e : bumps ok g w (x :: xs) t = bumps ok g w xs (if ok x = true then bump t (g x) (w x) else t) := rfl
    rw [e]
    refine Nat.le_trans (bumps_len xs _) ?_
    rw [List.length_cons]
    split
    · have := bump_len (t := t) (k := g x) (v := w x); omega
    · omega
end
/-! ### the dicts of the program: keys are tuples of whole numbers -/
def kI (k : List Int) : List Key := k.map .inl
theorem kI_inj {a b : List Int} : kI a = kI b ↔ a = b := by
  constructor
  · intro h
    have := congrArg (List.map fun (k : Key) => match k with | .inl i => i | .inr _ => 0) h
    simpa [kI, Function.comp_def] using this
  · rintro rfl; rfl
def encT (t : List (List Int × Int)) : List (List Key × D) := t.map fun p => (kI p.1, .int p.2)
theorem keyT_ti (k : List Int) : keyT (.tup (k.map .int)) = some (kI k) := by
  show keysOf (k.map .int) = _
  induction k with
  | nil => rfl
  | cons x k ih => rw [List.map_cons, keysOf, ih]; rfl
theorem valX_enc (t : List (List Int × Int)) (k : List Int) : valX (encT t) (kI k) = (valX t k).map .int := by
  induction t with
  | nil => rfl
  | cons p t ih =>
    rw [show encT (p :: t) = (kI p.1, .int p.2) :: encT t from rfl, valX_cons, valX_cons, ih]
    by_cases e : p.1 = k
    · rw [if_pos e, if_pos (kI_inj.mpr e)]; rfl
    · rw [if_neg e, if_neg (fun z => e (kI_inj.mp z))]
theorem putX_enc (t : List (List Int × Int)) (k : List Int) (v : Int) : putX (encT t) (kI k) (.int v) = encT (putX t k v) := by
  unfold putX
  have e : ((encT t).any fun kv => decide (kv.1 = kI k)) = t.any fun kv => decide (kv.1 = k) := by
    induction t with
    | nil => rfl
    | cons p t ih =>
      rw [show encT (p :: t) = (kI p.1, .int p.2) :: encT t from rfl, List.any_cons, List.any_cons, ih]
      simp only [kI_inj]
  rw [e]
  split
  · unfold encT
    rw [List.map_map, List.map_map]
    apply List.map_congr_left
    intro p _
    show (if kI p.1 = kI k then (kI p.1, D.int v) else (kI p.1, D.int p.2)) = _
    by_cases z : p.1 = k
    · rw [if_pos (kI_inj.mpr z)]; simp [z]
    · rw [if_neg (fun q => z (kI_inj.mp q))]; simp [z]
  · unfold encT; rw [List.map_append]; rfl
theorem encT_len (t : List (List Int × Int)) : (encT t).length = t.length := by simp [encT]
theorem get2Z_t {S : MS} {i : Nat} {t : List (List Int × Int)} (h : S[i]? = some (.dT (encT t))) (k : List Int) (x : Int) : get2Z S (.obj i) (.tup (k.map .int)) (.int x) = some (.int ((valX t k).getD x)) := by
  unfold get2Z getZ
  simp only [h, keyT_ti, Option.map_some, valX_enc]
  cases valX t k <;> rfl
theorem inZ_t {S : MS} {i : Nat} {t : List (List Int × Int)} (h : S[i]? = some (.dT (encT t))) (k : List Int) : inZ S (.tup (k.map .int)) (.obj i) = some (.bl (valX t k).isSome) := by
  unfold inZ getZ
  simp only [h, keyT_ti, Option.map_some, valX_enc]
  cases valX t k <;> rfl
theorem ixZ_l {S : MS} {i : Nat} {t : List (List Int × Int)} (h : S[i]? = some (.lckT (encT t))) {k : List Int} {v : Int} (hv : valX t k = some v) : ixZ S (.obj i) (.tup (k.map .int)) = some (.int v) := by
  unfold ixZ getZ
  simp only [h, keyT_ti, Option.map_some, valX_enc, hv]
  rfl
theorem putZ_t {S : MS} {i : Nat} {t : List (List Int × Int)} (h : S[i]? = some (.dT (encT t))) (hl : t.length < lim) (k : List Int) (v : Int) : putZ S (.obj i) (.tup (k.map .int)) (.int v) = some (S.set i (.dT (encT (putX t k v)))) := by
  unfold putZ
  simp only [h, keyT_ti, encT_len, if_pos hl, putX_enc]
theorem isDz_t {S : MS} {i : Nat} {t : List (List Int × Int)} (h : S[i]? = some (.dT (encT t))) : isDz S (.obj i) = true := by
  unfold isDz
  simp only [h]
theorem pairsT_l {S : MS} {i : Nat} {t : List (List Int × Int)} (h : S[i]? = some (.lckT (encT t))) (hl : ∀ p ∈ t, p.1.length ≤ 1000) : pairsT S (.obj i) = some (t.map fun p => .tup [.tup (p.1.map .int), .int p.2]) := by
  unfold pairsT
  simp only [h]
  rw [if_pos]
  · unfold encT
    rw [List.map_map]
    congr 1
    apply List.map_congr_left
    intro p _
    simp [kI, Function.comp_def, keyToD]
  · simp only [List.all_eq_true, encT, List.mem_map, decide_eq_true_eq]
    rintro x ⟨p, hp, rfl⟩
    simpa [kI] using hl p hp
theorem keysD_l {S : MS} {i : Nat} {t : List (List Int × Int)} (h : S[i]? = some (.lckT (encT t))) (hl : ∀ p ∈ t, p.1.length ≤ 1000) : keysD S (.obj i) = some (t.map fun p => .tup (p.1.map .int)) := by
  unfold keysD
  simp only [h]
  rw [if_pos]
  · unfold encT
    rw [List.map_map]
    congr 1
    apply List.map_congr_left
    intro p _
    simp [kI, Function.comp_def, keyToD]
  · simp only [List.all_eq_true, encT, List.mem_map, decide_eq_true_eq]
    rintro x ⟨p, hp, rfl⟩
    simpa [kI] using hl p hp
/-! ### loops by what is done -/
section
variable {Φ : RS → Prop} {ρ ρ' : En} {S S1 : MS} {g g1 g2 : En → MS → RS} {it : En → MS → R (List D)} {p : Pat}
theorem forL_pre {α : Type} (inj : α → D) {b : D → En → MS → RS} (I : List α → En → MS → Prop) : ∀ (xs pre : List α), (∀ q a post ρ S, xs = q ++ a :: post → I (pre ++ q) ρ S → NxS (I (pre ++ q ++ [a])) (b (inj a) ρ S)) → ∀ ρ S, I pre ρ S → NxS (I (pre ++ xs)) (forL b (xs.map inj) ρ S)
  | [], pre, _, ρ, S, h => ⟨ρ, S, rfl, by rw [List.append_nil]; exact h⟩
  | a :: xs, pre, h, ρ, S, hi => by
    obtain ⟨ρ1, S1, e, i1⟩ := h [] a xs ρ S rfl (by rw [List.append_nil]; exact hi)
    rw [List.append_nil] at i1
    obtain ⟨ρ2, S2, e2, i2⟩ := forL_pre inj (b := b) I xs (pre ++ [a]) (fun q c post ρ S e hI => by
      have := h (a :: q) c post ρ S (by rw [e]; rfl) (by rw [List.append_cons]; exact hI)
      rw [List.append_cons pre a q] at this
      exact this) ρ1 S1 i1
    refine ⟨ρ2, S2, by simp [forL, e, RS.loop, e2], ?_⟩
    rw [List.append_cons]; exact i2
theorem st_forP {α : Type} (inj : α → D) (xs : List α) (I : List α → En → MS → Prop) (h : it ρ S = .ok (xs.map inj) S1) (h0 : I [] ρ S1) (step : ∀ pre a post ρ S, xs = pre ++ a :: post → I pre ρ S → NxS (I (pre ++ [a])) (forB p g (inj a) ρ S)) : NxS (I xs) (sForV it p g ρ S) := by
  obtain ⟨ρ', S', e, q⟩ := forL_pre inj (b := forB p g) I xs [] (fun q a post ρ S e hI => step q a post ρ S e hI) ρ S1 h0
  exact ⟨ρ', S', by unfold sForV; rw [h]; exact e, q⟩
theorem st_lk {i k : Nat} {l : MO} {Q : En → MS → Prop} (ho : objAt ρ i = some k) (hl : lockM S[k]? = some l) (h : NxS (fun ρ' S' => ∃ u, unlockM S'[k]? = some u ∧ Q ρ' (S'.set k u)) (g ρ (S.set k l))) : NxS Q (sLk i g ρ S) := by
  obtain ⟨ρ', S', e, u, hu, q⟩ := h
  refine ⟨ρ', S'.set k u, ?_, q⟩
  unfold sLk
  simp only [ho, hl, e, unlkS, hu]
theorem nx_set {i : Nat} {f : En → MS → R D} {d : D} {Q : En → MS → Prop} (h : f ρ S = .ok d S1) (k : Q (ρ.set i (some d)) S1) : NxS Q (sSet i f ρ S) := by
  refine ⟨_, _, ?_, k⟩
  unfold sSet; rw [h]; rfl
theorem nx_sq {Q Q1 : En → MS → Prop} (h : NxS Q1 (g1 ρ S)) (k : ∀ ρ' S', Q1 ρ' S' → NxS Q (g ρ' S')) : NxS Q (sSq g1 g ρ S) := st_any (Φ := NxS Q) Q1 h k
theorem nx_bind {d : D} {Q : En → MS → Prop} (h : bindP p d ρ = some ρ') (k : NxS Q (g ρ' S)) : NxS Q (forB p g d ρ S) := st_bind (Φ := NxS Q) h k
end
theorem get_l2 {T : MS} {a b : MO} : (T ++ [a, b])[T.length]? = some a := by simp
theorem get_r2 {T : MS} {a b : MO} : (T ++ [a, b])[T.length + 1]? = some b := by simp
theorem set_l2 {T : MS} {a b c : MO} : (T ++ [a, b]).set T.length c = T ++ [c, b] := by simp
theorem set_r2 {T : MS} {a b c : MO} : (T ++ [a, b]).set (T.length + 1) c = T ++ [a, c] := by simp
theorem dputZ_go {fv fo fk : En → MS → R D} {ρ : En} {S S1 S2 S3 S4 : MS} {v o k : D} (h1 : fv ρ S = .ok v S1) (h2 : fo ρ S1 = .ok o S2) (h3 : fk ρ S2 = .ok k S3) (h4 : putZ S3 o k v = some S4) : sDputZ fv fo fk ρ S = .nx ρ S4 := by
  unfold sDputZ
  rw [h1, bindS_ok, h2, bindS_ok, h3, bindS_ok, h4]
theorem get2Z_go {fo fk fx : En → MS → R D} {ρ : En} {S S1 S2 S3 : MS} {o k x d : D} (h1 : fo ρ S = .ok o S1) (hz : isDz S1 o = true) (h2 : fk ρ S1 = .ok k S2) (h3 : fx ρ S2 = .ok x S3) (h4 : get2Z S3 o k x = some d) : eGet2Z fo fk fx ρ S = .ok d S3 := by
  unfold eGet2Z
  rw [h1, bind_ok, if_pos hz, h2, bind_ok, h3, bind_ok, h4]; rfl
/-! ### the least of whole numbers -/
theorem argBest_min {f : Nat → Int} {bt : Nat → Nat → Bool} (n : Nat) : ∀ k, k < n → (∀ i j, i < n → j < n → bt i j = decide (f i < f j)) → ∀ i, i ≤ k → f (argBest bt k) ≤ f i
  | 0, _, _, i, hi => by
    have : i = 0 := by omega
    subst this
    exact Int.le_refl _
  | k + 1, hk, hb, i, hi => by
    have ih := argBest_min n k (by omega) hb
    have hle := argBest_le bt k
    unfold argBest
    rw [hb _ _ (by omega) (by omega)]
    by_cases z : f (k + 1) < f (argBest bt k)
    · rw [if_pos (by simpa using z)]
      by_cases e : i = k + 1
      · subst e; omega
      · have := ih i (by omega); omega
    · rw [if_neg (by simpa using z)]
      by_cases e : i = k + 1
      · subst e; omega
      · exact ih i (by omega)
theorem toPs_ints {S : MS} (r : List Int) : toPs S (r.map .int) = some (r.map .int) := by
  induction r with
  | nil => rfl
  | cons x r ih => rw [List.map_cons, toPs, ih]; rfl
theorem minDD_ints {S : MS} (r : List Int) : ∃ m : Int, minDD S (.tup (r.map .int)) (.int 0) = some (.int m) ∧ (0 ≤ m ↔ ∀ x ∈ r, 0 ≤ x) := by
  unfold minDD
  simp only [toPs_ints]
  have h1 : ((r.map PyData.int).all fun d => (r.map PyData.int).all fun e => PySem.W.alike d e) = true := by
    simp [List.all_eq_true, PySem.W.alike]
  have h2 : (r.map PyData.int).all (fun d => !noneP d) = true := by simp [List.all_eq_true, noneP]
  have h3 : ((r.map PyData.int).all fun d => decide (d.depth ≤ 60)) = true := by simp [List.all_eq_true, PyData.depth]
  rw [if_pos (by rw [h1, h2, h3]; rfl)]
  cases r with
  | nil => exact ⟨0, rfl, by simp⟩
  | cons x xs =>
    rw [if_neg (by simp)]
    generalize hr : x :: xs = r at *
    have hn : 0 < r.length := by rw [← hr]; simp
    have hb : ∀ i j, i < r.length → j < r.length → btP (r.map .int) i j = decide (r.getD i 0 < r.getD j 0) := by
      intro i j hi hj
      unfold btP
      simp only [List.getD_eq_getElem?_getD, List.getElem?_map, List.getElem?_eq_getElem hi, List.getElem?_eq_getElem hj, Option.map_some, Option.getD_some]
      exact PySem.W.dataLt_int _ _
    have hle := argBest_le (btP (r.map .int)) ((r.map PyData.int).length - 1)
    rw [List.length_map] at hle ⊢
    have hlt : argBest (btP (r.map .int)) (r.length - 1) < r.length := by omega
    have hm := argBest_min (f := fun i => r.getD i 0) (bt := btP (r.map .int)) r.length (r.length - 1) (by omega) hb
    refine ⟨r[argBest (btP (r.map .int)) (r.length - 1)], by rw [List.getElem?_map, List.getElem?_eq_getElem hlt]; rfl, ?_, ?_⟩
    · intro h0 y hy
      obtain ⟨i, hi, rfl⟩ := List.mem_iff_getElem.mp hy
      have := hm i (by omega)
      simp only [List.getD_eq_getElem?_getD, List.getElem?_eq_getElem hi, List.getElem?_eq_getElem hlt, Option.getD_some] at this
      omega
    · intro h
      exact h _ (List.getElem_mem hlt)
end Dn

namespace Dn
open PySem L2
/-! ### choices, and classes of rights -/
def bin : Nat → Nat → Nat
  | _, 0 => 1
  | 0, _ + 1 => 0
  | n + 1, k + 1 => bin n k + bin n (k + 1)
theorem bin_zero (n : Nat) : bin n 0 = 1 := by cases n <;> rfl
theorem bin_big : ∀ (n k : Nat), n < k → bin n k = 0
  | 0, 0, h => by omega
  | 0, k + 1, _ => rfl
  | n + 1, 0, h => by omega
  | n + 1, k + 1, h => by rw [bin, bin_big n k (by omega), bin_big n (k + 1) (by omega)]
theorem bin_succ (n k : Nat) : bin (n + 1) (k + 1) = bin n k + bin n (k + 1) := rfl
theorem bin_step : ∀ n < 7, ∀ i < 7, ((bin n i : Nat) : Int) * ((n : Int) - i) / ((i : Int) + 1) = ((bin n (i + 1) : Nat) : Int) := by decide
theorem bin_le : ∀ n < 7, ∀ i < 7, bin n i ≤ 20 := by decide
theorem bin_pos : ∀ n < 7, ∀ i < 7, i ≤ n → 1 ≤ bin n i := by decide
theorem bin_sym : ∀ n < 7, ∀ i < 7, i ≤ n → bin n (n - i) = bin n i := by decide
def pl (n : Nat) : List Int := (List.range n).map fun (i : Nat) => (i : Int)
theorem pl_succ (n : Nat) : pl (n + 1) = pl n ++ [(n : Int)] := by simp [pl, List.range_succ]
theorem pl_len (n : Nat) : (pl n).length = n := by simp [pl]
theorem mem_pl {n : Nat} {x : Int} : x ∈ pl n ↔ 0 ≤ x ∧ x < n := by
  simp only [pl, List.mem_map, List.mem_range]
  constructor
  · rintro ⟨i, hi, rfl⟩; omega
  · rintro ⟨h0, h1⟩; exact ⟨x.toNat, by omega, by omega⟩
/-- all subsets of the first numbers, as rising lists -/
def sbs : Nat → List (List Int)
  | 0 => [[]]
  | n + 1 => sbs n ++ (sbs n).map fun ws => ws ++ [(n : Int)]
theorem sbs_rng : ∀ {n : Nat} {s : List Int}, s ∈ sbs n → ∀ x ∈ s, 0 ≤ x ∧ x < n
  | 0, s, h, x, hx => by simp [sbs] at h; subst h; simp at hx
  | n + 1, s, h, x, hx => by
    simp only [sbs, List.mem_append, List.mem_map] at h
    rcases h with h | ⟨t, h, rfl⟩
    · have := sbs_rng h x hx; omega
    · rcases List.mem_append.mp hx with hx | hx
      · have := sbs_rng h x hx; omega
      · simp at hx; omega
theorem sbs_len (n : Nat) : (sbs n).length = 2 ^ n := by
  induction n with
  | zero => rfl
  | succ n ih => rw [sbs, List.length_append, List.length_map, ih]; omega
theorem sbs_le : ∀ {n : Nat} {s : List Int}, s ∈ sbs n → s.length ≤ n
  | 0, s, h => by simp [sbs] at h; subst h; simp
  | n + 1, s, h => by
    simp only [sbs, List.mem_append, List.mem_map] at h
    rcases h with h | ⟨t, h, rfl⟩
    · have := sbs_le h; omega
    · have := sbs_le h; simp; omega
def chs (n b : Nat) : List (List Int) := (sbs n).filter fun s => decide (s.length = b)
theorem mem_chs {n b : Nat} {s : List Int} : s ∈ chs n b ↔ s ∈ sbs n ∧ s.length = b := by simp [chs]
theorem sum_chs {n b : Nat} (φ : List Int → Int) : ((chs (n + 1) b).map φ).sum = ((chs n b).map φ).sum + if b = 0 then 0 else ((chs n (b - 1)).map fun s => φ (s ++ [(n : Int)])).sum := by
  unfold chs
  rw [sbs, List.filter_append, List.map_append, List.sum_append, List.filter_map, List.map_map]
  congr 1
  by_cases hb : b = 0
  · rw [if_pos hb]
    have : (sbs n).filter ((fun s => decide (s.length = b)) ∘ fun ws => ws ++ [(n : Int)]) = [] := by
      rw [List.filter_eq_nil_iff]
      intro s _
      simp [hb]
    rw [this]; rfl
  · rw [if_neg hb]
    have : ((fun s : List Int => decide (s.length = b)) ∘ fun ws => ws ++ [(n : Int)]) = fun s => decide (s.length = b - 1) := by
      funext s
      simp
      omega
    rw [this]
    rfl
theorem chs_len : ∀ n b : Nat, (chs n b).length = bin n b
  | 0, 0 => rfl
  | 0, b + 1 => rfl
  | n + 1, b => by
    have h := sum_chs (n := n) (b := b) fun _ => 1
    have e : ∀ l : List (List Int), (l.map fun _ => (1 : Int)).sum = l.length := by
      intro l
      induction l with
      | nil => rfl
      | cons a l ih => simp [ih]; omega
    simp only [e] at h
    rw [chs_len n b, chs_len n (b - 1)] at h
    cases b with
    | zero => simp at h; rw [bin_zero] at *; omega
    | succ b => rw [bin_succ]; simp at h; omega
/-- one more at a place -/
def addAt : Nat → List Nat → List Nat
  | _, [] => []
  | 0, x :: h => (x + 1) :: h
  | j + 1, x :: h => x :: addAt j h
theorem addAt_len : ∀ (j : Nat) (h : List Nat), (addAt j h).length = h.length
  | _, [] => by simp [addAt]
  | 0, x :: h => by simp [addAt]
  | j + 1, x :: h => by simp [addAt, addAt_len j h]
theorem addAt_get : ∀ (j : Nat) (h : List Nat) (i : Nat), i < h.length → (addAt j h).getD i 0 = h.getD i 0 + if i = j then 1 else 0
  | _, [], i, hi => by simp at hi
  | 0, x :: h, i, hi => by cases i <;> simp [addAt]
  | j + 1, x :: h, i, hi => by
    cases i with
    | zero => simp [addAt]
    | succ i =>
      have := addAt_get j h i (by simpa using hi)
      simp only [addAt, List.getD_cons_succ, this]
      congr 1
      by_cases e : i = j <;> simp [e]
/-- all ways to take b of classes with so many each -/
def HH : List Nat → Nat → (List Nat → Int) → Int
  | [], b, g => if b = 0 then g [] else 0
  | x :: h, b, g => ((List.range (b + 1)).map fun t => (bin x t : Int) * HH h (b - t) fun ts => g (t :: ts)).sum
theorem range_sum_succ (f : Nat → Int) (n : Nat) : ((List.range (n + 1)).map f).sum = f 0 + ((List.range n).map fun i => f (i + 1)).sum := by
  rw [List.range_succ_eq_map, List.map_cons, List.sum_cons, List.map_map]
  rfl
theorem range_sum_last (f : Nat → Int) (n : Nat) : ((List.range (n + 1)).map f).sum = ((List.range n).map f).sum + f n := by
  rw [List.range_succ, List.map_append, List.sum_append]; simp
theorem HH_add : ∀ (h : List Nat) (j : Nat), j < h.length → ∀ (b : Nat) (g : List Nat → Int), HH (addAt j h) b g = HH h b g + if b = 0 then 0 else HH h (b - 1) fun t => g (addAt j t)
  | [], j, hj => by simp at hj
  | x :: h, 0, hj => by
    intro b g
    rw [addAt, HH, HH]
    cases b with
    | zero => simp [bin_zero]
    | succ b =>
      rw [if_neg (by omega), Nat.add_sub_cancel, HH]
      rw [range_sum_succ, range_sum_succ (n := b + 1)]
      have e : ((List.range (b + 1)).map fun i => (bin (x + 1) (i + 1) : Int) * HH h (b + 1 - (i + 1)) fun ts => g ((i + 1) :: ts)) = (List.range (b + 1)).map fun i => ((bin x (i + 1) : Int) * HH h (b + 1 - (i + 1)) fun ts => g ((i + 1) :: ts)) + (bin x i : Int) * HH h (b - i) fun t => g (addAt 0 (i :: t)) := by
        apply List.map_congr_left
        intro i _
        rw [bin_succ, show b + 1 - (i + 1) = b - i by omega]
        push_cast
        rw [Int.add_mul]
        simp only [addAt]
        omega
      rw [e, sum_map_add]
      simp only [bin_zero]
      omega
  | x :: h, j + 1, hj => by
    intro b g
    have hj' : j < h.length := by simpa using hj
    rw [addAt, HH, HH]
    have e : ((List.range (b + 1)).map fun t => (bin x t : Int) * HH (addAt j h) (b - t) fun ts => g (t :: ts)) = (List.range (b + 1)).map fun t => ((bin x t : Int) * HH h (b - t) fun ts => g (t :: ts)) + (if b - t = 0 then 0 else (bin x t : Int) * HH h (b - t - 1) fun ts => g (t :: addAt j ts)) := by
      apply List.map_congr_left
      intro t _
      rw [HH_add h j hj', Int.mul_add]
      split <;> simp
    rw [e, sum_map_add]
    congr 1
    cases b with
    | zero => simp
    | succ b =>
      rw [if_neg (by omega), Nat.add_sub_cancel, HH, range_sum_last]
      have e2 : ((List.range (b + 1)).map fun t => (if b + 1 - t = 0 then 0 else (bin x t : Int) * HH h (b + 1 - t - 1) fun ts => g (t :: addAt j ts))) = (List.range (b + 1)).map fun t => (bin x t : Int) * HH h (b - t) fun ts => g (addAt (j + 1) (t :: ts)) := by
        apply List.map_congr_left
        intro t ht
        have := List.mem_range.mp ht
        rw [if_neg (by omega), show b + 1 - t - 1 = b - t by omega]
        rfl
      rw [e2]
      simp
/-- how many rights are in each class -/
def hst (m : Nat) (c : Nat → Nat) : Nat → List Nat
  | 0 => List.replicate (m + 1) 0
  | n + 1 => addAt (c n) (hst m c n)
theorem hst_len {m : Nat} {c : Nat → Nat} : ∀ n, (hst m c n).length = m + 1
  | 0 => by simp [hst]
  | n + 1 => by rw [hst, addAt_len, hst_len n]
def cls (m : Nat) (c : Nat → Nat) (s : List Int) : List Nat := s.foldl (fun t x => addAt (c x.toNat) t) (List.replicate (m + 1) 0)
theorem cls_app {m : Nat} {c : Nat → Nat} {s : List Int} {n : Nat} : cls m c (s ++ [(n : Int)]) = addAt (c n) (cls m c s) := by
  unfold cls; rw [List.foldl_append]; rfl
theorem HH_zero : ∀ (k b : Nat) (g : List Nat → Int), HH (List.replicate k 0) b g = if b = 0 then g (List.replicate k 0) else 0
  | 0, b, g => by simp [HH]
  | k + 1, b, g => by
    rw [List.replicate_succ, HH, range_sum_succ]
    have e : ((List.range b).map fun i => (bin 0 (i + 1) : Int) * HH (List.replicate k 0) (b - (i + 1)) fun ts => g ((i + 1) :: ts)) = (List.range b).map fun _ => (0 : Int) := by
      apply List.map_congr_left
      intro i _
      simp [bin]
    rw [e, sum_map_zero, HH_zero k]
    simp [bin]
/-- the choices of rights, by their classes -/
theorem chs_cls {m : Nat} {c : Nat → Nat} (hc : ∀ i, c i ≤ m) : ∀ (n b : Nat) (φ : List Nat → Int), ((chs n b).map fun s => φ (cls m c s)).sum = HH (hst m c n) b φ
  | 0, b, φ => by
    rw [hst, HH_zero]
    cases b with
    | zero => simp [chs, sbs, cls]
    | succ b => simp [chs, sbs]
  | n + 1, b, φ => by
    rw [sum_chs, hst, HH_add _ _ (by rw [hst_len]; have := hc n; omega)]
    simp only [cls_app]
    rw [chs_cls hc n b φ, chs_cls hc n (b - 1) fun t => φ (addAt (c n) t)]
/-! ### the rows of the program -/
abbrev Row := List Nat × Nat × Nat
def stepR (rows : List Row) (there : Nat) : List Row := rows.flatMap fun r => (List.range (min there r.2.1 + 1)).map fun now => (r.1 ++ [now], r.2.1 - now, r.2.2 * bin there now)
def rowsF (h : List Nat) (b : Nat) : List Row := h.foldl stepR [([], b, 1)]
theorem range_zero (f : Nat → Int) {a b : Nat} (h : a ≤ b) (hz : ∀ t, a ≤ t → t < b → f t = 0) : ((List.range b).map f).sum = ((List.range a).map f).sum := by
  obtain ⟨k, rfl⟩ : ∃ k, b = a + k := ⟨b - a, by omega⟩
  clear h
  induction k with
  | zero => rfl
  | succ k ih =>
    rw [show a + (k + 1) = a + k + 1 by omega, range_sum_last, ih fun t h1 h2 => hz t h1 (by omega), hz (a + k) (by omega) (by omega)]
    omega
def endR (g : List Nat → Int) (r : Row) : Int := if r.2.1 = 0 then (r.2.2 : Int) * g r.1 else 0
theorem rows_sum (g : List Nat → Int) : ∀ (h : List Nat) (rows : List Row), ((h.foldl stepR rows).map (endR g)).sum = (rows.map fun r => (r.2.2 : Int) * HH h r.2.1 fun ts => g (r.1 ++ ts)).sum
  | [], rows => by
    congr 1
    apply List.map_congr_left
    intro r _
    unfold endR
    simp only [HH, List.append_nil]
    split <;> simp
  | x :: h, rows => by
    rw [List.foldl_cons, rows_sum g h (stepR rows x)]
    unfold stepR
    rw [sum_flatMap]
    congr 1
    apply List.map_congr_left
    intro r _
    rw [List.map_map, HH, ← sum_map_mul]
    have hz := range_zero (fun t => (r.2.2 : Int) * ((bin x t : Int) * HH h (r.2.1 - t) fun ts => g (r.1 ++ t :: ts))) (a := min x r.2.1 + 1) (b := r.2.1 + 1) (by omega) (by
      intro t h1 h2
      rw [bin_big x t (by omega)]
      simp)
    rw [hz]
    congr 1
    apply List.map_congr_left
    intro t _
    show ((r.2.2 * bin x t : Nat) : Int) * HH h (r.2.1 - t) (fun ts => g ((r.1 ++ [t]) ++ ts)) = _
    push_cast
    rw [Int.mul_assoc]
    simp only [List.append_assoc, List.singleton_append]
theorem rowsF_sum (h : List Nat) (b : Nat) (g : List Nat → Int) : ((rowsF h b).map (endR g)).sum = HH h b g := by
  unfold rowsF
  rw [rows_sum]
  simp
end Dn

namespace Dn
open PySem L2
def zN (h : List Nat) : List Int := h.map fun (x : Nat) => (x : Int)
def nZ (k : List Int) : List Nat := k.map Int.toNat
theorem nZ_zN (h : List Nat) : nZ (zN h) = h := by simp [nZ, zN, Function.comp_def]
theorem zN_len (h : List Nat) : (zN h).length = h.length := by simp [zN]
theorem zN_get (h : List Nat) (i : Nat) : (zN h).getD i 0 = (h.getD i 0 : Int) := by
  unfold zN
  rw [List.getD_eq_getElem?_getD, List.getD_eq_getElem?_getD, List.getElem?_map]
  cases h[i]? <;> rfl
theorem ext_getD {α : Type} {d : α} {a b : List α} (hl : a.length = b.length) (h : ∀ i, i < a.length → a.getD i d = b.getD i d) : a = b := by
  apply List.ext_getElem hl
  intro i h1 h2
  have := h i h1
  simpa [List.getD_eq_getElem?_getD, List.getElem?_eq_getElem h1, List.getElem?_eq_getElem h2] using this
def addv (k : Nat) (v : Int) (l : List Int) : List Int := l.set k (l.getD k 0 + v)
theorem addv_len {k : Nat} {v : Int} {l : List Int} : (addv k v l).length = l.length := by simp [addv]
theorem addv_get {k : Nat} {v : Int} {l : List Int} {i : Nat} (hk : k < l.length) : (addv k v l).getD i 0 = l.getD i 0 + if k = i then v else 0 := by
  unfold addv
  by_cases e : k = i
  · subst e
    rw [if_pos rfl]
    simp [List.getD_eq_getElem?_getD, hk]
  · rw [if_neg e]
    simp [List.getD_eq_getElem?_getD, List.getElem?_set, e]
def subZ (h t : List Nat) : List Int := (h.zip t).map fun q => (q.1 : Int) - q.2
def pushZ (m : Nat) (ts : List (Nat × Nat)) (l : List Int) : List Int := ts.foldl (fun l q => addv (min (q.2 + 1) m) q.1 l) l
def laterZ (h t : List Nat) : List Int := pushZ (h.length - 1) t.zipIdx (subZ h t)
theorem pushZ_len {m : Nat} : ∀ (ts : List (Nat × Nat)) (l : List Int), (pushZ m ts l).length = l.length
  | [], l => rfl
  | q :: ts, l => by
    show (pushZ m ts (addv _ _ l)).length = _
    rw [pushZ_len ts, addv_len]
theorem pushZ_get {m i : Nat} : ∀ (ts : List (Nat × Nat)) (l : List Int), m < l.length → (pushZ m ts l).getD i 0 = l.getD i 0 + (ts.map fun q => if min (q.2 + 1) m = i then (q.1 : Int) else 0).sum
  | [], l, _ => by simp [pushZ]
  | q :: ts, l, h => by
    show (pushZ m ts (addv (min (q.2 + 1) m) q.1 l)).getD i 0 = _
    rw [pushZ_get ts _ (by rw [addv_len]; exact h), addv_get (by omega), List.map_cons, List.sum_cons]
    omega
theorem zipIdx_sum {t : List Nat} (f : Nat → Nat → Int) : (t.zipIdx.map fun q => f q.1 q.2).sum = ((List.range t.length).map fun a => f (t.getD a 0) a).sum := by
  have : t.zipIdx = (List.range t.length).map fun a => (t.getD a 0, a) := by
    apply List.ext_getElem
    · simp
    · intro i h1 h2
      simp at h1
      simp [h1]
  rw [this, List.map_map]
  rfl
def LZ (m : Nat) (h t : List Nat) (i : Nat) : Int := (h.getD i 0 : Int) - t.getD i 0 + ((List.range (m + 1)).map fun a => if min (a + 1) m = i then (t.getD a 0 : Int) else 0).sum
theorem subZ_len {h t : List Nat} (hl : t.length = h.length) : (subZ h t).length = h.length := by simp [subZ, hl]
theorem laterZ_len {h t : List Nat} (hl : t.length = h.length) : (laterZ h t).length = h.length := by unfold laterZ; rw [pushZ_len, subZ_len hl]
theorem laterZ_get {m : Nat} {h t : List Nat} (hh : h.length = m + 1) (ht : t.length = m + 1) {i : Nat} (hi : i < m + 1) : (laterZ h t).getD i 0 = LZ m h t i := by
  unfold laterZ LZ
  rw [hh, Nat.add_sub_cancel, pushZ_get _ _ (by rw [subZ_len (by omega)]; omega), zipIdx_sum (fun x a => if min (a + 1) m = i then (x : Int) else 0), ht]
  congr 1
  unfold subZ
  have e : (h.zip t)[i]? = some (h.getD i 0, t.getD i 0) := by
    rw [List.getElem?_zip_eq_some]
    simp only [List.getD_eq_getElem?_getD, List.getElem?_eq_getElem (show i < h.length by omega), List.getElem?_eq_getElem (show i < t.length by omega), Option.getD_some]
    exact ⟨trivial, trivial⟩
  rw [List.getD_eq_getElem?_getD, List.getElem?_map, e]
  rfl
/-- the classes behind a week in which s flew -/
def nxt (m : Nat) (c : Nat → Nat) (s : List Int) : Nat → Nat := fun i => if (i : Int) ∈ s then min (c i + 1) m else c i
theorem hst_congr {m : Nat} {c c' : Nat → Nat} : ∀ n, (∀ i < n, c i = c' i) → hst m c n = hst m c' n
  | 0, _ => rfl
  | n + 1, h => by rw [hst, hst, hst_congr n fun i hi => h i (by omega), h n (by omega)]
theorem cls_len {m : Nat} {c : Nat → Nat} (s : List Int) : (cls m c s).length = m + 1 := by
  unfold cls
  have : ∀ (s : List Int) (t : List Nat), (s.foldl (fun t x => addAt (c x.toNat) t) t).length = t.length := by
    intro s
    induction s with
    | nil => intro t; rfl
    | cons x s ih => intro t; rw [List.foldl_cons, ih, addAt_len]
  rw [this]; simp
theorem hst_zero {m : Nat} {c : Nat → Nat} {i : Nat} : (hst m c 0).getD i 0 = 0 := by
  unfold hst
  rw [List.getD_eq_getElem?_getD, List.getElem?_replicate]
  split <;> rfl
theorem sum_one_at {n : Nat} {P : Nat → Prop} [DecidablePred P] {j : Nat} (hj : j < n) (f : Nat → Int) : ((List.range n).map fun a => if P a then (f a + if a = j then 1 else 0) else 0).sum = ((List.range n).map fun a => if P a then f a else 0).sum + if P j then 1 else 0 := by
  induction n with
  | zero => omega
  | succ n ih =>
    rw [range_sum_last, range_sum_last]
    by_cases e : j = n
    · subst e
      have h0 : ((List.range j).map fun a => if P a then (f a + if a = j then 1 else 0) else 0) = (List.range j).map fun a => if P a then f a else 0 := by
        apply List.map_congr_left
        intro a ha
        have := List.mem_range.mp ha
        rw [if_neg (show ¬ a = j by omega)]
        simp
      rw [h0, if_pos rfl]
      split <;> omega
    · rw [ih (by omega), if_neg (show ¬ n = j from fun z => e z.symm)]
      by_cases pn : P n <;> by_cases pj : P j <;> simp [pn, pj] <;> omega
theorem later_hst {m : Nat} {c : Nat → Nat} (hc : ∀ i, c i ≤ m) : ∀ (n : Nat) (s : List Int), s ∈ sbs n → ∀ i < m + 1, LZ m (hst m c n) (cls m c s) i = ((hst m (nxt m c s) n).getD i 0 : Int)
  | 0, s, hs, i, hi => by
    simp [sbs] at hs
    subst hs
    have e : ∀ i, (cls m c []).getD i 0 = 0 := fun i => hst_zero (c := c)
    unfold LZ
    simp only [e, hst_zero]
    have : ((List.range (m + 1)).map fun a => if min (a + 1) m = i then ((0 : Nat) : Int) else 0) = (List.range (m + 1)).map fun _ => (0 : Int) := by
      apply List.map_congr_left
      intro a _
      split <;> rfl
    rw [this, sum_map_zero]
    rfl
  | n + 1, s, hs, i, hi => by
    simp only [sbs, List.mem_append, List.mem_map] at hs
    have hcn := hc n
    have hl := hst_len (m := m) (c := c) n
    rcases hs with hs | ⟨t, ht, rfl⟩
    · have ih := later_hst hc n s hs i hi
      have hn : ¬ (n : Int) ∈ s := fun z => by have := sbs_rng hs _ z; omega
      rw [hst, hst, addAt_get _ _ _ (by rw [hst_len]; exact hi)]
      rw [show nxt m c s n = c n from if_neg hn]
      unfold LZ at ih ⊢
      rw [addAt_get _ _ _ (by rw [hl]; exact hi)]
      push_cast
      rw [← ih]
      by_cases e : i = c n
      · simp [e]; omega
      · simp [e]
    · have ih := later_hst hc n t ht i hi
      have hn : (n : Int) ∈ t ++ [(n : Int)] := by simp
      rw [hst, hst, addAt_get _ _ _ (by rw [hst_len]; exact hi)]
      rw [show nxt m c (t ++ [(n : Int)]) n = min (c n + 1) m from if_pos hn]
      have e1 : hst m (nxt m c (t ++ [(n : Int)])) n = hst m (nxt m c t) n := hst_congr n fun j hj => by
        unfold nxt
        have : ((j : Int) ∈ t ++ [(n : Int)]) ↔ (j : Int) ∈ t := by
          rw [List.mem_append, List.mem_singleton]
          constructor
          · rintro (z | z)
            · exact z
            · omega
          · exact .inl
        by_cases z : (j : Int) ∈ t
        · rw [if_pos z, if_pos (this.mpr z)]
        · rw [if_neg z, if_neg (fun q => z (this.mp q))]
      rw [e1, cls_app]
      have hcl := cls_len (m := m) (c := c) t
      unfold LZ at ih ⊢
      rw [addAt_get _ _ _ (by rw [hl]; exact hi), addAt_get _ _ _ (by rw [hcl]; exact hi)]
      have e2 : ((List.range (m + 1)).map fun a => if min (a + 1) m = i then (((addAt (c n) (cls m c t)).getD a 0 : Nat) : Int) else 0) = (List.range (m + 1)).map fun a => if min (a + 1) m = i then (((cls m c t).getD a 0 : Nat) : Int) + (if a = c n then 1 else 0) else 0 := by
        apply List.map_congr_left
        intro a ha
        have := List.mem_range.mp ha
        rw [addAt_get _ _ _ (by rw [hcl]; exact this)]
        by_cases z : a = c n <;> simp [z]
      rw [e2, sum_one_at (P := fun a => min (a + 1) m = i) (by omega : c n < m + 1)]
      push_cast
      rw [← ih]
      have e3 : (((if i = min (c n + 1) m then 1 else 0 : Nat)) : Int) = if min (c n + 1) m = i then 1 else 0 := by
        by_cases z : i = min (c n + 1) m
        · rw [if_pos z, if_pos z.symm]; rfl
        · rw [if_neg z, if_neg (fun q => z q.symm)]; rfl
      rw [e3]
      omega
theorem laterZ_hst {m : Nat} {c : Nat → Nat} (hc : ∀ i, c i ≤ m) {n : Nat} {s : List Int} (hs : s ∈ sbs n) : laterZ (hst m c n) (cls m c s) = zN (hst m (nxt m c s) n) := by
  have h1 := hst_len (m := m) (c := c) n
  have h2 := cls_len (m := m) (c := c) s
  apply ext_getD (d := 0)
  · rw [laterZ_len (by omega), zN_len, hst_len, hst_len]
  · intro i hi
    rw [laterZ_len (by omega), h1] at hi
    rw [laterZ_get h1 h2 hi, later_hst hc n s hs i hi, zN_get]
def flownL (h : List Nat) (b : Nat) : List (List Int × Int) := ((rowsF h b).filter fun r => decide (r.2.1 = 0)).map fun r => (laterZ h r.1, (r.2.2 : Int))
theorem flownL_sum (h : List Nat) (b : Nat) (f : List Int → Int) : ((flownL h b).map fun q => q.2 * f q.1).sum = HH h b fun t => f (laterZ h t) := by
  rw [← rowsF_sum]
  unfold flownL
  rw [List.map_map]
  generalize rowsF h b = rows
  induction rows with
  | nil => rfl
  | cons r rows ih =>
    rw [List.filter_cons, List.map_cons, List.sum_cons, ← ih]
    unfold endR
    by_cases e : r.2.1 = 0
    · simp [e]
    · simp [e]
theorem flown_chs {m : Nat} {c : Nat → Nat} (hc : ∀ i, c i ≤ m) (n b : Nat) (f : List Int → Int) : ((flownL (hst m c n) b).map fun q => q.2 * f q.1).sum = ((chs n b).map fun s => f (zN (hst m (nxt m c s) n))).sum := by
  rw [flownL_sum, ← chs_cls hc]
  congr 1
  apply List.map_congr_left
  intro s hs
  rw [laterZ_hst hc (mem_chs.mp hs).1]
/-! ### uses of rights -/
def useAdd (u s : List Int) : List Int := (pl u.length).map fun x => nth u x + if x ∈ s then 1 else 0
theorem useAdd_len {u s : List Int} : (useAdd u s).length = u.length := by simp [useAdd, pl_len]
theorem useAdd_get {u s : List Int} {i : Nat} (hi : i < u.length) : (useAdd u s).getD i 0 = u.getD i 0 + if (i : Int) ∈ s then 1 else 0 := by
  unfold useAdd pl nth
  rw [List.getD_eq_getElem?_getD, List.map_map, List.getElem?_map, List.getElem?_range hi]
  simp
def clu (m : Nat) (u : List Int) : Nat → Nat := fun i => min (u.getD i 0).toNat m
theorem clu_le {m : Nat} {u : List Int} (i : Nat) : clu m u i ≤ m := by unfold clu; omega
def hz (m : Nat) (u : List Int) : List Int := zN (hst m (clu m u) u.length)
theorem hz_add {m : Nat} {u s : List Int} (hu : ∀ x ∈ u, 0 ≤ x) : hz m (useAdd u s) = zN (hst m (nxt m (clu m u) s) u.length) := by
  unfold hz
  rw [useAdd_len]
  congr 1
  apply hst_congr
  intro i hi
  unfold clu nxt
  rw [useAdd_get hi]
  have h0 : 0 ≤ u.getD i 0 := by
    rw [List.getD_eq_getElem?_getD, List.getElem?_eq_getElem hi]
    exact hu _ (List.getElem_mem hi)
  dsimp only
  split <;> omega
def usesF (n : Nat) (board : List Nat) (us : List (List Int)) : List (List Int) := board.foldl (fun us b => us.flatMap fun u => (chs n b).map (useAdd u)) us
def usesL (n : Nat) (board : List Nat) : List (List Int) := usesF n board [List.replicate n 0]
def UOk (n : Nat) (u : List Int) : Prop := u.length = n ∧ ∀ x ∈ u, 0 ≤ x
theorem uok_add {n : Nat} {u s : List Int} (h : UOk n u) : UOk n (useAdd u s) := by
  obtain ⟨h1, h2⟩ := h
  refine ⟨by rw [useAdd_len, h1], fun x hx => ?_⟩
  obtain ⟨y, hy, rfl⟩ := List.mem_map.mp hx
  have hy' := mem_pl.mp hy
  have : 0 ≤ nth u y := by
    unfold nth
    rw [List.getD_eq_getElem?_getD, List.getElem?_eq_getElem (show y.toNat < u.length by omega)]
    exact h2 _ (List.getElem_mem _)
  split <;> omega
theorem usesF_ok {n : Nat} : ∀ (board : List Nat) (us : List (List Int)), (∀ u ∈ us, UOk n u) → ∀ u ∈ usesF n board us, UOk n u
  | [], us, h => h
  | b :: board, us, h => by
    refine usesF_ok board _ fun u hu => ?_
    obtain ⟨v, hv, hu⟩ := List.mem_flatMap.mp hu
    obtain ⟨s, hs, rfl⟩ := List.mem_map.mp hu
    exact uok_add (h v hv)
theorem uok_zero {n : Nat} : UOk n (List.replicate n 0) := ⟨by simp, fun x hx => by have := (List.mem_replicate.mp hx).2; omega⟩
theorem uses_ok {n : Nat} {board : List Nat} {u : List Int} (h : u ∈ usesL n board) : UOk n u := usesF_ok board _ (fun v hv => by simp at hv; subst hv; exact uok_zero) u h
/-! ### the states -/
def flownZ (k : List Int) (b : Nat) : List (List Int × Int) := flownL (nZ k) b
def stepB1 (b : Nat) (t : List (List Int × Int)) (q : List Int × Int) : List (List Int × Int) := bumps (fun _ => true) (fun r : List Int × Int => r.1) (fun r => q.2 * r.2) (flownZ q.1 b) t
def stepB (st : List (List Int × Int)) (b : Nat) : List (List Int × Int) := st.foldl (stepB1 b) []
theorem stepB_tot {b : Nat} (f : List Int → Int) : ∀ (st t : List (List Int × Int)), (t.map (·.1)).Nodup → totX (st.foldl (stepB1 b) t) f = totX t f + totX st fun k => ((flownZ k b).map fun r => r.2 * f r.1).sum
  | [], t, _ => by simp [totX]
  | q :: st, t, h => by
    rw [List.foldl_cons, stepB_tot f st (stepB1 b t q) (bumps_nodup _ _ h), totX_cons]
    have e := bumps_tot (ok := fun _ => true) (g := fun r : List Int × Int => r.1) (w := fun r => q.2 * r.2) f (flownZ q.1 b) t h
    rw [show stepB1 b t q = bumps (fun _ => true) (fun r : List Int × Int => r.1) (fun r => q.2 * r.2) (flownZ q.1 b) t from rfl, e]
    have e2 : ((flownZ q.1 b).map fun r => if (fun _ => true) r = true then q.2 * r.2 * f r.1 else 0).sum = q.2 * ((flownZ q.1 b).map fun r => r.2 * f r.1).sum := by
      rw [← sum_map_mul]
      congr 1
      apply List.map_congr_left
      intro r _
      simp [Int.mul_assoc]
    rw [e2]; omega
/-- the keys that may stand -/
def KOk (m n : Nat) (k : List Int) : Prop := ∃ c : Nat → Nat, (∀ i, c i ≤ m) ∧ k = zN (hst m c n)
theorem rows_pos : ∀ (h : List Nat) (rows : List Row), (∀ x ∈ h, x < 7) → (∀ r ∈ rows, 1 ≤ r.2.2) → ∀ r ∈ h.foldl stepR rows, 1 ≤ r.2.2
  | [], rows, _, hr => hr
  | x :: h, rows, hx, hr => by
    refine rows_pos h _ (fun y hy => hx y (List.mem_cons_of_mem _ hy)) fun r hm => ?_
    obtain ⟨q, hq, hm⟩ := List.mem_flatMap.mp hm
    obtain ⟨t, ht, rfl⟩ := List.mem_map.mp hm
    have h1 := hr q hq
    have h2 := List.mem_range.mp ht
    have h3 := hx x List.mem_cons_self
    have h4 := bin_pos x h3 t (by omega) (by omega)
    exact Nat.mul_le_mul h1 h4
theorem sum_pos_mem {α : Type} {g : α → Int} : ∀ (xs : List α), (∀ x ∈ xs, 0 ≤ g x) → 0 < (xs.map g).sum → ∃ x ∈ xs, g x ≠ 0
  | [], _, h => by simp at h
  | x :: xs, h0, h => by
    by_cases e : g x = 0
    · rw [List.map_cons, List.sum_cons, e, Int.zero_add] at h
      obtain ⟨y, hy, hg⟩ := sum_pos_mem xs (fun y hy => h0 y (List.mem_cons_of_mem _ hy)) h
      exact ⟨y, List.mem_cons_of_mem _ hy, hg⟩
    · exact ⟨x, List.mem_cons_self, e⟩
theorem sum_ge_mem {α : Type} {g : α → Int} : ∀ (xs : List α), (∀ x ∈ xs, 0 ≤ g x) → 0 ≤ (xs.map g).sum ∧ ∀ x ∈ xs, g x ≤ (xs.map g).sum
  | [], _ => by simp
  | x :: xs, h0 => by
    obtain ⟨h1, h2⟩ := sum_ge_mem xs fun y hy => h0 y (List.mem_cons_of_mem _ hy)
    have h3 := h0 x List.mem_cons_self
    rw [List.map_cons, List.sum_cons]
    refine ⟨by omega, fun y hy => ?_⟩
    rcases List.mem_cons.mp hy with rfl | hy
    · omega
    · have := h2 y hy; omega
theorem hst_le {m : Nat} {c : Nat → Nat} : ∀ n, ∀ x ∈ hst m c n, x ≤ n
  | 0, x, hx => by have := (List.mem_replicate.mp hx).2; omega
  | n + 1, x, hx => by
    have ih := hst_le (m := m) (c := c) n
    have : ∀ (h : List Nat) (j : Nat), (∀ y ∈ h, y ≤ n) → ∀ y ∈ addAt j h, y ≤ n + 1 := by
      intro h
      induction h with
      | nil => intro j _ y hy; simp [addAt] at hy
      | cons z h ih2 =>
        intro j hz y hy
        have hz0 := hz z List.mem_cons_self
        cases j with
        | zero =>
          rcases List.mem_cons.mp hy with rfl | hy
          · omega
          · have := hz y (List.mem_cons_of_mem _ hy); omega
        | succ j =>
          rcases List.mem_cons.mp hy with rfl | hy
          · omega
          · exact ih2 j (fun y hy => hz y (List.mem_cons_of_mem _ hy)) y hy
    exact this _ _ ih x hx
theorem flown_keys {m n : Nat} (hn : n < 7) {c : Nat → Nat} (hc : ∀ i, c i ≤ m) {b : Nat} {r : List Int × Int} (hr : r ∈ flownL (hst m c n) b) : KOk m n r.1 ∧ 0 < r.2 := by
  obtain ⟨q, hq, rfl⟩ := List.mem_map.mp hr
  obtain ⟨hq1, hq2⟩ := List.mem_filter.mp hq
  have hq2 := of_decide_eq_true hq2
  have hpos := rows_pos (hst m c n) [([], b, 1)] (fun x hx => by have := hst_le n x hx; omega) (by simp) q hq1
  have hs := rowsF_sum (hst m c n) b fun t => if t = q.1 then 1 else 0
  rw [← chs_cls hc] at hs
  have hnn : ∀ x ∈ rowsF (hst m c n) b, 0 ≤ endR (fun t => if t = q.1 then 1 else 0) x := by
    intro x _
    unfold endR
    dsimp only
    split
    · split <;> simp
    · omega
  have h1 := (sum_ge_mem _ hnn).2 q hq1
  have h2 : endR (fun t => if t = q.1 then 1 else 0) q = (q.2.2 : Int) := by
    unfold endR
    rw [if_pos hq2]; simp
  obtain ⟨s, hs1, hs2⟩ := sum_pos_mem (g := fun s => if cls m c s = q.1 then (1 : Int) else 0) (chs n b) (fun x _ => by split <;> omega) (by
    have : ((chs n b).map fun s => if cls m c s = q.1 then (1 : Int) else 0).sum = ((rowsF (hst m c n) b).map (endR fun t => if t = q.1 then 1 else 0)).sum := hs.symm
    rw [this]; omega)
  have e : cls m c s = q.1 := by
    by_cases z : cls m c s = q.1
    · exact z
    · simp [z] at hs2
  refine ⟨⟨nxt m c s, fun i => ?_, ?_⟩, by show (0 : Int) < (q.2.2 : Int); omega⟩
  · unfold nxt
    have := hc i
    split <;> omega
  · show laterZ (hst m c n) q.1 = _
    rw [← e, laterZ_hst hc (mem_chs.mp hs1).1]
theorem stepB_keys {m n : Nat} (hn : n < 7) {b : Nat} : ∀ (st t : List (List Int × Int)), (∀ q ∈ st, KOk m n q.1) → (∀ q ∈ t, KOk m n q.1) → ∀ q ∈ st.foldl (stepB1 b) t, KOk m n q.1
  | [], t, _, h => h
  | q :: st, t, hp, h => stepB_keys hn st _ (fun x hx => hp x (List.mem_cons_of_mem _ hx)) (bumps_keys (ok := fun _ => true) (g := fun r : List Int × Int => r.1) (w := fun r => q.2 * r.2) (P := KOk m n) _ _ h fun r hr _ => by
    obtain ⟨c, hc, e⟩ := hp q List.mem_cons_self
    rw [e] at hr
    unfold flownZ at hr
    rw [nZ_zN] at hr
    exact (flown_keys hn hc hr).1)
theorem stepB_cnt {m n : Nat} (hn : n < 7) {b : Nat} : ∀ (st t : List (List Int × Int)), (∀ q ∈ st, KOk m n q.1) → (∀ q ∈ st, 0 < q.2) → Cnt t → Cnt (st.foldl (stepB1 b) t)
  | [], t, _, _, h => h
  | q :: st, t, hk, hp, h => stepB_cnt hn st _ (fun x hx => hk x (List.mem_cons_of_mem _ hx)) (fun x hx => hp x (List.mem_cons_of_mem _ hx)) (bumps_cnt _ _ (fun r hr => by
    obtain ⟨c, hc, e⟩ := hk q List.mem_cons_self
    rw [e] at hr
    unfold flownZ at hr
    rw [nZ_zN] at hr
    exact Int.mul_pos (hp q List.mem_cons_self) (flown_keys hn hc hr).2) h)
def stB (m n : Nat) (board : List Nat) : List (List Int × Int) := board.foldl stepB [((n : Int) :: List.replicate m 0, 1)]
theorem hst_start {m : Nat} : ∀ n, hst m (fun _ => 0) n = n :: List.replicate m 0
  | 0 => by rw [hst, List.replicate_succ]
  | n + 1 => by rw [hst, hst_start n]; rfl
theorem start_key {m n : Nat} : ((n : Int) :: List.replicate m 0) = zN (hst m (fun _ => 0) n) := by
  rw [hst_start]; simp [zN]
structure SOk (m n : Nat) (st : List (List Int × Int)) (us : List (List Int)) : Prop where
  cnt : Cnt st
  key : ∀ q ∈ st, KOk m n q.1
  tot : ∀ f : List Int → Int, totX st f = (us.map fun u => f (hz m u)).sum
theorem SOk.step {m n : Nat} (hn : n < 7) {st : List (List Int × Int)} {us : List (List Int)} (h : SOk m n st us) (hu : ∀ u ∈ us, UOk n u) (b : Nat) : SOk m n (stepB st b) (us.flatMap fun u => (chs n b).map (useAdd u)) := by
  refine ⟨stepB_cnt hn st [] h.key h.cnt.pos Cnt.nil, stepB_keys hn st [] h.key (by simp), fun f => ?_⟩
  unfold stepB
  rw [stepB_tot f st [] (by simp), h.tot, sum_flatMap]
  have : totX ([] : List (List Int × Int)) f = 0 := rfl
  rw [this, Int.zero_add]
  congr 1
  apply List.map_congr_left
  intro u hm
  obtain ⟨h1, h2⟩ := hu u hm
  unfold flownZ hz
  rw [nZ_zN, h1, flown_chs (fun i => clu_le i), List.map_map]
  congr 1
  apply List.map_congr_left
  intro s _
  show _ = f (hz m (useAdd u s))
  rw [hz_add h2, h1]
theorem SOk.fold {m n : Nat} (hn : n < 7) : ∀ (board : List Nat) (st : List (List Int × Int)) (us : List (List Int)), SOk m n st us → (∀ u ∈ us, UOk n u) → SOk m n (board.foldl stepB st) (usesF n board us)
  | [], st, us, h, _ => h
  | b :: board, st, us, h, hu => SOk.fold hn board _ _ (h.step hn hu b) fun u hm => by
    obtain ⟨v, hv, hm⟩ := List.mem_flatMap.mp hm
    obtain ⟨s, hs, rfl⟩ := List.mem_map.mp hm
    exact uok_add (hu v hv)
theorem stB_ok {m n : Nat} (hn : n < 7) (board : List Nat) : SOk m n (stB m n board) (usesL n board) := by
  refine SOk.fold hn board _ _ ⟨Cnt.one, fun q hq => ?_, fun f => ?_⟩ fun v hv => by simp at hv; subst hv; exact uok_zero
  · simp at hq; subst hq
    exact ⟨fun _ => 0, fun _ => Nat.zero_le _, start_key⟩
  · have e : hz m (List.replicate n 0) = (n : Int) :: List.replicate m 0 := by
      rw [start_key]
      unfold hz
      rw [List.length_replicate]
      congr 1
      apply hst_congr
      intro i _
      unfold clu
      rw [List.getD_eq_getElem?_getD, List.getElem?_replicate]
      split <;> simp
    simp [totX, e]
/-! ### how many keys -/
def cmps : Nat → Nat → List (List Nat)
  | 0, n => [[n]]
  | m + 1, n => (List.range (n + 1)).flatMap fun a => (cmps m (n - a)).map fun l => a :: l
def cmpn : Nat → Nat → Nat
  | 0, _ => 1
  | m + 1, n => ((List.range (n + 1)).map fun a => cmpn m (n - a)).sum
theorem cmps_len : ∀ m n, (cmps m n).length = cmpn m n
  | 0, n => rfl
  | m + 1, n => by
    rw [cmps, cmpn, List.length_flatMap]
    congr 1
    apply List.map_congr_left
    intro a _
    rw [List.length_map, cmps_len m]
theorem cmps_mem : ∀ (m n : Nat) (h : List Nat), h.length = m + 1 → h.sum = n → h ∈ cmps m n
  | 0, n, [x], _, hs => by simp at hs; simp [cmps, hs]
  | 0, n, [], hl, _ => by simp at hl
  | 0, n, _ :: _ :: _, hl, _ => by simp at hl
  | m + 1, n, [], hl, _ => by simp at hl
  | m + 1, n, x :: h, hl, hs => by
    simp at hl hs
    rw [cmps, List.mem_flatMap]
    exact ⟨x, List.mem_range.mpr (by omega), List.mem_map.mpr ⟨h, cmps_mem m (n - x) h hl (by omega), rfl⟩⟩
theorem cmpn_le : ∀ m < 11, ∀ n < 7, cmpn m n ≤ 8008 := by decide +kernel
theorem addAt_sum : ∀ (j : Nat) (h : List Nat), j < h.length → (addAt j h).sum = h.sum + 1
  | _, [], hj => by simp at hj
  | 0, x :: h, _ => by simp [addAt]; omega
  | j + 1, x :: h, hj => by simp [addAt, addAt_sum j h (by simpa using hj)]; omega
theorem hst_sum {m : Nat} {c : Nat → Nat} (hc : ∀ i, c i ≤ m) : ∀ n, (hst m c n).sum = n
  | 0 => by simp [hst]
  | n + 1 => by rw [hst, addAt_sum _ _ (by rw [hst_len]; have := hc n; omega), hst_sum hc n]
theorem keys_few {m n : Nat} (hm : m < 11) (hn : n < 7) {st : List (List Int × Int)} (hd : (st.map (·.1)).Nodup) (hk : ∀ q ∈ st, KOk m n q.1) : st.length ≤ 8008 := by
  have h := hd.length_le_of_subset (l₂ := (cmps m n).map zN) (fun k hk' => by
    obtain ⟨q, hq, rfl⟩ := List.mem_map.mp hk'
    obtain ⟨c, hc, e⟩ := hk q hq
    rw [e]
    exact List.mem_map.mpr ⟨_, cmps_mem m n _ (hst_len n) (hst_sum hc n), rfl⟩)
  rw [List.length_map, List.length_map, cmps_len] at h
  exact Nat.le_trans h (cmpn_le m hm n hn)
end Dn

namespace Dn
open PySem L2
/-! ### walks over objects, and the heap -/
section
variable {Φ : RS → Prop} {ρ ρ' : En} {S S1 : MS} {g g1 g2 : En → MS → RS} {p : Pat}
theorem forO_pre {α : Type} (inj : α → D) {b : D → En → MS → RS} {src : Src} {all : List α} (I : List α → En → MS → Prop) (hsrc : ∀ pre ρ S, I pre ρ S → ∀ k, src S k = some (all.map inj)[k]?) : ∀ (xs pre : List α), all = pre ++ xs → (∀ q a post ρ S, xs = q ++ a :: post → I (pre ++ q) ρ S → NxS (I (pre ++ q ++ [a])) (b (inj a) ρ S)) → ∀ ρ S, I pre ρ S → NxS (I (pre ++ xs)) (forO src b xs.length pre.length ρ S)
  | [], pre, ea, _, ρ, S, h => by
    refine ⟨ρ, S, ?_, by rw [List.append_nil]; exact h⟩
    show forO src b 0 pre.length ρ S = _
    unfold forO
    rw [hsrc pre ρ S h]
    have : (all.map inj)[pre.length]? = none := by
      rw [ea, List.append_nil]; simp
    rw [this]
  | a :: xs, pre, ea, h, ρ, S, hi => by
    obtain ⟨ρ1, S1, e, i1⟩ := h [] a xs ρ S rfl (by rw [List.append_nil]; exact hi)
    rw [List.append_nil] at i1
    obtain ⟨ρ2, S2, e2, i2⟩ := forO_pre inj (b := b) (src := src) I hsrc xs (pre ++ [a]) (by rw [ea]; simp) (fun q c post ρ S e hI => by
      have := h (a :: q) c post ρ S (by rw [e]; rfl) (by rw [List.append_cons]; exact hI)
      rw [List.append_cons pre a q] at this
      exact this) ρ1 S1 i1
    refine ⟨ρ2, S2, ?_, by rw [List.append_cons]; exact i2⟩
    have hk : (all.map inj)[pre.length]? = some (inj a) := by rw [ea]; simp
    show forO src b (xs.length + 1) pre.length ρ S = _
    unfold forO
    rw [hsrc pre ρ S hi, hk]
    simp only [e, RS.loop]
    rw [List.length_append] at e2
    exact e2
theorem st_forOP {α : Type} {it : En → MS → R (Src × Nat)} {src : Src} (inj : α → D) (xs : List α) (I : List α → En → MS → Prop) (h : it ρ S = .ok (src, xs.length) S1) (hsrc : ∀ pre ρ S, I pre ρ S → ∀ k, src S k = some (xs.map inj)[k]?) (h0 : I [] ρ S1) (step : ∀ pre a post ρ S, xs = pre ++ a :: post → I pre ρ S → NxS (I (pre ++ [a])) (forB p g (inj a) ρ S)) : NxS (I xs) (sForO it p g ρ S) := by
  obtain ⟨ρ', S', e, q⟩ := forO_pre inj (b := forB p g) (all := xs) I hsrc xs [] rfl (fun q a post ρ S e hI => step q a post ρ S e hI) ρ S1 h0
  exact ⟨ρ', S', by unfold sForO; rw [h]; exact e, q⟩
theorem nx_ex {f : En → MS → R D} {d : D} {Q : En → MS → Prop} (h : f ρ S = .ok d S1) (k : Q ρ S1) : NxS Q (sEx f ρ S) := ⟨ρ, S1, by unfold sEx; rw [h]; rfl, k⟩
theorem nx_if {c : En → MS → R Bool} {b : Bool} {Q : En → MS → Prop} (h : c ρ S = .ok b S1) (k1 : b = true → NxS Q (g1 ρ S1)) (k2 : b = false → NxS Q (g2 ρ S1)) : NxS Q (sIf c g1 g2 ρ S) := by
  cases b with
  | true => exact st_ift (Φ := NxS Q) h (k1 rfl)
  | false => exact st_ifl (Φ := NxS Q) h (k2 rfl)
end
theorem pre_get {S T : MS} (h : S <+: T) {i : Nat} (hi : i < S.length) : T[i]? = S[i]? := by
  obtain ⟨r, rfl⟩ := h
  rw [List.getElem?_append_left hi]
theorem pre_set {S T : MS} (h : S <+: T) {i : Nat} (hi : S.length ≤ i) {o : MO} : S <+: T.set i o := by
  obtain ⟨r, rfl⟩ := h
  rw [List.set_append_right _ _ hi]
  exact List.prefix_append _ _
theorem pre_len {S T : MS} (h : S <+: T) : S.length ≤ T.length := h.length_le
theorem app_at {S : MS} {n : Nat} {xs : List D} {d : D} (h : S[n]? = some (.lst xs)) (hl : xs.length < lim) : appD S (.obj n) [d] = some (.non, S.set n (.lst (xs ++ [d]))) := by
  unfold appD; simp only [h, if_pos hl]
theorem ty_at {S : MS} {n : Nat} {xs : List D} (h : S[n]? = some (.lst xs)) : tyM S (.obj n) "list" = true := by
  unfold tyM; simp only [h]; rfl
theorem app_go {fo : En → MS → R D} {fs : En → MS → R (List D)} {ρ : En} {S S1 : MS} {n : Nat} {xs : List D} {d : D} (h1 : fo ρ S = .ok (.obj n) S) (h2 : fs ρ S = .ok [d] S1) (hS : S[n]? = some (.lst xs)) (hS1 : S1[n]? = some (.lst xs)) (hl : xs.length < lim) : eBM "list" appD fo fs ρ S = .ok .non (S1.set n (.lst (xs ++ [d]))) := by
  unfold eBM
  rw [h1, bind_ok, if_pos (ty_at hS), h2, bind_ok, app_at hS1 hl]; rfl
theorem ixN_nat {n k : Nat} (h : k < n) : ixN n (k : Int) = some k := by
  unfold ixN
  rw [if_pos (by omega), if_pos (by omega)]; simp
theorem ixO_at {S : MS} {n : Nat} {l : List Int} {k : Nat} (h : S[n]? = some (.lst (l.map .int))) (hk : k < l.length) : ixO S (.obj n) (.int (k : Int)) = some (.int (l.getD k 0)) := by
  unfold ixO
  simp only [h]
  unfold atI
  rw [List.length_map, ixN_nat hk]
  show (l.map D.int)[k]? = _
  rw [List.getElem?_map, List.getD_eq_getElem?_getD, List.getElem?_eq_getElem hk]; rfl
theorem putL_at {S : MS} {n : Nat} {l : List Int} {k : Nat} {v : Int} (h : S[n]? = some (.lst (l.map .int))) (hk : k < l.length) : putL S (.obj n) (.int (k : Int)) (.int v) = some (S.set n (.lst ((l.set k v).map .int))) := by
  unfold putL
  simp only [h, List.length_map, ixN_nat hk, List.map_set]
theorem aug_go {fo fi fv : En → MS → R D} {ρ : En} {S : MS} {n k : Nat} {l : List Int} {v : Int} (h1 : fo ρ S = .ok (.obj n) S) (h2 : fi ρ S = .ok (.int (k : Int)) S) (h3 : fv ρ S = .ok (.int v) S) (h : S[n]? = some (.lst (l.map .int))) (hk : k < l.length) : sAugL addI fo fi fv ρ S = .nx ρ (S.set n (.lst ((addv k v l).map .int))) := by
  unfold sAugL
  rw [h1, bindS_ok, h2, bindS_ok, ixO_at h hk]
  show ((fv ρ S).bindS ρ _) = _
  rw [h3, bindS_ok]
  show (match putL S (.obj n) (.int (k : Int)) (.int (l.getD k 0 + v)) with | some S6 => RS.nx ρ S6 | none => RS.bad) = _
  rw [putL_at h hk]
  rfl
theorem objSrc_at {S : MS} {n : Nat} {xs : List D} (h : S[n]? = some (.lst xs)) : objSrc S (.obj n) = some (srcO n, xs.length) := by
  unfold objSrc; simp only [h]
theorem srcO_at {S : MS} {n : Nat} {xs : List D} (h : S[n]? = some (.lst xs)) (k : Nat) : srcO n S k = some xs[k]? := by
  unfold srcO; simp only [h]
theorem enumSrc_at {S : MS} {n : Nat} {xs : List D} (h : S[n]? = some (.lst xs)) : enumSrc S [.obj n] = some (srcE n, xs.length) := by
  unfold enumSrc; simp only [h]
theorem srcE_at {S : MS} {n : Nat} {xs : List D} (h : S[n]? = some (.lst xs)) (k : Nat) : srcE n S k = some (enumL xs)[k]? := by
  unfold srcE; simp only [h, enumL_get]
theorem lenD_at {S : MS} {n : Nat} {xs : List D} (h : S[n]? = some (.lst xs)) : lenD S [.obj n] = some (.int xs.length) := by
  simp [lenD, rdQ, rdL, h]
theorem tupD_at {S : MS} {n : Nat} {xs : List D} (h : S[n]? = some (.lst xs)) : tupD S [.obj n] = some (.tup xs) := by
  simp [tupD, rdL, h]
theorem ixD_at {S : MS} {n : Nat} {xs : List D} {j : Int} (h : S[n]? = some (.lst xs)) : ixD S (.obj n) (.int j) = atI xs j := by
  simp [ixD, rdQ, rdL, h]
theorem maxA_two {S : MS} {i j : Int} : maxA S [.int i, .int j] = some (.int (if j > i then j else i)) := rfl
theorem minA_two {S : MS} {i j : Int} : minA S [.int i, .int j] = some (.int (if j < i then j else i)) := rfl
theorem enum_pl (cs : List Int) : enumL (cs.map .int) = (pl cs.length).map fun x => .tup [.int x, .int (nth cs x)] := by
  rw [enumL_map, zipIdx_range, List.map_map]
  simp [pl, Function.comp_def]
theorem rng_pl {n : Nat} (h : n ≤ 1000) : rng1 [.int n] = some ((pl n).map .int) := by
  rw [rng1_a (by unfold big; omega) (by unfold big; omega)]
  simp [intsD, pl, Function.comp_def]
theorem pl_pre {n : Nat} {pre post : List Int} {a : Int} (h : pl n = pre ++ a :: post) : pre = pl pre.length ∧ pre.length < n ∧ a = pre.length := by
  have hl := congrArg List.length h
  rw [pl_len] at hl
  simp at hl
  have h1 : pre.length < n := by omega
  have hg : ∀ i, i < n → (pl n)[i]? = some (i : Int) := by intro i hi; simp [pl, List.getElem?_range hi]
  refine ⟨?_, h1, ?_⟩
  · apply List.ext_getElem
    · rw [pl_len]
    · intro i h2 h3
      have := hg i (by omega)
      rw [h, List.getElem?_append_left h2, List.getElem?_eq_getElem h2] at this
      have := Option.some.inj this
      rw [this]
      simp [pl]
  · have := hg pre.length h1
    rw [h] at this
    simpa using this
/-! ### bounds of the rows -/
theorem rows_bnd : ∀ (h : List Nat) (rows : List Row) (B L k : Nat), (∀ x ∈ h, x < 7) → (∀ r ∈ rows, r.2.2 ≤ B ∧ r.1.length = L ∧ r.2.1 ≤ k) → ∀ r ∈ h.foldl stepR rows, r.2.2 ≤ B * 20 ^ h.length ∧ r.1.length = L + h.length ∧ r.2.1 ≤ k
  | [], rows, B, L, k, _, hr => by simpa using hr
  | x :: h, rows, B, L, k, hx, hr => by
    have ih := rows_bnd h (stepR rows x) (B * 20) (L + 1) k (fun y hy => hx y (List.mem_cons_of_mem _ hy)) (by
      intro r hm
      obtain ⟨q, hq, hm⟩ := List.mem_flatMap.mp hm
      obtain ⟨t, ht, rfl⟩ := List.mem_map.mp hm
      obtain ⟨h1, h2, h3⟩ := hr q hq
      have h4 := List.mem_range.mp ht
      have h5 := hx x List.mem_cons_self
      refine ⟨Nat.mul_le_mul h1 (bin_le x h5 t (by omega)), by simp [h2], by show q.2.1 - t ≤ k; omega⟩)
    intro r hm
    obtain ⟨h1, h2, h3⟩ := ih r hm
    refine ⟨?_, ?_, h3⟩
    · rw [List.length_cons, Nat.pow_succ]
      rw [Nat.mul_assoc, Nat.mul_comm 20] at h1
      exact h1
    · rw [List.length_cons]; omega
theorem two_ge : ∀ x : Nat, x + 1 ≤ 2 ^ x
  | 0 => by simp
  | x + 1 => by have := two_ge x; rw [Nat.pow_succ]; omega
theorem stepR_len (x : Nat) : ∀ rows : List Row, (stepR rows x).length ≤ rows.length * 2 ^ x
  | [] => by simp [stepR]
  | r :: rows => by
    have ih := stepR_len x rows
    have e : stepR (r :: rows) x = ((List.range (min x r.2.1 + 1)).map fun now => (r.1 ++ [now], r.2.1 - now, r.2.2 * bin x now)) ++ stepR rows x := rfl
    rw [e, List.length_append, List.length_map, List.length_range, List.length_cons, Nat.add_mul, Nat.one_mul]
    have h2 := two_ge x
    omega
theorem rows_few : ∀ (h : List Nat) (rows : List Row), (h.foldl stepR rows).length ≤ rows.length * 2 ^ h.sum
  | [], rows => by simp
  | x :: h, rows => by
    have h1 := rows_few h (stepR rows x)
    have h2 := stepR_len x rows
    rw [List.foldl_cons, List.sum_cons, Nat.pow_add, ← Nat.mul_assoc]
    exact Nat.le_trans h1 (Nat.mul_le_mul_right _ h2)
end Dn

namespace Dn
open PySem L2
/-! ### how many ways keep so many -/
def keptN (m : Nat) (u : List Int) : Nat := (u.filter fun x => decide ((m : Int) ≤ x)).length
theorem hst_get {m : Nat} {c : Nat → Nat} {i : Nat} (hi : i < m + 1) : ∀ n, (hst m c n).getD i 0 = ((List.range n).filter fun k => decide (c k = i)).length
  | 0 => by rw [hst_zero]; rfl
  | n + 1 => by
    rw [hst, addAt_get _ _ _ (by rw [hst_len]; exact hi), hst_get hi n, List.range_succ, List.filter_append, List.length_append]
    congr 1
    by_cases e : i = c n
    · simp [e]
    · rw [if_neg e, List.filter_cons, if_neg (by simp; exact fun z => e z.symm)]; rfl
theorem list_range_getD (u : List Int) : (List.range u.length).map (fun i => u.getD i 0) = u := by
  apply List.ext_getElem
  · simp
  · intro i h1 h2
    simp [List.getElem?_eq_getElem h2]
theorem hz_last {m : Nat} {u : List Int} (hu : ∀ x ∈ u, 0 ≤ x) : ((hz m u).getD m 0).toNat = keptN m u := by
  unfold hz keptN
  rw [zN_get, Int.toNat_natCast, hst_get (by omega)]
  conv => rhs; rw [← list_range_getD u, List.filter_map, List.length_map]
  congr 1
  apply List.filter_congr
  intro i hi
  have hi := List.mem_range.mp hi
  have h0 : 0 ≤ u.getD i 0 := by
    rw [List.getD_eq_getElem?_getD, List.getElem?_eq_getElem hi]
    exact hu _ (List.getElem_mem hi)
  show decide (clu m u i = m) = decide ((m : Int) ≤ u.getD i 0)
  unfold clu
  congr 1
  apply propext
  omega
def foundF (m : Nat) (st : List (List Int × Int)) (l : List Int) : List Int := st.foldl (fun l q => addv (q.1.getD m 0).toNat q.2 l) l
theorem foundF_len {m : Nat} : ∀ (st : List (List Int × Int)) (l : List Int), (foundF m st l).length = l.length
  | [], l => rfl
  | q :: st, l => by
    show (foundF m st (addv _ _ l)).length = _
    rw [foundF_len st, addv_len]
theorem foundF_get {m : Nat} {j : Nat} : ∀ (st : List (List Int × Int)) (l : List Int), (∀ q ∈ st, (q.1.getD m 0).toNat < l.length) → (foundF m st l).getD j 0 = l.getD j 0 + totX st fun k => if (k.getD m 0).toNat = j then 1 else 0
  | [], l, _ => by simp [foundF, totX]
  | q :: st, l, h => by
    show (foundF m st (addv (q.1.getD m 0).toNat q.2 l)).getD j 0 = _
    rw [foundF_get st _ (fun x hx => by rw [addv_len]; exact h x (List.mem_cons_of_mem _ hx)), addv_get (h q List.mem_cons_self), totX_cons]
    split <;> simp <;> omega
def tabL (m n : Nat) (board : List Nat) : List Int := (List.range (n + 1)).map fun j => (((usesL n board).filter fun u => decide (keptN m u = j)).length : Int)
theorem KOk.last {m n : Nat} {k : List Int} (h : KOk m n k) : (k.getD m 0).toNat ≤ n := by
  obtain ⟨c, hc, rfl⟩ := h
  rw [zN_get, Int.toNat_natCast, hst_get (by omega)]
  exact Nat.le_trans (List.length_filter_le _ _) (by simp)
theorem found_tab {m n : Nat} (hn : n < 7) (board : List Nat) : foundF m (stB m n board) (List.replicate (n + 1) 0) = tabL m n board := by
  have hs := stB_ok (m := m) hn board
  apply ext_getD (d := 0)
  · rw [foundF_len]; simp [tabL]
  · intro j hj
    rw [foundF_len, List.length_replicate] at hj
    rw [foundF_get _ _ (fun q hq => by rw [List.length_replicate]; have := (hs.key q hq).last; omega), hs.tot]
    have e0 : (List.replicate (n + 1) (0 : Int)).getD j 0 = 0 := by
      rw [List.getD_eq_getElem?_getD, List.getElem?_replicate]
      split <;> rfl
    rw [e0, Int.zero_add]
    unfold tabL
    rw [List.getD_eq_getElem?_getD, List.getElem?_map, List.getElem?_range hj]
    show _ = ((((usesL n board).filter fun u => decide (keptN m u = j)).length : Nat) : Int)
    rw [sum_filter]
    congr 1
    apply List.map_congr_left
    intro u hu
    rw [hz_last (uses_ok hu).2]
    by_cases e : keptN m u = j <;> simp [e]
theorem keptN_le {m n : Nat} {u : List Int} (h : UOk n u) : keptN m u ≤ n := by
  unfold keptN
  rw [← h.1]
  exact List.length_filter_le _ _
theorem usesF_len {n : Nat} : ∀ (board : List Nat) (us : List (List Int)), (usesF n board us).length = us.length * board.foldl (fun w b => w * bin n b) 1
  | [], us => by simp [usesF]
  | b :: board, us => by
    show (usesF n board _).length = _
    rw [usesF_len board, List.length_flatMap]
    have e : (us.map fun u => ((chs n b).map (useAdd u)).length).sum = us.length * bin n b := by
      simp only [List.length_map, chs_len]
      rw [List.map_const', List.sum_replicate_nat]
    rw [e, List.foldl_cons, Nat.one_mul]
    have g : ∀ (bs : List Nat) (w : Nat), bs.foldl (fun w b => w * bin n b) w = w * bs.foldl (fun w b => w * bin n b) 1 := by
      intro bs
      induction bs with
      | nil => intro w; simp
      | cons c bs ih => intro w; rw [List.foldl_cons, List.foldl_cons, ih, ih (1 * bin n c), Nat.one_mul, Nat.mul_assoc]
    rw [g board (bin n b), Nat.mul_assoc]
theorem uses_len {n : Nat} {board : List Nat} : (usesL n board).length = board.foldl (fun w b => w * bin n b) 1 := by
  unfold usesL; rw [usesF_len]; simp
end Dn

namespace Dn
open PySem L2
def wholeN (m n : Nat) (board : List Nat) : Nat := ((usesL n board).map (keptN m)).sum
def wholeI (tab : List Int) : Int := ((pl tab.length).map fun x => x * nth tab x).sum
theorem tabL_len {m n : Nat} {board : List Nat} : (tabL m n board).length = n + 1 := by simp [tabL]
theorem tabL_nth {m n : Nat} {board : List Nat} {j : Nat} (hj : j < n + 1) : nth (tabL m n board) (j : Int) = (((usesL n board).filter fun u => decide (keptN m u = j)).length : Int) := by
  unfold nth tabL
  rw [List.getD_eq_getElem?_getD, Int.toNat_natCast, List.getElem?_map, List.getElem?_range hj]
  rfl
theorem sum_cast {α : Type} (f : α → Nat) : ∀ xs : List α, (((xs.map f).sum : Nat) : Int) = (xs.map fun x => (f x : Int)).sum
  | [] => rfl
  | x :: xs => by rw [List.map_cons, List.sum_cons, List.map_cons, List.sum_cons, ← sum_cast f xs]; push_cast; rfl
theorem sum_pick {n k : Nat} (hk : k < n) (f : Nat → Int) : ((List.range n).map fun j => if k = j then f j else 0).sum = f k := by
  induction n with
  | zero => omega
  | succ n ih =>
    rw [range_sum_last]
    by_cases e : k = n
    · subst e
      have : ((List.range k).map fun j => if k = j then f j else 0) = (List.range k).map fun _ => (0 : Int) := by
        apply List.map_congr_left
        intro a ha
        have := List.mem_range.mp ha
        rw [if_neg (by omega)]
      rw [this, sum_map_zero, if_pos rfl]; omega
    · rw [ih (by omega), if_neg e]; omega
theorem whole_eq {m n : Nat} {board : List Nat} : wholeI (tabL m n board) = (wholeN m n board : Int) := by
  unfold wholeI wholeN
  rw [tabL_len, sum_cast]
  unfold pl
  rw [List.map_map]
  have e : ((List.range (n + 1)).map ((fun x => x * nth (tabL m n board) x) ∘ fun (i : Nat) => (i : Int))) = (List.range (n + 1)).map fun j => ((usesL n board).map fun u => if keptN m u = j then (j : Int) else 0).sum := by
    apply List.map_congr_left
    intro j hj
    have hj := List.mem_range.mp hj
    show (j : Int) * nth (tabL m n board) (j : Int) = _
    rw [tabL_nth hj, sum_filter, ← sum_map_mul]
    congr 1
    apply List.map_congr_left
    intro u _
    by_cases z : keptN m u = j <;> simp [z]
  rw [e, sum_swap]
  congr 1
  apply List.map_congr_left
  intro u hu
  have := keptN_le (m := m) (uses_ok hu)
  exact sum_pick (by omega) fun j => (j : Int)
def thereL (m n : Nat) (board : List Nat) : List Int := (pl (n + 1)).filter fun x => decide (0 < nth (tabL m n board) x)
theorem mem_there {m n : Nat} {board : List Nat} {x : Int} : x ∈ thereL m n board ↔ ∃ u ∈ usesL n board, (keptN m u : Int) = x := by
  unfold thereL
  rw [List.mem_filter, mem_pl, decide_eq_true_eq]
  constructor
  · rintro ⟨⟨h0, h1⟩, h2⟩
    obtain ⟨k, rfl⟩ : ∃ k : Nat, x = k := ⟨x.toNat, by omega⟩
    rw [tabL_nth (by omega)] at h2
    have h3 : 0 < ((usesL n board).filter fun u => decide (keptN m u = k)).length := by omega
    obtain ⟨u, hu⟩ := List.exists_mem_of_length_pos h3
    rw [List.mem_filter, decide_eq_true_eq] at hu
    exact ⟨u, hu.1, by rw [hu.2]⟩
  · rintro ⟨u, hu, rfl⟩
    have := keptN_le (m := m) (uses_ok hu)
    refine ⟨by omega, ?_⟩
    rw [tabL_nth (by omega)]
    have : u ∈ (usesL n board).filter fun v => decide (keptN m v = keptN m u) := List.mem_filter.mpr ⟨hu, by simp⟩
    have := List.length_pos_of_mem this
    omega
theorem ways_pos {n : Nat} (hn : n < 7) : ∀ (board : List Nat) (w : Nat), (∀ b ∈ board, b ≤ n) → 1 ≤ w → 1 ≤ board.foldl (fun w b => w * bin n b) w
  | [], w, _, h => h
  | b :: board, w, hb, h => ways_pos hn board _ (fun x hx => hb x (List.mem_cons_of_mem _ hx)) (by
    have h1 := hb b List.mem_cons_self
    have := bin_pos n hn b (by omega) h1
    exact Nat.mul_le_mul h this)
theorem ways_le {n : Nat} (hn : n < 7) : ∀ (board : List Nat) (w : Nat), (∀ b ∈ board, b ≤ n) → board.foldl (fun w b => w * bin n b) w ≤ w * 20 ^ board.length
  | [], w, _ => by simp
  | b :: board, w, hb => by
    have h1 := hb b List.mem_cons_self
    have h2 := bin_le n hn b (by omega)
    have h3 := ways_le hn board (w * bin n b) fun x hx => hb x (List.mem_cons_of_mem _ hx)
    rw [List.foldl_cons, List.length_cons, Nat.pow_succ, Nat.mul_comm (20 ^ _), ← Nat.mul_assoc]
    exact Nat.le_trans h3 (Nat.mul_le_mul_right _ (Nat.mul_le_mul_left _ h2))
theorem there_ne {m n : Nat} (hn : n < 7) {board : List Nat} (hb : ∀ b ∈ board, b ≤ n) : thereL m n board ≠ [] := by
  have h1 := ways_pos hn board 1 hb (by omega)
  rw [← uses_len] at h1
  obtain ⟨u, hu⟩ := List.exists_mem_of_length_pos (show 0 < (usesL n board).length by omega)
  intro e
  have := (mem_there (m := m)).mpr ⟨u, hu, rfl⟩
  rw [e] at this
  simp at this
theorem whole_le {m n : Nat} {board : List Nat} : wholeN m n board ≤ n * (usesL n board).length := by
  unfold wholeN
  have : ∀ us : List (List Int), (∀ u ∈ us, UOk n u) → (us.map (keptN m)).sum ≤ n * us.length := by
    intro us
    induction us with
    | nil => intro _; simp
    | cons u us ih =>
      intro h
      have h1 := ih fun v hv => h v (List.mem_cons_of_mem _ hv)
      have h2 := keptN_le (m := m) (h u List.mem_cons_self)
      rw [List.map_cons, List.sum_cons, List.length_cons, Nat.mul_add]; omega
  exact this _ fun u hu => uses_ok hu
/-- the loop of a greatest divisor -/
theorem while_gcd {c : En → MS → R Bool} {g : En → MS → RS} {S : MS} (env : Int → Int → En) (hc : ∀ a b : Int, c (env a b) S = .ok (!decide (b = 0)) S) (hg : ∀ a b : Nat, b ≠ 0 → g (env a b) S = .nx (env (b : Int) ((a % b : Nat) : Int)) S) : ∀ (fuel a b : Nat), b < fuel → whileD c g fuel (env a b) S = .nx (env ((Nat.gcd a b : Nat) : Int) 0) S
  | 0, a, b, h => by omega
  | fuel + 1, a, b, h => by
    unfold whileD
    rw [hc, bindS_ok]
    by_cases e : b = 0
    · subst e
      simp
    · have e' : ¬ ((b : Int) = 0) := by omega
      simp only [e', decide_false, Bool.not_false, if_true]
      rw [hg a b e]
      show whileD c g fuel (env (b : Int) ((a % b : Nat) : Int)) S = _
      have hlt := Nat.mod_lt a (Nat.pos_of_ne_zero e)
      rw [while_gcd env hc hg fuel b (a % b) (by omega)]
      congr 2
      rw [Nat.gcd_comm b, ← Nat.gcd_rec, Nat.gcd_comm]
end Dn

namespace Dn
open PySem L2
/-! ### each number between the least and the most -/
inductive Cn {α : Type} (U : α → Prop) (R : α → α → Prop) : α → α → Prop
  | refl {a : α} : U a → Cn U R a a
  | rel {a b : α} : U a → U b → R a b → Cn U R a b
  | symm {a b : α} : Cn U R a b → Cn U R b a
  | trans {a b c : α} : Cn U R a b → Cn U R b c → Cn U R a c
theorem Cn.both {α : Type} {U : α → Prop} {R : α → α → Prop} {a b : α} (h : Cn U R a b) : U a ∧ U b := by
  induction h with
  | refl h => exact ⟨h, h⟩
  | rel h1 h2 _ => exact ⟨h1, h2⟩
  | symm _ ih => exact ⟨ih.2, ih.1⟩
  | trans _ _ i1 i2 => exact ⟨i1.1, i2.2⟩
theorem Cn.map {α β : Type} {U : α → Prop} {R : α → α → Prop} {V : β → Prop} {Q : β → β → Prop} (f : α → β) (hU : ∀ a, U a → V (f a)) (hR : ∀ a b, U a → U b → R a b → Q (f a) (f b)) {a b : α} (h : Cn U R a b) : Cn V Q (f a) (f b) := by
  induction h with
  | refl h => exact .refl (hU _ h)
  | rel h1 h2 r => exact .rel (hU _ h1) (hU _ h2) (hR _ _ h1 h2 r)
  | symm _ ih => exact .symm ih
  | trans _ _ i1 i2 => exact .trans i1 i2
theorem Cn.between {α : Type} {U : α → Prop} {R : α → α → Prop} {κ : α → Int} (hR : ∀ a b, U a → U b → R a b → κ a ≤ κ b + 1 ∧ κ b ≤ κ a + 1) {a b : α} (h : Cn U R a b) : ∀ j : Int, (κ a ≤ j ∧ j ≤ κ b) ∨ (κ b ≤ j ∧ j ≤ κ a) → ∃ w, U w ∧ κ w = j := by
  induction h with
  | refl h => intro j hj; exact ⟨_, h, by omega⟩
  | @rel a b h1 h2 r =>
    intro j hj
    have := hR _ _ h1 h2 r
    by_cases e : j = κ a
    · exact ⟨a, h1, e.symm⟩
    · exact ⟨b, h2, by omega⟩
  | symm _ ih => intro j hj; exact ih j (by omega)
  | @trans a b c h1 h2 i1 i2 =>
    intro j hj
    by_cases e : (κ a ≤ j ∧ j ≤ κ b) ∨ (κ b ≤ j ∧ j ≤ κ a)
    · exact i1 j e
    · exact i2 j (by omega)
/-- one in place of another one -/
def Sw (s t : List Int) : Prop := ∃ i k : Int, ∀ x : Int, (if x ∈ t then (1 : Int) else 0) + (if x = i then 1 else 0) = (if x ∈ s then 1 else 0) + if x = k then 1 else 0
theorem tail_sbs : ∀ {n : Nat} {s : List Int}, s ∈ sbs n → s.tail ∈ sbs n
  | 0, s, h => by simp [sbs] at h; subst h; simp [sbs]
  | n + 1, s, h => by
    simp only [sbs, List.mem_append, List.mem_map] at h ⊢
    rcases h with h | ⟨t, h, rfl⟩
    · exact .inl (tail_sbs h)
    · cases t with
      | nil =>
        left
        have : ∀ n, [] ∈ sbs n := by
          intro n
          induction n with
          | zero => simp [sbs]
          | succ n ih => simp [sbs, ih]
        exact this n
      | cons x t => exact .inr ⟨t, tail_sbs h, rfl⟩
theorem sbs_nodup : ∀ {n : Nat} {s : List Int}, s ∈ sbs n → s.Nodup
  | 0, s, h => by simp [sbs] at h; subst h; simp
  | n + 1, s, h => by
    simp only [sbs, List.mem_append, List.mem_map] at h
    rcases h with h | ⟨t, h, rfl⟩
    · exact sbs_nodup h
    · rw [List.nodup_append]
      exact ⟨sbs_nodup h, by simp, fun a ha b hb => by simp at hb; subst hb; have := sbs_rng h a ha; omega⟩
theorem mem_app {s : List Int} {n : Nat} (h : s ∈ sbs n) (x : Int) : (if x ∈ s ++ [(n : Int)] then (1 : Int) else 0) = (if x ∈ s then 1 else 0) + if x = n then 1 else 0 := by
  by_cases e : x = n
  · subst e
    have : ¬ (n : Int) ∈ s := fun z => by have := sbs_rng h _ z; omega
    simp [this]
  · by_cases z : x ∈ s <;> simp [z, e]
theorem chs_up {n b : Nat} {s : List Int} (h : s ∈ chs n b) : s ∈ chs (n + 1) b := by
  rw [mem_chs] at h ⊢
  exact ⟨by simp only [sbs, List.mem_append]; exact .inl h.1, h.2⟩
theorem chs_snoc {n b : Nat} {s : List Int} (h : s ∈ chs n b) : s ++ [(n : Int)] ∈ chs (n + 1) (b + 1) := by
  rw [mem_chs] at h ⊢
  refine ⟨?_, by simp [h.2]⟩
  simp only [sbs, List.mem_append, List.mem_map]
  exact .inr ⟨s, h.1, rfl⟩
theorem chs_cases {n b : Nat} {s : List Int} (h : s ∈ chs (n + 1) b) : s ∈ chs n b ∨ ∃ c t, b = c + 1 ∧ t ∈ chs n c ∧ s = t ++ [(n : Int)] := by
  rw [mem_chs] at h
  obtain ⟨h1, h2⟩ := h
  simp only [sbs, List.mem_append, List.mem_map] at h1
  rcases h1 with h1 | ⟨t, h1, rfl⟩
  · exact .inl (mem_chs.mpr ⟨h1, h2⟩)
  · refine .inr ⟨t.length, t, by simpa using h2.symm, mem_chs.mpr ⟨h1, rfl⟩, rfl⟩
theorem chs_conn : ∀ (n b : Nat) (s t : List Int), s ∈ chs n b → t ∈ chs n b → Cn (fun x => x ∈ chs n b) Sw s t
  | 0, b, s, t, hs, ht => by
    have e1 := (mem_chs.mp hs).1
    have e2 := (mem_chs.mp ht).1
    simp [sbs] at e1 e2
    subst e1; subst e2
    exact .refl hs
  | n + 1, b, s, t, hs, ht => by
    have up : ∀ {s t : List Int}, s ∈ chs n b → t ∈ chs n b → Cn (fun x => x ∈ chs (n + 1) b) Sw s t := fun {s t} h1 h2 => (chs_conn n b s t h1 h2).map id (fun _ => chs_up) fun _ _ _ _ r => r
    have sn : ∀ {c : Nat} {s t : List Int}, b = c + 1 → s ∈ chs n c → t ∈ chs n c → Cn (fun x => x ∈ chs (n + 1) b) Sw (s ++ [(n : Int)]) (t ++ [(n : Int)]) := fun {c s t} e h1 h2 => by
      subst e
      refine (chs_conn n c s t h1 h2).map (fun x => x ++ [(n : Int)]) (fun _ => chs_snoc) fun a b ha hb r => ?_
      obtain ⟨i, k, r⟩ := r
      refine ⟨i, k, fun x => ?_⟩
      have := r x
      rw [mem_app (mem_chs.mp ha).1, mem_app (mem_chs.mp hb).1]
      omega
    have mix : ∀ {c : Nat} {s t : List Int}, b = c + 1 → s ∈ chs n b → t ∈ chs n c → Cn (fun x => x ∈ chs (n + 1) b) Sw s (t ++ [(n : Int)]) := fun {c s t} e h1 h2 => by
      have hs' := mem_chs.mp h1
      cases s with
      | nil => simp at hs'; omega
      | cons y s =>
        have ht' : s ∈ chs n c := mem_chs.mpr ⟨tail_sbs hs'.1, by have := hs'.2; simp at this; omega⟩
        refine .trans (.rel (chs_up h1) (by rw [e]; exact chs_snoc ht') ⟨y, n, fun x => ?_⟩) (sn e ht' h2)
        rw [mem_app (mem_chs.mp ht').1]
        have nd := sbs_nodup hs'.1
        rw [List.nodup_cons] at nd
        by_cases e1 : x = y
        · subst e1
          simp [nd.1]
          omega
        · simp [e1]
    rcases chs_cases hs with h1 | ⟨c, s', e, h1, rfl⟩
    · rcases chs_cases ht with h2 | ⟨c, t', e, h2, rfl⟩
      · exact up h1 h2
      · exact mix e h1 h2
    · rcases chs_cases ht with h2 | ⟨c', t', e', h2, rfl⟩
      · exact .symm (mix e h2 h1)
      · have : c = c' := by omega
        subst this
        exact sn e h1 h2
/-- one use in place of another one -/
def Mv (u v : List Int) : Prop := u.length = v.length ∧ ∃ i k : Int, ∀ x : Nat, x < u.length → v.getD x 0 + (if (x : Int) = i then 1 else 0) = u.getD x 0 + if (x : Int) = k then 1 else 0
theorem kept_range (m : Nat) (u : List Int) : keptN m u = ((List.range u.length).filter fun x => decide ((m : Int) ≤ u.getD x 0)).length := by
  unfold keptN
  conv => lhs; rw [← list_range_getD u, List.filter_map, List.length_map]
  rfl
theorem filter_le_one {P Q : Nat → Bool} {k : Int} : ∀ n : Nat, (∀ x, x < n → P x = true → Q x = true ∨ (x : Int) = k) → ((List.range n).filter P).length ≤ ((List.range n).filter Q).length + if (0 ≤ k ∧ k < n) then 1 else 0
  | 0, _ => by simp
  | n + 1, h => by
    have ih := filter_le_one n fun x hx => h x (by omega)
    rw [List.range_succ, List.filter_append, List.filter_append, List.length_append, List.length_append]
    by_cases hp : P n = true
    · rcases h n (by omega) hp with hq | hk
      · simp [hp, hq]
        split at ih <;> split <;> omega
      · simp [hp]
        split at ih
        · omega
        · split <;> omega
    · simp [hp]
      split at ih <;> split <;> omega
theorem mv_kept {m : Nat} {u v : List Int} (h : Mv u v) : (keptN m u : Int) ≤ keptN m v + 1 ∧ (keptN m v : Int) ≤ keptN m u + 1 := by
  obtain ⟨hl, i, k, h⟩ := h
  rw [kept_range, kept_range, ← hl]
  constructor
  · have := filter_le_one (P := fun x => decide ((m : Int) ≤ u.getD x 0)) (Q := fun x => decide ((m : Int) ≤ v.getD x 0)) (k := i) u.length (by
      intro x hx hp
      have := h x hx
      simp only [decide_eq_true_eq] at hp ⊢
      by_cases e : (x : Int) = i
      · exact .inr e
      · left
        rw [if_neg e] at this
        split at this <;> omega)
    split at this <;> omega
  · have := filter_le_one (P := fun x => decide ((m : Int) ≤ v.getD x 0)) (Q := fun x => decide ((m : Int) ≤ u.getD x 0)) (k := k) u.length (by
      intro x hx hp
      have := h x hx
      simp only [decide_eq_true_eq] at hp ⊢
      by_cases e : (x : Int) = k
      · exact .inr e
      · left
        rw [if_neg e] at this
        split at this <;> omega)
    split at this <;> omega
theorem uses_conn {n : Nat} : ∀ (board : List Nat) (us : List (List Int)), (∀ u ∈ us, UOk n u) → (∀ u ∈ us, ∀ v ∈ us, Cn (fun x => x ∈ us) Mv u v) → ∀ u ∈ usesF n board us, ∀ v ∈ usesF n board us, Cn (fun x => x ∈ usesF n board us) Mv u v
  | [], us, _, h => h
  | b :: board, us, hu, h => by
    refine uses_conn board _ (fun u hm => ?_) ?_
    · obtain ⟨v, hv, hm⟩ := List.mem_flatMap.mp hm
      obtain ⟨s, hs, rfl⟩ := List.mem_map.mp hm
      exact uok_add (hu v hv)
    · intro u' hu' v' hv'
      obtain ⟨u, hu1, hu2⟩ := List.mem_flatMap.mp hu'
      obtain ⟨s, hs, rfl⟩ := List.mem_map.mp hu2
      obtain ⟨v, hv1, hv2⟩ := List.mem_flatMap.mp hv'
      obtain ⟨t, ht, rfl⟩ := List.mem_map.mp hv2
      have inU : ∀ w ∈ us, ∀ r ∈ chs n b, useAdd w r ∈ us.flatMap fun u => (chs n b).map (useAdd u) := fun w hw r hr => List.mem_flatMap.mpr ⟨w, hw, List.mem_map.mpr ⟨r, hr, rfl⟩⟩
      refine .trans ((h u hu1 v hv1).map (fun w => useAdd w s) (fun w hw => inU w hw s hs) fun a c ha hc r => ?_) ((chs_conn n b s t hs ht).map (fun r => useAdd v r) (fun r hr => inU v hv1 r hr) fun a c ha hc r => ?_)
      · obtain ⟨hl, i, k, r⟩ := r
        refine ⟨by rw [useAdd_len, useAdd_len]; exact hl, i, k, fun x hx => ?_⟩
        rw [useAdd_len] at hx
        have := r x hx
        rw [useAdd_get hx, useAdd_get (by omega)]
        omega
      · obtain ⟨i, k, r⟩ := r
        refine ⟨by rw [useAdd_len, useAdd_len], i, k, fun x hx => ?_⟩
        rw [useAdd_len] at hx
        have := r (x : Int)
        rw [useAdd_get hx, useAdd_get hx]
        omega
theorem there_between {m n : Nat} {board : List Nat} {a b j : Int} (ha : a ∈ thereL m n board) (hb : b ∈ thereL m n board) (h1 : a ≤ j) (h2 : j ≤ b) : j ∈ thereL m n board := by
  obtain ⟨u, hu, rfl⟩ := mem_there.mp ha
  obtain ⟨v, hv, rfl⟩ := mem_there.mp hb
  have hc := uses_conn board [List.replicate n 0] (fun w hw => by simp at hw; subst hw; exact uok_zero) (fun a ha b hb => by
    simp at ha hb; subst ha; subst hb; exact .refl (by simp)) u hu v hv
  obtain ⟨w, hw, e⟩ := hc.between (κ := fun u => (keptN m u : Int)) (fun a b _ _ r => mv_kept r) j (.inl ⟨h1, h2⟩)
  exact mem_there.mpr ⟨w, hw, e⟩
theorem ext_up : ∀ (xs ys : List Int), List.Pairwise (fun a b => a < b) xs → List.Pairwise (fun a b => a < b) ys → (∀ z, z ∈ xs ↔ z ∈ ys) → xs = ys
  | [], [], _, _, _ => rfl
  | [], y :: ys, _, _, h => by have := (h y).mpr List.mem_cons_self; simp at this
  | x :: xs, [], _, _, h => by have := (h x).mp List.mem_cons_self; simp at this
  | x :: xs, y :: ys, hx, hy, h => by
    rw [List.pairwise_cons] at hx hy
    have e : x = y := by
      rcases List.mem_cons.mp ((h x).mp List.mem_cons_self) with e | e
      · exact e
      · rcases List.mem_cons.mp ((h y).mpr List.mem_cons_self) with e' | e'
        · exact e'.symm
        · have := hx.1 y e'; have := hy.1 x e; omega
    subst e
    congr 1
    refine ext_up xs ys hx.2 hy.2 fun z => ?_
    constructor
    · intro hz
      rcases List.mem_cons.mp ((h z).mp (List.mem_cons_of_mem _ hz)) with e | e
      · have := hx.1 z hz; omega
      · exact e
    · intro hz
      rcases List.mem_cons.mp ((h z).mpr (List.mem_cons_of_mem _ hz)) with e | e
      · have := hy.1 z hz; omega
      · exact e
theorem pl_up (n : Nat) : List.Pairwise (fun a b => a < b) (pl n) := by
  unfold pl
  rw [List.pairwise_map]
  exact List.pairwise_lt_range.imp fun h => by omega
theorem there_up {m n : Nat} {board : List Nat} : List.Pairwise (fun a b => a < b) (thereL m n board) := (pl_up _).filter _
theorem there_ends {m n : Nat} {board : List Nat} (hne : thereL m n board ≠ []) : (∀ x ∈ thereL m n board, (thereL m n board).headD 0 ≤ x ∧ x ≤ (thereL m n board).getLastD 0) ∧ (thereL m n board).headD 0 ∈ thereL m n board ∧ (thereL m n board).getLastD 0 ∈ thereL m n board := by
  have hu := there_up (m := m) (n := n) (board := board)
  generalize thereL m n board = l at *
  cases l with
  | nil => exact absurd rfl hne
  | cons a l =>
    have e : (a :: l).getLastD 0 = (a :: l).getLast hne := by
      rw [List.getLastD_eq_getLast?, List.getLast?_eq_some_getLast hne]; rfl
    rw [e]
    refine ⟨fun x hx => ⟨?_, ?_⟩, by simp, List.getLast_mem hne⟩
    · rcases List.mem_cons.mp hx with rfl | hx
      · exact Int.le_refl _
      · exact Int.le_of_lt ((List.pairwise_cons.mp hu).1 x hx)
    · have h2 := List.dropLast_concat_getLast hne
      rw [← h2] at hx hu
      rw [List.pairwise_append] at hu
      rcases List.mem_append.mp hx with hx | hx
      · exact Int.le_of_lt (hu.2.2 x hx _ (by simp))
      · simp at hx; omega
theorem there_rng {m n : Nat} {board : List Nat} (hne : thereL m n board ≠ []) : thereL m n board = (List.range ((thereL m n board).getLastD 0 + 1 - (thereL m n board).headD 0).toNat).map fun (i : Nat) => (thereL m n board).headD 0 + (i : Int) := by
  obtain ⟨h1, h2, h3⟩ := there_ends hne
  refine ext_up _ _ there_up ?_ fun z => ?_
  · rw [List.pairwise_map]
    exact List.pairwise_lt_range.imp fun h => by omega
  · rw [List.mem_map]
    constructor
    · intro hz
      have := h1 z hz
      exact ⟨(z - (thereL m n board).headD 0).toNat, List.mem_range.mpr (by omega), by omega⟩
    · rintro ⟨i, hi, rfl⟩
      have hi := List.mem_range.mp hi
      exact there_between h2 h3 (by omega) (by omega)
end Dn

namespace Dn
open PySem L2
/-! ### weeks in another order -/
theorem useAdd_comm {u s t : List Int} : useAdd (useAdd u s) t = useAdd (useAdd u t) s := by
  apply ext_getD (d := 0)
  · simp [useAdd_len]
  · intro i hi
    rw [useAdd_len, useAdd_len] at hi
    have h1 := useAdd_get (u := useAdd u s) (s := t) (i := i) (by rw [useAdd_len]; exact hi)
    have h2 := useAdd_get (u := useAdd u t) (s := s) (i := i) (by rw [useAdd_len]; exact hi)
    have h3 := useAdd_get (u := u) (s := s) (i := i) hi
    have h4 := useAdd_get (u := u) (s := t) (i := i) hi
    omega
theorem usesF_add {n : Nat} (f : List Int → Int) : ∀ (board : List Nat) (us : List (List Int)), ((usesF n board us).map f).sum = (us.map fun u => ((usesF n board [u]).map f).sum).sum
  | [], us => by
    congr 1
    apply List.map_congr_left
    intro u _
    simp [usesF]
  | b :: board, us => by
    show ((usesF n board _).map f).sum = _
    rw [usesF_add f board, sum_flatMap]
    congr 1
    apply List.map_congr_left
    intro u _
    show _ = ((usesF n board (([u]).flatMap fun u => (chs n b).map (useAdd u))).map f).sum
    rw [usesF_add f board (([u]).flatMap fun u => (chs n b).map (useAdd u))]
    simp
theorem uses_perm {n : Nat} {a b : List Nat} (h : a.Perm b) : ∀ (f : List Int → Int) (us : List (List Int)), ((usesF n a us).map f).sum = ((usesF n b us).map f).sum := by
  induction h with
  | nil => intro f us; rfl
  | cons x _ ih => intro f us; exact ih f _
  | swap x y l =>
    intro f us
    show ((usesF n l ((us.flatMap fun u => (chs n y).map (useAdd u)).flatMap fun u => (chs n x).map (useAdd u))).map f).sum = ((usesF n l ((us.flatMap fun u => (chs n x).map (useAdd u)).flatMap fun u => (chs n y).map (useAdd u))).map f).sum
    rw [usesF_add f l, usesF_add f l ((us.flatMap fun u => (chs n x).map (useAdd u)).flatMap fun u => (chs n y).map (useAdd u)), sum_flatMap, sum_flatMap, sum_flatMap, sum_flatMap]
    congr 1
    apply List.map_congr_left
    intro u _
    simp only [List.map_map, Function.comp_def]
    rw [sum_swap]
    congr 1
    apply List.map_congr_left
    intro s _
    congr 1
    apply List.map_congr_left
    intro t _
    rw [useAdd_comm]
  | trans _ _ i1 i2 => intro f us; rw [i1 f us, i2 f us]
theorem tab_perm {m n : Nat} {a b : List Nat} (h : a.Perm b) : tabL m n a = tabL m n b := by
  unfold tabL
  apply List.map_congr_left
  intro j _
  rw [sum_filter, sum_filter]
  exact uses_perm h _ _
/-! ### one right; no weeks; all fly -/
theorem uses_one : ∀ (board : List Nat) (x : Int), (∀ b ∈ board, b ≤ 1) → usesF 1 board [[x]] = [[x + (board.sum : Nat)]]
  | [], x, _ => by simp [usesF]
  | b :: board, x, h => by
    have hb := h b List.mem_cons_self
    have e : ([[x]]).flatMap (fun u => (chs 1 b).map (useAdd u)) = [[x + (b : Int)]] := by
      have hc : b = 0 ∨ b = 1 := by omega
      rcases hc with rfl | rfl
      · simp [chs, sbs, useAdd, pl, nth]
      · simp [chs, sbs, useAdd, pl, nth]
    show usesF 1 board (([[x]]).flatMap fun u => (chs 1 b).map (useAdd u)) = _
    rw [e, uses_one board _ fun c hc => h c (List.mem_cons_of_mem _ hc)]
    simp
    omega
theorem usesL_one {board : List Nat} (h : ∀ b ∈ board, b ≤ 1) : usesL 1 board = [[((board.sum : Nat) : Int)]] := by
  unfold usesL
  have := uses_one board 0 h
  simpa using this
theorem chs_full : ∀ n : Nat, chs n n = [pl n]
  | 0 => rfl
  | n + 1 => by
    have e : chs n (n + 1) = [] := by
      rw [← List.length_eq_zero_iff, chs_len, bin_big n (n + 1) (by omega)]
    have e2 : chs (n + 1) (n + 1) = chs n (n + 1) ++ (chs n n).map fun s => s ++ [(n : Int)] := by
      unfold chs
      rw [sbs, List.filter_append, List.filter_map]
      congr 2
      apply List.filter_congr
      intro s _
      simp
    rw [e2, e, chs_full n, pl_succ]; rfl
theorem bin_self : ∀ n : Nat, bin n n = 1 := fun n => by rw [← chs_len, chs_full]; rfl
theorem useAdd_full {n : Nat} {x : Int} : useAdd (List.replicate n x) (pl n) = List.replicate n (x + 1) := by
  apply ext_getD (d := 0)
  · simp [useAdd_len]
  · intro i hi
    rw [useAdd_len] at hi
    rw [useAdd_get hi]
    rw [List.length_replicate] at hi
    have : (i : Int) ∈ pl n := mem_pl.mpr (by omega)
    rw [if_pos this]
    simp [List.getD_eq_getElem?_getD, List.getElem?_replicate, hi]
theorem uses_full {n : Nat} : ∀ (w : Nat) (x : Int), usesF n (List.replicate w n) [List.replicate n x] = [List.replicate n (x + w)]
  | 0, x => by simp [usesF]
  | w + 1, x => by
    show usesF n (List.replicate w n) (([List.replicate n x]).flatMap fun u => (chs n n).map (useAdd u)) = _
    have e : ([List.replicate n x]).flatMap (fun u => (chs n n).map (useAdd u)) = [List.replicate n (x + 1)] := by
      rw [chs_full]; simp [useAdd_full]
    rw [e, uses_full w (x + 1)]
    congr 2
    omega
theorem usesL_full {n w : Nat} : usesL n (List.replicate w n) = [List.replicate n (w : Int)] := by
  unfold usesL
  rw [uses_full]; simp
theorem kept_rep {m n : Nat} {x : Int} : keptN m (List.replicate n x) = if (m : Int) ≤ x then n else 0 := by
  unfold keptN
  rw [List.filter_replicate]
  by_cases h : (m : Int) ≤ x <;> simp [h]
/-- where there is one way alone -/
theorem there_one {m n k : Nat} {board : List Nat} {u : List Int} (hu : usesL n board = [u]) (hk : keptN m u = k) : thereL m n board = [(k : Int)] := by
  refine ext_up _ _ there_up (by simp) fun z => ?_
  rw [mem_there, hu]
  simp [hk]
  omega
theorem whole_one {m n k : Nat} {board : List Nat} {u : List Int} (hu : usesL n board = [u]) (hk : keptN m u = k) : wholeN m n board = k := by
  unfold wholeN; rw [hu]; simp [hk]
/-- the mean lies between -/
theorem whole_between {m n : Nat} {board : List Nat} (hne : thereL m n board ≠ []) : (thereL m n board).headD 0 * ((usesL n board).length : Int) ≤ (wholeN m n board : Int) ∧ (wholeN m n board : Int) ≤ (thereL m n board).getLastD 0 * ((usesL n board).length : Int) := by
  obtain ⟨h1, _, _⟩ := there_ends hne
  have hk : ∀ u ∈ usesL n board, (thereL m n board).headD 0 ≤ (keptN m u : Int) ∧ (keptN m u : Int) ≤ (thereL m n board).getLastD 0 := fun u hu => h1 _ (mem_there.mpr ⟨u, hu, rfl⟩)
  unfold wholeN
  rw [sum_cast]
  generalize (thereL m n board).headD 0 = a at *
  generalize (thereL m n board).getLastD 0 = b at *
  generalize usesL n board = us at *
  clear hne h1
  induction us with
  | nil => simp
  | cons u us ih =>
    have i := ih fun v hv => hk v (List.mem_cons_of_mem _ hv)
    have k := hk u List.mem_cons_self
    rw [List.map_cons, List.sum_cons, List.length_cons]
    push_cast
    rw [Int.mul_add, Int.mul_add]
    omega
end Dn

namespace Dn
open PySem L2
/-! ### counts over the first places -/
def cnt (P : Nat → Bool) : Nat → Nat
  | 0 => 0
  | n + 1 => cnt P n + if P n then 1 else 0
theorem cnt_congr {P Q : Nat → Bool} : ∀ n, (∀ i < n, P i = Q i) → cnt P n = cnt Q n
  | 0, _ => rfl
  | n + 1, h => by simp only [cnt]; rw [cnt_congr n fun i hi => h i (by omega), h n (by omega)]
theorem cnt_le_n (P : Nat → Bool) : ∀ n, cnt P n ≤ n
  | 0 => Nat.le_refl _
  | n + 1 => by have := cnt_le_n P n; simp only [cnt]; split <;> omega
theorem cnt_mono {P Q : Nat → Bool} : ∀ n, (∀ i < n, P i = true → Q i = true) → cnt P n ≤ cnt Q n
  | 0, _ => Nat.le_refl _
  | n + 1, h => by
    have := cnt_mono n fun i hi => h i (by omega)
    have h2 := h n (by omega)
    simp only [cnt]
    cases e : P n <;> cases e2 : Q n <;> simp_all <;> omega
theorem cnt_or {P Q : Nat → Bool} : ∀ n, (∀ i < n, ¬ (P i = true ∧ Q i = true)) → cnt (fun i => P i || Q i) n = cnt P n + cnt Q n
  | 0, _ => rfl
  | n + 1, h => by
    have := cnt_or n fun i hi => h i (by omega)
    have h2 := h n (by omega)
    simp only [cnt]
    rcases Bool.eq_false_or_eq_true (P n) with e | e <;> rcases Bool.eq_false_or_eq_true (Q n) with e2 | e2 <;> simp_all <;> omega
theorem cnt_and {P Q : Nat → Bool} : ∀ n, cnt P n + cnt Q n ≤ cnt (fun i => P i && Q i) n + n
  | 0 => Nat.le_refl _
  | n + 1 => by
    have := cnt_and (P := P) (Q := Q) n
    simp only [cnt]
    rcases Bool.eq_false_or_eq_true (P n) with e | e <;> rcases Bool.eq_false_or_eq_true (Q n) with e2 | e2 <;> simp [e, e2] <;> omega
theorem cnt_not {P : Nat → Bool} : ∀ n, cnt (fun i => !P i) n + cnt P n = n
  | 0 => rfl
  | n + 1 => by
    have := cnt_not (P := P) n
    simp only [cnt]
    rcases Bool.eq_false_or_eq_true (P n) with e | e <;> simp [e] <;> omega
theorem cnt_lt {t : Nat} : ∀ n, t ≤ n → cnt (fun i => decide (i < t)) n = t
  | 0, h => by simp [cnt]; omega
  | n + 1, h => by
    simp only [cnt]
    by_cases e : t ≤ n
    · rw [cnt_lt n e]; simp; omega
    · have e2 : t = n + 1 := by omega
      subst e2
      have h1 : ∀ k, k ≤ n + 1 → cnt (fun i => decide (i < n + 1)) k = k := by
        intro k
        induction k with
        | zero => intro _; rfl
        | succ k ih => intro hk; simp only [cnt]; rw [ih (by omega)]; simp; omega
      rw [h1 n (by omega)]; simp
theorem cnt_cut {P : Nat → Bool} {t : Nat} : ∀ n, t ≤ n → (∀ i < n, P i = true → i < t) → cnt P n = cnt P t
  | 0, h, _ => by have : t = 0 := by omega
                  subst this; rfl
  | n + 1, h, hp => by
    by_cases e : t ≤ n
    · have e2 : P n = false := by
        cases q : P n with
        | false => rfl
        | true => have := hp n (by omega) q; omega
      simp only [cnt]
      rw [cnt_cut n e fun i hi => hp i (by omega), e2]; simp
    · have e2 : t = n + 1 := by omega
      subst e2; rfl
/-- a set of so many between two -/
theorem cnt_pick {A B : Nat → Bool} : ∀ (n c : Nat), (∀ i < n, A i = true → B i = true) → cnt A n ≤ c → c ≤ cnt B n → ∃ P : Nat → Bool, (∀ i < n, A i = true → P i = true) ∧ (∀ i < n, P i = true → B i = true) ∧ cnt P n = c
  | 0, c, _, _, h2 => ⟨A, by omega, by omega, by simp [cnt] at h2 ⊢; omega⟩
  | n + 1, c, h, h1, h2 => by
    have hb := fun i (hi : i < n) => h i (by omega)
    have up : ∀ (P : Nat → Bool) (v : Bool), cnt (fun i => if i = n then v else P i) n = cnt P n := fun P v => cnt_congr n fun i hi => by simp [show i ≠ n by omega]
    have done : ∀ (P : Nat → Bool) (v : Bool), (∀ i < n, A i = true → P i = true) → (∀ i < n, P i = true → B i = true) → (A n = true → v = true) → (v = true → B n = true) → cnt P n + (if v then 1 else 0) = c → ∃ P : Nat → Bool, (∀ i < n + 1, A i = true → P i = true) ∧ (∀ i < n + 1, P i = true → B i = true) ∧ cnt P (n + 1) = c := by
      intro P v p1 p2 v1 v2 e
      refine ⟨fun i => if i = n then v else P i, fun i hi ha => ?_, fun i hi ha => ?_, ?_⟩
      · by_cases z : i = n
        · subst z; simp [v1 ha]
        · simp [z]; exact p1 i (by omega) ha
      · by_cases z : i = n
        · subst z; simp at ha; exact v2 ha
        · simp [z] at ha; exact p2 i (by omega) ha
      · simp only [cnt]; rw [up]; simpa using e
    have hab := cnt_mono n hb
    simp only [cnt] at h1 h2
    cases ea : A n with
    | true =>
      have eb := h n (by omega) ea
      rw [ea] at h1; rw [eb] at h2
      simp at h1 h2
      obtain ⟨P, p1, p2, p3⟩ := cnt_pick n (c - 1) hb (by omega) (by omega)
      exact done P true p1 p2 (fun _ => rfl) (fun _ => eb) (by simp; omega)
    | false =>
      rw [ea] at h1; simp at h1
      cases eb : B n with
      | false =>
        rw [eb] at h2; simp at h2
        obtain ⟨P, p1, p2, p3⟩ := cnt_pick n c hb h1 h2
        exact done P false p1 p2 (fun z => by rw [ea] at z; cases z) (fun z => by cases z) (by simpa using p3)
      | true =>
        rw [eb] at h2; simp at h2
        by_cases z : c ≤ cnt B n
        · obtain ⟨P, p1, p2, p3⟩ := cnt_pick n c hb h1 z
          exact done P false p1 p2 (fun z => by rw [ea] at z; cases z) (fun z => by cases z) (by simpa using p3)
        · obtain ⟨P, p1, p2, p3⟩ := cnt_pick n (cnt B n) hb hab (Nat.le_refl _)
          exact done P true p1 p2 (fun _ => rfl) (fun _ => eb) (by simp; omega)
/-! ### choices as sets -/
def memB (s : List Int) (i : Nat) : Bool := decide ((i : Int) ∈ s)
theorem sbs_cnt : ∀ {n : Nat} {s : List Int}, s ∈ sbs n → cnt (memB s) n = s.length
  | 0, s, h => by simp [sbs] at h; subst h; rfl
  | n + 1, s, h => by
    simp only [sbs, List.mem_append, List.mem_map] at h
    simp only [cnt]
    rcases h with h | ⟨r, h, rfl⟩
    · rw [sbs_cnt h]
      have : memB s n = false := by
        unfold memB
        rw [decide_eq_false_iff_not]
        intro z
        have := sbs_rng h _ z
        omega
      rw [this]; simp
    · have e1 : cnt (memB (r ++ [(n : Int)])) n = cnt (memB r) n := cnt_congr n fun i hi => by
        unfold memB
        simp
        intro z; omega
      rw [e1, sbs_cnt h]
      have : memB (r ++ [(n : Int)]) n = true := by simp [memB]
      rw [this]; simp
theorem filter_sbs (P : Nat → Bool) : ∀ n : Nat, (pl n).filter (fun x => P x.toNat) ∈ sbs n
  | 0 => by simp [pl, sbs]
  | n + 1 => by
    have ih := filter_sbs P n
    rw [pl_succ, List.filter_append]
    simp only [sbs, List.mem_append, List.mem_map]
    cases e : P n with
    | true => exact .inr ⟨_, ih, by simp [e]⟩
    | false => left; simpa [e] using ih
theorem filter_mem (P : Nat → Bool) {n i : Nat} (hi : i < n) : memB ((pl n).filter (fun x => P x.toNat)) i = P i := by
  unfold memB
  rw [Bool.eq_iff_iff, decide_eq_true_eq, List.mem_filter, mem_pl]
  simp
  omega
theorem filter_chs (P : Nat → Bool) {n b : Nat} (h : cnt P n = b) : (pl n).filter (fun x => P x.toNat) ∈ chs n b := by
  refine mem_chs.mpr ⟨filter_sbs P n, ?_⟩
  rw [← sbs_cnt (filter_sbs P n), ← h]
  exact cnt_congr n fun i hi => filter_mem P hi
/-! ### uses of some rights together -/
def smK (K : Nat → Bool) (u : List Int) : Nat → Int
  | 0 => 0
  | n + 1 => smK K u n + if K n then u.getD n 0 else 0
theorem smK_add {K : Nat → Bool} {u s : List Int} : ∀ n, n ≤ u.length → smK K (useAdd u s) n = smK K u n + (cnt (fun i => K i && memB s i) n : Int)
  | 0, _ => rfl
  | n + 1, h => by
    simp only [smK, cnt]
    rw [smK_add n (by omega), useAdd_get (by omega)]
    unfold memB
    generalize u.getD n 0 = y
    rcases Bool.eq_false_or_eq_true (K n) with e | e
    · by_cases z : (n : Int) ∈ s
      · simp [z, e]; omega
      · simp [z, e]; omega
    · simp [e]
theorem smK_ge {K : Nat → Bool} {u : List Int} {m : Int} : ∀ n, (∀ i < n, K i = true → m ≤ u.getD i 0) → m * cnt K n ≤ smK K u n
  | 0, _ => by simp [cnt, smK]
  | n + 1, h => by
    have ih := smK_ge n fun i hi => h i (by omega)
    have h2 := h n (by omega)
    simp only [cnt, smK]
    cases e : K n with
    | false => simp; exact ih
    | true => have := h2 e; generalize u.getD n 0 = y at *; simp; rw [Int.mul_add]; omega
theorem smK_le {K : Nat → Bool} {u : List Int} {m : Int} : ∀ n, (∀ i < n, K i = true → u.getD i 0 ≤ m) → smK K u n ≤ m * cnt K n
  | 0, _ => by simp [cnt, smK]
  | n + 1, h => by
    have ih := smK_le n fun i hi => h i (by omega)
    have h2 := h n (by omega)
    simp only [cnt, smK]
    cases e : K n with
    | false => simp; exact ih
    | true => have := h2 e; generalize u.getD n 0 = y at *; simp; rw [Int.mul_add]; omega
theorem smK_zero {K : Nat → Bool} {k : Nat} : ∀ n, smK K (List.replicate k 0) n = 0
  | 0 => rfl
  | n + 1 => by
    simp only [smK]; rw [smK_zero n]
    have : (List.replicate k (0 : Int)).getD n 0 = 0 := by
      rw [List.getD_eq_getElem?_getD, List.getElem?_replicate]; split <;> rfl
    rw [this]; split <;> rfl
def mins (t : Nat) (board : List Nat) : Int := (board.map fun b => ((min b t : Nat) : Int)).sum
def rest (n t : Nat) (board : List Nat) : Int := (board.map fun b => ((b - (n - t) : Nat) : Int)).sum
theorem uses_bnd {n : Nat} {K : Nat → Bool} : ∀ (board : List Nat) (us : List (List Int)) (lo hi : Int), (∀ u ∈ us, UOk n u ∧ lo ≤ smK K u n ∧ smK K u n ≤ hi) → ∀ u ∈ usesF n board us, lo + rest n (cnt K n) board ≤ smK K u n ∧ smK K u n ≤ hi + mins (cnt K n) board
  | [], us, lo, hi, h, u, hu => by
    have := h u hu
    simp [rest, mins]; omega
  | b :: board, us, lo, hi, h, u, hu => by
    have ih := uses_bnd (K := K) board (us.flatMap fun u => (chs n b).map (useAdd u)) (lo + ((b - (n - cnt K n) : Nat) : Int)) (hi + ((min b (cnt K n) : Nat) : Int)) (by
      intro v hv
      obtain ⟨w, hw, hv⟩ := List.mem_flatMap.mp hv
      obtain ⟨s, hs, rfl⟩ := List.mem_map.mp hv
      obtain ⟨h1, h2, h3⟩ := h w hw
      obtain ⟨s1, s2⟩ := mem_chs.mp hs
      have e1 := sbs_cnt s1
      have e2 := cnt_and (P := K) (Q := memB s) n
      have e3 := cnt_mono (P := fun i => K i && memB s i) (Q := K) n (by simp; intro i _ a _; exact a)
      have e4 := cnt_mono (P := fun i => K i && memB s i) (Q := memB s) n (by simp)
      have e5 := cnt_le_n K n
      refine ⟨uok_add h1, ?_⟩
      rw [smK_add n (by rw [h1.1]; exact Nat.le_refl _)]
      omega) u hu
    simp only [rest, mins, List.map_cons, List.sum_cons] at ih ⊢
    omega
theorem kept_cnt {m n : Nat} {u : List Int} (h : u.length = n) : keptN m u = cnt (fun i => decide ((m : Int) ≤ u.getD i 0)) n := by
  rw [kept_range, h]
  induction n generalizing u with
  | zero => rfl
  | succ k ih =>
    have : ∀ j, ((List.range j).filter fun x => decide ((m : Int) ≤ u.getD x 0)).length = cnt (fun i => decide ((m : Int) ≤ u.getD i 0)) j := by
      intro j
      induction j with
      | zero => rfl
      | succ j ih => rw [List.range_succ, List.filter_append, List.length_append, ih]; simp only [cnt]; congr 1; simp only [List.filter_cons, List.filter_nil]; split <;> simp
    exact this _
theorem uses_two {n : Nat} {board : List Nat} {u : List Int} (hu : u ∈ usesL n board) (K : Nat → Bool) : rest n (cnt K n) board ≤ smK K u n ∧ smK K u n ≤ mins (cnt K n) board := by
  have := uses_bnd (K := K) board [List.replicate n 0] 0 0 (by
    intro u hu; simp at hu; subst hu
    rw [smK_zero]; exact ⟨uok_zero, by omega, by omega⟩) u hu
  omega
/-- as many kept, the need for each -/
theorem kept_most {m n : Nat} {board : List Nat} {u : List Int} (hu : u ∈ usesL n board) : (keptN m u : Int) * m ≤ mins (keptN m u) board := by
  have hk := kept_cnt (m := m) (uses_ok hu).1
  have h1 := (uses_two hu fun i => decide ((m : Int) ≤ u.getD i 0)).2
  have h2 := smK_ge (K := fun i => decide ((m : Int) ≤ u.getD i 0)) (u := u) (m := m) n (by simp)
  rw [← hk] at h1 h2
  rw [Int.mul_comm]
  omega
theorem kept_free {m n : Nat} {board : List Nat} {u : List Int} (hu : u ∈ usesL n board) : rest n (n - keptN m u) board ≤ ((n - keptN m u : Nat) : Int) * ((m : Int) - 1) := by
  have hk := kept_cnt (m := m) (uses_ok hu).1
  have hn := cnt_not (P := fun i => decide ((m : Int) ≤ u.getD i 0)) n
  have e : cnt (fun i => !decide ((m : Int) ≤ u.getD i 0)) n = n - keptN m u := by omega
  have h1 := (uses_two hu fun i => !decide ((m : Int) ≤ u.getD i 0)).1
  have h2 := smK_le (K := fun i => !decide ((m : Int) ≤ u.getD i 0)) (u := u) (m := (m : Int) - 1) n (by simp; omega)
  rw [e] at h1 h2
  rw [Int.mul_comm]
  omega
/-! ### even uses -/
def Evn (t : Nat) (u : List Int) : Prop := ∃ q : Int, ∀ i < t, u.getD i 0 = q ∨ u.getD i 0 = q + 1
def inT (t : Nat) : Nat → Bool := fun i => decide (i < t)
theorem even_step {n t b c : Nat} {u : List Int} (hu : UOk n u) (ht : t ≤ n) (he : Evn t u) (hct : c ≤ t) (hcb : c ≤ b) (hbc : b - c ≤ n - t) : ∃ s ∈ chs n b, Evn t (useAdd u s) ∧ smK (inT t) (useAdd u s) n = smK (inT t) u n + c := by
  obtain ⟨q, hq⟩ := he
  have hT : cnt (inT t) n = t := cnt_lt n ht
  have hL : ∀ i < n, (decide (i < t ∧ u.getD i 0 = q)) = true → inT t i = true := by intro i _ h; simp [inT] at h ⊢; exact h.1
  -- the rights among the first
  obtain ⟨P1, p1, p2, p3⟩ : ∃ P1 : Nat → Bool, (∀ i < n, P1 i = true → inT t i = true) ∧ cnt P1 n = c ∧ ((∀ i < n, P1 i = true → u.getD i 0 = q) ∨ ∀ i < t, u.getD i 0 = q → P1 i = true) := by
    by_cases z : c ≤ cnt (fun i => decide (i < t ∧ u.getD i 0 = q)) n
    · obtain ⟨P, a1, a2, a3⟩ := cnt_pick (A := fun _ => false) (B := fun i => decide (i < t ∧ u.getD i 0 = q)) n c (by simp) (by
        have : ∀ k, cnt (fun _ => false) k = 0 := by intro k; induction k with
          | zero => rfl
          | succ k ih => simp only [cnt]; rw [ih]; simp
        rw [this]; omega) z
      exact ⟨P, fun i hi h => hL i hi (a2 i hi h), a3, .inl fun i hi h => by have := a2 i hi h; simp at this; simpa using this.2⟩
    · obtain ⟨P, a1, a2, a3⟩ := cnt_pick (A := fun i => decide (i < t ∧ u.getD i 0 = q)) (B := inT t) n c hL (by omega) (by omega)
      exact ⟨P, a2, a3, .inr fun i hi h => a1 i (by omega) (by simp only [decide_eq_true_eq]; exact ⟨hi, h⟩)⟩
  -- all of them
  have hN := cnt_not (P := inT t) n
  have hD : cnt (fun i => P1 i || !inT t i) n = c + (n - t) := by
    rw [cnt_or n (by intro i hi ⟨x, y⟩; have := p1 i hi x; rw [this] at y; cases y), p2]; omega
  obtain ⟨P, b1, b2, b3⟩ := cnt_pick (A := P1) (B := fun i => P1 i || !inT t i) n b (by intro i _ h; simp [h]) (by omega) (by omega)
  have hP : ∀ i < t, P i = P1 i := by
    intro i hi
    cases e : P1 i with
    | true => exact b1 i (by omega) e
    | false =>
      cases e2 : P i with
      | false => rfl
      | true => have := b2 i (by omega) e2; simp [e, inT, hi] at this
  refine ⟨_, filter_chs P b3, ?_, ?_⟩
  · have hget : ∀ i < t, (useAdd u ((pl n).filter (fun x => P x.toNat))).getD i 0 = u.getD i 0 + if P1 i = true then 1 else 0 := by
      intro i hi
      have hf := filter_mem P (show i < n by omega)
      rw [hP i hi] at hf
      rw [useAdd_get (by rw [hu.1]; omega), ← hf]
      unfold memB
      simp
    rcases p3 with p3 | p3
    · refine ⟨q, fun i hi => ?_⟩
      rw [hget i hi]
      have h1 := hq i hi
      cases e : P1 i with
      | true => have := p3 i (by omega) e; rw [if_pos rfl]; omega
      | false => rw [if_neg (by simp)]; omega
    · refine ⟨q + 1, fun i hi => ?_⟩
      rw [hget i hi]
      have h1 := hq i hi
      cases e : P1 i with
      | true => rw [if_pos rfl]; omega
      | false =>
        rw [if_neg (by simp)]
        rcases h1 with h1 | h1
        · have := p3 i hi h1; rw [e] at this; cases this
        · omega
  · rw [smK_add n (by rw [hu.1]; exact Nat.le_refl _)]
    congr 2
    rw [← p2]
    apply cnt_congr
    intro i hi
    rw [filter_mem P hi]
    by_cases z : i < t
    · rw [hP i z]; simp [inT, z]
    · have : P1 i = false := by
        cases e : P1 i with
        | false => rfl
        | true => have := p1 i hi e; simp [inT] at this; omega
      rw [this]; simp [inT, z]
theorem even_uses {n t : Nat} (ht : t ≤ n) (c : Nat → Nat) : ∀ (board : List Nat) (us : List (List Int)) (v : Int), (∀ b ∈ board, c b ≤ t ∧ c b ≤ b ∧ b - c b ≤ n - t) → (∃ u ∈ us, UOk n u ∧ Evn t u ∧ smK (inT t) u n = v) → ∃ u ∈ usesF n board us, UOk n u ∧ Evn t u ∧ smK (inT t) u n = v + (board.map fun b => ((c b : Nat) : Int)).sum
  | [], us, v, _, ⟨u, h1, h2, h3, h4⟩ => ⟨u, h1, h2, h3, by simp [h4]⟩
  | b :: board, us, v, hb, ⟨u, h1, h2, h3, h4⟩ => by
    obtain ⟨x1, x2, x3⟩ := hb b List.mem_cons_self
    obtain ⟨s, hs, e1, e2⟩ := even_step h2 ht h3 x1 x2 x3
    obtain ⟨w, w1, w2, w3, w4⟩ := even_uses ht c board (us.flatMap fun u => (chs n b).map (useAdd u)) (v + c b) (fun y hy => hb y (List.mem_cons_of_mem _ hy)) ⟨useAdd u s, List.mem_flatMap.mpr ⟨u, h1, List.mem_map.mpr ⟨s, hs, rfl⟩⟩, uok_add h2, e1, by rw [e2, h4]⟩
    exact ⟨w, w1, w2, w3, by rw [w4, List.map_cons, List.sum_cons]; omega⟩
theorem even_all {n t : Nat} (ht : t ≤ n) (c : Nat → Nat) {board : List Nat} (hb : ∀ b ∈ board, c b ≤ t ∧ c b ≤ b ∧ b - c b ≤ n - t) : ∃ u ∈ usesL n board, Evn t u ∧ smK (inT t) u n = (board.map fun b => ((c b : Nat) : Int)).sum := by
  obtain ⟨u, h1, h2, h3, h4⟩ := even_uses ht c board [List.replicate n 0] 0 hb ⟨_, by simp, uok_zero, ⟨0, fun i hi => .inl (by rw [List.getD_eq_getElem?_getD, List.getElem?_replicate]; split <;> rfl)⟩, smK_zero n⟩
  exact ⟨u, h1, h3, by rw [h4]; omega⟩
/-- even uses that come to the need have it each -/
theorem even_ge {n t : Nat} (ht : t ≤ n) {u : List Int} (he : Evn t u) {m : Int} (h : t * m ≤ smK (inT t) u n) : ∀ i < t, m ≤ u.getD i 0 := by
  obtain ⟨q, hq⟩ := he
  have hT : cnt (inT t) n = t := cnt_lt n ht
  intro i hi
  by_cases z : m ≤ u.getD i 0
  · exact z
  exfalso
  have e : ∀ k ≤ n, smK (inT t) u k + (if i < k then 1 else 0) ≤ m * cnt (inT t) k := by
    intro k
    induction k with
    | zero => intro _; simp [smK, cnt]
    | succ k ih =>
      intro hk
      have ih := ih (by omega)
      simp only [smK, cnt]
      by_cases y : k < t
      · have hk1 := hq k y
        have hi1 := hq i hi
        have : inT t k = true := by simp [inT, y]
        rw [this, if_pos rfl, if_pos rfl]
        push_cast
        rw [Int.mul_add, Int.mul_one]
        by_cases x : i = k
        · subst x
          rw [if_neg (by omega)] at ih
          rw [if_pos (by omega)]
          omega
        · by_cases x2 : i < k
          · rw [if_pos x2] at ih; rw [if_pos (by omega)]; omega
          · rw [if_neg x2] at ih; rw [if_neg (by omega)]; omega
      · have : inT t k = false := by simp [inT, y]
        simp only [this, Bool.false_eq_true, if_false, Nat.add_zero, Int.add_zero]
        rw [if_pos (by omega)] at ih
        rw [if_pos (by omega)]
        exact ih
  have := e n (Nat.le_refl _)
  rw [hT, if_pos (by omega), Int.mul_comm] at this
  omega
theorem even_le {n t : Nat} (ht : t ≤ n) {u : List Int} (he : Evn t u) {m : Int} (h : smK (inT t) u n ≤ t * m) : ∀ i < t, u.getD i 0 ≤ m := by
  obtain ⟨q, hq⟩ := he
  have hT : cnt (inT t) n = t := cnt_lt n ht
  intro i hi
  by_cases z : u.getD i 0 ≤ m
  · exact z
  exfalso
  have e : ∀ k ≤ n, m * cnt (inT t) k + (if i < k then 1 else 0) ≤ smK (inT t) u k := by
    intro k
    induction k with
    | zero => intro _; simp [smK, cnt]
    | succ k ih =>
      intro hk
      have ih := ih (by omega)
      simp only [smK, cnt]
      by_cases y : k < t
      · have hk1 := hq k y
        have hi1 := hq i hi
        have : inT t k = true := by simp [inT, y]
        rw [this, if_pos rfl, if_pos rfl]
        push_cast
        rw [Int.mul_add, Int.mul_one]
        by_cases x : i = k
        · subst x
          rw [if_neg (by omega)] at ih
          rw [if_pos (by omega)]
          omega
        · by_cases x2 : i < k
          · rw [if_pos x2] at ih; rw [if_pos (by omega)]; omega
          · rw [if_neg x2] at ih; rw [if_neg (by omega)]; omega
      · have : inT t k = false := by simp [inT, y]
        simp only [this, Bool.false_eq_true, if_false, Nat.add_zero, Int.add_zero]
        rw [if_pos (by omega)] at ih
        rw [if_pos (by omega)]
        exact ih
  have := e n (Nat.le_refl _)
  rw [hT, if_pos (by omega), Int.mul_comm] at this
  omega
theorem most_kept {m n t : Nat} {board : List Nat} (hb : ∀ b ∈ board, b ≤ n) (ht : t ≤ n) (h : (t : Int) * m ≤ mins t board) : ∃ u ∈ usesL n board, t ≤ keptN m u := by
  obtain ⟨u, h1, h2, h3⟩ := even_all ht (fun b => min b t) (board := board) fun b hbm => by have := hb b hbm; omega
  have h4 := even_ge ht h2 (m := (m : Int)) (by rw [h3]; exact h)
  refine ⟨u, h1, ?_⟩
  rw [kept_cnt (uses_ok h1).1]
  have : cnt (inT t) n = t := cnt_lt n ht
  have h5 := cnt_mono (P := inT t) (Q := fun i => decide ((m : Int) ≤ u.getD i 0)) n (by intro i _ hi; simp [inT] at hi; simp only [decide_eq_true_eq]; exact h4 i hi)
  omega
theorem free_kept {m n t : Nat} {board : List Nat} (hb : ∀ b ∈ board, b ≤ n) (ht : t ≤ n) (h : rest n t board ≤ (t : Int) * ((m : Int) - 1)) : ∃ u ∈ usesL n board, keptN m u ≤ n - t := by
  obtain ⟨u, h1, h2, h3⟩ := even_all ht (fun b => b - (n - t)) (board := board) fun b hbm => by have := hb b hbm; omega
  have h4 := even_le ht h2 (m := (m : Int) - 1) (by rw [h3]; exact h)
  refine ⟨u, h1, ?_⟩
  rw [kept_cnt (uses_ok h1).1]
  have h6 : cnt (inT t) n = t := cnt_lt n ht
  have h7 := cnt_not (P := inT t) n
  have h5 := cnt_mono (P := fun i => decide ((m : Int) ≤ u.getD i 0)) (Q := fun i => !inT t i) n (by
    intro i _ hi
    simp only [decide_eq_true_eq] at hi
    simp only [inT, Bool.not_eq_true', decide_eq_false_iff_not]
    intro z
    have := h4 i z
    omega)
  omega
end Dn

namespace Qk01
open PySem Dn
def g_wall : En → MS → RS :=
  sBad
def F_wall : List D → MS → R D := fnD 1 1 g_wall

def g_is_whole : En → MS → RS :=
  (sRet (eAnd (eB isiD (aC (eV 0) (aC (eC (.ty .int)) aN))) (eAnd (eNot (eB isiD (aC (eV 0) (aC (eC (.ty .bool)) aN)))) (eChain leI leI (eV 1) (eV 0) (eV 2)))))
def F_is_whole : List D → MS → R D := fnD 3 3 g_is_whole

def g_is_house : En → MS → RS :=
  (sRet (eAnd (eB isiD (aC (eV 0) (aC (eC (.ty .str)) aN))) (eAnd (eChain leI leI (eC (.int 1)) (eB lenD (aC (eV 0) aN)) (eC (.int 8))) (eB allD (aC (eVal (eLc (iSeq (eV 0)) (.nm 1) yesD (eOp inA (eV 1) (eC (.str "abcdefghijklmnopqrstuvwxyz"))) [1])) aN)))))
def F_is_house : List D → MS → R D := fnD 1 2 g_is_house

def g_do_rise : En → MS → RS :=
  (sRet (eB allD (aC (eVal (eLc (iB zipG (aC (eV 0) (aC (eSl slT (eV 0) (pSm (eC (.int 1))) pNo) aN))) (.tp [(.nm 1), (.nm 2)]) yesD (eOp ltA (eV 1) (eV 2)) [1, 2])) aN)))
def F_do_rise : List D → MS → R D := fnD 1 3 g_do_rise

def g_need_of : En → MS → RS :=
  (sSq sBad
  sBad)
def F_need_of : List D → MS → R D := fnD 1 3 g_need_of

def g_flown_weeks : En → MS → RS :=
  (sSq sBad
  sBad)
def F_flown_weeks : List D → MS → R D := fnD 2 7 g_flown_weeks

def g_all_free : En → MS → RS :=
  sBad
def F_all_free : List D → MS → R D := fnD 2 5 g_all_free

def g_text_of_port : En → MS → RS :=
  (sSq sBad
  (sSq sBad
  sBad))
def F_text_of_port : List D → MS → R D := fnD 1 8 g_text_of_port

def g_text_of_rights : En → MS → RS :=
  sBad
def F_text_of_rights : List D → MS → R D := fnD 1 3 g_text_of_rights

def g_weeks_text : En → MS → RS :=
  sBad
def F_weeks_text : List D → MS → R D := fnD 1 2 g_weeks_text

def g_law_town : En → MS → RS :=
  (sRet (eObj (eOpL catLL (eVal (eLst (aC (eC (.int 0)) aN))) (eB listD (aC (eV 0) aN)))))
def F_law_town : List D → MS → R D := fnD 1 1 g_law_town

def g_law_draw : En → MS → RS :=
  (sSq (sPut putL (eOp addD (eOp ixD (eV 1) (eC (.int 0))) (eC (.int 1))) (eV 1) (eC (.int 0)))
  (sSq (sIf (bT (eOp eqD (eV 0) (eVal (eLst aN)))) (sRet (eOp modI (eOp divI (eOp mulD (eOp mulD (eOp ixD (eV 1) (eC (.int 0))) (eOp ixD (eV 1) (eC (.int 0)))) (eC (.int 7))) (eC (.int 3))) (eV 2))) sNx)
  (sSq (sSet 3 (eOp modI (eOp ixD (eV 1) (eC (.int 0))) (eB lenD (aC (eV 0) aN))))
  (sSq (sSet 4 (eOp ixD (eV 1) (eOp addD (eC (.int 1)) (eV 3))))
  (sSq (sIf (tAndD (bT (eOp geI (eOp ixD (eV 0) (eV 3)) (eOp powI (eC (.int 10)) (eC (.int 18))))) (bT (eOp gtI (eV 4) (eC (.int 0))))) (sSq (sPut putL (eOp divI (eV 4) (eV 2)) (eV 1) (eOp addD (eC (.int 1)) (eV 3)))
  (sRet (eOp modI (eV 4) (eV 2)))) sNx)
  (sSq (sSet 5 (eOp modI (eOp addD (eOp ixD (eV 0) (eV 3)) (eOp mulD (eC (.int 104729)) (eOp ixD (eV 1) (eC (.int 0))))) (eC (.int 4294967291))))
  (sSq (sSet 5 (eOp modI (eOp powI (eV 5) (eC (.int 5))) (eC (.int 4294967279))))
  (sRet (eOp modI (eOp divI (eOp modI (eOp addD (eOp mulD (eOp divI (eV 5) (eC (.int 64))) (eC (.int 69621))) (eV 5)) (eC (.int 4294967231))) (eC (.int 8))) (eV 2))))))))))
def F_law_draw : List D → MS → R D := fnD 3 6 g_law_draw

def g_law_word : En → MS → RS :=
  (sSq (sIf (tNotD (trT (eB (isiA 19) (aC (eV 0) (aC (eC (.ty .verr)) aN))))) (sRet (eUn negI (eC (.int 1)))) sNx)
  (sSq (sSet 1 (eVal (eLst (aC (eB (isiA 19) (aC (eV 0) (aC (eC (.top 1)) aN))) (aC (eB (isiA 19) (aC (eV 0) (aC (eC (.top 2)) aN))) (aC (eB (isiA 19) (aC (eV 0) (aC (eC (.top 3)) aN))) aN))))))
  (sSq (sSet 1 (eOp addD (eV 1) (eVal (eLst (aC (eB (isiA 19) (aC (eV 0) (aC (eC (.top 4)) aN))) (aC (eB (isiA 19) (aC (eV 0) (aC (eC (.top 5)) aN))) (aC (eB (isiA 19) (aC (eV 0) (aC (eC (.top 6)) aN))) aN)))))))
  (sSq (sSet 1 (eOp addD (eV 1) (eVal (eLst (aC (eB (isiA 19) (aC (eV 0) (aC (eC (.top 7)) aN))) (aC (eB (isiA 19) (aC (eV 0) (aC (eC (.top 8)) aN))) (aC (eB (isiA 19) (aC (eV 0) (aC (eC (.top 9)) aN))) aN)))))))
  (sSq (sSet 1 (eOp addD (eV 1) (eVal (eLst (aC (eB (isiA 19) (aC (eV 0) (aC (eC (.top 10)) aN))) (aC (eB (isiA 19) (aC (eV 0) (aC (eC (.top 11)) aN))) (aC (eB (isiA 19) (aC (eV 0) (aC (eC (.top 12)) aN))) aN)))))))
  (sSq (sSet 1 (eOp addD (eV 1) (eVal (eLst (aC (eB (isiA 19) (aC (eV 0) (aC (eC (.top 13)) aN))) (aC (eB (isiA 19) (aC (eV 0) (aC (eC (.top 14)) aN))) (aC (eB (isiA 19) (aC (eV 0) (aC (eC (.top 15)) aN))) aN)))))))
  (sSq (sSet 1 (eOp addD (eV 1) (eVal (eLst (aC (eB (isiA 19) (aC (eV 0) (aC (eC (.top 16)) aN))) (aC (eB (isiA 19) (aC (eV 0) (aC (eC (.top 17)) aN))) (aC (eB (isiA 19) (aC (eV 0) (aC (eC (.top 18)) aN))) aN)))))))
  (sRet (eIf (bT (eOp eqD (eBM "list" cntD (eV 1) (aC (eC (.bl true)) aN)) (eC (.int 1)))) (eBM "list" idxD (eV 1) (aC (eC (.bl true)) aN)) (eUn negI (eC (.int 1))))))))))))
def F_law_word : List D → MS → R D := fnD 1 2 g_law_word

def g_law_refused : En → MS → RS :=
  (sSq (sSet 1 (eVal (eLst (aC (eC (.str "port")) (aC (eC (.str "rights")) (aC (eC (.str "log")) (aC (eC (.str "place")) (aC (eC (.str "hours")) (aC (eC (.str "number")) (aC (eC (.str "counts")) (aC (eC (.str "gains")) (aC (eC (.str "prices")) (aC (eC (.str "asks")) (aC (eC (.str "plan")) (aC (eC (.str "board")) aN)))))))))))))))
  (sSq (sSet 1 (eOp addD (eV 1) (eVal (eLst (aC (eC (.str "house")) (aC (eC (.str "full")) (aC (eC (.str "nothing")) (aC (eC (.str "taken")) (aC (eC (.str "back")) (aC (eC (.str "text")) aN))))))))))
  (sRet (eTup (aC (eC (.str "refused")) (aC (eBM "list" idxD (eV 1) (aC (eV 0) aN)) aN))))))
def F_law_refused : List D → MS → R D := fnD 1 2 g_law_refused

def g_law_bad_ports : En → MS → RS :=
  (sSq (sPat (.tp [(.nm 3), (.nm 4), (.nm 5), (.nm 6), (.nm 7)]) (eV 0))
  (sSq (sSet 1 (eObj (eLst (aC (eC .non) (aC (eC (.int 5)) (aC (eB listD (aC (eV 0) aN)) (aC (eSl slT (eV 0) pNo (pSm (eC (.int 4)))) (aC (eOp addD (eV 0) (eTup (aC (eC (.int 1)) aN))) aN))))))))
  (sSq (sForV (iSeq (eTup (aC (eTup aN) (aC (eTup (aC (eC (.int 1)) aN)) (aC (eOp mulD (eTup (aC (eC (.int 1)) aN)) (eC (.int 7))) (aC (eTup (aC (eC (.int 0)) (aC (eC (.int 1)) aN))) (aC (eTup (aC (eC (.int 7)) (aC (eC (.int 1)) aN))) (aC (eTup (aC (eC (.bl true)) (aC (eC (.int 1)) aN))) (aC (eVal (eLst (aC (eC (.int 1)) (aC (eC (.int 1)) aN)))) (aC (eC .non) (aC (eTup (aC (eC .non) (aC (eC (.int 1)) aN))) (aC (eTup (aC (eC (.str "1")) (aC (eC (.int 1)) aN))) aN)))))))))))) (.nm 2) (sEx (eBM "list" appD (eV 1) (aC (eTup (aC (eV 2) (aC (eV 4) (aC (eV 5) (aC (eC (.int 1)) (aC (eV 7) aN)))))) aN))))
  (sSq (sForV (iSeq (eTup (aC (eC (.int 0)) (aC (eC (.int 11)) (aC (eC (.bl true)) (aC (eC .non) (aC (eC (.str "5")) (aC (eUn negI (eC (.int 1))) aN)))))))) (.nm 2) (sEx (eBM "list" appD (eV 1) (aC (eTup (aC (eV 3) (aC (eV 2) (aC (eV 5) (aC (eV 6) (aC (eV 7) aN)))))) aN))))
  (sSq (sForV (iSeq (eTup (aC (eTup (aC (eC (.int 0)) (aC (eC (.int 1)) aN))) (aC (eTup (aC (eC (.int 1)) (aC (eC (.int 0)) aN))) (aC (eTup (aC (eC (.int 2)) (aC (eC (.int 1)) aN))) (aC (eTup (aC (eC (.int 1)) (aC (eC (.int 10)) aN))) (aC (eTup (aC (eC (.int 10)) (aC (eC (.int 10)) aN))) (aC (eTup (aC (eC (.bl true)) (aC (eC (.int 1)) aN))) (aC (eTup (aC (eC (.int 1)) aN)) (aC (eTup (aC (eC (.int 1)) (aC (eC (.int 1)) (aC (eC (.int 1)) aN)))) (aC (eVal (eLst (aC (eC (.int 1)) (aC (eC (.int 1)) aN)))) (aC (eC .non) (aC (eC (.int 1)) aN))))))))))))) (.nm 2) (sEx (eBM "list" appD (eV 1) (aC (eTup (aC (eV 3) (aC (eV 4) (aC (eV 2) (aC (eV 6) (aC (eV 7) aN)))))) aN))))
  (sSq (sForV (iSeq (eTup (aC (eC (.int 0)) (aC (eOp addD (eB lenD (aC (eV 3) aN)) (eC (.int 1))) (aC (eC (.bl true)) (aC (eC .non) aN)))))) (.nm 2) (sEx (eBM "list" appD (eV 1) (aC (eTup (aC (eV 3) (aC (eV 4) (aC (eV 5) (aC (eV 2) (aC (eV 7) aN)))))) aN))))
  (sRet (eOp addD (eV 1) (eVal (eLc (iSeq (eTup (aC (eC (.int 0)) (aC (eC (.int 7)) (aC (eC (.bl true)) (aC (eC .non) aN)))))) (.nm 2) yesD (eTup (aC (eV 3) (aC (eV 4) (aC (eV 5) (aC (eV 6) (aC (eV 2) aN)))))) [2]))))))))))
def F_law_bad_ports : List D → MS → R D := fnD 1 8 g_law_bad_ports

def g_is_port : En → MS → RS :=
  (sSq (sIf (tOrD (tNotD (trT (eB isiD (aC (eV 0) (aC (eC (.ty .tuple)) aN))))) (bT (eOp neD (eB lenD (aC (eV 0) aN)) (eC (.int 5))))) (sRet (eC (.bl false))) sNx)
  (sSq (sPat (.tp [(.nm 1), (.nm 2), (.nm 3), (.nm 4), (.nm 5)]) (eV 0))
  (sSq (sIf (tOrD (tNotD (trT (eB isiD (aC (eV 1) (aC (eC (.ty .tuple)) aN))))) (tOrD (tNotD (bT (eChain leI leI (eC (.int 2)) (eB lenD (aC (eV 1) aN)) (eC (.int 6))))) (tNotD (trT (eB allD (aC (eVal (eLc (iSeq (eV 1)) (.nm 6) yesD (eF F_is_whole (aC (eV 6) (aC (eC (.int 1)) (aC (eC (.int 6)) aN)))) [6])) aN)))))) (sRet (eC (.bl false))) sNx)
  (sSq (sIf (tOrD (tNotD (trT (eB isiD (aC (eV 3) (aC (eC (.ty .tuple)) aN))))) (tOrD (bT (eOp neD (eB lenD (aC (eV 3) aN)) (eC (.int 2)))) (tNotD (trT (eB allD (aC (eVal (eLc (iSeq (eV 3)) (.nm 6) yesD (eF F_is_whole (aC (eV 6) (aC (eC (.int 1)) (aC (eC (.int 9)) aN)))) [6])) aN)))))) (sRet (eC (.bl false))) sNx)
  (sRet (eAnd (eF F_is_whole (aC (eV 2) (aC (eC (.int 1)) (aC (eC (.int 10)) aN)))) (eAnd (eOp leI (eOp ixD (eV 3) (eC (.int 0))) (eOp ixD (eV 3) (eC (.int 1)))) (eAnd (eF F_is_whole (aC (eV 4) (aC (eC (.int 1)) (aC (eB lenD (aC (eV 1) aN)) aN)))) (eF F_is_whole (aC (eV 5) (aC (eC (.int 1)) (aC (eC (.int 6)) aN))))))))))))
def F_is_port : List D → MS → R D := fnD 1 7 g_is_port

def g_is_right : En → MS → RS :=
  (sSq (sIf (tOrD (tNotD (trT (eB isiD (aC (eV 1) (aC (eC (.ty .tuple)) aN))))) (bT (eOp neD (eB lenD (aC (eV 1) aN)) (eC (.int 2))))) (sRet (eC (.bl false))) sNx)
  (sRet (eAnd (eF F_is_whole (aC (eOp ixD (eV 1) (eC (.int 0))) (aC (eC (.int 0)) (aC (eOp subI (eB lenD (aC (eOp ixD (eV 0) (eC (.int 0))) aN)) (eC (.int 1))) aN)))) (eF F_is_house (aC (eOp ixD (eV 1) (eC (.int 1))) aN)))))
def F_is_right : List D → MS → R D := fnD 2 2 g_is_right

def g_are_weeks : En → MS → RS :=
  (sRet (eAnd (eB isiD (aC (eV 1) (aC (eC (.ty .tuple)) aN))) (eAnd (eB allD (aC (eVal (eLc (iSeq (eV 1)) (.nm 2) yesD (eF F_is_whole (aC (eV 2) (aC (eC (.int 0)) (aC (eOp subI (eOp ixD (eV 0) (eC (.int 1))) (eC (.int 1))) aN)))) [2])) aN)) (eF F_do_rise (aC (eV 1) aN)))))
def F_are_weeks : List D → MS → R D := fnD 2 3 g_are_weeks

def g_is_lent : En → MS → RS :=
  (sSq sBad
  sBad)
def F_is_lent : List D → MS → R D := fnD 3 3 g_is_lent

def g_all_uses : En → MS → RS :=
  sBad
def F_all_uses : List D → MS → R D := fnD 2 3 g_all_uses

def g_are_wishes : En → MS → RS :=
  (sSq sBad
  sBad)
def F_are_wishes : List D → MS → R D := fnD 2 3 g_are_wishes

def g_text_of_log : En → MS → RS :=
  (sSq sBad
  (sSq sBad
  sBad))
def F_text_of_log : List D → MS → R D := fnD 1 9 g_text_of_log

def g_law_pick : En → MS → RS :=
  (sRet (eOp ixD (eV 2) (eF F_law_draw (aC (eV 0) (aC (eV 1) (aC (eB lenD (aC (eV 2) aN)) aN))))))
def F_law_pick : List D → MS → R D := fnD 3 3 g_law_pick

def g_law_port : En → MS → RS :=
  (sSq (sSet 4 (eOp addD (eC (.int 2)) (eF F_law_draw (aC (eV 0) (aC (eV 1) (aC (eOp subI (eV 2) (eC (.int 1))) aN))))))
  (sSq (sSet 5 (eB tupD (aC (eVal (eLc (iB rng1 (aC (eV 4) aN)) (.nm 9) yesD (eOp addD (eC (.int 1)) (eF F_law_draw (aC (eV 0) (aC (eV 1) (aC (eV 3) aN))))) [9])) aN)))
  (sSq (sSet 6 (eOp addD (eC (.int 1)) (eF F_law_draw (aC (eV 0) (aC (eV 1) (aC (eC (.int 9)) aN))))))
  (sSq (sSet 7 (eTup (aC (eOp addD (eC (.int 1)) (eF F_law_draw (aC (eV 0) (aC (eV 1) (aC (eV 6) aN))))) (aC (eV 6) aN))))
  (sSq (sSet 8 (eOp addD (eC (.int 1)) (eF F_law_draw (aC (eV 0) (aC (eV 1) (aC (eV 4) aN))))))
  (sRet (eTup (aC (eV 5) (aC (eOp addD (eC (.int 1)) (eF F_law_draw (aC (eV 0) (aC (eV 1) (aC (eC (.int 10)) aN))))) (aC (eV 7) (aC (eV 8) (aC (eOp addD (eC (.int 1)) (eF F_law_draw (aC (eV 0) (aC (eV 1) (aC (eC (.int 3)) aN))))) aN))))))))))))
def F_law_port : List D → MS → R D := fnD 4 10 g_law_port

def g_look_port : En → MS → RS :=
  (sIf (tNotD (trT (eF F_is_port (aC (eV 0) aN)))) (sRaise 1) sNx)
def F_look_port : List D → MS → R D := fnD 1 1 g_look_port

def g_are_good : En → MS → RS :=
  (sSq (sIf (tOrD (tNotD (trT (eB isiD (aC (eV 1) (aC (eC (.ty .tuple)) aN))))) (tOrD (bT (eOp gtI (eB lenD (aC (eV 1) aN)) (eC (.int 10)))) (tNotD (trT (eB allD (aC (eVal (eLc (iSeq (eV 1)) (.nm 4) yesD (eF F_is_right (aC (eV 0) (aC (eV 4) aN))) [4])) aN)))))) (sRet (eC (.bl false))) sNx)
  (sSq (sIf (tNotD (trT (eB allD (aC (eVal (eLc (iB zipG (aC (eV 1) (aC (eSl slT (eV 1) (pSm (eC (.int 1))) pNo) aN))) (.tp [(.nm 4), (.nm 5)]) yesD (eOp leA (eV 4) (eV 5)) [4, 5])) aN)))) (sRet (eC (.bl false))) sNx)
  (sRet (eB allD (aC (eVal (eLc (iB enumG (aC (eOp ixD (eV 0) (eC (.int 0))) aN)) (.tp [(.nm 2), (.nm 3)]) yesD (eOp leA (eB lenD (aC (eVal (eLc (iSeq (eV 1)) (.nm 4) (bT (eOp eqD (eOp ixD (eV 4) (eC (.int 0))) (eV 2))) (eV 4) [4])) aN)) (eV 3)) [2, 3])) aN)))))
def F_are_good : List D → MS → R D := fnD 2 6 g_are_good

def g_is_good_log : En → MS → RS :=
  (sSq sBad
  (sSq sBad
  (sSq sBad
  (sSq sBad
  (sSq sBad
  (sSq sBad
  sBad))))))
def F_is_good_log : List D → MS → R D := fnD 3 11 g_is_good_log

def g_is_ask : En → MS → RS :=
  (sSq sBad
  sBad)
def F_is_ask : List D → MS → R D := fnD 2 2 g_is_ask

def g_law_rights : En → MS → RS :=
  (sSq (sSet 4 (eObj (eLst aN)))
  (sSq (sForV (iB enumG (aC (eOp ixD (eV 2) (eC (.int 0))) aN)) (.tp [(.nm 5), (.nm 6)]) (sForV (iB rng1 (aC (eF F_law_draw (aC (eV 0) (aC (eV 1) (aC (eOp addD (eV 6) (eC (.int 1))) aN)))) aN)) (.nm 7) (sEx (eBM "list" appD (eV 4) (aC (eTup (aC (eV 5) (aC (eF F_law_pick (aC (eV 0) (aC (eV 1) (aC (eVal (eLst (aC (eC (.str "ab")) (aC (eC (.str "cd")) (aC (eC (.str "ef")) aN))))) aN)))) aN))) aN)))))
  (sRet (eB tupD (aC (eSl slT (eB srtA (aC (eV 4) aN)) pNo (pSm (eV 3))) aN)))))
def F_law_rights : List D → MS → R D := fnD 4 8 g_law_rights

def g_need : En → MS → RS :=
  (sSq (sEx (eF F_look_port (aC (eV 0) aN)))
  (sRet (eF F_need_of (aC (eV 0) aN))))
def F_need : List D → MS → R D := fnD 1 1 g_need

def g_are_rights : En → MS → RS :=
  (sSq (sEx (eF F_look_port (aC (eV 0) aN)))
  (sRet (eF F_are_good (aC (eV 0) (aC (eV 1) aN)))))
def F_are_rights : List D → MS → R D := fnD 2 2 g_are_rights

def g_look_rights : En → MS → RS :=
  (sSq (sEx (eF F_look_port (aC (eV 0) aN)))
  (sIf (tNotD (trT (eF F_are_good (aC (eV 0) (aC (eV 1) aN))))) (sRaise 2) sNx))
def F_look_rights : List D → MS → R D := fnD 2 2 g_look_rights

def g_next_house : En → MS → RS :=
  (sSq sBad
  (sSq sBad
  (sSq sBad
  (sSq sBad
  sBad))))
def F_next_house : List D → MS → R D := fnD 6 13 g_next_house

def g_port_text : En → MS → RS :=
  (sSq (sEx (eF F_look_port (aC (eV 0) aN)))
  (sRet (eF F_text_of_port (aC (eV 0) aN))))
def F_port_text : List D → MS → R D := fnD 1 1 g_port_text

def g_look_log : En → MS → RS :=
  (sSq (sEx (eF F_look_rights (aC (eV 0) (aC (eV 1) aN))))
  (sIf (tNotD (trT (eF F_is_good_log (aC (eV 0) (aC (eV 1) (aC (eV 2) aN)))))) (sRaise 3) sNx))
def F_look_log : List D → MS → R D := fnD 3 3 g_look_log

def g_look_asks : En → MS → RS :=
  (sSq (sEx (eF F_look_rights (aC (eV 0) (aC (eV 1) aN))))
  (sSq (sIf (tOrD (tNotD (trT (eB isiD (aC (eV 2) (aC (eC (.ty .tuple)) aN))))) (tOrD (bT (eOp gtI (eB lenD (aC (eV 2) aN)) (eC (.int 6)))) (tNotD (trT (eB allD (aC (eVal (eLc (iSeq (eV 2)) (.nm 3) yesD (eF F_is_ask (aC (eV 0) (aC (eV 3) aN))) [3])) aN)))))) (sRaise 10) sNx)
  (sIf (tNotD (trT (eF F_do_rise (aC (eVal (eLc (iSeq (eV 2)) (.nm 3) yesD (eOp ixD (eV 3) (eC (.int 0))) [3])) aN)))) (sRaise 10) sNx)))
def F_look_asks : List D → MS → R D := fnD 3 4 g_look_asks

def g_free_slots : En → MS → RS :=
  (sSq (sEx (eF F_look_rights (aC (eV 0) (aC (eV 1) aN))))
  (sRet (eB tupD (aC (eF F_all_free (aC (eV 0) (aC (eV 1) aN))) aN))))
def F_free_slots : List D → MS → R D := fnD 2 2 g_free_slots

def g_all_deals : En → MS → RS :=
  (sSq sBad
  (sSq sBad
  (sSq sBad
  (sSq sBad
  sBad))))
def F_all_deals : List D → MS → R D := fnD 3 12 g_all_deals

def g_rights_text : En → MS → RS :=
  (sSq (sEx (eF F_look_rights (aC (eV 0) (aC (eV 1) aN))))
  (sRet (eF F_text_of_rights (aC (eV 1) aN))))
def F_rights_text : List D → MS → R D := fnD 2 2 g_rights_text

def g_Desk_init : En → MS → RS :=
  (sSq (sEx (eF F_look_rights (aC (eV 1) (aC (eV 2) aN))))
  (sSq (sIf (tNotD (trT (eF F_are_weeks (aC (eV 1) (aC (eV 3) aN))))) (sRaise 3) sNx)
  (sSq (sFd 24 "port" (eV 0) (eV 1))
  (sSq (sFd 24 "rights" (eV 0) (eV 2))
  (sSq (sFd 24 "now" (eV 0) (eTup (aC (eTup (aC (eV 3) (aC (eOp mulD (eTup (aC (eTup aN) aN)) (eB lenD (aC (eV 2) aN))) (aC (eTup aN) aN)))) (aC (eUn negI (eC (.int 1))) aN))))
  (sSq (sFd 24 "elder" (eV 0) (eObj (eLst aN)))
  (sSq (sFd 24 "done" (eV 0) (eObj (eLst aN)))
  (sFd 24 "undone" (eV 0) (eObj (eLst aN))))))))))
def F_Desk_init : List D → MS → R D := fnD 4 4 g_Desk_init

def g_uses : En → MS → RS :=
  (sSq (sEx (eF F_look_log (aC (eV 0) (aC (eV 1) (aC (eV 2) aN)))))
  (sRet (eF F_all_uses (aC (eV 1) (aC (eV 2) aN)))))
def F_uses : List D → MS → R D := fnD 3 3 g_uses

def g_deals : En → MS → RS :=
  (sSq (sEx (eF F_look_asks (aC (eV 0) (aC (eV 1) (aC (eV 2) aN)))))
  (sRet (eF F_all_deals (aC (eV 0) (aC (eV 1) (aC (eV 2) aN))))))
def F_deals : List D → MS → R D := fnD 3 3 g_deals

def g_log_text : En → MS → RS :=
  (sSq (sEx (eF F_look_log (aC (eV 0) (aC (eV 1) (aC (eV 2) aN)))))
  (sRet (eF F_text_of_log (aC (eV 2) aN))))
def F_log_text : List D → MS → R D := fnD 3 3 g_log_text

def tblD (c : Nat) : Option (List D → MS → R D) := if c = 19 then some F_need else if c = 20 then some F_are_rights else if c = 21 then some F_free_slots else if c = 22 then some F_port_text else if c = 23 then some F_rights_text else none
def g_law_one : En → MS → RS :=
  (sSq (sPat (.tp [(.nm 2), (.nm 3)]) (eV 1))
  (sSq (sIf (bT (eOp ltI (eV 0) (eC (.int 5)))) (sSq (sSet 4 (eOp ixD (eTup (aC (eC (.top 19)) (aC (eC (.top 20)) (aC (eC (.top 21)) (aC (eC (.top 22)) (aC (eC (.top 23)) aN)))))) (eV 0)))
  (sRet (eIf (bT (eOp inA (eV 0) (eTup (aC (eC (.int 0)) (aC (eC (.int 3)) aN))))) (eDsp 4 tblD (aC (eV 2) aN)) (eDsp 4 tblD (aC (eV 2) (aC (eV 3) aN)))))) sNx)
  (sSq (sIf (bT (eOp eqD (eV 0) (eC (.int 5)))) (sRet (eF F_uses (aC (eV 2) (aC (eV 3) (aC (eC .non) aN))))) sNx)
  (sSq (sIf (bT (eOp eqD (eV 0) (eC (.int 6)))) (sRet (eF F_deals (aC (eV 2) (aC (eV 3) (aC (eC .non) aN))))) sNx)
  (sRet (eIf (bT (eOp eqD (eV 0) (eC (.int 7)))) (eMk 24 F_Desk_init (aC (eV 2) (aC (eV 3) (aC (eC .non) aN)))) (eF F_log_text (aC (eV 2) (aC (eV 3) (aC (eC .non) aN))))))))))
def F_law_one : List D → MS → R D := fnD 2 5 g_law_one

def g_law_told : En → MS → RS :=
  (sSq (sSet 2 (eC .non))
  (sSq (sSet 3 (eC .non))
  (sSq (sTryG (okF 19) 4 2 (sSet 3 (eF F_law_one (aC (eV 0) (aC (eV 1) aN)))))
  (sSq (sIf (bT (eOp isA (eV 2) (eC .non))) (sRet (eTup (aC (eC (.str "found")) (aC (eV 3) aN)))) sNx)
  (sRet (eTup (aC (eC (.str "refused")) (aC (eF F_law_word (aC (eV 2) aN)) aN))))))))
def F_law_told : List D → MS → R D := fnD 2 5 g_law_told

def g_law : En → MS → RS :=
  (sSq (sSet 1 (eF F_law_town (aC (eV 0) aN)))
  (sSq (sSet 2 (eF F_law_port (aC (eV 0) (aC (eV 1) (aC (eC (.int 6)) (aC (eC (.int 6)) aN))))))
  (sSq (sSet 3 (eF F_law_rights (aC (eV 0) (aC (eV 1) (aC (eV 2) (aC (eC (.int 10)) aN))))))
  (sSq (sSet 4 (eVal (eLst (aC (eV 2) (aC (eTup (aC (eTup (aC (eC (.int 6)) (aC (eC (.int 1)) aN))) (aC (eC (.int 10)) (aC (eTup (aC (eC (.int 9)) (aC (eC (.int 9)) aN))) (aC (eC (.int 1)) (aC (eC (.int 6)) aN)))))) (aC (eTup (aC (eOp mulD (eTup (aC (eC (.int 1)) aN)) (eC (.int 6))) (aC (eC (.int 1)) (aC (eTup (aC (eC (.int 1)) (aC (eC (.int 1)) aN))) (aC (eC (.int 6)) (aC (eC (.int 1)) aN)))))) (aC (eTup (aC (eTup (aC (eC (.int 1)) (aC (eC (.int 1)) aN))) (aC (eC (.int 1)) (aC (eTup (aC (eC (.int 1)) (aC (eC (.int 9)) aN))) (aC (eC (.int 2)) (aC (eC (.int 1)) aN)))))) aN)))))))
  (sSq (sIf (tOrD (bT (eOp neD (eVal (eLc (iSeq (eV 4)) (.nm 12) (bT (eOp isNotA (eF F_is_port (aC (eV 12) aN)) (eC (.bl true)))) (eV 12) [12])) (eVal (eLst aN)))) (bT (eOp isNotA (eF F_are_rights (aC (eV 2) (aC (eV 3) aN))) (eC (.bl true))))) (sRet (eC (.bl false))) sNx)
  (sSq (sForV (iSeq (eF F_law_bad_ports (aC (eV 2) aN))) (.nm 5) (sIf (bT (eOp isNotA (eF F_is_port (aC (eV 5) aN)) (eC (.bl false)))) (sRet (eC (.bl false))) sNx))
  (sSq (sSet 5 (eF F_law_pick (aC (eV 0) (aC (eV 1) (aC (eF F_law_bad_ports (aC (eV 2) aN)) aN)))))
  (sSq (sIf (bT (eOp neD (eVal (eLc (iB rng1 (aC (eC (.int 9)) aN)) (.nm 10) yesD (eF F_law_told (aC (eV 10) (aC (eTup (aC (eV 5) (aC (eC .non) aN))) aN))) [10])) (eOp mulD (eVal (eLst (aC (eF F_law_refused (aC (eC (.str "port")) aN)) aN))) (eC (.int 9))))) (sRet (eC (.bl false))) sNx)
  (sSq (sSet 6 (eTup (aC (eTup (aC (eC (.int 6)) (aC (eC (.int 6)) aN))) (aC (eC (.int 5)) (aC (eTup (aC (eC (.int 1)) (aC (eC (.int 2)) aN))) (aC (eC (.int 1)) (aC (eC (.int 1)) aN)))))))
  (sSq (sSet 7 (eOp addD (eOp mulD (eTup (aC (eTup (aC (eC (.int 0)) (aC (eC (.str "ab")) aN))) aN)) (eC (.int 6))) (eOp mulD (eTup (aC (eTup (aC (eC (.int 1)) (aC (eC (.str "abcdefgh")) aN))) aN)) (eC (.int 4)))))
  (sSq (sIf (tOrD (bT (eOp isNotA (eF F_are_rights (aC (eV 6) (aC (eV 7) aN))) (eC (.bl true)))) (bT (eOp isNotA (eF F_are_rights (aC (eV 6) (aC (eTup aN) aN))) (eC (.bl true))))) (sRet (eC (.bl false))) sNx)
  (sSq (sSet 8 (eVal (eLst (aC (eC .non) (aC (eC (.int 5)) (aC (eB listD (aC (eV 7) aN)) (aC (eOp addD (eV 7) (eTup (aC (eTup (aC (eC (.int 1)) (aC (eC (.str "cd")) aN))) aN))) (aC (eOp mulD (eTup (aC (eTup (aC (eC (.int 0)) (aC (eC (.str "ab")) aN))) aN)) (eC (.int 7))) (aC (eTup (aC (eTup (aC (eC (.int 1)) (aC (eC (.str "ab")) aN))) (aC (eTup (aC (eC (.int 0)) (aC (eC (.str "ab")) aN))) aN))) (aC (eTup (aC (eTup (aC (eC (.int 0)) (aC (eC (.str "cd")) aN))) (aC (eTup (aC (eC (.int 0)) (aC (eC (.str "ab")) aN))) aN))) aN))))))))))
  (sSq (sSet 9 (eVal (eLst (aC (eTup (aC (eC (.int 2)) (aC (eC (.str "ab")) aN))) (aC (eTup (aC (eUn negI (eC (.int 1))) (aC (eC (.str "ab")) aN))) (aC (eTup (aC (eC (.bl true)) (aC (eC (.str "ab")) aN))) (aC (eTup (aC (eC (.int 0)) (aC (eC (.str "")) aN))) (aC (eTup (aC (eC (.int 0)) (aC (eC (.str "abcdefghi")) aN))) (aC (eTup (aC (eC (.int 0)) (aC (eC (.str "Ab")) aN))) (aC (eTup (aC (eC (.int 0)) (aC (eC (.int 5)) aN))) (aC (eTup (aC (eC (.int 0)) aN)) (aC (eC .non) aN))))))))))))
  (sSq (sSet 8 (eOp addD (eV 8) (eVal (eLc (iSeq (eOp addD (eV 9) (eVal (eLst (aC (eTup (aC (eC (.int 0)) (aC (eC (.str "ab")) (aC (eC (.int 1)) aN)))) aN))))) (.nm 11) yesD (eTup (aC (eV 11) aN)) [11]))))
  (sSq (sIf (bT (eOp neD (eVal (eLc (iSeq (eV 8)) (.nm 5) (bT (eOp isNotA (eF F_are_rights (aC (eV 6) (aC (eV 5) aN))) (eC (.bl false)))) (eV 5) [5])) (eVal (eLst aN)))) (sRet (eC (.bl false))) sNx)
  (sSq (sSet 5 (eF F_law_pick (aC (eV 0) (aC (eV 1) (aC (eV 8) aN)))))
  (sRet (eOp eqD (eVal (eLc (iSeq (eTup (aC (eC (.int 2)) (aC (eC (.int 4)) (aC (eC (.int 5)) (aC (eC (.int 6)) (aC (eC (.int 7)) (aC (eC (.int 8)) aN)))))))) (.nm 10) yesD (eF F_law_told (aC (eV 10) (aC (eTup (aC (eV 6) (aC (eV 5) aN))) aN))) [10])) (eOp mulD (eVal (eLst (aC (eF F_law_refused (aC (eC (.str "rights")) aN)) aN))) (eC (.int 6)))))))))))))))))))))
def F_law : List D → MS → R D := fnD 1 13 g_law

end Qk01

namespace Qk01
open PySem Dn
abbrev ti (xs : List Int) : D := .tup (xs.map .int)
structure Port where
  sl : List Int
  w : Int
  k0 : Int
  k1 : Int
  b : Int
  f : Int
def Port.d (p : Port) : D := .tup [ti p.sl, .int p.w, .tup [.int p.k0, .int p.k1], .int p.b, .int p.f]
structure Port.ok (p : Port) : Prop where
  n2 : 2 ≤ p.sl.length
  n6 : p.sl.length ≤ 6
  hs : ∀ s ∈ p.sl, 1 ≤ s ∧ s ≤ 6
  w1 : 1 ≤ p.w
  w10 : p.w ≤ 10
  k1 : 1 ≤ p.k0
  k01 : p.k0 ≤ p.k1
  k9 : p.k1 ≤ 9
  b1 : 1 ≤ p.b
  bn : p.b ≤ p.sl.length
  f1 : 1 ≤ p.f
  f6 : p.f ≤ 6
theorem is_whole_a {x a b : Int} {S : MS} : F_is_whole [.int x, .int a, .int b] S = .ok (.bl (decide (a ≤ x ∧ x ≤ b))) S := by
  by_cases h : a ≤ x <;> simp [F_is_whole, g_is_whole, fnD, startD, sRet, fin, h]
theorem whole_list {p : Nat} {S : MS} {ρ : En} {a b : Int} {fa fb : En → MS → R D} (xs : List Int) (h : ∀ x, eV p (ρ.set p (some x)) S = .ok x S) (ha : ∀ x, fa (ρ.set p (some x)) S = .ok (.int a) S) (hb : ∀ x, fb (ρ.set p (some x)) S = .ok (.int b) S) :
    compL (.nm p) yesD (eF F_is_whole (aC (eV p) (aC fa (aC fb aN)))) ρ (xs.map .int) S = .ok (xs.map fun x => .bl (decide (a ≤ x ∧ x ≤ b))) S := by
  refine compL_all D.int _ xs fun x _ => ⟨_, rfl, ?_⟩
  simp [h, ha, hb, is_whole_a]
theorem is_port_a {p : Port} (h : p.ok) {S : MS} : F_is_port [p.d] S = .ok (.bl true) S := by
  obtain ⟨sl, w, k0, k1, b, f⟩ := p
  obtain ⟨n2, n6, hs, w1, w10, h1, h01, h9, b1, bn, f1, f6⟩ := h
  simp only at n2 n6 hs w1 w10 h1 h01 h9 b1 bn f1 f6
  have e : (2 : Int) ≤ sl.length ∧ (sl.length : Int) ≤ 6 := by omega
  have l : sl.length ≤ lim := by unfold lim; omega
  have l2 : 2 ≤ lim := by decide
  refine fn_is rfl ?_
  refine st_skip (S1 := S) (by simp [Port.d, startD]) ?_
  refine st_pat (d := _) (S1 := S) rfl rfl ?_
  refine st_skip (S1 := S) (by
    simp [startD, e, l, Port.d, List.replicate_succ]
    rw [whole_list (a := 1) (b := 6) _ (by simp) (by simp) (by simp)]
    simp [allD_map]
    intro x hx; have := hs x hx; omega) ?_
  refine st_skip (S1 := S) (by
    have z := whole_list (p := 6) (S := S) (ρ := [some (D.tup [ti sl, D.int w, D.tup [D.int k0, D.int k1], D.int b, D.int f]), some (ti sl), some (D.int w), some (D.tup [D.int k0, D.int k1]), some (D.int b), some (D.int f), none]) (a := 1) (b := 9) (fa := eC (.int 1)) (fb := eC (.int 9)) [k0, k1] (by simp) (by simp) (by simp)
    simp only [List.map_cons, List.map_nil] at z
    have z2 := allD_map (S := S) (fun x => decide (1 ≤ x ∧ x ≤ 9)) [k0, k1]
    simp only [List.map_cons, List.map_nil] at z2
    have q : (1 ≤ k0 ∧ k0 ≤ 9) ∧ (1 ≤ k1 ∧ k1 ≤ 9) := by omega
    simp [startD, Port.d, List.replicate_succ, z, l2, q, allD, bools]) ?_
  have a1 : decide (1 ≤ w ∧ w ≤ 10) = true := by simp; omega
  have a2 : decide (k0 ≤ k1) = true := by simp; omega
  have a3 : decide (1 ≤ b ∧ b ≤ (sl.length : Int)) = true := by simp; omega
  have a4 : decide (1 ≤ f ∧ f ≤ 6) = true := by simp; omega
  refine st_ret (d := .bl true) (S1 := S) (by simp [startD, Port.d, List.replicate_succ, is_whole_a, w1, w10, h01, b1, bn, f1, f6]) Is.ret
theorem look_port_a {p : Port} (h : p.ok) {S : MS} : F_look_port [p.d] S = .ok .non S := by
  refine fn_is rfl (st_ifl (S1 := S) (by simp [startD, is_port_a h]) Is.nx)
def inI (ws : List Int) (x : Int) : Bool := ws.any fun y => y == x
theorem inA_ints {S : MS} {ws : List Int} {x : Int} : inA S (.int x) (ti ws) = some (.bl (inI ws x)) := by
  have h : (ws.map D.int).all flatD = true := by simp [flatD]
  have h2 : ((ws.map D.int).any fun d => eqF d (.int x)) = inI ws x := by simp [List.any_map, inI, eqF, Function.comp_def]
  simp [inA, orG, inD, h, h2, flatD]
end Qk01

namespace Qk01
open PySem Dn
def Town (ns : List Int) (c : Int) (r : MS) (S : MS) : Prop := ∃ (t : Int) (ts : List Int), S = .lst (.int t :: ts.map .int) :: r ∧ 0 ≤ t ∧ t ≤ c ∧ ts.length = ns.length
theorem Town.le {ns : List Int} {c c' : Int} {r S : MS} (h : Town ns c r S) (l : c ≤ c') : Town ns c' r S := by
  obtain ⟨t, ts, e, a, b, d⟩ := h
  exact ⟨t, ts, e, a, by omega, d⟩
theorem town_a {ns : List Int} (h : ns.length ≤ 63) : ∃ S, F_law_town [.frz (ns.map .int)] [] = .ok (.obj 0) S ∧ Town ns 0 [] S := by
  refine ⟨[.lst (.int 0 :: ns.map .int)], fn_is rfl ?_, 0, ns, rfl, by omega, by omega, rfl⟩
  refine st_ret (S1 := _) ?_ Is.ret
  have : 1 + ns.length ≤ lim := by unfold lim; omega
  simp [startD, eOpL, catLL, rdM, this]
theorem draw_a {ns : List Int} (hn : ns.length ≤ 63) {c : Int} (hc : c < 1000000) {r S : MS} (h : Town ns c r S) {m : Int} (h0 : 0 < m) (h1 : m ≤ 1000) : ∃ k S', F_law_draw [.frz (ns.map .int), .obj 0, .int m] S = .ok (.int k) S' ∧ Town ns (c + 1) r S' ∧ 0 ≤ k ∧ k < m := by
  obtain ⟨t, ts, rfl, ht, ht2, hts⟩ := h
  suffices z : Sat (fun d S' => ∃ k, d = .int k ∧ Town ns (c + 1) r S' ∧ 0 ≤ k ∧ k < m) (g_law_draw (startD 6 [.frz (ns.map .int), .obj 0, .int m]) (.lst (.int t :: ts.map .int) :: r)) by
    obtain ⟨d, S', e, k, rfl, z⟩ := fn_sat (k := 3) rfl z
    exact ⟨k, S', e, z⟩
  have fin_ : ∀ (x : Int) (ts' : List Int), ts'.length = ns.length → ∃ k, D.int (x % m) = .int k ∧ Town ns (c + 1) r (.lst (.int (t + 1) :: ts'.map .int) :: r) ∧ 0 ≤ k ∧ k < m := fun x ts' e => ⟨_, rfl, ⟨t + 1, ts', rfl, by omega, by omega, e⟩, Int.emod_nonneg _ (by omega), Int.emod_lt_of_pos _ h0⟩
  refine st_put (S1 := (.lst (.int t :: ts.map .int) :: r)) (S2 := (.lst (.int t :: ts.map .int) :: r)) (S3 := (.lst (.int t :: ts.map .int) :: r)) (v := .int (t + 1)) (o := .obj 0) (i := .int 0) (by simp [startD, ixD_o]) rfl rfl putL_0 ?_
  by_cases hz : ns = []
  · refine st_then (S1 := (.lst (.int (t + 1) :: ts.map .int) :: r)) (by simp [startD, eqD_script]; exact hz) ?_
    refine st_retq (S1 := (.lst (.int (t + 1) :: ts.map .int) :: r)) (d := .int ((t + 1) * (t + 1) * 7 / 3 % m)) ?_ (Sat.ret (fin_ _ ts hts))
    have m1 : ∀ S : MS, mulD S (.int (t + 1)) (.int (t + 1)) = some (.int ((t + 1) * (t + 1))) := fun S => mulD_l (by unfold b64; omega) (by unfold b64; omega)
    have m2 : ∀ S : MS, mulD S (.int ((t + 1) * (t + 1))) (.int 7) = some (.int ((t + 1) * (t + 1) * 7)) := fun S => mulD_r (by unfold b64; omega) (by unfold b64; omega)
    simp [startD, ixD_o, m1, m2, divI_a, modI_a h0]
  · have hl : 0 < ns.length := List.length_pos_iff.mpr hz
    refine st_skip (S1 := (.lst (.int (t + 1) :: ts.map .int) :: r)) (by simp [startD, eqD_script, hz]) ?_
    have hj : ∃ j : Int, j = (t + 1) % ns.length ∧ 0 ≤ j ∧ j < ns.length := ⟨_, rfl, Int.emod_nonneg _ (by omega), Int.emod_lt_of_pos _ (by omega)⟩
    obtain ⟨j, ej, j0, j1⟩ := hj
    refine st_set (S1 := (.lst (.int (t + 1) :: ts.map .int) :: r)) (d := .int j) (by simp [startD, ixD_o, modI_a (show (0 : Int) < ns.length by omega), ej]) ?_
    have a1 : L2.atI (D.int (t + 1) :: ts.map .int) (1 + j) = some (.int (nth ts j)) := atI_s1 j0 (by omega)
    refine st_set (S1 := (.lst (.int (t + 1) :: ts.map .int) :: r)) (d := .int (nth ts j)) (by simp [startD, List.replicate_succ, ixD_o, a1]) ?_
    have a2 : L2.atI (ns.map D.int) j = some (.int (nth ns j)) := atI_int j0 j1
    have p1 : ∀ S : MS, powI S (.int 10) (.int 18) = some (.int 1000000000000000000) := fun S => powI_a (by omega) (by omega) (by decide)
    by_cases hb : 1000000000000000000 ≤ nth ns j ∧ 0 < nth ts j
    · refine st_then (S1 := (.lst (.int (t + 1) :: ts.map .int) :: r)) (by simp [startD, List.replicate_succ, a2, p1, hb]) ?_
      refine st_sq ?_
      refine st_put (S1 := (.lst (.int (t + 1) :: ts.map .int) :: r)) (S2 := (.lst (.int (t + 1) :: ts.map .int) :: r)) (S3 := (.lst (.int (t + 1) :: ts.map .int) :: r)) (v := .int (nth ts j / m)) (o := .obj 0) (i := .int (1 + j)) (by simp [startD, List.replicate_succ, divI_a h0 (show m < 1073741824 by omega)]) rfl rfl (putL_s j0 (by simp; omega)) ?_
      refine st_retq (d := .int (nth ts j % m)) (S1 := _) (by simp [startD, List.replicate_succ, modI_a h0]; rfl) (Sat.ret ?_)
      have := fin_ (nth ts j) (ts.set j.toNat (nth ts j / m)) (by simp [hts])
      rw [List.map_set] at this
      exact this
    · refine st_skip (S1 := (.lst (.int (t + 1) :: ts.map .int) :: r)) (by
        by_cases q : 1000000000000000000 ≤ nth ns j
        · have q2 : ¬ 0 < nth ts j := fun q2 => hb ⟨q, q2⟩
          simp [startD, List.replicate_succ, a2, p1, q, q2]
        · simp [startD, List.replicate_succ, a2, p1, q]) ?_
      have hk : ∃ k : Int, k = (nth ns j + 104729 * (t + 1)) % 4294967291 ∧ 0 ≤ k ∧ k < 4294967291 := ⟨_, rfl, Int.emod_nonneg _ (by omega), Int.emod_lt_of_pos _ (by omega)⟩
      obtain ⟨k, ek, k0, k1⟩ := hk
      have m1 : ∀ S : MS, mulD S (.int 104729) (.int (t + 1)) = some (.int (104729 * (t + 1))) := fun S => mulD_l (by unfold b64; omega) (by unfold b64; omega)
      refine st_set (S1 := (.lst (.int (t + 1) :: ts.map .int) :: r)) (d := .int k) (by simp [startD, List.replicate_succ, a2, ixD_o, m1, modI_a, ek]) ?_
      have p2 : ∀ S : MS, powI S (.int k) (.int 5) = some (.int (k ^ 5)) := fun S => powI_a (by omega) (by omega) (by omega)
      have hk : ∃ k' : Int, k' = (k ^ 5) % 4294967279 ∧ 0 ≤ k' ∧ k' < 4294967279 := ⟨_, rfl, Int.emod_nonneg _ (by omega), Int.emod_lt_of_pos _ (by omega)⟩
      obtain ⟨k', ek', k0', k1'⟩ := hk
      refine st_set (S1 := (.lst (.int (t + 1) :: ts.map .int) :: r)) (d := .int k') (by simp [startD, List.replicate_succ, p2, modI_a, ek']) ?_
      have m2 : ∀ (S : MS) (i : Int), mulD S (.int i) (.int 69621) = some (.int (i * 69621)) := fun S i => mulD_r (by unfold b64; omega) (by unfold b64; omega)
      refine st_ret (S1 := (.lst (.int (t + 1) :: ts.map .int) :: r)) (by simp [startD, List.replicate_succ, divI_a, m2, modI_a h0, modI_a]; rfl) (Sat.ret (fin_ _ ts hts))
theorem comp_town {ns : List Int} {fe : En → MS → R D} {ρ : En} {i : Nat} {P : Int → Prop} {C : Int} {r : MS} (hf : ∀ d S c, Town ns c r S → c < C → ∃ k S', fe (ρ.set i (some d)) S = .ok (.int k) S' ∧ Town ns (c + 1) r S' ∧ P k) : ∀ (xs : List D) (S : MS) (c : Int), Town ns c r S → c + xs.length ≤ C →
    ∃ (ks : List Int) (S' : MS), compL (.nm i) yesD fe ρ xs S = .ok (ks.map .int) S' ∧ Town ns (c + xs.length) r S' ∧ ks.length = xs.length ∧ ∀ k ∈ ks, P k
  | [], S, c, h, _ => ⟨[], S, rfl, by simpa using h, rfl, by simp⟩
  | d :: xs, S, c, h, l => by
    rw [List.length_cons] at l
    obtain ⟨k, S1, e, h1, pk⟩ := hf d S c h (by omega)
    obtain ⟨ks, S2, e2, h2, l2, p2⟩ := comp_town hf xs S1 (c + 1) h1 (by omega)
    refine ⟨k :: ks, S2, ?_, ?_, by simp [l2], ?_⟩
    · simp [compL, compB, bindP, e, e2]
    · rw [List.length_cons]
      exact h2.le (by omega)
    · intro x hx
      rcases List.mem_cons.mp hx with rfl | hx
      · exact pk
      · exact p2 x hx
theorem port_a {ns : List Int} (hn : ns.length ≤ 63) {c : Int} (hc : c < 100000) {r S : MS} (h : Town ns c r S) {mh ms : Int} (h0 : 2 ≤ mh) (h1 : mh ≤ 6) (h2 : 1 ≤ ms) (h3 : ms ≤ 6) : ∃ (p : Port) (S' : MS), F_law_port [.frz (ns.map .int), .obj 0, .int mh, .int ms] S = .ok (Port.d p) S' ∧ p.ok ∧ Town ns (c + 20) r S' := by
  suffices z : Sat (fun d S' => ∃ p : Port, d = p.d ∧ p.ok ∧ Town ns (c + 20) r S') (g_law_port (startD 10 [.frz (ns.map .int), .obj 0, .int mh, .int ms]) S) by
    obtain ⟨d, S', e, p, rfl, z⟩ := fn_sat (k := 4) rfl z
    exact ⟨p, S', e, z⟩
  obtain ⟨k1, S1, e1, t1, k1a, k1b⟩ := draw_a hn (by omega) h (m := mh - 1) (by omega) (by omega)
  refine st_set (S1 := S1) (d := .int (2 + k1)) (by simp [startD, List.replicate_succ, e1]) ?_
  obtain ⟨ks, S2, e2, t2, kl, kp⟩ := comp_town (ns := ns) (r := r) (fe := eOp addD (eC (.int 1)) (eF F_law_draw (aC (eV 0) (aC (eV 1) (aC (eV 3) aN))))) (ρ := [some (.frz (ns.map .int)), some (.obj 0), some (.int mh), some (.int ms), some (.int (2 + k1)), none, none, none, none, none]) (i := 9) (P := fun k => 1 ≤ k ∧ k ≤ ms) (C := 200000) (by
    intro d S c t l
    obtain ⟨k, S', e, t', ka, kb⟩ := draw_a hn (show c < 1000000 by omega) t (m := ms) (by omega) (by omega)
    exact ⟨1 + k, S', by simp [e], t', by omega⟩) (intsD 0 (2 + k1).toNat) S1 (c + 1) t1 (by simp [intsD]; omega)
  have il : (intsD 0 (2 + k1).toNat).length = (2 + k1).toNat := by simp [intsD]
  rw [il] at kl t2
  have ll : (intsD 0 (2 + k1).toNat).length ≤ lim := by rw [il]; unfold lim; omega
  refine st_set (S1 := S2) (d := ti ks) (by simp [startD, List.replicate_succ, rng1_a (show -big ≤ 2 + k1 by unfold big; omega) (show 2 + k1 < big by unfold big; omega), ll, e2]) ?_
  obtain ⟨k3, S3, e3, t3, k3a, k3b⟩ := draw_a hn (by omega) t2 (m := 9) (by omega) (by omega)
  refine st_set (S1 := S3) (d := .int (1 + k3)) (by simp [startD, List.replicate_succ, e3]) ?_
  obtain ⟨k4, S4, e4, t4, k4a, k4b⟩ := draw_a hn (by omega) t3 (m := 1 + k3) (by omega) (by omega)
  refine st_set (S1 := S4) (d := .tup [.int (1 + k4), .int (1 + k3)]) (by simp [startD, List.replicate_succ, e4]) ?_
  obtain ⟨k5, S5, e5, t5, k5a, k5b⟩ := draw_a hn (by omega) t4 (m := 2 + k1) (by omega) (by omega)
  refine st_set (S1 := S5) (d := .int (1 + k5)) (by simp [startD, List.replicate_succ, e5]) ?_
  obtain ⟨k6, S6, e6, t6, k6a, k6b⟩ := draw_a hn (by omega) t5 (m := 10) (by omega) (by omega)
  obtain ⟨k7, S7, e7, t7, k7a, k7b⟩ := draw_a hn (by omega) t6 (m := 3) (by omega) (by omega)
  refine st_ret (S1 := S7) (by simp [startD, List.replicate_succ, e6, e7]; rfl) (Sat.ret ⟨⟨ks, 1 + k6, 1 + k4, 1 + k3, 1 + k5, 1 + k7⟩, rfl, ?_, t7.le (by omega)⟩)
  refine ⟨?_, ?_, ?_, ?_, ?_, ?_, ?_, ?_, ?_, ?_, ?_, ?_⟩ <;> simp only <;> try omega
  intro s hs
  have := kp s hs
  omega
theorem zip_tail_le : ∀ (xs : List Int), List.Pairwise (fun a b => a ≤ b) xs → ∀ q ∈ xs.zip xs.tail, q.1 ≤ q.2
  | [], _, q, h => by simp at h
  | [x], _, q, h => by simp at h
  | x :: y :: xs, hp, q, h => by
    rw [List.pairwise_cons] at hp
    have e : (x :: y :: xs).zip (x :: y :: xs).tail = (x, y) :: (y :: xs).zip (y :: xs).tail := rfl
    rw [e] at h
    rcases List.mem_cons.mp h with rfl | h
    · exact hp.1 y List.mem_cons_self
    · exact zip_tail_le (y :: xs) hp.2 q h
theorem comp_drawn {ns : List Int} {ft : En → MS → R Bool} {fe : En → MS → R D} {ρ : En} {i : Nat} {C : Int} {r : MS} (hf : ∀ (x : Int) S c, Town ns c r S → c < C → ∃ b S', ft (ρ.set i (some (.int x))) S = .ok b S' ∧ Town ns (c + 1) r S') (he : ∀ (x : Int) S, fe (ρ.set i (some (.int x))) S = .ok (.int x) S) : ∀ (xs : List Int) (S : MS) (c : Int), Town ns c r S → c + xs.length ≤ C →
    ∃ (ws : List Int) (S' : MS), compL (.nm i) ft fe ρ (xs.map .int) S = .ok (ws.map .int) S' ∧ Town ns (c + xs.length) r S' ∧ List.Sublist ws xs
  | [], S, c, h, _ => ⟨[], S, rfl, by simpa using h, List.Sublist.slnil⟩
  | x :: xs, S, c, h, l => by
    rw [List.length_cons] at l
    obtain ⟨b, S1, e, h1⟩ := hf x S c h (by omega)
    obtain ⟨ws, S2, e2, h2, l2⟩ := comp_drawn hf he xs S1 (c + 1) h1 (by omega)
    have h3 : Town ns (c + (x :: xs).length) r S2 := by rw [List.length_cons]; exact h2.le (by omega)
    cases b with
    | true => exact ⟨x :: ws, S2, by simp [compL, compB, bindP, e, he, e2], h3, l2.cons_cons x⟩
    | false => exact ⟨ws, S2, by simp [compL, compB, bindP, e, e2], h3, l2.cons x⟩
def places (n : Nat) : List Int := (List.range n).map fun (i : Nat) => (i : Int)
theorem places_rng {n : Nat} : ∀ x ∈ places n, 0 ≤ x ∧ x < n := by
  intro x hx
  obtain ⟨i, hi, rfl⟩ := List.mem_map.mp hx
  have := List.mem_range.mp hi
  omega
theorem places_up (n : Nat) : List.Pairwise (fun a b => a < b) (places n) := by
  unfold places
  rw [List.pairwise_map]
  exact List.pairwise_lt_range.imp fun h => by omega
theorem places_len (n : Nat) : (places n).length = n := by simp [places]
theorem rng_places {n : Nat} (h : n ≤ 1000) : rng1 [.int n] = some ((places n).map .int) := by
  rw [rng1_a (by unfold big; omega) (by unfold big; omega)]
  simp [intsD, places, Function.comp_def]
theorem Town.last {ns : List Int} {c : Int} {r S : MS} (h : Town ns c r S) (o : MO) : Town ns c (r ++ [o]) (S ++ [o]) := by
  obtain ⟨t, ts, e, z⟩ := h
  exact ⟨t, ts, by rw [e]; rfl, z⟩
theorem Town.len {ns : List Int} {c : Int} {r S : MS} (h : Town ns c r S) : S.length = r.length + 1 := by
  obtain ⟨t, ts, e, z⟩ := h
  rw [e]; rfl
theorem Town.turn {ns : List Int} {c : Int} {r S : MS} {o o' : MO} (h : Town ns c (r ++ [o]) S) : ∃ S0, S = S0 ++ [o] ∧ S0.length = r.length + 1 ∧ Town ns c r S0 := by
  obtain ⟨t, ts, e, z⟩ := h
  exact ⟨_, e, by simp, t, ts, rfl, z⟩
theorem zip_tail_lt : ∀ (xs : List Int), List.Pairwise (fun a b => a < b) xs → ∀ q ∈ xs.zip xs.tail, q.1 < q.2
  | [], _, q, h => by simp at h
  | [x], _, q, h => by simp at h
  | x :: y :: xs, hp, q, h => by
    rw [List.pairwise_cons] at hp
    have e : (x :: y :: xs).zip (x :: y :: xs).tail = (x, y) :: (y :: xs).zip (y :: xs).tail := rfl
    rw [e] at h
    rcases List.mem_cons.mp h with rfl | h
    · exact hp.1 y List.mem_cons_self
    · exact zip_tail_lt (y :: xs) hp.2 q h
end Qk01

namespace Qk01
open PySem Dn
/-- houses -/
def House (x : Str) : Prop := ∀ S : MS, F_is_house [.str x] S = .ok (.bl true) S
theorem house_ab : House "ab" := fun S => by with_unfolding_all rfl
theorem house_cd : House "cd" := fun S => by with_unfolding_all rfl
theorem house_ef : House "ef" := fun S => by with_unfolding_all rfl
theorem house_zz : House "zz" := fun S => by with_unfolding_all rfl
def three : List Str := ["ab", "cd", "ef"]
theorem three_house {x : Str} (h : x ∈ three) : House x := by
  simp only [three, List.mem_cons, List.not_mem_nil, or_false] at h
  rcases h with rfl | rfl | rfl
  · exact house_ab
  · exact house_cd
  · exact house_ef
/-- rights -/
abbrev Rt := Int × Str
def rtD (r : Rt) : D := .tup [.int r.1, .str r.2]
def rtP (r : Rt) : PyData := .tuple [.int r.1, .str r.2]
theorem toP_rt {S : MS} {r : Rt} : toP S (rtD r) = some (rtP r) := rfl
theorem alike_rt {a b : Rt} : PySem.W.alike (rtP a) (rtP b) = true := by simp [PySem.W.alike, PySem.W.alikeAll, rtP]
theorem dep_rt {a : Rt} : (rtP a).depth ≤ 60 := by simp [rtP, PyData.depth, PyData.depthAll]
def leR (a b : Rt) : Bool := !PySem.W.dataLt (rtP b) (rtP a)
theorem leA_rt {S : MS} {a b : Rt} : leA S (rtD a) (rtD b) = some (.bl (leR a b)) := by
  have h1 : leI S (rtD a) (rtD b) = none := rfl
  have h2 : leX S (rtD a) (rtD b) = some (.bl (leR a b)) := by
    unfold leX
    rw [toP_rt, toP_rt]
    simp only
    rw [if_pos ⟨alike_rt, rfl, dep_rt⟩]
    rfl
  unfold leA orG
  rw [h1]
  exact h2
structure RightsOk (p : Port) (rs : List Rt) : Prop where
  len : rs.length ≤ 10
  rng : ∀ r ∈ rs, 0 ≤ r.1 ∧ r.1 < p.sl.length ∧ House r.2
  up : ∀ q ∈ rs.zip rs.tail, leR q.1 q.2 = true
  cnt : ∀ q ∈ p.sl.zipIdx, ((rs.filter fun r => decide (r.1 = (q.2 : Int))).length : Int) ≤ q.1
theorem is_right_a {p : Port} {r : Rt} (h0 : 0 ≤ r.1) (h1 : r.1 < p.sl.length) (hh : House r.2) {S : MS} : F_is_right [p.d, rtD r] S = .ok (.bl true) S := by
  have es : ∀ S : MS, ixD S p.d (.int 0) = some (ti p.sl) := fun S => by simp [Port.d]
  refine fn_is rfl ?_
  refine st_skip (S1 := S) (by simp [startD, rtD]) ?_
  refine st_ret (S1 := S) (d := .bl true) ?_ Is.ret
  have w : F_is_whole [.int r.1, .int 0, .int ((p.sl.length : Int) - 1)] S = .ok (.bl true) S := by rw [is_whole_a, decide_eq_true (by omega)]
  rw [eAnd_a]
  refine Eq.trans (congrArg (fun x => R.bind x _) (eF_go (aC_go (eOp_go (d := .int r.1) rfl rfl rfl) (aC_go rfl (aC_go (eOp_go (eB_go (aC_go (eOp_go rfl rfl (es S)) rfl) lenD_tup) rfl (by rw [List.length_map]; exact subI_a)) rfl))) w)) ?_
  simp only [bind_ok, isB_bl, ofO_some, if_true]
  exact eF_go (aC_go (eOp_go (d := .str r.2) rfl rfl rfl) rfl) (hh S)
theorem zipL_map2 {α : Type} (f : α → D) (xs : List α) : zipL (xs.map f) (xs.map f).tail = (xs.zip xs.tail).map fun p => .tup [f p.1, f p.2] := zipL_tail f xs
theorem are_good_a {p : Port} (po : p.ok) {rs : List Rt} (h : RightsOk p rs) {S : MS} : F_are_good [p.d, .tup (rs.map rtD)] S = .ok (.bl true) S := by
  have hl := h.len
  have es : ∀ S : MS, ixD S p.d (.int 0) = some (ti p.sl) := fun S => by simp [Port.d]
  have lr : (rs.map rtD).length ≤ lim := by rw [List.length_map]; unfold lim; omega
  refine fn_is rfl ?_
  have z1 := compL_all (p := .nm 4) (S := S) (fe := eF F_is_right (aC (eV 0) (aC (eV 4) aN))) (ρ := [some p.d, some (.tup (rs.map rtD)), none, none, none, none]) rtD (fun r => .bl ((fun _ : Rt => true) r)) rs (fun r hr => ⟨_, rfl, by
    have := h.rng r hr
    exact eF_go (aC_go rfl (aC_go rfl rfl)) (is_right_a this.1 this.2.1 this.2.2)⟩)
  refine st_skip (S1 := S) (by
    rw [tOr_a]
    refine Eq.trans (congrArg (fun x => R.bind x _) (show tNotD (trT (eB isiD (aC (eV 1) (aC (eC (.ty .tuple)) aN)))) _ S = R.ok false S from rfl)) ?_
    rw [bind_ok, if_neg (by simp), tOr_a]
    refine Eq.trans (congrArg (fun x => R.bind x _) (bT_go (b := false) (eOp_go (eB_go (aC_go rfl rfl) lenD_tup) rfl (by rw [gtI_a, List.length_map, decide_eq_false (by omega)])))) ?_
    rw [bind_ok, if_neg (by simp)]
    exact tNot_go (b := true) (trT_go (eB_go (aC_go (eVal_go (eLc_go (iSeq_go rfl rfl) lr rfl z1)) rfl) (by rw [allD_map, show (rs.all fun _ : Rt => true) = true by simp])) rfl)) ?_
  have z2 := compL_all (p := .tp [.nm 4, .nm 5]) (S := S) (fe := eOp leA (eV 4) (eV 5)) (ρ := [some p.d, some (.tup (rs.map rtD)), none, none, none, none]) (fun q : Rt × Rt => .tup [rtD q.1, rtD q.2]) (fun q => .bl (leR q.1 q.2)) (rs.zip rs.tail) (fun q _ => ⟨_, rfl, eOp_go rfl rfl leA_rt⟩)
  have hall : ((rs.zip rs.tail).all fun q => leR q.1 q.2) = true := by rw [List.all_eq_true]; exact h.up
  have lz : ((rs.zip rs.tail).map fun q : Rt × Rt => D.tup [rtD q.1, rtD q.2]).length ≤ lim := by
    rw [List.length_map, List.length_zip]; unfold lim; omega
  have zg : iB zipG (aC (eV 1) (aC (eSl slT (eV 1) (pSm (eC (.int 1))) pNo) aN)) [some p.d, some (.tup (rs.map rtD)), none, none, none, none] S = .ok ((rs.zip rs.tail).map fun q : Rt × Rt => .tup [rtD q.1, rtD q.2]) S := by
    refine iB_go (ds := [.tup (rs.map rtD), .tup (rs.map rtD).tail]) (S1 := S) (aC_go rfl (aC_go ?_ rfl)) ?_
    · show ofO (slT S (.tup (rs.map rtD)) (some 1) none) S = _
      rw [slT_tup, cut_tail]; rfl
    · rw [zipG_tup, zipL_map2]
  refine st_skip (S1 := S) (tNot_go (b := true) (trT_go (eB_go (aC_go (eVal_go (eLc_go zg lz rfl z2)) rfl) (by rw [allD_map, hall])) rfl)) ?_
  have z3 := compL_all (p := .tp [.nm 2, .nm 3]) (S := S) (fe := eOp leA (eB lenD (aC (eVal (eLc (iSeq (eV 1)) (.nm 4) (bT (eOp eqD (eOp ixD (eV 4) (eC (.int 0))) (eV 2))) (eV 4) [4])) aN)) (eV 3)) (ρ := [some p.d, some (.tup (rs.map rtD)), none, none, none, none]) (fun q : Int × Nat => .tup [.int (q.2 : Nat), .int q.1]) (fun q => .bl (decide (((rs.filter fun r => decide (r.1 = (q.2 : Int))).length : Int) ≤ q.1))) p.sl.zipIdx (by
    intro q _
    refine ⟨_, rfl, ?_⟩
    have z := compL_ok (p := .nm 4) (S := S) (ft := bT (eOp eqD (eOp ixD (eV 4) (eC (.int 0))) (eV 2))) (fe := eV 4) (ρ := [some p.d, some (.tup (rs.map rtD)), some (.int (q.2 : Nat)), some (.int q.1), none, none]) rtD (fun r => decide (r.1 = (q.2 : Int))) rtD rs (fun r _ => ⟨_, rfl, bT_go (eOp_go (eOp_go (d := .int r.1) rfl rfl rfl) rfl eqD_int), fun _ => rfl⟩)
    have e1 := len_go (eLc_go (it := iSeq (eV 1)) (vs := [4]) (ρ := [some p.d, some (.tup (rs.map rtD)), some (.int (q.2 : Nat)), some (.int q.1), none, none]) (iSeq_go rfl rfl) lr rfl z)
    rw [List.length_map] at e1
    exact eOp_go e1 rfl rfl)
  have hall3 : (p.sl.zipIdx.all fun q => decide (((rs.filter fun r => decide (r.1 = (q.2 : Int))).length : Int) ≤ q.1)) = true := by
    rw [List.all_eq_true]; intro q hq; rw [decide_eq_true_eq]; exact h.cnt q hq
  have n6 := po.n6
  refine st_ret (S1 := S) (d := .bl true) ?_ Is.ret
  exact eB_go (aC_go (eVal_go (eLc_go (iB_go (ds := [ti p.sl]) (aC_go (eOp_go rfl rfl (es S)) rfl) (by rw [enumG_tup, enumL_map])) (by rw [List.length_map, List.length_zipIdx]; unfold lim; omega) rfl z3)) rfl) (by rw [allD_map, hall3])
theorem look_rights_a {p : Port} (po : p.ok) {rs : List Rt} (h : RightsOk p rs) {S : MS} : F_look_rights [p.d, .tup (rs.map rtD)] S = .ok .non S := by
  refine fn_is rfl (st_ex (S1 := S) (d := .non) (eF_go (aC_go rfl rfl) (look_port_a po)) ?_)
  exact st_ifl (S1 := S) (tNot_go (b := true) (trT_go (eF_go (aC_go rfl (aC_go rfl rfl)) (are_good_a po h)) rfl)) Is.nx
end Qk01

namespace Qk01
open PySem Dn
theorem forL_ix {b : D → En → MS → RS} (I : Nat → En → MS → Prop) : ∀ (xs : List D) (k : Nat), (∀ i a ρ S, xs[i]? = some a → I (k + i) ρ S → ∃ ρ' S', b a ρ S = .nx ρ' S' ∧ I (k + i + 1) ρ' S') → ∀ ρ S, I k ρ S → ∃ ρ' S', forL b xs ρ S = .nx ρ' S' ∧ I (k + xs.length) ρ' S'
  | [], k, _, ρ, S, h => ⟨ρ, S, rfl, h⟩
  | a :: xs, k, h, ρ, S, hi => by
    obtain ⟨ρ1, S1, e, i1⟩ := h 0 a ρ S rfl hi
    obtain ⟨ρ2, S2, e2, i2⟩ := forL_ix I xs (k + 1) (fun i a' ρ' S' ha hI => by
      have := h (i + 1) a' ρ' S' (by simpa using ha) (by rw [show k + (i + 1) = k + 1 + i by omega]; exact hI)
      rw [show k + (i + 1) + 1 = k + 1 + i + 1 by omega] at this
      exact this) ρ1 S1 i1
    refine ⟨ρ2, S2, by simp [forL, e, RS.loop, e2], ?_⟩
    rw [List.length_cons, show k + (xs.length + 1) = k + 1 + xs.length by omega]
    exact i2
theorem zip_tail_pw {α : Type} {R : α → α → Prop} : ∀ {xs : List α}, List.Pairwise R xs → ∀ q ∈ xs.zip xs.tail, R q.1 q.2
  | [], _, q, h => by simp at h
  | [x], _, q, h => by simp at h
  | x :: y :: xs, hp, q, h => by
    rw [List.pairwise_cons] at hp
    have e : (x :: y :: xs).zip (x :: y :: xs).tail = (x, y) :: (y :: xs).zip (y :: xs).tail := rfl
    rw [e] at h
    rcases List.mem_cons.mp h with rfl | h
    · exact hp.1 y List.mem_cons_self
    · exact zip_tail_pw hp.2 q h
theorem pick_three {ns : List Int} (hn : ns.length ≤ 63) {c : Int} (hc : c < 1000000) {r S : MS} (h : Town ns c r S) : ∃ x ∈ three, ∃ S', F_law_pick [.frz (ns.map .int), .obj 0, .lst [.str "ab", .str "cd", .str "ef"]] S = .ok (.str x) S' ∧ Town ns (c + 1) r S' := by
  obtain ⟨j, S1, e1, t1, j0, j1⟩ := draw_a hn hc h (m := 3) (by omega) (by omega)
  have : ∃ x ∈ three, L2.atI [D.str "ab", .str "cd", .str "ef"] j = some (.str x) := by
    have : j = 0 ∨ j = 1 ∨ j = 2 := by omega
    rcases this with rfl | rfl | rfl
    · exact ⟨"ab", by simp [three], by simp⟩
    · exact ⟨"cd", by simp [three], by simp⟩
    · exact ⟨"ef", by simp [three], by simp⟩
  obtain ⟨x, hx, ex⟩ := this
  exact ⟨x, hx, S1, fn_is rfl (st_ret (S1 := S1) (eOp_go rfl (eF_go (aC_go rfl (aC_go rfl (aC_go (eB_go (aC_go rfl rfl) lenD_lst) rfl))) e1) (by rw [ixD_lst]; exact ex)) Is.ret), t1⟩
theorem leR_total : PySem.W.TotalLe leR := (show PySem.W.TotalLe (PySem.W.dataLe false rtP) from PySem.W.sortLe_total _ _ _)
theorem srt_rights {S : MS} {i : Nat} {xs : List Rt} (h : S[i]? = some (.lst (xs.map rtD))) : srtA S [.obj i] = some (.lst ((xs.mergeSort leR).map rtD)) := by
  have hr : rdL S (.obj i) = some (xs.map rtD) := by simp [rdL, h]
  have hp : ∀ ys : List Rt, toPs S (ys.map rtD) = some (ys.map rtP) := by
    intro ys
    induction ys with
    | nil => rfl
    | cons y ys ih => rw [List.map_cons, toPs, toP_rt]; simp only; rw [ih]; rfl
  have hb : srtB (xs.map rtP) = true := by
    unfold srtB
    rw [Bool.and_eq_true, Bool.and_eq_true, Bool.or_eq_true]
    refine ⟨?_, .inl ?_, ?_⟩
    · rw [List.all_eq_true]; intro a ha
      rw [List.all_eq_true]; intro b hb
      obtain ⟨a', _, rfl⟩ := List.mem_map.mp ha
      obtain ⟨b', _, rfl⟩ := List.mem_map.mp hb
      exact alike_rt
    · rw [List.all_eq_true]; intro a ha
      obtain ⟨a', _, rfl⟩ := List.mem_map.mp ha
      rfl
    · rw [List.all_eq_true]; intro a ha
      obtain ⟨a', _, rfl⟩ := List.mem_map.mp ha
      exact decide_eq_true dep_rt
  have e2 : srtX S [.obj i] = some (.lst ((xs.mergeSort leR).map rtD)) := by
    unfold srtX
    simp only [hr, hp, hb, if_true]
    rw [PySem.W.sort_maps (r := leR) (s := PySem.W.dataLe false (encD S)) rtD (fun a _ b _ => rfl)]
  unfold srtA orC
  cases xs with
  | nil =>
    have : srtI S [.obj i] = some (.lst []) := by
      simp [srtI, hr, intsOf]
    rw [this]
    simp
  | cons x xs =>
    have : srtI S [.obj i] = none := by
      simp only [srtI, hr, Option.bind_some, List.map_cons]
      rfl
    rw [this]
    exact e2
theorem app_town {ns : List Int} {c : Int} {r S : MS} {ds : List D} {d : D} (h : Town ns c (r ++ [.lst ds]) S) : tyM S (.obj (r.length + 1)) "list" = true ∧ (ds.length < lim → ∃ S', appD S (.obj (r.length + 1)) [d] = some (.non, S') ∧ Town ns c (r ++ [.lst (ds ++ [d])]) S') := by
  obtain ⟨S0, rfl, sl, t⟩ := h.turn (o' := .out)
  rw [← sl]
  exact ⟨tyM_last, fun hl => ⟨_, appD_last hl, t.last _⟩⟩
theorem get_town {ns : List Int} {c : Int} {r S : MS} {o : MO} (h : Town ns c (r ++ [o]) S) : S[r.length + 1]? = some o := by
  obtain ⟨S0, rfl, sl, t⟩ := h.turn (o' := .out)
  rw [← sl]
  exact get_last
theorem rights_a {ns : List Int} (hn : ns.length ≤ 63) {c0 : Int} (hc : c0 < 100000) {r S : MS} (ht : Town ns c0 r S) {p : Port} (po : p.ok) {mr : Int} (h0 : 0 ≤ mr) (h1 : mr ≤ 10) : ∃ (rs : List Rt) (S' : MS) (r' : MS), F_law_rights [.frz (ns.map .int), .obj 0, p.d, .int mr] S = .ok (.tup (rs.map rtD)) S' ∧ RightsOk p rs ∧ (∀ x ∈ rs, x.2 ∈ three) ∧ Town ns (c0 + 100) r' S' := by
  suffices z : Sat (fun d S' => ∃ (rs : List Rt) (r' : MS), d = .tup (rs.map rtD) ∧ RightsOk p rs ∧ (∀ x ∈ rs, x.2 ∈ three) ∧ Town ns (c0 + 100) r' S') (g_law_rights (startD 8 [.frz (ns.map .int), .obj 0, p.d, .int mr]) S) by
    obtain ⟨d, S', e, rs, r', rfl, z⟩ := fn_sat (k := 4) rfl z
    exact ⟨rs, S', r', e, z⟩
  have n2 := po.n2; have n6 := po.n6
  have es : ∀ S : MS, ixD S p.d (.int 0) = some (ti p.sl) := fun S => by simp [Port.d]
  have hlS := ht.len
  refine st_set (S1 := S ++ [MO.lst []]) (d := .obj (r.length + 1)) (by rw [← hlS]; rfl) ?_
  obtain ⟨ρ1, S1, ef, a, b, k, xs, c, rfl, t1, hcb, hx1, hx2, hx3⟩ := forL_ix (b := forB (.tp [(.nm 5), (.nm 6)]) (sForV (iB rng1 (aC (eF F_law_draw (aC (eV 0) (aC (eV 1) (aC (eOp addD (eV 6) (eC (.int 1))) aN)))) aN)) (.nm 7) (sEx (eBM "list" appD (eV 4) (aC (eTup (aC (eV 5) (aC (eF F_law_pick (aC (eV 0) (aC (eV 1) (aC (eVal (eLst (aC (eC (.str "ab")) (aC (eC (.str "cd")) (aC (eC (.str "ef")) aN))))) aN)))) aN))) aN))))) (fun i ρ S1 => ∃ (a b k : Option D) (xs : List Rt) (c : Int), ρ = [some (.frz (ns.map .int)), some (.obj 0), some p.d, some (.int mr), some (.obj (r.length + 1)), a, b, k] ∧ Town ns c (r ++ [.lst (xs.map rtD)]) S1 ∧ c ≤ c0 + 10 * i ∧ (∀ x ∈ xs, 0 ≤ x.1 ∧ x.1 < i ∧ x.2 ∈ three) ∧ (∀ j : Nat, j < i → ((xs.filter fun x => decide (x.1 = (j : Int))).length : Int) ≤ p.sl.getD j 0) ∧ xs.length ≤ 6 * i) (p.sl.zipIdx.map fun q : Int × Nat => D.tup [.int (q.2 : Nat), .int q.1]) 0 (by
    intro i d ρ S1 hd hI
    rw [Nat.zero_add] at hI ⊢
    have hil : i < p.sl.length := by
      have := (List.getElem?_eq_some_iff.mp hd).1
      simpa using this
    have hd' : d = .tup [.int (i : Nat), .int p.sl[i]] := by
      rw [List.getElem?_map, List.getElem?_zipIdx, List.getElem?_eq_getElem hil] at hd
      simp at hd
      exact hd.symm
    subst hd'
    obtain ⟨a, b, k, xs, c, rfl, t1, hcb, hx1, hx2, hx3⟩ := hI
    have hm := po.hs p.sl[i] (List.getElem_mem hil)
    generalize em : p.sl[i] = m at hm
    obtain ⟨q, S2, e2, t2, q0, q1⟩ := draw_a hn (by omega) t1 (m := m + 1) (by omega) (by omega)
    have hrg := rng1_a (show -big ≤ q by unfold big; omega) (show q < big by unfold big; omega)
    obtain ⟨ρ2, S3, ef2, kk, ys, c2, rfl, t3, hc2, hyl, hy⟩ := forL_ix (b := forB (.nm 7) (sEx (eBM "list" appD (eV 4) (aC (eTup (aC (eV 5) (aC (eF F_law_pick (aC (eV 0) (aC (eV 1) (aC (eVal (eLst (aC (eC (.str "ab")) (aC (eC (.str "cd")) (aC (eC (.str "ef")) aN))))) aN)))) aN))) aN)))) (fun j ρ S3 => ∃ (kk : Option D) (ys : List Rt) (c2 : Int), ρ = [some (.frz (ns.map .int)), some (.obj 0), some p.d, some (.int mr), some (.obj (r.length + 1)), some (.int (i : Nat)), some (.int m), kk] ∧ Town ns c2 (r ++ [.lst ((xs ++ ys).map rtD)]) S3 ∧ c2 ≤ c + 1 + j ∧ ys.length = j ∧ ∀ y ∈ ys, y.1 = (i : Int) ∧ y.2 ∈ three) (intsD 0 q.toNat) 0 (by
      intro j x ρ S3 hx hJ
      rw [Nat.zero_add] at hJ ⊢
      have hjl : j < q.toNat := by
        have := (List.getElem?_eq_some_iff.mp hx).1
        simpa [intsD] using this
      obtain ⟨kk, ys, c2, rfl, t3, hc2, hyl, hy⟩ := hJ
      obtain ⟨w, hw, S4, e4, t4⟩ := pick_three hn (by omega) t3
      obtain ⟨ty, _⟩ := app_town (d := .non) t3
      obtain ⟨S5, e5, t5⟩ := (app_town (d := rtD ((i : Int), w)) t4).2 (by rw [List.length_map, List.length_append]; unfold lim; omega)
      refine ⟨[some (.frz (ns.map .int)), some (.obj 0), some p.d, some (.int mr), some (.obj (r.length + 1)), some (.int (i : Nat)), some (.int m), some x], S5, ?_, some x, ys ++ [((i : Int), w)], c2 + 1, rfl, ?_, by omega, by simp [hyl], ?_⟩
      · have ev : (aC (eTup (aC (eV 5) (aC (eF F_law_pick (aC (eV 0) (aC (eV 1) (aC (eVal (eLst (aC (eC (.str "ab")) (aC (eC (.str "cd")) (aC (eC (.str "ef")) aN))))) aN)))) aN))) aN) [some (.frz (ns.map .int)), some (.obj 0), some p.d, some (.int mr), some (.obj (r.length + 1)), some (.int (i : Nat)), some (.int m), some x] S3 = .ok [rtD ((i : Int), w)] S4 := aC_go (eTup_go (aC_go rfl (aC_go (eF_go (aC_go rfl (aC_go rfl (aC_go (eVal_go (eLst_go (aC_go rfl (aC_go rfl (aC_go rfl rfl))) (by simp))) rfl))) e4) rfl)) (by simp)) rfl
        show sEx _ [some (.frz (ns.map .int)), some (.obj 0), some p.d, some (.int mr), some (.obj (r.length + 1)), some (.int (i : Nat)), some (.int m), some x] S3 = _
        unfold sEx
        rw [eBM_a, show eV 4 _ _ = R.ok (.obj (r.length + 1)) S3 from rfl]
        simp only [bind_ok, ty, if_true, ev, e5, ofOS_some, bindS_ok]
      · rw [← List.append_assoc, List.map_append]
        exact t5
      · intro y hy'
        rcases List.mem_append.mp hy' with hy' | hy'
        · exact hy y hy'
        · simp at hy'; rw [hy']; exact ⟨rfl, hw⟩) [some (.frz (ns.map .int)), some (.obj 0), some p.d, some (.int mr), some (.obj (r.length + 1)), some (.int (i : Nat)), some (.int m), k] S2 ⟨k, [], c + 1, rfl, by simpa using t2, by omega, rfl, by simp⟩
    have il : (intsD 0 q.toNat).length = q.toNat := by simp [intsD]
    rw [il, Nat.zero_add] at hyl
    refine ⟨_, S3, ?_, some (.int (i : Nat)), some (.int m), kk, xs ++ ys, c2, rfl, t3, by rw [il] at hc2; omega, ?_, ?_, ?_⟩
    · show (sForV (iB rng1 (aC (eF F_law_draw (aC (eV 0) (aC (eV 1) (aC (eOp addD (eV 6) (eC (.int 1))) aN)))) aN)) (.nm 7) _) [some (.frz (ns.map .int)), some (.obj 0), some p.d, some (.int mr), some (.obj (r.length + 1)), some (.int (i : Nat)), some (.int m), k] S1 = _
      unfold sForV
      rw [iB_go (ds := [.int q]) (S1 := S2) (aC_go (eF_go (aC_go rfl (aC_go rfl (aC_go (eOp_go rfl rfl addD_int) rfl))) e2) rfl) hrg]
      exact ef2
    · intro x hx
      rcases List.mem_append.mp hx with hx | hx
      · have := hx1 x hx; exact ⟨this.1, by omega, this.2.2⟩
      · have := hy x hx; exact ⟨by omega, by omega, this.2⟩
    · intro j hj
      rw [List.filter_append, List.length_append]
      by_cases q2 : j = i
      · subst q2
        have z1 : xs.filter (fun x => decide (x.1 = (j : Int))) = [] := by
          rw [List.filter_eq_nil_iff]; intro x hx; have := hx1 x hx; simp; omega
        have z2 := List.length_filter_le (fun x : Rt => decide (x.1 = (j : Int))) ys
        have z3 : p.sl.getD j 0 = m := by rw [List.getD_eq_getElem?_getD, List.getElem?_eq_getElem hil, em]; rfl
        rw [z1, z3]
        simp only [List.length_nil]
        omega
      · have z2 : ys.filter (fun x => decide (x.1 = (j : Int))) = [] := by
          rw [List.filter_eq_nil_iff]; intro x hx; have := hy x hx; simp; omega
        rw [z2]
        have := hx2 j (by omega)
        simp only [List.length_nil]
        omega
    · rw [List.length_append]; omega) [some (.frz (ns.map .int)), some (.obj 0), some p.d, some (.int mr), some (.obj (r.length + 1)), none, none, none] (S ++ [.lst []]) ⟨none, none, none, [], c0, rfl, ht.last _, by omega, by simp, by intro j hj; omega, by simp⟩
  rw [List.length_map, List.length_zipIdx, Nat.zero_add] at hcb hx1 hx2 hx3
  refine st_forn (S1 := S ++ [MO.lst []]) (iB_go (ds := [ti p.sl]) (aC_go (eOp_go rfl rfl (es _)) rfl) (by rw [enumG_tup, enumL_map])) ef ?_
  have sr := srt_rights (get_town t1)
  have hp : (xs.mergeSort leR).Perm xs := List.mergeSort_perm xs _
  have hpw := PySem.W.sort_pairwise leR_total xs
  have hsub : List.Sublist ((xs.mergeSort leR).take mr.toNat) (xs.mergeSort leR) := List.take_sublist _ _
  refine st_ret (S1 := S1) (d := .tup (((xs.mergeSort leR).take mr.toNat).map rtD)) ?_ (Sat.ret ⟨_, _, rfl, ?_, ?_, t1.le (by omega)⟩)
  · refine eB_go (aC_go (x := .lst (((xs.mergeSort leR).take mr.toNat).map rtD)) (S1 := S1) ?_ rfl) rfl
    rw [eSl_a]
    refine Eq.trans (congrArg (fun x => R.bind x _) (eB_go (aC_go rfl rfl) sr)) ?_
    show ofO (slT S1 (.lst ((xs.mergeSort leR).map rtD)) none (some mr)) S1 = _
    rw [slT_lst, cut_take _ h0, List.map_take]
    rfl
  · refine ⟨?_, fun x hx => ?_, fun q hq => ?_, fun q hq => ?_⟩
    · have := List.length_take_le mr.toNat (xs.mergeSort leR)
      omega
    · have hx' := hp.mem_iff.mp (hsub.subset hx)
      have := hx1 x hx'
      exact ⟨this.1, this.2.1, three_house this.2.2⟩
    · exact zip_tail_pw (hpw.sublist hsub) q hq
    · have hq' := List.mk_mem_zipIdx_iff_getElem?.mp (show (q.1, q.2) ∈ _ from hq)
      obtain ⟨hlq, hgq⟩ := List.getElem?_eq_some_iff.mp hq'
      have h3 := hx2 q.2 hlq
      rw [List.getD_eq_getElem?_getD, hq'] at h3
      have h4 := (hsub.filter fun x : Rt => decide (x.1 = (q.2 : Int))).length_le
      have h5 := (hp.filter fun x : Rt => decide (x.1 = (q.2 : Int))).length_eq
      simp only [Option.getD_some] at h3
      omega
  · intro x hx
    exact (hx1 x (hp.mem_iff.mp (hsub.subset hx))).2.2
end Qk01

namespace Qk01
open PySem Dn
section
variable {S : MS}
theorem word_1 : F_law_word [.exn 1] S = .ok (.int 0) S := by
  refine fn_is rfl ?_
  refine st_skip (S1 := S) rfl ?_
  refine st_set (S1 := S) (d := .lst [.bl true, .bl false, .bl false]) rfl ?_
  refine st_set (S1 := S) (d := .lst [.bl true, .bl false, .bl false, .bl false, .bl false, .bl false]) rfl ?_
  refine st_set (S1 := S) (d := .lst [.bl true, .bl false, .bl false, .bl false, .bl false, .bl false, .bl false, .bl false, .bl false]) rfl ?_
  refine st_set (S1 := S) (d := .lst [.bl true, .bl false, .bl false, .bl false, .bl false, .bl false, .bl false, .bl false, .bl false, .bl false, .bl false, .bl false]) rfl ?_
  refine st_set (S1 := S) (d := .lst [.bl true, .bl false, .bl false, .bl false, .bl false, .bl false, .bl false, .bl false, .bl false, .bl false, .bl false, .bl false, .bl false, .bl false, .bl false]) rfl ?_
  refine st_set (S1 := S) (d := .lst [.bl true, .bl false, .bl false, .bl false, .bl false, .bl false, .bl false, .bl false, .bl false, .bl false, .bl false, .bl false, .bl false, .bl false, .bl false, .bl false, .bl false, .bl false]) rfl ?_
  refine is_ret ?_
  rw [eIf_t (S1 := S) (bT_go (eOp_go (x := .int 1) (S1 := S) rfl rfl (by rw [eqD_int]; rfl)))]
  rfl
theorem refd_1 : F_law_refused [.str "port"] S = .ok (.tup [.str "refused", .int 0]) S := by
  with_unfolding_all rfl
theorem word_2 : F_law_word [.exn 2] S = .ok (.int 1) S := by
  refine fn_is rfl ?_
  refine st_skip (S1 := S) rfl ?_
  refine st_set (S1 := S) (d := .lst [.bl false, .bl true, .bl false]) rfl ?_
  refine st_set (S1 := S) (d := .lst [.bl false, .bl true, .bl false, .bl false, .bl false, .bl false]) rfl ?_
  refine st_set (S1 := S) (d := .lst [.bl false, .bl true, .bl false, .bl false, .bl false, .bl false, .bl false, .bl false, .bl false]) rfl ?_
  refine st_set (S1 := S) (d := .lst [.bl false, .bl true, .bl false, .bl false, .bl false, .bl false, .bl false, .bl false, .bl false, .bl false, .bl false, .bl false]) rfl ?_
  refine st_set (S1 := S) (d := .lst [.bl false, .bl true, .bl false, .bl false, .bl false, .bl false, .bl false, .bl false, .bl false, .bl false, .bl false, .bl false, .bl false, .bl false, .bl false]) rfl ?_
  refine st_set (S1 := S) (d := .lst [.bl false, .bl true, .bl false, .bl false, .bl false, .bl false, .bl false, .bl false, .bl false, .bl false, .bl false, .bl false, .bl false, .bl false, .bl false, .bl false, .bl false, .bl false]) rfl ?_
  refine is_ret ?_
  rw [eIf_t (S1 := S) (bT_go (eOp_go (x := .int 1) (S1 := S) rfl rfl (by rw [eqD_int]; rfl)))]
  rfl
theorem refd_2 : F_law_refused [.str "rights"] S = .ok (.tup [.str "refused", .int 1]) S := by
  with_unfolding_all rfl
def plainD : D → Bool
  | .non => true
  | .bl _ => true
  | .int _ => true
  | .str _ => true
  | .tup _ => true
  | .lst _ => true
  | _ => false
def wholeB (d : D) (a b : Int) : Bool := match d with
  | .int x => decide (a ≤ x ∧ x ≤ b)
  | _ => false
theorem is_whole_d {d : D} (h : plainD d = true) {a b : Int} : F_is_whole [d, .int a, .int b] S = .ok (.bl (wholeB d a b)) S := by
  cases d with
  | int x => exact is_whole_a
  | non => simp [F_is_whole, g_is_whole, fnD, startD, sRet, fin, wholeB]
  | bl x => simp [F_is_whole, g_is_whole, fnD, startD, sRet, fin, isiD, isiB, wholeB]
  | str x => simp [F_is_whole, g_is_whole, fnD, startD, sRet, fin, isiD, isiB, wholeB]
  | tup x => simp [F_is_whole, g_is_whole, fnD, startD, sRet, fin, isiD, isiB, wholeB]
  | lst x => simp [F_is_whole, g_is_whole, fnD, startD, sRet, fin, isiD, isiB, wholeB]
  | _ => simp [plainD] at h
theorem whole_listD {p : Nat} {ρ : En} {a b : Int} {fa fb : En → MS → R D} (ds : List D) (hpl : ∀ d ∈ ds, plainD d = true) (h : ∀ x, eV p (ρ.set p (some x)) S = .ok x S) (ha : ∀ x, fa (ρ.set p (some x)) S = .ok (.int a) S) (hb : ∀ x, fb (ρ.set p (some x)) S = .ok (.int b) S) :
    compL (.nm p) yesD (eF F_is_whole (aC (eV p) (aC fa (aC fb aN)))) ρ ds S = .ok (ds.map fun d => .bl (wholeB d a b)) S := by
  have := compL_all (p := .nm p) (S := S) (fe := eF F_is_whole (aC (eV p) (aC fa (aC fb aN)))) (ρ := ρ) (fun d : D => d) (fun d => .bl (wholeB d a b)) ds (fun d hd => ⟨_, rfl, by simp [h, ha, hb, is_whole_d (hpl d hd)]⟩)
  rw [List.map_id'] at this
  exact this
theorem pick_d {ns : List Int} (hn : ns.length ≤ 63) {c : Int} (hc : c < 1000000) {r : MS} (h : Town ns c r S) {ds : List D} (h0 : 0 < ds.length) (h1 : ds.length ≤ 1000) : ∃ d ∈ ds, ∃ S', F_law_pick [.frz (ns.map .int), .obj 0, .lst ds] S = .ok d S' ∧ Town ns (c + 1) r S' := by
  obtain ⟨j, S1, e1, t1, j0, j1⟩ := draw_a hn hc h (m := ds.length) (by omega) (by omega)
  obtain ⟨k, rfl⟩ := Int.eq_ofNat_of_zero_le j0
  have hk : k < ds.length := by omega
  refine ⟨ds[k], List.getElem_mem hk, S1, fn_is rfl (is_ret ?_), t1⟩
  exact eOp_go rfl (eF_go (aC_go rfl (aC_go rfl (aC_go (eB_go (aC_go rfl rfl) lenD_lst) rfl))) e1) (by rw [ixD_lst, atI_nat hk, List.getElem?_eq_getElem hk])
def refD (k : Int) : D := .tup [.str "refused", .int k]
theorem shp_ref {k : Int} : Shp S 1 (refD k) (.tuple [.str "refused", .int k]) := .tup (.cons ⟨rfl, by decide +kernel, by simp [PyData.depth]⟩ (.cons .int .nil))
theorem neD_ref {k : Int} : neD S (refD k) (refD k) = some (.bl false) := by
  rw [neD_shp shp_ref shp_ref (by omega)]
  simp [PyData.eqv, PyData.eqvAll]
theorem neD_refs {k : Int} {n : Nat} : neD S (.lst (List.replicate n (refD k))) (.lst (List.replicate n (refD k))) = some (.bl false) := by
  have e : List.replicate n (refD k) = (List.replicate n ()).map fun _ => refD k := by simp
  have z : Shp S 2 (.lst (List.replicate n (refD k))) (.list ((List.replicate n ()).map fun _ => PyData.tuple [.str "refused", .int k])) := by
    rw [e]
    exact .lst (Shps.map (fun _ : Unit => refD k) _ (fun _ => shp_ref) _)
  rw [neD_shp z z (by omega)]
  have := eqv_map (f := fun _ : Unit => PyData.tuple [.str "refused", .int k]) (fun a b => by simp [PyData.eqv, PyData.eqvAll]) (List.replicate n ()) (List.replicate n ())
  simp only [PyData.eqv, this, decide_true, Bool.not_true]
theorem told_exc {how : Int} {x : D} {c : Nat} {k : Int} (h : F_law_one [.int how, x] S = .exc c S) (hc : c < 19) (hw : F_law_word [.exn c] S = .ok (.int k) S) : F_law_told [.int how, x] S = .ok (.tup [.str "refused", .int k]) S := by
  refine fn_is rfl ?_
  refine st_set (S1 := S) (d := .non) rfl ?_
  refine st_set (S1 := S) (d := .non) rfl ?_
  refine st_try (S1 := S) (c := c) (ρ' := [some (.int how), some x, some .non, some .non, none]) ?_ hc (by simp) ?_
  · show sSet 3 (eF F_law_one (aC (eV 0) (aC (eV 1) aN))) [some (.int how), some x, some .non, some .non, none] S = _
    unfold sSet
    rw [eF_go (aC_go rfl (aC_go rfl rfl)) h]
    rfl
  refine st_skip (S1 := S) (bT_go (b := false) (eOp_go rfl rfl isA_non)) ?_
  exact is_ret (eTup_go (aC_go rfl (aC_go (eF_go (aC_go rfl rfl) hw) rfl)) (by simp))
theorem tOr_t {c c' : En → MS → R Bool} {ρ : En} (h : c ρ S = .ok true S) : tOrD c c' ρ S = .ok true S := by rw [tOr_a, h, bind_ok, if_pos rfl]

def isT : D → Bool
  | .tup _ => true
  | _ => false
theorem isi_d {d : D} (h : plainD d = true) : isiD S [d, .ty .tuple] = some (.bl (isT d)) := by
  cases d <;> simp_all [plainD, isiD, isiB, isT]
theorem eAnd_b {f g : En → MS → R D} {ρ : En} {a b : Bool} (h : f ρ S = .ok (.bl a) S) (h' : g ρ S = .ok (.bl b) S) : eAnd f g ρ S = .ok (.bl (a && b)) S := by
  rw [eAnd_a, h]
  cases a
  · rfl
  · simp [h']
theorem eChain_b {fa fb fc : En → MS → R D} {ρ : En} {x y w : Int} (h1 : fa ρ S = .ok (.int x) S) (h2 : fb ρ S = .ok (.int y) S) (h4 : fc ρ S = .ok (.int w) S) : eChain leI leI fa fb fc ρ S = .ok (.bl (decide (x ≤ y ∧ y ≤ w))) S := by
  rw [eChain_a, h1, bind_ok, h2, bind_ok, leI_a]
  show (if decide (x ≤ y) = true then (fc ρ S).bind _ else _) = _
  by_cases z : x ≤ y
  · rw [decide_eq_true z, if_pos rfl, h4, bind_ok, leI_a]
    show R.ok (D.bl (decide (y ≤ w))) S = _
    congr 2
    simp [z]
  · rw [decide_eq_false z, if_neg (by simp)]
    congr 2
    simp [z]
theorem notT {i : Nat} {ρ : En} {d : D} (hi : eV i ρ S = .ok d S) (h : plainD d = true) : tNotD (trT (eB isiD (aC (eV i) (aC (eC (.ty .tuple)) aN)))) ρ S = .ok (!isT d) S :=
  tNot_go (trT_go (eB_go (aC_go hi (aC_go rfl rfl)) (isi_d h)) rfl)
theorem allW {i j : Nat} {ρ : En} {ds : List D} {a b : Int} (hi : eV i ρ S = .ok (.tup ds) S) (hj : j < ρ.length) (hp : ∀ d ∈ ds, plainD d = true) (hl : ds.length ≤ 1000) :
    tNotD (trT (eB allD (aC (eVal (eLc (iSeq (eV i)) (.nm j) yesD (eF F_is_whole (aC (eV j) (aC (eC (.int a)) (aC (eC (.int b)) aN)))) [j])) aN))) ρ S = .ok (!(ds.all fun d => wholeB d a b)) S := by
  have z := whole_listD (p := j) (S := S) (ρ := wipeD ρ [j]) (a := a) (b := b) (fa := eC (.int a)) (fb := eC (.int b)) ds hp (fun x => by
    have : ((wipeD ρ [j]).set j (some x))[j]? = some (some x) := by simp [hj]
    unfold eV; rw [this]) (fun x => rfl) (fun x => rfl)
  exact tNot_go (trT_go (eB_go (aC_go (eVal_go (eLc_go (iSeq_go hi rfl) (by unfold lim; omega) rfl z)) rfl) (allD_map _ _)) rfl)
theorem pt_nt {d : D} (h : plainD d = true) (ht : isT d = false) : F_is_port [d] S = .ok (.bl false) S := by
  refine fn_is rfl (st_then (S1 := S) (tOr_t ?_) (st_retq (S1 := S) rfl Is.ret))
  have := notT (S := S) (i := 0) (ρ := startD 7 [d]) rfl h
  rw [ht] at this
  exact this
theorem tT {i : Nat} {ρ : En} {ds : List D} (hi : eV i ρ S = .ok (.tup ds) S) : tNotD (trT (eB isiD (aC (eV i) (aC (eC (.ty .tuple)) aN)))) ρ S = .ok false S := notT hi rfl
theorem pt_len {ds : List D} (hl : ds.length ≠ 5) : F_is_port [.tup ds] S = .ok (.bl false) S := by
  refine fn_is rfl (st_then (S1 := S) (tOr_go (S1 := S) (tT rfl) (bT_go (b := true) (eOp_go (eB_go (aC_go rfl rfl) lenD_tup) rfl (by rw [neD_int]; congr 3; simp; omega)))) (st_retq (S1 := S) rfl Is.ret))
section five
variable {s w k b f : D}
theorem five {r : R D} (h : Is r ((sSq (sIf (tOrD (tNotD (trT (eB isiD (aC (eV 1) (aC (eC (.ty .tuple)) aN))))) (tOrD (tNotD (bT (eChain leI leI (eC (.int 2)) (eB lenD (aC (eV 1) aN)) (eC (.int 6))))) (tNotD (trT (eB allD (aC (eVal (eLc (iSeq (eV 1)) (.nm 6) yesD (eF F_is_whole (aC (eV 6) (aC (eC (.int 1)) (aC (eC (.int 6)) aN)))) [6])) aN)))))) (sRet (eC (.bl false))) sNx)
  (sSq (sIf (tOrD (tNotD (trT (eB isiD (aC (eV 3) (aC (eC (.ty .tuple)) aN))))) (tOrD (bT (eOp neD (eB lenD (aC (eV 3) aN)) (eC (.int 2)))) (tNotD (trT (eB allD (aC (eVal (eLc (iSeq (eV 3)) (.nm 6) yesD (eF F_is_whole (aC (eV 6) (aC (eC (.int 1)) (aC (eC (.int 9)) aN)))) [6])) aN)))))) (sRet (eC (.bl false))) sNx)
  (sRet (eAnd (eF F_is_whole (aC (eV 2) (aC (eC (.int 1)) (aC (eC (.int 10)) aN)))) (eAnd (eOp leI (eOp ixD (eV 3) (eC (.int 0))) (eOp ixD (eV 3) (eC (.int 1)))) (eAnd (eF F_is_whole (aC (eV 4) (aC (eC (.int 1)) (aC (eB lenD (aC (eV 1) aN)) aN)))) (eF F_is_whole (aC (eV 5) (aC (eC (.int 1)) (aC (eC (.int 6)) aN)))))))))) [some (.tup [s, w, k, b, f]), some s, some w, some k, some b, some f, none] S)) : F_is_port [.tup [s, w, k, b, f]] S = r := by
  refine fn_is rfl ?_
  refine st_skip (S1 := S) (tOr_go (S1 := S) (tT rfl) (bT_go (b := false) (eOp_go (eB_go (aC_go rfl rfl) lenD_tup) rfl (by rw [neD_int]; rfl)))) ?_
  exact st_pat (S1 := S) (d := .tup [s, w, k, b, f]) rfl rfl h
theorem pt_s1 (h : plainD s = true) (ht : isT s = false) : F_is_port [.tup [s, w, k, b, f]] S = .ok (.bl false) S := by
  refine five (st_then (S1 := S) (tOr_t ?_) (st_retq (S1 := S) rfl Is.ret))
  have := notT (S := S) (i := 1) (ρ := [some (.tup [s, w, k, b, f]), some s, some w, some k, some b, some f, none]) rfl h
  rw [ht] at this
  exact this
theorem pt_s2 {ss : List D} (hp : ∀ d ∈ ss, plainD d = true) (hl : ss.length ≤ 1000) (hno : ¬ (2 ≤ ss.length ∧ ss.length ≤ 6) ∨ (ss.all fun d => wholeB d 1 6) = false) : F_is_port [.tup [.tup ss, w, k, b, f]] S = .ok (.bl false) S := by
  refine five (st_then (S1 := S) (tOr_go (S1 := S) (tT rfl) ?_) (st_retq (S1 := S) rfl Is.ret))
  have hc := eChain_b (S := S) (ρ := [some (.tup [.tup ss, w, k, b, f]), some (.tup ss), some w, some k, some b, some f, none]) (fa := eC (.int 2)) (fb := eB lenD (aC (eV 1) aN)) (fc := eC (.int 6)) rfl (eB_go (aC_go rfl rfl) lenD_tup) rfl
  by_cases q : 2 ≤ ss.length ∧ ss.length ≤ 6
  · refine tOr_go (S1 := S) (tNot_go (b := true) (bT_go (by rw [hc]; congr 2; simp; omega))) ?_
    have := allW (S := S) (i := 1) (j := 6) (ρ := [some (.tup [.tup ss, w, k, b, f]), some (.tup ss), some w, some k, some b, some f, none]) (a := 1) (b := 6) rfl (by simp) hp hl
    rw [hno.resolve_left (fun z => z q)] at this
    exact this
  · exact tOr_t (tNot_go (b := false) (bT_go (by rw [hc]; congr 2; simp; omega)))
variable {sl : List Int}
theorem slots_ok (n2 : 2 ≤ sl.length) (n6 : sl.length ≤ 6) (hs : ∀ x ∈ sl, 1 ≤ x ∧ x ≤ 6) : (tOrD (tNotD (trT (eB isiD (aC (eV 1) (aC (eC (.ty .tuple)) aN))))) (tOrD (tNotD (bT (eChain leI leI (eC (.int 2)) (eB lenD (aC (eV 1) aN)) (eC (.int 6))))) (tNotD (trT (eB allD (aC (eVal (eLc (iSeq (eV 1)) (.nm 6) yesD (eF F_is_whole (aC (eV 6) (aC (eC (.int 1)) (aC (eC (.int 6)) aN)))) [6])) aN)))))) [some (.tup [ti sl, w, k, b, f]), some (ti sl), some w, some k, some b, some f, none] S = .ok false S := by
  have hc := eChain_b (S := S) (ρ := [some (.tup [ti sl, w, k, b, f]), some (ti sl), some w, some k, some b, some f, none]) (fa := eC (.int 2)) (fb := eB lenD (aC (eV 1) aN)) (fc := eC (.int 6)) rfl (eB_go (aC_go rfl rfl) lenD_tup) rfl
  refine tOr_go (S1 := S) (tT rfl) (tOr_go (S1 := S) (tNot_go (b := true) (bT_go (by rw [hc, List.length_map]; congr 2; simp; omega))) ?_)
  have := allW (S := S) (i := 1) (j := 6) (ρ := [some (.tup [ti sl, w, k, b, f]), some (ti sl), some w, some k, some b, some f, none]) (ds := sl.map .int) (a := 1) (b := 6) rfl (by simp) (fun d hd => by obtain ⟨x, _, rfl⟩ := List.mem_map.mp hd; rfl) (by rw [List.length_map]; omega)
  rw [this]
  congr 1
  have e : ((sl.map D.int).all fun d => wholeB d 1 6) = true := by
    rw [List.all_eq_true]
    intro d hd
    obtain ⟨x, hx, rfl⟩ := List.mem_map.mp hd
    have := hs x hx
    simp [wholeB]; omega
  rw [e]; rfl
theorem pt_k1 (n2 : 2 ≤ sl.length) (n6 : sl.length ≤ 6) (hs : ∀ x ∈ sl, 1 ≤ x ∧ x ≤ 6) (h : plainD k = true) (ht : isT k = false) : F_is_port [.tup [ti sl, w, k, b, f]] S = .ok (.bl false) S := by
  refine five (st_skip (S1 := S) (slots_ok n2 n6 hs) (st_then (S1 := S) (tOr_t ?_) (st_retq (S1 := S) rfl Is.ret)))
  have := notT (S := S) (i := 3) (ρ := [some (.tup [ti sl, w, k, b, f]), some (ti sl), some w, some k, some b, some f, none]) rfl h
  rw [ht] at this
  exact this
theorem pt_k2 (n2 : 2 ≤ sl.length) (n6 : sl.length ≤ 6) (hs : ∀ x ∈ sl, 1 ≤ x ∧ x ≤ 6) {ks : List D} (hp : ∀ d ∈ ks, plainD d = true) (hl : ks.length ≤ 1000) (hno : ks.length ≠ 2 ∨ (ks.all fun d => wholeB d 1 9) = false) : F_is_port [.tup [ti sl, w, .tup ks, b, f]] S = .ok (.bl false) S := by
  refine five (st_skip (S1 := S) (slots_ok n2 n6 hs) (st_then (S1 := S) (tOr_go (S1 := S) (tT rfl) ?_) (st_retq (S1 := S) rfl Is.ret)))
  by_cases q : ks.length = 2
  · refine tOr_go (S1 := S) (bT_go (b := false) (eOp_go (eB_go (aC_go rfl rfl) lenD_tup) rfl (by rw [neD_int]; congr 3; simp; omega))) ?_
    have := allW (S := S) (i := 3) (j := 6) (ρ := [some (.tup [ti sl, w, .tup ks, b, f]), some (ti sl), some w, some (.tup ks), some b, some f, none]) (a := 1) (b := 9) rfl (by simp) hp hl
    rw [hno.resolve_left (fun z => z q)] at this
    exact this
  · exact tOr_t (bT_go (eOp_go (eB_go (aC_go rfl rfl) lenD_tup) rfl (by rw [neD_int]; congr 3; simp; omega)))
theorem pt_end (n2 : 2 ≤ sl.length) (n6 : sl.length ≤ 6) (hs : ∀ x ∈ sl, 1 ≤ x ∧ x ≤ 6) {k0 k1 : Int} (h0 : 1 ≤ k0 ∧ k0 ≤ 9) (h1 : 1 ≤ k1 ∧ k1 ≤ 9) (hw : plainD w = true) (hb : plainD b = true) (hf : plainD f = true) :
    F_is_port [.tup [ti sl, w, .tup [.int k0, .int k1], b, f]] S = .ok (.bl (wholeB w 1 10 && (decide (k0 ≤ k1) && (wholeB b 1 sl.length && wholeB f 1 6)))) S := by
  refine five (st_skip (S1 := S) (slots_ok n2 n6 hs) (st_skip (S1 := S) (tOr_go (S1 := S) (tT rfl) (tOr_go (S1 := S) (bT_go (b := false) (eOp_go (eB_go (aC_go rfl rfl) lenD_tup) rfl (by rw [neD_int]; rfl))) ?_)) (st_ret (S1 := S) (eAnd_b (eF_go (aC_go rfl (aC_go rfl (aC_go rfl rfl))) (is_whole_d hw)) (eAnd_b (eOp_go (eOp_go rfl rfl rfl) (eOp_go rfl rfl rfl) leI_a) (eAnd_b (eF_go (aC_go rfl (aC_go rfl (aC_go (eB_go (aC_go rfl rfl) lenD_tup) rfl))) (by rw [is_whole_d hb, List.length_map])) (eF_go (aC_go rfl (aC_go rfl (aC_go rfl rfl))) (is_whole_d hf))))) Is.ret)))
  have := allW (S := S) (i := 3) (j := 6) (ρ := [some (.tup [ti sl, w, .tup [.int k0, .int k1], b, f]), some (ti sl), some w, some (.tup [.int k0, .int k1]), some b, some f, none]) (ds := [.int k0, .int k1]) (a := 1) (b := 9) rfl (by simp) (by simp [plainD]) (by simp)
  rw [this]
  congr 1
  simp [wholeB]; omega
end five
/-! what is no port -/
def oddS : List D := [.tup [], .tup [.int 1], .tup [.int 1, .int 1, .int 1, .int 1, .int 1, .int 1, .int 1], .tup [.int 0, .int 1], .tup [.int 7, .int 1], .tup [.bl true, .int 1], .lst [.int 1, .int 1], .non, .tup [.non, .int 1], .tup [.str "1", .int 1]]
def oddW : List D := [.int 0, .int 11, .bl true, .non, .str "5", .int (-1)]
def oddK : List D := [.tup [.int 0, .int 1], .tup [.int 1, .int 0], .tup [.int 2, .int 1], .tup [.int 1, .int 10], .tup [.int 10, .int 10], .tup [.bl true, .int 1], .tup [.int 1], .tup [.int 1, .int 1, .int 1], .lst [.int 1, .int 1], .non, .int 1]
def oddB (p : Port) : List D := [.int 0, .int (p.sl.length + 1), .bl true, .non]
def oddF : List D := [.int 0, .int 7, .bl true, .non]
def kpD (p : Port) : D := .tup [.int p.k0, .int p.k1]
def parts (p : Port) : List D := [ti p.sl, .int p.w, kpD p, .int p.b, .int p.f]
def bads0 (p : Port) : List D := [.non, .int 5, .lst (parts p), .tup [ti p.sl, .int p.w, kpD p, .int p.b], .tup (parts p ++ [.int 1])]
def badsL (p : Port) : List D := ((((bads0 p ++ oddS.map fun o => .tup [o, .int p.w, kpD p, .int 1, .int p.f]) ++ oddW.map fun o => .tup [ti p.sl, o, kpD p, .int p.b, .int p.f]) ++ oddK.map fun o => .tup [ti p.sl, .int p.w, o, .int p.b, .int p.f]) ++ (oddB p).map fun o => .tup [ti p.sl, .int p.w, kpD p, o, .int p.f]) ++ oddF.map fun o => .tup [ti p.sl, .int p.w, kpD p, .int p.b, o]
theorem bads_no {p : Port} (h : p.ok) {d : D} (hd : d ∈ badsL p) : F_is_port [d] S = .ok (.bl false) S := by
  obtain ⟨n2, n6, hs, w1, w10, h1, h01, h9, b1, bn, f1, f6⟩ := h
  have q0 : 1 ≤ p.k0 ∧ p.k0 ≤ 9 := by omega
  have q1 : 1 ≤ p.k1 ∧ p.k1 ≤ 9 := by omega
  unfold badsL at hd
  simp only [List.mem_append, List.mem_map] at hd
  rcases hd with ((((hd | ⟨o, ho, rfl⟩) | ⟨o, ho, rfl⟩) | ⟨o, ho, rfl⟩) | ⟨o, ho, rfl⟩) | ⟨o, ho, rfl⟩
  · simp only [bads0, List.mem_cons, List.not_mem_nil, or_false] at hd
    rcases hd with rfl | rfl | rfl | rfl | rfl
    · exact pt_nt rfl rfl
    · exact pt_nt rfl rfl
    · exact pt_nt rfl rfl
    · exact pt_len (by simp)
    · exact pt_len (by simp [parts])
  · simp only [oddS, List.mem_cons, List.not_mem_nil, or_false] at ho
    rcases ho with rfl | rfl | rfl | rfl | rfl | rfl | rfl | rfl | rfl | rfl
    · exact pt_s2 (by simp) (by simp) (.inl (by simp))
    · exact pt_s2 (by simp [plainD]) (by simp) (.inl (by simp))
    · exact pt_s2 (by simp [plainD]) (by simp) (.inl (by simp))
    · exact pt_s2 (by simp [plainD]) (by simp) (.inr rfl)
    · exact pt_s2 (by simp [plainD]) (by simp) (.inr rfl)
    · exact pt_s2 (by simp [plainD]) (by simp) (.inr rfl)
    · exact pt_s1 rfl rfl
    · exact pt_s1 rfl rfl
    · exact pt_s2 (by simp [plainD]) (by simp) (.inr rfl)
    · exact pt_s2 (by simp [plainD]) (by simp) (.inr rfl)
  · have : ∀ o ∈ oddW, plainD o = true ∧ wholeB o 1 10 = false := by decide
    obtain ⟨a1, a2⟩ := this o ho
    unfold kpD
    rw [pt_end n2 n6 hs q0 q1 a1 rfl rfl, a2]; rfl
  · simp only [oddK, List.mem_cons, List.not_mem_nil, or_false] at ho
    rcases ho with rfl | rfl | rfl | rfl | rfl | rfl | rfl | rfl | rfl | rfl | rfl
    · exact pt_k2 n2 n6 hs (by simp [plainD]) (by simp) (.inr rfl)
    · exact pt_k2 n2 n6 hs (by simp [plainD]) (by simp) (.inr rfl)
    · rw [pt_end n2 n6 hs (by omega) (by omega) rfl rfl rfl]
      congr 2
      rw [show decide ((2 : Int) ≤ 1) = false from rfl, Bool.false_and, Bool.and_false]
    · exact pt_k2 n2 n6 hs (by simp [plainD]) (by simp) (.inr rfl)
    · exact pt_k2 n2 n6 hs (by simp [plainD]) (by simp) (.inr rfl)
    · exact pt_k2 n2 n6 hs (by simp [plainD]) (by simp) (.inr rfl)
    · exact pt_k2 n2 n6 hs (by simp [plainD]) (by simp) (.inl (by simp))
    · exact pt_k2 n2 n6 hs (by simp [plainD]) (by simp) (.inl (by simp))
    · exact pt_k1 n2 n6 hs rfl rfl
    · exact pt_k1 n2 n6 hs rfl rfl
    · exact pt_k1 n2 n6 hs rfl rfl
  · have : plainD o = true ∧ wholeB o 1 p.sl.length = false := by
      simp only [oddB, List.mem_cons, List.not_mem_nil, or_false] at ho
      rcases ho with rfl | rfl | rfl | rfl
      · exact ⟨rfl, by simp [wholeB]⟩
      · exact ⟨rfl, by simp [wholeB]; omega⟩
      · exact ⟨rfl, rfl⟩
      · exact ⟨rfl, rfl⟩
    unfold kpD
    rw [pt_end n2 n6 hs q0 q1 rfl this.1 rfl, this.2]; simp
  · have : ∀ o ∈ oddF, plainD o = true ∧ wholeB o 1 6 = false := by decide
    obtain ⟨a1, a2⟩ := this o ho
    unfold kpD
    rw [pt_end n2 n6 hs q0 q1 rfl rfl a1, a2]; simp
end
end Qk01

namespace Qk01
open PySem Dn
section
variable {S : MS}
theorem Town.pre {ns : List Int} {c : Int} {r S S' : MS} (h : Town ns c r S) (hp : S <+: S') : ∃ r', Town ns c r' S' := by
  obtain ⟨t, ts, e, z⟩ := h
  obtain ⟨T, rfl⟩ := hp
  exact ⟨r ++ T, t, ts, by rw [e]; rfl, z⟩
theorem eqD_refs {k : Int} {n : Nat} : eqD S (.lst (List.replicate n (refD k))) (.lst (List.replicate n (refD k))) = some (.bl true) := by
  have e : List.replicate n (refD k) = (List.replicate n ()).map fun _ => refD k := by simp
  have z : Shp S 2 (.lst (List.replicate n (refD k))) (.list ((List.replicate n ()).map fun _ => PyData.tuple [.str "refused", .int k])) := by
    rw [e]
    exact .lst (Shps.map (fun _ : Unit => refD k) _ (fun _ => shp_ref) _)
  rw [eqD_shp z z (by omega)]
  have := eqv_map (f := fun _ : Unit => PyData.tuple [.str "refused", .int k]) (fun a b => by simp [PyData.eqv, PyData.eqvAll]) (List.replicate n ()) (List.replicate n ())
  simp only [PyData.eqv, this, decide_true]

theorem neD_nil : neD S (.lst []) (.lst []) = some (.bl false) := by
  rw [neD_shp (k := 1) (p := .list []) (q := .list []) (.lst .nil) (.lst .nil) (by omega)]; rfl
theorem told_exc2 {S' : MS} {how : Int} {x : D} {c : Nat} {k : Int} (h : F_law_one [.int how, x] S = .exc c S') (hc : c < 19) (hw : F_law_word [.exn c] S' = .ok (.int k) S') : F_law_told [.int how, x] S = .ok (.tup [.str "refused", .int k]) S' := by
  refine fn_is rfl ?_
  refine st_set (S1 := S) (d := .non) rfl ?_
  refine st_set (S1 := S) (d := .non) rfl ?_
  refine st_try (S1 := S') (c := c) (ρ' := [some (.int how), some x, some .non, some .non, none]) ?_ hc (by simp) ?_
  · show sSet 3 (eF F_law_one (aC (eV 0) (aC (eV 1) aN))) [some (.int how), some x, some .non, some .non, none] S = _
    unfold sSet
    rw [eF_go (aC_go rfl (aC_go rfl rfl)) h]
    rfl
  refine st_skip (S1 := S') (bT_go (b := false) (eOp_go rfl rfl isA_non)) ?_
  exact is_ret (eTup_go (aC_go rfl (aC_go (eF_go (aC_go rfl rfl) hw) rfl)) (by simp))
theorem comp_told {k : Int} {i : Nat} {fe : En → MS → R D} {ρ : En} : ∀ (hows : List Int), (∀ how ∈ hows, ∀ S : MS, ∃ S', fe (ρ.set i (some (.int how))) S = .ok (refD k) S' ∧ S <+: S') → ∀ S : MS, ∃ S', compL (.nm i) yesD fe ρ (hows.map .int) S = .ok (List.replicate hows.length (refD k)) S' ∧ S <+: S'
  | [], _, S => ⟨S, rfl, List.prefix_refl _⟩
  | x :: xs, h, S => by
    obtain ⟨S1, e1, p1⟩ := h x List.mem_cons_self S
    obtain ⟨S2, e2, p2⟩ := comp_told xs (fun y hy => h y (List.mem_cons_of_mem _ hy)) S1
    refine ⟨S2, ?_, p1.trans p2⟩
    simp [compL, compB, bindP, e1, e2, List.replicate_succ]
/-! the functions that are asked -/
theorem one_0 {a b : D} : F_law_one [.int 0, .tup [a, b]] S = F_need [a] S := by
  refine fn_is rfl (st_pat (S1 := S) (d := .tup [a, b]) rfl rfl (st_then (S1 := S) rfl (st_sq (st_set (S1 := S) (d := .top 19) rfl (is_retq ?_)))))
  rw [eIf_t (S1 := S) (bT_go (eOp_go rfl rfl (inA_ints (ws := [0, 3]) (x := 0))))]; rfl
theorem one_1 {a b : D} : F_law_one [.int 1, .tup [a, b]] S = F_are_rights [a, b] S := by
  refine fn_is rfl (st_pat (S1 := S) (d := .tup [a, b]) rfl rfl (st_then (S1 := S) rfl (st_sq (st_set (S1 := S) (d := .top 20) rfl (is_retq ?_)))))
  rw [eIf_f (S1 := S) (bT_go (eOp_go rfl rfl (inA_ints (ws := [0, 3]) (x := 1))))]; rfl
theorem one_2 {a b : D} : F_law_one [.int 2, .tup [a, b]] S = F_free_slots [a, b] S := by
  refine fn_is rfl (st_pat (S1 := S) (d := .tup [a, b]) rfl rfl (st_then (S1 := S) rfl (st_sq (st_set (S1 := S) (d := .top 21) rfl (is_retq ?_)))))
  rw [eIf_f (S1 := S) (bT_go (eOp_go rfl rfl (inA_ints (ws := [0, 3]) (x := 2))))]; rfl
theorem one_3 {a b : D} : F_law_one [.int 3, .tup [a, b]] S = F_port_text [a] S := by
  refine fn_is rfl (st_pat (S1 := S) (d := .tup [a, b]) rfl rfl (st_then (S1 := S) rfl (st_sq (st_set (S1 := S) (d := .top 22) rfl (is_retq ?_)))))
  rw [eIf_t (S1 := S) (bT_go (eOp_go rfl rfl (inA_ints (ws := [0, 3]) (x := 3))))]; rfl
theorem one_4 {a b : D} : F_law_one [.int 4, .tup [a, b]] S = F_rights_text [a, b] S := by
  refine fn_is rfl (st_pat (S1 := S) (d := .tup [a, b]) rfl rfl (st_then (S1 := S) rfl (st_sq (st_set (S1 := S) (d := .top 23) rfl (is_retq ?_)))))
  rw [eIf_f (S1 := S) (bT_go (eOp_go rfl rfl (inA_ints (ws := [0, 3]) (x := 4))))]; rfl
theorem eq_int {i j : Int} {ρ : En} (h : eV 0 ρ S = .ok (.int i) S) {b : Bool} (hb : decide (i = j) = b) : bT (eOp eqD (eV 0) (eC (.int j))) ρ S = .ok b S := bT_go (eOp_go h rfl (by rw [eqD_int, hb]))
theorem one_5 {a b : D} : F_law_one [.int 5, .tup [a, b]] S = F_uses [a, b, .non] S :=
  fn_is rfl (st_pat (S1 := S) (d := .tup [a, b]) rfl rfl (st_skip (S1 := S) rfl (st_then (S1 := S) (eq_int rfl rfl) (is_retq rfl))))
theorem one_6 {a b : D} : F_law_one [.int 6, .tup [a, b]] S = F_deals [a, b, .non] S :=
  fn_is rfl (st_pat (S1 := S) (d := .tup [a, b]) rfl rfl (st_skip (S1 := S) rfl (st_skip (S1 := S) (eq_int rfl rfl) (st_then (S1 := S) (eq_int rfl rfl) (is_retq rfl)))))
theorem one_7 {a b : D} : F_law_one [.int 7, .tup [a, b]] S = nonR (.obj S.length) (F_Desk_init [.obj S.length, a, b, .non] (S ++ [.ins 24 []])) := by
  refine fn_is rfl (st_pat (S1 := S) (d := .tup [a, b]) rfl rfl (st_skip (S1 := S) rfl (st_skip (S1 := S) (eq_int rfl rfl) (st_skip (S1 := S) (eq_int rfl rfl) (is_ret ?_)))))
  rw [eIf_t (S1 := S) (eq_int rfl rfl)]; rfl
theorem one_8 {a b : D} : F_law_one [.int 8, .tup [a, b]] S = F_log_text [a, b, .non] S := by
  refine fn_is rfl (st_pat (S1 := S) (d := .tup [a, b]) rfl rfl (st_skip (S1 := S) rfl (st_skip (S1 := S) (eq_int rfl rfl) (st_skip (S1 := S) (eq_int rfl rfl) (is_ret ?_)))))
  rw [eIf_f (S1 := S) (eq_int rfl rfl)]; rfl
theorem ex1 {F : List D → MS → R D} {f g : En → MS → R D} {as bs : List D} {n : Nat} : True := trivial
section
variable {a b : D} {c : Nat}
theorem x_need (h : F_look_port [a] S = .exc c S) : F_need [a] S = .exc c S := fn_is rfl (st_exc (S1 := S) (eF_go (aC_go rfl rfl) h) Is.exc)
theorem x_are (h : F_look_port [a] S = .exc c S) : F_are_rights [a, b] S = .exc c S := fn_is rfl (st_exc (S1 := S) (eF_go (aC_go rfl rfl) h) Is.exc)
theorem x_text (h : F_look_port [a] S = .exc c S) : F_port_text [a] S = .exc c S := fn_is rfl (st_exc (S1 := S) (eF_go (aC_go rfl rfl) h) Is.exc)
theorem x_look (h : F_look_port [a] S = .exc c S) : F_look_rights [a, b] S = .exc c S := fn_is rfl (st_exc (S1 := S) (eF_go (aC_go rfl rfl) h) Is.exc)
theorem x_free (h : F_look_rights [a, b] S = .exc c S) : F_free_slots [a, b] S = .exc c S := fn_is rfl (st_exc (S1 := S) (eF_go (aC_go rfl (aC_go rfl rfl)) h) Is.exc)
theorem x_rtext (h : F_look_rights [a, b] S = .exc c S) : F_rights_text [a, b] S = .exc c S := fn_is rfl (st_exc (S1 := S) (eF_go (aC_go rfl (aC_go rfl rfl)) h) Is.exc)
theorem x_llog {d : D} (h : F_look_rights [a, b] S = .exc c S) : F_look_log [a, b, d] S = .exc c S := fn_is rfl (st_exc (S1 := S) (eF_go (aC_go rfl (aC_go rfl rfl)) h) Is.exc)
theorem x_lasks {d : D} (h : F_look_rights [a, b] S = .exc c S) : F_look_asks [a, b, d] S = .exc c S := fn_is rfl (st_exc (S1 := S) (eF_go (aC_go rfl (aC_go rfl rfl)) h) Is.exc)
theorem x_uses {d : D} (h : F_look_rights [a, b] S = .exc c S) : F_uses [a, b, d] S = .exc c S := fn_is rfl (st_exc (S1 := S) (eF_go (aC_go rfl (aC_go rfl (aC_go rfl rfl))) (x_llog h)) Is.exc)
theorem x_ltext {d : D} (h : F_look_rights [a, b] S = .exc c S) : F_log_text [a, b, d] S = .exc c S := fn_is rfl (st_exc (S1 := S) (eF_go (aC_go rfl (aC_go rfl (aC_go rfl rfl))) (x_llog h)) Is.exc)
theorem x_deals {d : D} (h : F_look_rights [a, b] S = .exc c S) : F_deals [a, b, d] S = .exc c S := fn_is rfl (st_exc (S1 := S) (eF_go (aC_go rfl (aC_go rfl (aC_go rfl rfl))) (x_lasks h)) Is.exc)
theorem x_desk {o d : D} (h : F_look_rights [a, b] S = .exc c S) : F_Desk_init [o, a, b, d] S = .exc c S := fn_is rfl (st_exc (S1 := S) (eF_go (aC_go rfl (aC_go rfl rfl)) h) Is.exc)
end
theorem six_told {a b : D} {c : Nat} (h : ∀ S : MS, F_look_rights [a, b] S = .exc c S) : ∀ how ∈ ([2, 4, 5, 6, 7, 8] : List Int), ∀ S : MS, ∃ S', F_law_one [.int how, .tup [a, b]] S = .exc c S' ∧ S <+: S' := by
  intro how hm S
  simp only [List.mem_cons, List.not_mem_nil, or_false] at hm
  rcases hm with rfl | rfl | rfl | rfl | rfl | rfl
  · exact ⟨S, by rw [one_2, x_free (h S)], List.prefix_refl _⟩
  · exact ⟨S, by rw [one_4, x_rtext (h S)], List.prefix_refl _⟩
  · exact ⟨S, by rw [one_5, x_uses (h S)], List.prefix_refl _⟩
  · exact ⟨S, by rw [one_6, x_deals (h S)], List.prefix_refl _⟩
  · exact ⟨S ++ [.ins 24 []], by rw [one_7, x_desk (h _)]; rfl, List.prefix_append _ _⟩
  · exact ⟨S, by rw [one_8, x_ltext (h S)], List.prefix_refl _⟩
theorem nine_told {a b : D} (h : ∀ S : MS, F_look_port [a] S = .exc 1 S) : ∀ how ∈ ([0, 1, 2, 3, 4, 5, 6, 7, 8] : List Int), ∀ S : MS, ∃ S', F_law_one [.int how, .tup [a, b]] S = .exc 1 S' ∧ S <+: S' := by
  intro how hm S
  have six := six_told (a := a) (b := b) fun S => x_look (h S)
  simp only [List.mem_cons, List.not_mem_nil, or_false] at hm
  rcases hm with rfl | rfl | rfl | rfl | rfl | rfl | rfl | rfl | rfl
  · exact ⟨S, by rw [one_0, x_need (h S)], List.prefix_refl _⟩
  · exact ⟨S, by rw [one_1, x_are (h S)], List.prefix_refl _⟩
  · exact six 2 (by simp) S
  · exact ⟨S, by rw [one_3, x_text (h S)], List.prefix_refl _⟩
  · exact six 4 (by simp) S
  · exact six 5 (by simp) S
  · exact six 6 (by simp) S
  · exact six 7 (by simp) S
  · exact six 8 (by simp) S
theorem bad_look {p : Port} (po : p.ok) {d : D} (hd : d ∈ badsL p) : F_look_port [d] S = .exc 1 S := by
  refine fn_is rfl (st_raise1 (S1 := S) (tNot_go (b := false) (trT_go (eF_go (aC_go rfl rfl) (bads_no po hd)) rfl)) Is.exc)
/-! the walk over what is no port -/
def EE (p : Port) (n : Nat) (o : Option D) : En := [some p.d, some (.obj n), o, some (ti p.sl), some (.int p.w), some (kpD p), some (.int p.b), some (.int p.f)]
theorem loop_app {p : Port} {S0 : MS} {os pre0 : List D} {it : En → MS → R (List D)} {fe : En → MS → R D} (h : D → D) {o2 : Option D} (hit : it (EE p S0.length o2) (S0 ++ [.lst pre0]) = .ok os (S0 ++ [.lst pre0])) (hfe : ∀ o T, fe (EE p S0.length (some o)) T = .ok (h o) T) (hl : pre0.length + os.length ≤ 1000) :
    NxS (fun ρ' S' => S' = S0 ++ [.lst (pre0 ++ os.map h)] ∧ ∃ o, ρ' = EE p S0.length o) (sForV it (.nm 2) (sEx (eBM "list" appD (eV 1) (aC fe aN))) (EE p S0.length o2) (S0 ++ [.lst pre0])) := by
  obtain ⟨ρ', S', e, q⟩ := st_forP (it := it) (p := .nm 2) (g := sEx (eBM "list" appD (eV 1) (aC fe aN))) (ρ := EE p S0.length o2) (S := S0 ++ [.lst pre0]) (S1 := S0 ++ [.lst pre0]) id os
    (fun pre ρ' S' => S' = S0 ++ [.lst (pre0 ++ pre.map h)] ∧ ∃ o, ρ' = EE p S0.length o)
    (by rw [List.map_id]; exact hit) ⟨by simp, o2, rfl⟩ (by
      rintro pre o post ρ S' he ⟨rfl, o', rfl⟩
      have hl2 := congrArg List.length he
      simp at hl2
      refine nx_bind (ρ' := EE p S0.length (some o)) rfl ?_
      refine nx_ex (app_go (n := S0.length) (d := h o) rfl (aC_go (hfe o _) rfl) get_last get_last (by rw [List.length_append, List.length_map]; unfold lim; omega)) ⟨?_, some o, rfl⟩
      rw [set_last]
      congr 3
      simp)
  exact ⟨ρ', S', e, q⟩
theorem addD_ol {i : Nat} {xs ys : List D} (h : S[i]? = some (.lst xs)) (hl : xs.length + ys.length ≤ 1000) : addD S (.obj i) (.lst ys) = some (.lst (xs ++ ys)) := by
  have : xs.length + ys.length ≤ lim := by unfold lim; omega
  simp [addD, orG, addI, ii, catT, catL, catS, rdM, rdL, h, this]
theorem bad_ports_a {p : Port} : F_law_bad_ports [p.d] S = .ok (.lst (badsL p)) (S ++ [.lst (((((bads0 p ++ oddS.map fun o => .tup [o, .int p.w, kpD p, .int 1, .int p.f]) ++ oddW.map fun o => .tup [ti p.sl, o, kpD p, .int p.b, .int p.f]) ++ oddK.map fun o => .tup [ti p.sl, .int p.w, o, .int p.b, .int p.f]) ++ (oddB p).map fun o => .tup [ti p.sl, .int p.w, kpD p, o, .int p.f]))]) := by
  refine fn_is rfl ?_
  refine st_pat (S1 := S) (d := p.d) rfl rfl ?_
  refine st_set (S1 := S ++ [.lst (bads0 p)]) (d := .obj S.length) (by
    have e1 : (eLst (aC (eC .non) (aC (eC (.int 5)) (aC (eB listD (aC (eV 0) aN)) (aC (eSl slT (eV 0) pNo (pSm (eC (.int 4)))) (aC (eOp addD (eV 0) (eTup (aC (eC (.int 1)) aN))) aN)))))) [some p.d, none, none, some (ti p.sl), some (.int p.w), some (kpD p), some (.int p.b), some (.int p.f)] S = .ok (bads0 p) S :=
      eLst_go (aC_go rfl (aC_go rfl (aC_go (eB_go (aC_go rfl rfl) listD_tup) (aC_go (x := .tup [ti p.sl, .int p.w, kpD p, .int p.b]) (S1 := S) (by
        rw [eSl_a]
        show (ofO (slT S p.d none (some 4)) S) = _
        unfold Port.d
        rw [slT_tup, cut_take _ (by omega)]; rfl) (aC_go (eOp_go rfl (eTup_go (aC_go rfl rfl) (by simp)) (addD_tup (by simp [lim]))) rfl))))) (by simp [bads0])
    exact Eq.trans (congrArg (fun r => R.bind r fun xs S1 => R.ok (D.obj S1.length) (S1 ++ [MO.lst xs])) e1) rfl) ?_
  show Is _ (sSq _ _ (EE p S.length none) (S ++ [.lst (bads0 p)]))
  have m7 : ∀ T : MS, mulD T (.tup [.int 1]) (.int 7) = some (.tup [.int 1, .int 1, .int 1, .int 1, .int 1, .int 1, .int 1]) := fun T => mulD_td (by omega) (by omega)
  refine st_any _ (loop_app (os := oddS) (pre0 := bads0 p) (fun o => .tup [o, .int p.w, kpD p, .int 1, .int p.f]) (iSeq_go (eTup_go (aC_go rfl (aC_go rfl (aC_go (eOp_go rfl rfl (m7 _)) rfl))) (by simp)) rfl) (fun o T => eTup_go (aC_go rfl (aC_go rfl (aC_go rfl (aC_go rfl (aC_go rfl rfl))))) (by simp)) (by simp [bads0, oddS])) ?_
  rintro ρ' S' ⟨rfl, o, rfl⟩
  refine st_any _ (loop_app (os := oddW) (fun o => .tup [ti p.sl, o, kpD p, .int p.b, .int p.f]) (iSeq_go (eTup_go rfl (by simp)) rfl) (fun o T => eTup_go (aC_go rfl (aC_go rfl (aC_go rfl (aC_go rfl (aC_go rfl rfl))))) (by simp)) (by simp [bads0, oddS, oddW])) ?_
  rintro ρ' S' ⟨rfl, o, rfl⟩
  refine st_any _ (loop_app (os := oddK) (fun o => .tup [ti p.sl, .int p.w, o, .int p.b, .int p.f]) (iSeq_go (eTup_go rfl (by simp)) rfl) (fun o T => eTup_go (aC_go rfl (aC_go rfl (aC_go rfl (aC_go rfl (aC_go rfl rfl))))) (by simp)) (by simp [bads0, oddS, oddW, oddK])) ?_
  rintro ρ' S' ⟨rfl, o, rfl⟩
  refine st_any _ (loop_app (os := oddB p) (fun o => .tup [ti p.sl, .int p.w, kpD p, o, .int p.f]) (iSeq_go (eTup_go (aC_go rfl (aC_go (eOp_go (eB_go (aC_go rfl rfl) lenD_tup) rfl addD_int) (aC_go rfl (aC_go rfl rfl)))) (by simp)) (by rw [List.length_map]; rfl)) (fun o T => eTup_go (aC_go rfl (aC_go rfl (aC_go rfl (aC_go rfl (aC_go rfl rfl))))) (by simp)) (by simp [bads0, oddS, oddW, oddK, oddB])) ?_
  rintro ρ' S' ⟨rfl, o, rfl⟩
  have z := compL_all (p := .nm 2) (S := (S ++ [.lst (((((bads0 p ++ oddS.map fun o => .tup [o, .int p.w, kpD p, .int 1, .int p.f]) ++ oddW.map fun o => .tup [ti p.sl, o, kpD p, .int p.b, .int p.f]) ++ oddK.map fun o => .tup [ti p.sl, .int p.w, o, .int p.b, .int p.f]) ++ (oddB p).map fun o => .tup [ti p.sl, .int p.w, kpD p, o, .int p.f]))])) (fe := eTup (aC (eV 3) (aC (eV 4) (aC (eV 5) (aC (eV 6) (aC (eV 2) aN)))))) (ρ := EE p S.length none) id (fun o => .tup [ti p.sl, .int p.w, kpD p, .int p.b, o]) oddF (fun o _ => ⟨EE p S.length (some o), rfl, eTup_go (aC_go rfl (aC_go rfl (aC_go rfl (aC_go rfl (aC_go rfl rfl))))) (by simp)⟩)
  rw [List.map_id] at z
  exact st_ret (S1 := _) (eOp_go rfl (eVal_go (eLc_go (iSeq_go (eTup_go rfl (by simp)) rfl) (by decide) rfl z)) (addD_ol get_last (by simp [bads0, oddS, oddW, oddK, oddB, oddF]))) Is.ret
/-! what is no rights -/
def wideP : Port := ⟨[6, 6], 5, 1, 2, 1, 1⟩
theorem wide_ok : wideP.ok := ⟨by decide, by decide, by decide, by decide, by decide, by decide, by decide, by decide, by decide, by decide, by decide, by decide⟩
def ten : List D := List.replicate 6 (.tup [.int 0, .str "ab"]) ++ List.replicate 4 (.tup [.int 1, .str "abcdefgh"])
def badR1 : List D := [.non, .int 5, .lst (ten), .tup (ten ++ [.tup [.int 1, .str "cd"]]), .tup (List.replicate 7 (.tup [.int 0, .str "ab"])), .tup [.tup [.int 1, .str "ab"], .tup [.int 0, .str "ab"]], .tup [.tup [.int 0, .str "cd"], .tup [.int 0, .str "ab"]]]
def odds1 : List D := [.tup [.int 2, .str "ab"], .tup [.int (-1), .str "ab"], .tup [.bl true, .str "ab"], .tup [.int 0, .str ""], .tup [.int 0, .str "abcdefghi"], .tup [.int 0, .str "Ab"], .tup [.int 0, .int 5], .tup [.int 0], .non, .tup [.int 0, .str "ab", .int 1]]
def badR : List D := badR1 ++ odds1.map fun o => .tup [o]
theorem br_0 : F_are_good [wideP.d, .non] S = .ok (.bl false) S := by kernel_rfl
theorem br_1 : F_are_good [wideP.d, .int 5] S = .ok (.bl false) S := by kernel_rfl
theorem br_2 : F_are_good [wideP.d, .lst (ten)] S = .ok (.bl false) S := by kernel_rfl
theorem br_3 : F_are_good [wideP.d, .tup (ten ++ [.tup [.int 1, .str "cd"]])] S = .ok (.bl false) S := by kernel_rfl
theorem br_4 : F_are_good [wideP.d, .tup (List.replicate 7 (.tup [.int 0, .str "ab"]))] S = .ok (.bl false) S := by kernel_rfl
theorem br_5 : F_are_good [wideP.d, .tup [.tup [.int 1, .str "ab"], .tup [.int 0, .str "ab"]]] S = .ok (.bl false) S := by kernel_rfl
theorem br_6 : F_are_good [wideP.d, .tup [.tup [.int 0, .str "cd"], .tup [.int 0, .str "ab"]]] S = .ok (.bl false) S := by kernel_rfl
theorem br_7 : F_are_good [wideP.d, .tup [.tup [.int 2, .str "ab"]]] S = .ok (.bl false) S := by kernel_rfl
theorem br_8 : F_are_good [wideP.d, .tup [.tup [.int (-1), .str "ab"]]] S = .ok (.bl false) S := by kernel_rfl
theorem br_9 : F_are_good [wideP.d, .tup [.tup [.bl true, .str "ab"]]] S = .ok (.bl false) S := by kernel_rfl
theorem br_10 : F_are_good [wideP.d, .tup [.tup [.int 0, .str ""]]] S = .ok (.bl false) S := by kernel_rfl
theorem br_11 : F_are_good [wideP.d, .tup [.tup [.int 0, .str "abcdefghi"]]] S = .ok (.bl false) S := by kernel_rfl
theorem br_12 : F_are_good [wideP.d, .tup [.tup [.int 0, .str "Ab"]]] S = .ok (.bl false) S := by kernel_rfl
theorem br_13 : F_are_good [wideP.d, .tup [.tup [.int 0, .int 5]]] S = .ok (.bl false) S := by kernel_rfl
theorem br_14 : F_are_good [wideP.d, .tup [.tup [.int 0]]] S = .ok (.bl false) S := by kernel_rfl
theorem br_15 : F_are_good [wideP.d, .tup [.non]] S = .ok (.bl false) S := by kernel_rfl
theorem br_16 : F_are_good [wideP.d, .tup [.tup [.int 0, .str "ab", .int 1]]] S = .ok (.bl false) S := by kernel_rfl

theorem br_ten : F_are_good [wideP.d, .tup ten] S = .ok (.bl true) S := by kernel_rfl
theorem br_nil : F_are_good [wideP.d, .tup []] S = .ok (.bl true) S := by kernel_rfl
theorem badR_no {d : D} (hd : d ∈ badR) : F_are_good [wideP.d, d] S = .ok (.bl false) S := by
  have e : badR = [.non, .int 5, .lst (ten), .tup (ten ++ [.tup [.int 1, .str "cd"]]), .tup (List.replicate 7 (.tup [.int 0, .str "ab"])), .tup [.tup [.int 1, .str "ab"], .tup [.int 0, .str "ab"]], .tup [.tup [.int 0, .str "cd"], .tup [.int 0, .str "ab"]], .tup [.tup [.int 2, .str "ab"]], .tup [.tup [.int (-1), .str "ab"]], .tup [.tup [.bl true, .str "ab"]], .tup [.tup [.int 0, .str ""]], .tup [.tup [.int 0, .str "abcdefghi"]], .tup [.tup [.int 0, .str "Ab"]], .tup [.tup [.int 0, .int 5]], .tup [.tup [.int 0]], .tup [.non], .tup [.tup [.int 0, .str "ab", .int 1]]] := rfl
  rw [e] at hd
  simp only [List.mem_cons, List.not_mem_nil, or_false] at hd
  rcases hd with rfl | rfl | rfl | rfl | rfl | rfl | rfl | rfl | rfl | rfl | rfl | rfl | rfl | rfl | rfl | rfl | rfl
  · exact br_0
  · exact br_1
  · exact br_2
  · exact br_3
  · exact br_4
  · exact br_5
  · exact br_6
  · exact br_7
  · exact br_8
  · exact br_9
  · exact br_10
  · exact br_11
  · exact br_12
  · exact br_13
  · exact br_14
  · exact br_15
  · exact br_16
theorem bad_rights {d : D} (hd : d ∈ badR) : F_look_rights [wideP.d, d] S = .exc 2 S := by
  refine fn_is rfl (st_ex (S1 := S) (d := .non) (eF_go (aC_go rfl rfl) (look_port_a wide_ok)) (st_raise1 (S1 := S) (tNot_go (b := false) (trT_go (eF_go (aC_go rfl (aC_go rfl rfl)) (badR_no hd)) rfl)) Is.exc))
theorem are_rights_d {p : Port} (po : p.ok) {d : D} {b : Bool} (h : F_are_good [p.d, d] S = .ok (.bl b) S) : F_are_rights [p.d, d] S = .ok (.bl b) S :=
  fn_is rfl (st_ex (S1 := S) (d := .non) (eF_go (aC_go rfl rfl) (look_port_a po)) (is_ret (eF_go (aC_go rfl (aC_go rfl rfl)) h)))
end
end Qk01

namespace Qk01
open PySem Dn
def g1 : Port := ⟨[6, 1], 10, 9, 9, 1, 6⟩
def g2 : Port := ⟨[1, 1, 1, 1, 1, 1], 1, 1, 1, 6, 1⟩
def g3 : Port := ⟨[1, 1], 1, 1, 9, 2, 1⟩
theorem g1_ok : g1.ok := ⟨by decide, by decide, by decide, by decide, by decide, by decide, by decide, by decide, by decide, by decide, by decide, by decide⟩
theorem g2_ok : g2.ok := ⟨by decide, by decide, by decide, by decide, by decide, by decide, by decide, by decide, by decide, by decide, by decide, by decide⟩
theorem g3_ok : g3.ok := ⟨by decide, by decide, by decide, by decide, by decide, by decide, by decide, by decide, by decide, by decide, by decide, by decide⟩
theorem compL_none {p : Pat} {ft : En → MS → R Bool} {fe : En → MS → R D} {ρ : En} {S : MS} (xs : List D) (h : ∀ a ∈ xs, ∃ ρ', bindP p a ρ = some ρ' ∧ ft ρ' S = .ok false S) : compL p ft fe ρ xs S = .ok [] S := by
  have := compL_ok (p := p) (ft := ft) (fe := fe) (ρ := ρ) (S := S) id (fun _ => false) id xs (fun a ha => by
    obtain ⟨ρ', h1, h2⟩ := h a ha
    exact ⟨ρ', h1, h2, fun z => by cases z⟩)
  rw [List.map_id, List.filter_eq_nil_iff.mpr (by simp)] at this
  exact this
theorem law_true {ns : List Int} (hn : ns.length ≤ 63) : ∃ S, F_law [.frz (ns.map .int)] [] = .ok (.bl true) S := by
  suffices z : Sat (fun d S' => d = .bl true) (g_law (startD 13 [.frz (ns.map .int)]) []) by
    obtain ⟨d, S', e, rfl⟩ := fn_sat (k := 1) rfl z
    exact ⟨S', e⟩
  obtain ⟨S0, e0, t0⟩ := town_a hn
  refine st_set (S1 := S0) (d := .obj 0) (eF_go (aC_go rfl rfl) e0) ?_
  obtain ⟨p, S1, e1, po, t1⟩ := port_a hn (by omega) t0 (mh := 6) (ms := 6) (by omega) (by omega) (by omega) (by omega)
  refine st_set (S1 := S1) (d := p.d) (eF_go (aC_go rfl (aC_go rfl (aC_go rfl (aC_go rfl rfl)))) e1) ?_
  obtain ⟨rs, S2, r2, e2, ro, _, t2⟩ := rights_a hn (by omega) t1 po (mr := 10) (by omega) (by omega)
  refine st_set (S1 := S2) (d := .tup (rs.map rtD)) (eF_go (aC_go rfl (aC_go rfl (aC_go rfl (aC_go rfl rfl)))) e2) ?_
  obtain ⟨goods, hgoods⟩ : ∃ l : List D, l = [p.d, g1.d, g2.d, g3.d] := ⟨_, rfl⟩
  have m6 : ∀ T : MS, mulD T (.tup [.int 1]) (.int 6) = some (.tup [.int 1, .int 1, .int 1, .int 1, .int 1, .int 1]) := fun T => mulD_td (by omega) (by omega)
  refine st_set (S1 := S2) (d := .lst goods) (by
    rw [hgoods]
    exact eVal_go (eLst_go (aC_go rfl (aC_go rfl (aC_go (eTup_go (aC_go (eOp_go rfl rfl (m6 _)) rfl) (by simp)) (aC_go rfl rfl)))) (by simp))) ?_
  show Sat _ (sSq _ _ [some (.frz (ns.map .int)), some (.obj 0), some p.d, some (.tup (rs.map rtD)), some (.lst goods), none, none, none, none, none, none, none, none] S2)
  have hgo : ∀ d ∈ goods, ∀ S : MS, F_is_port [d] S = .ok (.bl true) S := by
    intro d hd S
    rw [hgoods] at hd
    simp only [List.mem_cons, List.not_mem_nil, or_false] at hd
    rcases hd with rfl | rfl | rfl | rfl
    · exact is_port_a po
    · exact is_port_a g1_ok
    · exact is_port_a g2_ok
    · exact is_port_a g3_ok
  refine st_skip (S1 := S2) (tOr_go (S1 := S2) (bT_go (b := false) (eOp_go (eVal_go (eLc_go (iSeq_go rfl rfl) (by rw [hgoods]; unfold lim; simp) rfl (compL_none (p := .nm 12) goods (fun d hd => ⟨_, rfl, bT_go (eOp_go (eF_go (aC_go rfl rfl) (hgo d hd S2)) rfl isNotA_bl)⟩)))) (eVal_go (eLst_go rfl (by simp))) neD_nil)) (bT_go (eOp_go (eF_go (aC_go rfl (aC_go rfl rfl)) (are_rights_d po (are_good_a po ro))) rfl isNotA_bl))) ?_
  refine st_any (fun ρ' S' => (∃ r, Town ns 200 r S') ∧ ∃ o, ρ' = [some (.frz (ns.map .int)), some (.obj 0), some p.d, some (.tup (rs.map rtD)), some (.lst goods), o, none, none, none, none, none, none, none]) ?_ ?_
  · have hb := bad_ports_a (S := S2) (p := p)
    obtain ⟨ρ', S', e, q⟩ := st_forP (it := iSeq (eF F_law_bad_ports (aC (eV 2) aN))) (p := .nm 5) (g := sIf (bT (eOp isNotA (eF F_is_port (aC (eV 5) aN)) (eC (.bl false)))) (sRet (eC (.bl false))) sNx) (ρ := [some (.frz (ns.map .int)), some (.obj 0), some p.d, some (.tup (rs.map rtD)), some (.lst goods), none, none, none, none, none, none, none, none]) (S := S2) (S1 := _) id (badsL p)
      (fun pre ρ' S' => (∃ r, Town ns 200 r S') ∧ ∃ o, ρ' = [some (.frz (ns.map .int)), some (.obj 0), some p.d, some (.tup (rs.map rtD)), some (.lst goods), o, none, none, none, none, none, none, none])
      (by rw [List.map_id]; exact iSeq_go (eF_go (aC_go rfl rfl) hb) rfl) ⟨⟨_, (t2.le (by omega)).last _⟩, none, rfl⟩ (by
        rintro pre d post ρ S' he ⟨ht, o, rfl⟩
        refine nx_bind (ρ' := _) rfl ?_
        refine nx_if (b := false) (S1 := S') (bT_go (eOp_go (eF_go (aC_go rfl rfl) (bads_no po (by rw [he]; simp))) rfl isNotA_bl)) (fun z => by cases z) (fun _ => NxS.nx ⟨ht, some d, rfl⟩))
    exact ⟨_, _, e, q⟩
  rintro ρ' S3 ⟨⟨r3, t3⟩, o, rfl⟩
  have hb := bad_ports_a (S := S3) (p := p)
  obtain ⟨bad, hbad, S4, e4, t4⟩ := pick_d hn (by omega) (t3.last _) (ds := badsL p) (by simp [badsL, bads0]) (by simp [badsL, bads0, oddS, oddW, oddK, oddB, oddF])
  refine st_set (S1 := S4) (d := bad) (eF_go (aC_go rfl (aC_go rfl (aC_go (eF_go (aC_go rfl rfl) hb) rfl))) e4) ?_
  show Sat _ (sSq _ _ [some (.frz (ns.map .int)), some (.obj 0), some p.d, some (.tup (rs.map rtD)), some (.lst goods), some bad, none, none, none, none, none, none, none] S4)
  obtain ⟨S5, e5, p5⟩ := comp_told (k := 0) (i := 10) (fe := eF F_law_told (aC (eV 10) (aC (eTup (aC (eV 5) (aC (eC .non) aN))) aN))) (ρ := [some (.frz (ns.map .int)), some (.obj 0), some p.d, some (.tup (rs.map rtD)), some (.lst goods), some bad, none, none, none, none, none, none, none]) [0, 1, 2, 3, 4, 5, 6, 7, 8] (fun how hm S => by
    obtain ⟨S', e, pp⟩ := nine_told (a := bad) (b := .non) (fun S => bad_look po hbad) how hm S
    exact ⟨S', eF_go (aC_go rfl (aC_go (eTup_go (aC_go rfl (aC_go rfl rfl)) (by simp)) rfl)) (told_exc2 e (by omega) word_1), pp⟩) S4
  have hrep : ∀ (S : MS) (k : Int) (n : Int), 0 ≤ n → n ≤ 1000 → mulD S (.lst [refD k]) (.int n) = some (.lst (List.replicate n.toNat (refD k))) := fun S k n h0 h1 => mulD_ld h0 h1
  refine st_skip (S1 := S5) (bT_go (b := false) (eOp_go (eVal_go (eLc_go (iB_go (aC_go rfl rfl) (show rng1 [.int 9] = some ([(0 : Int), 1, 2, 3, 4, 5, 6, 7, 8].map D.int) from rfl)) (by decide) rfl e5)) (eOp_go (eVal_go (eLst_go (aC_go (eF_go (aC_go rfl rfl) refd_1) rfl) (by simp))) rfl (hrep _ 0 9 (by omega) (by omega))) neD_refs)) ?_
  refine st_set (S1 := S5) (d := wideP.d) (eTup_go rfl (by simp)) ?_
  have ten6 : ∀ T : MS, mulD T (.tup [.tup [.int 0, .str "ab"]]) (.int 6) = some (.tup (List.replicate 6 (.tup [.int 0, .str "ab"]))) := fun T => mulD_td (by omega) (by omega)
  have ten4 : ∀ T : MS, mulD T (.tup [.tup [.int 1, .str "abcdefgh"]]) (.int 4) = some (.tup (List.replicate 4 (.tup [.int 1, .str "abcdefgh"]))) := fun T => mulD_td (by omega) (by omega)
  refine st_set (S1 := S5) (d := .tup ten) (eOp_go (eOp_go (eTup_go (aC_go (eTup_go rfl (by simp)) rfl) (by simp)) rfl (ten6 _)) (eOp_go (eTup_go (aC_go (eTup_go rfl (by simp)) rfl) (by simp)) rfl (ten4 _)) (addD_tup (by simp [lim]))) ?_
  show Sat _ (sSq _ _ [some (.frz (ns.map .int)), some (.obj 0), some p.d, some (.tup (rs.map rtD)), some (.lst goods), some bad, some wideP.d, some (.tup ten), none, none, none, none, none] S5)
  refine st_skip (S1 := S5) (tOr_go (S1 := S5) (bT_go (b := false) (eOp_go (eF_go (aC_go rfl (aC_go rfl rfl)) (are_rights_d wide_ok br_ten)) rfl isNotA_bl)) (bT_go (eOp_go (eF_go (aC_go rfl (aC_go (eTup_go rfl (by simp)) rfl)) (are_rights_d wide_ok br_nil)) rfl isNotA_bl))) ?_
  have ten7 : ∀ T : MS, mulD T (.tup [.tup [.int 0, .str "ab"]]) (.int 7) = some (.tup (List.replicate 7 (.tup [.int 0, .str "ab"]))) := fun T => mulD_td (by omega) (by omega)
  refine st_set (S1 := S5) (d := .lst badR1) (eVal_go (eLst_go (aC_go rfl (aC_go rfl (aC_go (eB_go (aC_go rfl rfl) listD_tup) (aC_go (eOp_go rfl (eTup_go (aC_go (eTup_go rfl (by simp)) rfl) (by simp)) (addD_tup (by simp [lim, ten]))) (aC_go (eOp_go (eTup_go (aC_go (eTup_go rfl (by simp)) rfl) (by simp)) rfl (ten7 _)) (aC_go rfl (aC_go rfl rfl))))))) (by decide))) ?_
  refine st_set (S1 := S5) (d := .lst (odds1.take 9)) (eVal_go (eLst_go rfl (by decide))) ?_
  have zo := compL_all (p := .nm 11) (S := S5) (fe := eTup (aC (eV 11) aN)) (ρ := [some (.frz (ns.map .int)), some (.obj 0), some p.d, some (.tup (rs.map rtD)), some (.lst goods), some bad, some wideP.d, some (.tup ten), some (.lst badR1), some (.lst (odds1.take 9)), none, none, none]) id (fun o => .tup [o]) odds1 (fun o _ => ⟨_, rfl, eTup_go (aC_go rfl rfl) (by simp)⟩)
  rw [List.map_id] at zo
  have ho10 : ∀ T : MS, addD T (.lst (odds1.take 9)) (.lst [.tup [.int 0, .str "ab", .int 1]]) = some (.lst odds1) := fun T => addD_lst (by simp [lim, odds1])
  refine st_set (S1 := S5) (d := .lst badR) (eOp_go rfl (eVal_go (eLc_go (iSeq_go (eOp_go rfl (eVal_go (eLst_go (aC_go (eTup_go rfl (by simp)) rfl) (by simp))) (ho10 _)) rfl) (by decide) rfl zo)) (addD_lst (by simp [lim, odds1, badR1]))) ?_
  show Sat _ (sSq _ _ [some (.frz (ns.map .int)), some (.obj 0), some p.d, some (.tup (rs.map rtD)), some (.lst goods), some bad, some wideP.d, some (.tup ten), some (.lst badR), some (.lst (odds1.take 9)), none, none, none] S5)
  refine st_skip (S1 := S5) (bT_go (b := false) (eOp_go (eVal_go (eLc_go (iSeq_go rfl rfl) (by decide) rfl (compL_none (p := .nm 5) badR (fun d hd => ⟨_, rfl, bT_go (eOp_go (eF_go (aC_go rfl (aC_go rfl rfl)) (are_rights_d wide_ok (badR_no hd))) rfl isNotA_bl)⟩)))) (eVal_go (eLst_go rfl (by simp))) neD_nil)) ?_
  obtain ⟨r5, t5⟩ := t4.pre p5
  obtain ⟨bad2, hbad2, S6, e6, t6⟩ := pick_d hn (by omega) t5 (ds := badR) (by decide) (by decide)
  refine st_set (S1 := S6) (d := bad2) (eF_go (aC_go rfl (aC_go rfl (aC_go rfl rfl))) e6) ?_
  show Sat _ (sRet _ [some (.frz (ns.map .int)), some (.obj 0), some p.d, some (.tup (rs.map rtD)), some (.lst goods), some bad2, some wideP.d, some (.tup ten), some (.lst badR), some (.lst (odds1.take 9)), none, none, none] S6)
  obtain ⟨S7, e7, p7⟩ := comp_told (k := 1) (i := 10) (fe := eF F_law_told (aC (eV 10) (aC (eTup (aC (eV 6) (aC (eV 5) aN))) aN))) (ρ := [some (.frz (ns.map .int)), some (.obj 0), some p.d, some (.tup (rs.map rtD)), some (.lst goods), some bad2, some wideP.d, some (.tup ten), some (.lst badR), some (.lst (odds1.take 9)), none, none, none]) [2, 4, 5, 6, 7, 8] (fun how hm S => by
    obtain ⟨S', e, pp⟩ := six_told (a := wideP.d) (b := bad2) (c := 2) (fun S => bad_rights hbad2) how hm S
    exact ⟨S', eF_go (aC_go rfl (aC_go (eTup_go (aC_go rfl (aC_go rfl rfl)) (by simp)) rfl)) (told_exc2 e (by omega) word_2), pp⟩) S6
  refine st_ret (S1 := S7) (d := .bl true) (eOp_go (eVal_go (eLc_go (iSeq_go (eTup_go rfl (by simp)) rfl) (by decide) rfl e7)) (eOp_go (eVal_go (eLst_go (aC_go (eF_go (aC_go rfl rfl) refd_2) rfl) (by simp))) rfl (hrep _ 1 6 (by omega) (by omega))) eqD_refs) (Sat.ret rfl)
end Qk01

namespace Qk01
open PySem PySem.Spec PyProof.Rows L2 Dn
def nms : List Str := ["HourError", "BadPort", "BadRights", "BadLog", "BadPlace", "BadHours", "BadNumber", "BadCounts", "BadGains", "BadPrices", "BadAsks", "BadPlan", "BadBoard", "BadHouse", "Full", "Nothing", "Taken", "NoBack", "BadText", "need", "are_rights", "free_slots", "port_text", "rights_text", "Desk"]
def topS (i : Nat) : Stmt := PySem.Challenge.pw_hoursheld_k01_no_ports.main.body.getD i (.Pass ⟨0, 0, 0, 0⟩)
structure Bl (mg : Str → Option Value) : Prop where
  ValueError_ : mg "ValueError" = none
  all_ : mg "all" = none
  bool_ : mg "bool" = none
  enumerate_ : mg "enumerate" = none
  int_ : mg "int" = none
  isinstance_ : mg "isinstance" = none
  len_ : mg "len" = none
  list_ : mg "list" = none
  range_ : mg "range" = none
  sorted_ : mg "sorted" = none
  str_ : mg "str" = none
  tuple_ : mg "tuple" = none
  zip_ : mg "zip" = none
section
variable {P : Program} {w : World} {K : PySem.W.Frag} {mg : Str → Option Value} {base : Heap} {ca : Nat → Addr} {tb : List (Addr × Str)}
theorem sc_wall : FnScope ["k"] ["k"] (defScope (topS 0)) := ⟨rfl, rfl, rfl, by decide +kernel, rfl, by decide +kernel, by decide +kernel⟩
theorem fo_wall (B : Bl mg)   {f : Addr} {fd : FuncData} (F : Fun K "_wall" "_wall" (topS 0) f fd) : FnOk P w K mg base (L2.CX P w) 1 f fd ["k"] (spD ⟨K, ca, tb⟩ F_wall) := by
  have nd := (sc_wall).nd
  refine fn_den (k := 0) F sc_wall rfl rfl (g := g_wall) (fun cdv A outer s H E hr => ?_)
  have tk : Takes (cxOf (L2.CX P w) P w K mg base ["k"] "_wall" (defScope (topS 0)) f cdv A outer s H E) (WE0 E) := takes_of rfl rfl rfl rfl
  exact (dens_one dens_bad)
theorem bi_wall {f : Addr} {fd : FuncData} (F : Fun K "_wall" "_wall" (topS 0) f fd) : Binds K fd ["k"] [] := F.binds (ps := ["k"]) fun _ _ _ _ _ _ us hl => match us, hl with | [_], _ => rfl

theorem sc_is_whole : FnScope ["thing", "least", "most"] ["thing", "least", "most"] (defScope (topS 23)) := ⟨rfl, rfl, rfl, by decide +kernel, rfl, by decide +kernel, by decide +kernel⟩
theorem fo_is_whole (B : Bl mg)   {f : Addr} {fd : FuncData} (F : Fun K "is_whole" "is_whole" (topS 23) f fd) : FnOk P w K mg base (L2.CX P w) 1 f fd ["thing", "least", "most"] (spD ⟨K, ca, tb⟩ F_is_whole) := by
  have nd := (sc_is_whole).nd
  refine fn_den (k := 0) F sc_is_whole rfl rfl (g := g_is_whole) (fun cdv A outer s H E hr => ?_)
  have tk : Takes (cxOf (L2.CX P w) P w K mg base ["thing", "least", "most"] "is_whole" (defScope (topS 23)) f cdv A outer s H E) (WE0 E) := takes_of rfl rfl rfl rfl
  exact (dens_one (dens_ret (den_and (den_callB call_isi cd_isi rfl B.isinstance_ bt_isinstance (dena_cons (den_v 0) (dena_cons (den_ty (t := .int) B.int_ bt_int) dena_nil))) (den_and (den_not (den_callB call_isi cd_isi rfl B.isinstance_ bt_isinstance (dena_cons (den_v 0) (dena_cons (den_ty (t := .bool) B.bool_ bt_bool) dena_nil)))) (den_one (den_chain op_le op_le od_leI od_leI (den_v 1) (den_v 0) (den_v 2)))))))
theorem bi_is_whole {f : Addr} {fd : FuncData} (F : Fun K "is_whole" "is_whole" (topS 23) f fd) : Binds K fd ["thing", "least", "most"] [] := F.binds (ps := ["thing", "least", "most"]) fun _ _ _ _ _ _ us hl => match us, hl with | [_, _, _], _ => rfl

theorem sc_is_house : FnScope ["thing", "sign"] ["thing"] (defScope (topS 24)) := ⟨rfl, rfl, rfl, by decide +kernel, rfl, by decide +kernel, by decide +kernel⟩
theorem fo_is_house (B : Bl mg)  (k_LETTERS : ∃ t, mg "LETTERS" = some (.str "abcdefghijklmnopqrstuvwxyz" t)) {f : Addr} {fd : FuncData} (F : Fun K "is_house" "is_house" (topS 24) f fd) : FnOk P w K mg base (L2.CX P w) 1 f fd ["thing"] (spD ⟨K, ca, tb⟩ F_is_house) := by
  have nd := (sc_is_house).nd
  refine fn_den (k := 0) F sc_is_house rfl rfl (g := g_is_house) (fun cdv A outer s H E hr => ?_)
  have tk : Takes (cxOf (L2.CX P w) P w K mg base ["thing", "sign"] "is_house" (defScope (topS 24)) f cdv A outer s H E) (WE0 E) := takes_of rfl rfl rfl rfl
  exact (dens_one (dens_ret (den_and (den_callB call_isi cd_isi rfl B.isinstance_ bt_isinstance (dena_cons (den_v 0) (dena_cons (den_ty (t := .str) B.str_ bt_str) dena_nil))) (den_and (den_chain op_le op_le od_leI od_leI den_int (den_callB cl_len cd_len rfl B.len_ bt_len (dena_cons (den_v 0) dena_nil)) den_int) (den_one (den_callB (cr_all rfl) cd_all rfl B.all_ bt_all (dena_cons (den_val (denl_lc (own := [("sign", 1)]) rfl nd (deni_seq (den_v 0)) (blkOk_by (by kernel_rfl)) (by decide) (fun _ _ _ _ _ => (deng_nm 1 nd)) (fun _ _ _ _ _ => dents_nil) (fun _ _ _ _ _ => (den_cmp or_in od_inA (den_v 1) (den_gs k_LETTERS) (by with_unfolding_all rfl))))) dena_nil)))))))
theorem bi_is_house {f : Addr} {fd : FuncData} (F : Fun K "is_house" "is_house" (topS 24) f fd) : Binds K fd ["thing"] [] := F.binds (ps := ["thing"]) fun _ _ _ _ _ _ us hl => match us, hl with | [_], _ => rfl

theorem sc_do_rise : FnScope ["some", "one", "other"] ["some"] (defScope (topS 25)) := ⟨rfl, rfl, rfl, by decide +kernel, rfl, by decide +kernel, by decide +kernel⟩
theorem fo_do_rise (B : Bl mg)   {f : Addr} {fd : FuncData} (F : Fun K "do_rise" "do_rise" (topS 25) f fd) : FnOk P w K mg base (L2.CX P w) 1 f fd ["some"] (spD ⟨K, ca, tb⟩ F_do_rise) := by
  have nd := (sc_do_rise).nd
  refine fn_den (k := 0) F sc_do_rise rfl rfl (g := g_do_rise) (fun cdv A outer s H E hr => ?_)
  have tk : Takes (cxOf (L2.CX P w) P w K mg base ["some", "one", "other"] "do_rise" (defScope (topS 25)) f cdv A outer s H E) (WE0 E) := takes_of rfl rfl rfl rfl
  exact (dens_one (dens_ret (den_callB (cr_all rfl) cd_all rfl B.all_ bt_all (dena_cons (den_val (denl_lc (own := [("one", 1), ("other", 2)]) rfl nd (deni_zip B.zip_ (dena_cons (den_v 0) (dena_cons (den_slice sl_any sd_sl (den_v 0) (denp_some den_int) denp_none) dena_nil))) (blkOk_by (by kernel_rfl)) (by decide) (fun _ _ _ _ _ => (deng_tp rfl (dengs_cons (deng_nm 1 nd) (dengs_cons (deng_nm 2 nd) dengs_nil)))) (fun _ _ _ _ _ => dents_nil) (fun _ _ _ _ _ => (den_cmp (or_ltA hr.units) od_ltA (den_v 1) (den_v 2) (nomark _))))) dena_nil))))
theorem bi_do_rise {f : Addr} {fd : FuncData} (F : Fun K "do_rise" "do_rise" (topS 25) f fd) : Binds K fd ["some"] [] := F.binds (ps := ["some"]) fun _ _ _ _ _ _ us hl => match us, hl with | [_], _ => rfl

theorem sc_need_of : FnScope ["port", "p", "q"] ["port"] (defScope (topS 28)) := ⟨rfl, rfl, rfl, by decide +kernel, rfl, by decide +kernel, by decide +kernel⟩
theorem fo_need_of (B : Bl mg)   {f : Addr} {fd : FuncData} (F : Fun K "need_of" "need_of" (topS 28) f fd) : FnOk P w K mg base (L2.CX P w) 1 f fd ["port"] (spD ⟨K, ca, tb⟩ F_need_of) := by
  have nd := (sc_need_of).nd
  refine fn_den (k := 0) F sc_need_of rfl rfl (g := g_need_of) (fun cdv A outer s H E hr => ?_)
  have tk : Takes (cxOf (L2.CX P w) P w K mg base ["port", "p", "q"] "need_of" (defScope (topS 28)) f cdv A outer s H E) (WE0 E) := takes_of rfl rfl rfl rfl
  exact (dens_cons dens_bad
  (dens_one dens_bad))
theorem bi_need_of {f : Addr} {fd : FuncData} (F : Fun K "need_of" "need_of" (topS 28) f fd) : Binds K fd ["port"] [] := F.binds (ps := ["port"]) fun _ _ _ _ _ _ us hl => match us, hl with | [_], _ => rfl

theorem sc_flown_weeks : FnScope ["rights", "log", "storms", "flown", "lent", "place", "one"] ["rights", "log"] (defScope (topS 38)) := ⟨rfl, rfl, rfl, by decide +kernel, rfl, by decide +kernel, by decide +kernel⟩
theorem fo_flown_weeks (B : Bl mg)   {f : Addr} {fd : FuncData} (F : Fun K "flown_weeks" "flown_weeks" (topS 38) f fd) : FnOk P w K mg base (L2.CX P w) 1 f fd ["rights", "log"] (spD ⟨K, ca, tb⟩ F_flown_weeks) := by
  have nd := (sc_flown_weeks).nd
  refine fn_den (k := 0) F sc_flown_weeks rfl rfl (g := g_flown_weeks) (fun cdv A outer s H E hr => ?_)
  have tk : Takes (cxOf (L2.CX P w) P w K mg base ["rights", "log", "storms", "flown", "lent", "place", "one"] "flown_weeks" (defScope (topS 38)) f cdv A outer s H E) (WE0 E) := takes_of rfl rfl rfl rfl
  exact (dens_cons dens_bad
  (dens_one dens_bad))
theorem bi_flown_weeks {f : Addr} {fd : FuncData} (F : Fun K "flown_weeks" "flown_weeks" (topS 38) f fd) : Binds K fd ["rights", "log"] [] := F.binds (ps := ["rights", "log"]) fun _ _ _ _ _ _ us hl => match us, hl with | [_, _], _ => rfl

theorem sc_all_free : FnScope ["port", "rights", "hour", "many", "one"] ["port", "rights"] (defScope (topS 45)) := ⟨rfl, rfl, rfl, by decide +kernel, rfl, by decide +kernel, by decide +kernel⟩
theorem fo_all_free (B : Bl mg)   {f : Addr} {fd : FuncData} (F : Fun K "all_free" "all_free" (topS 45) f fd) : FnOk P w K mg base (L2.CX P w) 1 f fd ["port", "rights"] (spD ⟨K, ca, tb⟩ F_all_free) := by
  have nd := (sc_all_free).nd
  refine fn_den (k := 0) F sc_all_free rfl rfl (g := g_all_free) (fun cdv A outer s H E hr => ?_)
  have tk : Takes (cxOf (L2.CX P w) P w K mg base ["port", "rights", "hour", "many", "one"] "all_free" (defScope (topS 45)) f cdv A outer s H E) (WE0 E) := takes_of rfl rfl rfl rfl
  exact (dens_one dens_bad)
theorem bi_all_free {f : Addr} {fd : FuncData} (F : Fun K "all_free" "all_free" (topS 45) f fd) : Binds K fd ["port", "rights"] [] := F.binds (ps := ["port", "rights"]) fun _ _ _ _ _ _ us hl => match us, hl with | [_, _], _ => rfl

theorem sc_text_of_port : FnScope ["port", "row", "slots", "weeks", "keep", "back", "few", "one"] ["port"] (defScope (topS 53)) := ⟨rfl, rfl, rfl, by decide +kernel, rfl, by decide +kernel, by decide +kernel⟩
theorem fo_text_of_port (B : Bl mg)   {f : Addr} {fd : FuncData} (F : Fun K "text_of_port" "text_of_port" (topS 53) f fd) : FnOk P w K mg base (L2.CX P w) 1 f fd ["port"] (spD ⟨K, ca, tb⟩ F_text_of_port) := by
  have nd := (sc_text_of_port).nd
  refine fn_den (k := 0) F sc_text_of_port rfl rfl (g := g_text_of_port) (fun cdv A outer s H E hr => ?_)
  have tk : Takes (cxOf (L2.CX P w) P w K mg base ["port", "row", "slots", "weeks", "keep", "back", "few", "one"] "text_of_port" (defScope (topS 53)) f cdv A outer s H E) (WE0 E) := takes_of rfl rfl rfl rfl
  exact (dens_cons dens_bad
  (dens_cons dens_bad
  (dens_one dens_bad)))
theorem bi_text_of_port {f : Addr} {fd : FuncData} (F : Fun K "text_of_port" "text_of_port" (topS 53) f fd) : Binds K fd ["port"] [] := F.binds (ps := ["port"]) fun _ _ _ _ _ _ us hl => match us, hl with | [_], _ => rfl

theorem sc_text_of_rights : FnScope ["rights", "hour", "house"] ["rights"] (defScope (topS 55)) := ⟨rfl, rfl, rfl, by decide +kernel, rfl, by decide +kernel, by decide +kernel⟩
theorem fo_text_of_rights (B : Bl mg)   {f : Addr} {fd : FuncData} (F : Fun K "text_of_rights" "text_of_rights" (topS 55) f fd) : FnOk P w K mg base (L2.CX P w) 1 f fd ["rights"] (spD ⟨K, ca, tb⟩ F_text_of_rights) := by
  have nd := (sc_text_of_rights).nd
  refine fn_den (k := 0) F sc_text_of_rights rfl rfl (g := g_text_of_rights) (fun cdv A outer s H E hr => ?_)
  have tk : Takes (cxOf (L2.CX P w) P w K mg base ["rights", "hour", "house"] "text_of_rights" (defScope (topS 55)) f cdv A outer s H E) (WE0 E) := takes_of rfl rfl rfl rfl
  exact (dens_one dens_bad)
theorem bi_text_of_rights {f : Addr} {fd : FuncData} (F : Fun K "text_of_rights" "text_of_rights" (topS 55) f fd) : Binds K fd ["rights"] [] := F.binds (ps := ["rights"]) fun _ _ _ _ _ _ us hl => match us, hl with | [_], _ => rfl

theorem sc_weeks_text : FnScope ["weeks", "week"] ["weeks"] (defScope (topS 57)) := ⟨rfl, rfl, rfl, by decide +kernel, rfl, by decide +kernel, by decide +kernel⟩
theorem fo_weeks_text (B : Bl mg)   {f : Addr} {fd : FuncData} (F : Fun K "weeks_text" "weeks_text" (topS 57) f fd) : FnOk P w K mg base (L2.CX P w) 1 f fd ["weeks"] (spD ⟨K, ca, tb⟩ F_weeks_text) := by
  have nd := (sc_weeks_text).nd
  refine fn_den (k := 0) F sc_weeks_text rfl rfl (g := g_weeks_text) (fun cdv A outer s H E hr => ?_)
  have tk : Takes (cxOf (L2.CX P w) P w K mg base ["weeks", "week"] "weeks_text" (defScope (topS 57)) f cdv A outer s H E) (WE0 E) := takes_of rfl rfl rfl rfl
  exact (dens_one dens_bad)
theorem bi_weeks_text {f : Addr} {fd : FuncData} (F : Fun K "weeks_text" "weeks_text" (topS 57) f fd) : Binds K fd ["weeks"] [] := F.binds (ps := ["weeks"]) fun _ _ _ _ _ _ us hl => match us, hl with | [_], _ => rfl

theorem sc_law_town : FnScope ["script"] ["script"] (defScope (topS 61)) := ⟨rfl, rfl, rfl, by decide +kernel, rfl, by decide +kernel, by decide +kernel⟩
theorem fo_law_town (B : Bl mg)   {f : Addr} {fd : FuncData} (F : Fun K "_law_town" "_law_town" (topS 61) f fd) : FnOk P w K mg base (L2.CX P w) 1 f fd ["script"] (spD ⟨K, ca, tb⟩ F_law_town) := by
  have nd := (sc_law_town).nd
  refine fn_den (k := 0) F sc_law_town rfl rfl (g := g_law_town) (fun cdv A outer s H E hr => ?_)
  have tk : Takes (cxOf (L2.CX P w) P w K mg base ["script"] "_law_town" (defScope (topS 61)) f cdv A outer s H E) (WE0 E) := takes_of rfl rfl rfl rfl
  exact (dens_one (dens_ret (den_obj (denl_op op_cat ol_cat (den_val (denl_lst (dena_cons den_int dena_nil))) (den_callTy call_list_of cd_list rfl B.list_ bt_list (dena_cons (den_v 0) dena_nil))))))
theorem bi_law_town {f : Addr} {fd : FuncData} (F : Fun K "_law_town" "_law_town" (topS 61) f fd) : Binds K fd ["script"] [] := F.binds (ps := ["script"]) fun _ _ _ _ _ _ us hl => match us, hl with | [_], _ => rfl

theorem sc_law_draw : FnScope ["script", "town", "many", "at", "left", "number"] ["script", "town", "many"] (defScope (topS 62)) := ⟨rfl, rfl, rfl, by decide +kernel, rfl, by decide +kernel, by decide +kernel⟩
theorem fo_law_draw (B : Bl mg)   {f : Addr} {fd : FuncData} (F : Fun K "_law_draw" "_law_draw" (topS 62) f fd) : FnOk P w K mg base (L2.CX P w) 1 f fd ["script", "town", "many"] (spD ⟨K, ca, tb⟩ F_law_draw) := by
  have nd := (sc_law_draw).nd
  refine fn_den (k := 0) F sc_law_draw rfl rfl (g := g_law_draw) (fun cdv A outer s H E hr => ?_)
  have tk : Takes (cxOf (L2.CX P w) P w K mg base ["script", "town", "many", "at", "left", "number"] "_law_draw" (defScope (topS 62)) f cdv A outer s H E) (WE0 E) := takes_of rfl rfl rfl rfl
  exact (dens_cons (dens_put set_list pd_list (den_op or_add od_add (den_ix ix_lt od_ix (den_v 1) den_int) den_int) (den_v 1) den_int)
  (dens_cons (dens_if (dent_cmp (op_eqD hr.units) od_eq (den_v 0) (den_val (denl_lst dena_nil)) (nomark _)) (dens_one (dens_ret (den_op op_mod od_modI (den_op op_fdiv od_divI (den_op or_mul od_mul (den_op or_mul od_mul (den_ix ix_lt od_ix (den_v 1) den_int) (den_ix ix_lt od_ix (den_v 1) den_int)) den_int) den_int) (den_v 2)))) dens_nil)
  (dens_cons (dens_set (i := 3) nd (den_op op_mod od_modI (den_ix ix_lt od_ix (den_v 1) den_int) (den_callB cl_len cd_len rfl B.len_ bt_len (dena_cons (den_v 0) dena_nil))))
  (dens_cons (dens_set (i := 4) nd (den_ix ix_lt od_ix (den_v 1) (den_op or_add od_add den_int (den_v 3))))
  (dens_cons (dens_if (PW.pt (dent_and (dent_cmp op_ge od_geI (den_ix ix_lt od_ix (den_v 0) (den_v 3)) (den_op op_pow od_powI den_int den_int) (nomark _)) (dent_and1 (dent_cmp op_gt od_gtI (den_v 4) den_int (nomark _))))) (dens_cons (dens_put set_list pd_list (den_op op_fdiv od_divI (den_v 4) (den_v 2)) (den_v 1) (den_op or_add od_add den_int (den_v 3)))
  (dens_one (dens_ret (den_op op_mod od_modI (den_v 4) (den_v 2))))) dens_nil)
  (dens_cons (dens_set (i := 5) nd (den_op op_mod od_modI (den_op or_add od_add (den_ix ix_lt od_ix (den_v 0) (den_v 3)) (den_op or_mul od_mul den_int (den_ix ix_lt od_ix (den_v 1) den_int))) den_int))
  (dens_cons (dens_set (i := 5) nd (den_op op_mod od_modI (den_op op_pow od_powI (den_v 5) den_int) den_int))
  (dens_one (dens_ret (den_op op_mod od_modI (den_op op_fdiv od_divI (den_op op_mod od_modI (den_op or_add od_add (den_op or_mul od_mul (den_op op_fdiv od_divI (den_v 5) den_int) den_int) (den_v 5)) den_int) den_int) (den_v 2)))))))))))
theorem bi_law_draw {f : Addr} {fd : FuncData} (F : Fun K "_law_draw" "_law_draw" (topS 62) f fd) : Binds K fd ["script", "town", "many"] [] := F.binds (ps := ["script", "town", "many"]) fun _ _ _ _ _ _ us hl => match us, hl with | [_, _, _], _ => rfl

theorem sc_law_word : FnScope ["caught", "some"] ["caught"] (defScope (topS 65)) := ⟨rfl, rfl, rfl, by decide +kernel, rfl, by decide +kernel, by decide +kernel⟩
theorem fo_law_word (B : Bl mg)  (XF : ExF K mg ca nms 19)  {f : Addr} {fd : FuncData} (F : Fun K "_law_word" "_law_word" (topS 65) f fd) : FnOk P w K mg base (L2.CX P w) 1 f fd ["caught"] (spD ⟨K, ca, tb⟩ F_law_word) := by
  have nd := (sc_law_word).nd
  refine fn_den (k := 0) F sc_law_word rfl rfl (g := g_law_word) (fun cdv A outer s H E hr => ?_)
  have tk : Takes (cxOf (L2.CX P w) P w K mg base ["caught", "some"] "_law_word" (defScope (topS 65)) f cdv A outer s H E) (WE0 E) := takes_of rfl rfl rfl rfl
  exact (dens_cons (dens_if (dent_not (dent_tr (den_callB cr_isA (cd_isA XF) rfl B.isinstance_ bt_isinstance (dena_cons (den_v 0) (dena_cons (den_ty (t := .verr) B.ValueError_ bt_ValueError) dena_nil))))) (dens_one (dens_ret (den_un un_neg ud_negI den_int))) dens_nil)
  (dens_cons (dens_set (i := 1) nd (den_val (denl_lst (dena_cons (den_callB cr_isA (cd_isA XF) rfl B.isinstance_ bt_isinstance (dena_cons (den_v 0) (dena_cons (den_top XF (c := 1)) dena_nil))) (dena_cons (den_callB cr_isA (cd_isA XF) rfl B.isinstance_ bt_isinstance (dena_cons (den_v 0) (dena_cons (den_top XF (c := 2)) dena_nil))) (dena_cons (den_callB cr_isA (cd_isA XF) rfl B.isinstance_ bt_isinstance (dena_cons (den_v 0) (dena_cons (den_top XF (c := 3)) dena_nil))) dena_nil))))))
  (dens_cons (dens_set (i := 1) nd (den_op or_add od_add (den_v 1) (den_val (denl_lst (dena_cons (den_callB cr_isA (cd_isA XF) rfl B.isinstance_ bt_isinstance (dena_cons (den_v 0) (dena_cons (den_top XF (c := 4)) dena_nil))) (dena_cons (den_callB cr_isA (cd_isA XF) rfl B.isinstance_ bt_isinstance (dena_cons (den_v 0) (dena_cons (den_top XF (c := 5)) dena_nil))) (dena_cons (den_callB cr_isA (cd_isA XF) rfl B.isinstance_ bt_isinstance (dena_cons (den_v 0) (dena_cons (den_top XF (c := 6)) dena_nil))) dena_nil)))))))
  (dens_cons (dens_set (i := 1) nd (den_op or_add od_add (den_v 1) (den_val (denl_lst (dena_cons (den_callB cr_isA (cd_isA XF) rfl B.isinstance_ bt_isinstance (dena_cons (den_v 0) (dena_cons (den_top XF (c := 7)) dena_nil))) (dena_cons (den_callB cr_isA (cd_isA XF) rfl B.isinstance_ bt_isinstance (dena_cons (den_v 0) (dena_cons (den_top XF (c := 8)) dena_nil))) (dena_cons (den_callB cr_isA (cd_isA XF) rfl B.isinstance_ bt_isinstance (dena_cons (den_v 0) (dena_cons (den_top XF (c := 9)) dena_nil))) dena_nil)))))))
  (dens_cons (dens_set (i := 1) nd (den_op or_add od_add (den_v 1) (den_val (denl_lst (dena_cons (den_callB cr_isA (cd_isA XF) rfl B.isinstance_ bt_isinstance (dena_cons (den_v 0) (dena_cons (den_top XF (c := 10)) dena_nil))) (dena_cons (den_callB cr_isA (cd_isA XF) rfl B.isinstance_ bt_isinstance (dena_cons (den_v 0) (dena_cons (den_top XF (c := 11)) dena_nil))) (dena_cons (den_callB cr_isA (cd_isA XF) rfl B.isinstance_ bt_isinstance (dena_cons (den_v 0) (dena_cons (den_top XF (c := 12)) dena_nil))) dena_nil)))))))
  (dens_cons (dens_set (i := 1) nd (den_op or_add od_add (den_v 1) (den_val (denl_lst (dena_cons (den_callB cr_isA (cd_isA XF) rfl B.isinstance_ bt_isinstance (dena_cons (den_v 0) (dena_cons (den_top XF (c := 13)) dena_nil))) (dena_cons (den_callB cr_isA (cd_isA XF) rfl B.isinstance_ bt_isinstance (dena_cons (den_v 0) (dena_cons (den_top XF (c := 14)) dena_nil))) (dena_cons (den_callB cr_isA (cd_isA XF) rfl B.isinstance_ bt_isinstance (dena_cons (den_v 0) (dena_cons (den_top XF (c := 15)) dena_nil))) dena_nil)))))))
  (dens_cons (dens_set (i := 1) nd (den_op or_add od_add (den_v 1) (den_val (denl_lst (dena_cons (den_callB cr_isA (cd_isA XF) rfl B.isinstance_ bt_isinstance (dena_cons (den_v 0) (dena_cons (den_top XF (c := 16)) dena_nil))) (dena_cons (den_callB cr_isA (cd_isA XF) rfl B.isinstance_ bt_isinstance (dena_cons (den_v 0) (dena_cons (den_top XF (c := 17)) dena_nil))) (dena_cons (den_callB cr_isA (cd_isA XF) rfl B.isinstance_ bt_isinstance (dena_cons (den_v 0) (dena_cons (den_top XF (c := 18)) dena_nil))) dena_nil)))))))
  (dens_one (dens_ret (den_if (dent_cmp (op_eqD hr.units) od_eq (den_bm PySem.F.plainAttrs_list PySem.F.slot_list_count PySem.F.type_list_count mt_countF md_cnt (den_v 1) (dena_cons den_bl dena_nil)) den_int (nomark _)) (den_bm PySem.F.plainAttrs_list PySem.F.slot_list_index PySem.F.type_list_index mt_index md_idx (den_v 1) (dena_cons den_bl dena_nil)) (den_un un_neg ud_negI den_int)))))))))))
theorem bi_law_word {f : Addr} {fd : FuncData} (F : Fun K "_law_word" "_law_word" (topS 65) f fd) : Binds K fd ["caught"] [] := F.binds (ps := ["caught"]) fun _ _ _ _ _ _ us hl => match us, hl with | [_], _ => rfl

theorem sc_law_refused : FnScope ["word", "words"] ["word"] (defScope (topS 66)) := ⟨rfl, rfl, rfl, by decide +kernel, rfl, by decide +kernel, by decide +kernel⟩
theorem fo_law_refused (B : Bl mg)   {f : Addr} {fd : FuncData} (F : Fun K "_law_refused" "_law_refused" (topS 66) f fd) : FnOk P w K mg base (L2.CX P w) 1 f fd ["word"] (spD ⟨K, ca, tb⟩ F_law_refused) := by
  have nd := (sc_law_refused).nd
  refine fn_den (k := 0) F sc_law_refused rfl rfl (g := g_law_refused) (fun cdv A outer s H E hr => ?_)
  have tk : Takes (cxOf (L2.CX P w) P w K mg base ["word", "words"] "_law_refused" (defScope (topS 66)) f cdv A outer s H E) (WE0 E) := takes_of rfl rfl rfl rfl
  exact (dens_cons (dens_set (i := 1) nd (den_val (denl_lst (dena_cons den_str (dena_cons den_str (dena_cons den_str (dena_cons den_str (dena_cons den_str (dena_cons den_str (dena_cons den_str (dena_cons den_str (dena_cons den_str (dena_cons den_str (dena_cons den_str (dena_cons den_str dena_nil)))))))))))))))
  (dens_cons (dens_set (i := 1) nd (den_op or_add od_add (den_v 1) (den_val (denl_lst (dena_cons den_str (dena_cons den_str (dena_cons den_str (dena_cons den_str (dena_cons den_str (dena_cons den_str dena_nil))))))))))
  (dens_one (dens_ret (den_tup (dena_cons den_str (dena_cons (den_bm PySem.F.plainAttrs_list PySem.F.slot_list_index PySem.F.type_list_index mt_index md_idx (den_v 1) (dena_cons (den_v 0) dena_nil)) dena_nil)))))))
theorem bi_law_refused {f : Addr} {fd : FuncData} (F : Fun K "_law_refused" "_law_refused" (topS 66) f fd) : Binds K fd ["word"] [] := F.binds (ps := ["word"]) fun _ _ _ _ _ _ us hl => match us, hl with | [_], _ => rfl

theorem sc_law_bad_ports : FnScope ["port", "bads", "odd", "slots", "weeks", "keep", "back", "few"] ["port"] (defScope (topS 70)) := ⟨rfl, rfl, rfl, by decide +kernel, rfl, by decide +kernel, by decide +kernel⟩
theorem fo_law_bad_ports (B : Bl mg)   {f : Addr} {fd : FuncData} (F : Fun K "_law_bad_ports" "_law_bad_ports" (topS 70) f fd) : FnOk P w K mg base (L2.CX P w) 1 f fd ["port"] (spD ⟨K, ca, tb⟩ F_law_bad_ports) := by
  have nd := (sc_law_bad_ports).nd
  refine fn_den (k := 0) F sc_law_bad_ports rfl rfl (g := g_law_bad_ports) (fun cdv A outer s H E hr => ?_)
  have tk : Takes (cxOf (L2.CX P w) P w K mg base ["port", "bads", "odd", "slots", "weeks", "keep", "back", "few"] "_law_bad_ports" (defScope (topS 70)) f cdv A outer s H E) (WE0 E) := takes_of rfl rfl rfl rfl
  exact (dens_cons (dens_pat (den_v 0) (deng_tp rfl (dengs_cons (deng_nm 3 nd) (dengs_cons (deng_nm 4 nd) (dengs_cons (deng_nm 5 nd) (dengs_cons (deng_nm 6 nd) (dengs_cons (deng_nm 7 nd) dengs_nil)))))))
  (dens_cons (dens_set (i := 1) nd (den_obj (denl_lst (dena_cons den_non (dena_cons den_int (dena_cons (den_callTy call_list_of cd_list rfl B.list_ bt_list (dena_cons (den_v 0) dena_nil)) (dena_cons (den_slice sl_any sd_sl (den_v 0) denp_none (denp_some den_int)) (dena_cons (den_op or_add od_add (den_v 0) (den_tup (dena_cons den_int dena_nil))) dena_nil))))))))
  (dens_cons (dens_forV (passes_of rfl) rfl (deni_seq (den_tup (dena_cons (den_tup dena_nil) (dena_cons (den_tup (dena_cons den_int dena_nil)) (dena_cons (den_op or_mul od_mul (den_tup (dena_cons den_int dena_nil)) den_int) (dena_cons (den_tup (dena_cons den_int (dena_cons den_int dena_nil))) (dena_cons (den_tup (dena_cons den_int (dena_cons den_int dena_nil))) (dena_cons (den_tup (dena_cons den_bl (dena_cons den_int dena_nil))) (dena_cons (den_val (denl_lst (dena_cons den_int (dena_cons den_int dena_nil)))) (dena_cons den_non (dena_cons (den_tup (dena_cons den_non (dena_cons den_int dena_nil))) (dena_cons (den_tup (dena_cons den_str (dena_cons den_int dena_nil))) dena_nil)))))))))))) (deng_nm 2 nd) (dens_one (dens_expr (den_bm PySem.F.plainAttrs_list PySem.F.slot_list_append PySem.F.type_list_append mt_append md_app (den_v 1) (dena_cons (den_tup (dena_cons (den_v 2) (dena_cons (den_v 4) (dena_cons (den_v 5) (dena_cons den_int (dena_cons (den_v 7) dena_nil)))))) dena_nil)))))
  (dens_cons (dens_forV (passes_of rfl) rfl (deni_seq (den_tup (dena_cons den_int (dena_cons den_int (dena_cons den_bl (dena_cons den_non (dena_cons den_str (dena_cons (den_un un_neg ud_negI den_int) dena_nil)))))))) (deng_nm 2 nd) (dens_one (dens_expr (den_bm PySem.F.plainAttrs_list PySem.F.slot_list_append PySem.F.type_list_append mt_append md_app (den_v 1) (dena_cons (den_tup (dena_cons (den_v 3) (dena_cons (den_v 2) (dena_cons (den_v 5) (dena_cons (den_v 6) (dena_cons (den_v 7) dena_nil)))))) dena_nil)))))
  (dens_cons (dens_forV (passes_of rfl) rfl (deni_seq (den_tup (dena_cons (den_tup (dena_cons den_int (dena_cons den_int dena_nil))) (dena_cons (den_tup (dena_cons den_int (dena_cons den_int dena_nil))) (dena_cons (den_tup (dena_cons den_int (dena_cons den_int dena_nil))) (dena_cons (den_tup (dena_cons den_int (dena_cons den_int dena_nil))) (dena_cons (den_tup (dena_cons den_int (dena_cons den_int dena_nil))) (dena_cons (den_tup (dena_cons den_bl (dena_cons den_int dena_nil))) (dena_cons (den_tup (dena_cons den_int dena_nil)) (dena_cons (den_tup (dena_cons den_int (dena_cons den_int (dena_cons den_int dena_nil)))) (dena_cons (den_val (denl_lst (dena_cons den_int (dena_cons den_int dena_nil)))) (dena_cons den_non (dena_cons den_int dena_nil))))))))))))) (deng_nm 2 nd) (dens_one (dens_expr (den_bm PySem.F.plainAttrs_list PySem.F.slot_list_append PySem.F.type_list_append mt_append md_app (den_v 1) (dena_cons (den_tup (dena_cons (den_v 3) (dena_cons (den_v 4) (dena_cons (den_v 2) (dena_cons (den_v 6) (dena_cons (den_v 7) dena_nil)))))) dena_nil)))))
  (dens_cons (dens_forV (passes_of rfl) rfl (deni_seq (den_tup (dena_cons den_int (dena_cons (den_op or_add od_add (den_callB cl_len cd_len rfl B.len_ bt_len (dena_cons (den_v 3) dena_nil)) den_int) (dena_cons den_bl (dena_cons den_non dena_nil)))))) (deng_nm 2 nd) (dens_one (dens_expr (den_bm PySem.F.plainAttrs_list PySem.F.slot_list_append PySem.F.type_list_append mt_append md_app (den_v 1) (dena_cons (den_tup (dena_cons (den_v 3) (dena_cons (den_v 4) (dena_cons (den_v 5) (dena_cons (den_v 2) (dena_cons (den_v 7) dena_nil)))))) dena_nil)))))
  (dens_one (dens_ret (den_op or_add od_add (den_v 1) (den_val (denl_lc (own := [("odd", 2)]) rfl nd (deni_seq (den_tup (dena_cons den_int (dena_cons den_int (dena_cons den_bl (dena_cons den_non dena_nil)))))) (blkOk_by (by kernel_rfl)) (by decide) (fun _ _ _ _ _ => (deng_nm 2 nd)) (fun _ _ _ _ _ => dents_nil) (fun _ _ _ _ _ => (den_tup (dena_cons (den_v 3) (dena_cons (den_v 4) (dena_cons (den_v 5) (dena_cons (den_v 6) (dena_cons (den_v 2) dena_nil))))))))))))))))))
theorem bi_law_bad_ports {f : Addr} {fd : FuncData} (F : Fun K "_law_bad_ports" "_law_bad_ports" (topS 70) f fd) : Binds K fd ["port"] [] := F.binds (ps := ["port"]) fun _ _ _ _ _ _ us hl => match us, hl with | [_], _ => rfl

theorem sc_is_port : FnScope ["thing", "slots", "weeks", "keep", "back", "few", "one"] ["thing"] (defScope (topS 26)) := ⟨rfl, rfl, rfl, by decide +kernel, rfl, by decide +kernel, by decide +kernel⟩
theorem fo_is_port (B : Bl mg) (c_is_whole : Cal P w K mg base ⟨K, ca, tb⟩ 1 "is_whole" F_is_whole)  {f : Addr} {fd : FuncData} (F : Fun K "is_port" "is_port" (topS 26) f fd) : FnOk P w K mg base (L2.CX P w) 2 f fd ["thing"] (spD ⟨K, ca, tb⟩ F_is_port) := by
  have nd := (sc_is_port).nd
  refine fn_den (k := 1) F sc_is_port rfl rfl (g := g_is_port) (fun cdv A outer s H E hr => ?_)
  have tk : Takes (cxOf (L2.CX P w) P w K mg base ["thing", "slots", "weeks", "keep", "back", "few", "one"] "is_port" (defScope (topS 26)) f cdv A outer s H E) (WE0 E) := takes_of rfl rfl rfl rfl
  exact (dens_cons (dens_if (PW.pt (dent_or (dent_not (dent_tr (den_callB call_isi cd_isi rfl B.isinstance_ bt_isinstance (dena_cons (den_v 0) (dena_cons (den_ty (t := .tuple) B.tuple_ bt_tuple) dena_nil))))) (dent_or1 (dent_cmp (op_neD hr.units) od_ne (den_callB cl_len cd_len rfl B.len_ bt_len (dena_cons (den_v 0) dena_nil)) den_int (nomark _))))) (dens_one (dens_ret den_bl)) dens_nil)
  (dens_cons (dens_pat (den_v 0) (deng_tp rfl (dengs_cons (deng_nm 1 nd) (dengs_cons (deng_nm 2 nd) (dengs_cons (deng_nm 3 nd) (dengs_cons (deng_nm 4 nd) (dengs_cons (deng_nm 5 nd) dengs_nil)))))))
  (dens_cons (dens_if (PW.pt (dent_or (dent_not (dent_tr (den_callB call_isi cd_isi rfl B.isinstance_ bt_isinstance (dena_cons (den_v 1) (dena_cons (den_ty (t := .tuple) B.tuple_ bt_tuple) dena_nil))))) (dent_or (dent_not (dent_chain op_le op_le od_leI od_leI den_int (den_callB cl_len cd_len rfl B.len_ bt_len (dena_cons (den_v 1) dena_nil)) den_int)) (dent_or1 (dent_not (dent_tr (den_callB (cr_all rfl) cd_all rfl B.all_ bt_all (dena_cons (den_val (denl_lc (own := [("one", 6)]) rfl nd (deni_seq (den_v 1)) (blkOk_by (by kernel_rfl)) (by decide) (fun _ _ _ _ _ => (deng_nm 6 nd)) (fun _ _ _ _ _ => dents_nil) (fun _ _ _ _ _ => (den_cal c_is_whole (hr.mono (by decide)) takes0 (dena_cons (den_v 6) (dena_cons den_int (dena_cons den_int dena_nil))))))) dena_nil)))))))) (dens_one (dens_ret den_bl)) dens_nil)
  (dens_cons (dens_if (PW.pt (dent_or (dent_not (dent_tr (den_callB call_isi cd_isi rfl B.isinstance_ bt_isinstance (dena_cons (den_v 3) (dena_cons (den_ty (t := .tuple) B.tuple_ bt_tuple) dena_nil))))) (dent_or (dent_cmp (op_neD hr.units) od_ne (den_callB cl_len cd_len rfl B.len_ bt_len (dena_cons (den_v 3) dena_nil)) den_int (nomark _)) (dent_or1 (dent_not (dent_tr (den_callB (cr_all rfl) cd_all rfl B.all_ bt_all (dena_cons (den_val (denl_lc (own := [("one", 6)]) rfl nd (deni_seq (den_v 3)) (blkOk_by (by kernel_rfl)) (by decide) (fun _ _ _ _ _ => (deng_nm 6 nd)) (fun _ _ _ _ _ => dents_nil) (fun _ _ _ _ _ => (den_cal c_is_whole (hr.mono (by decide)) takes0 (dena_cons (den_v 6) (dena_cons den_int (dena_cons den_int dena_nil))))))) dena_nil)))))))) (dens_one (dens_ret den_bl)) dens_nil)
  (dens_one (dens_ret (den_and (den_cal c_is_whole (hr.mono (by decide)) tk (dena_cons (den_v 2) (dena_cons den_int (dena_cons den_int dena_nil)))) (den_and (den_cmp op_le od_leI (den_ix ix_lt od_ix (den_v 3) den_int) (den_ix ix_lt od_ix (den_v 3) den_int) (nomark _)) (den_and (den_cal c_is_whole (hr.mono (by decide)) tk (dena_cons (den_v 4) (dena_cons den_int (dena_cons (den_callB cl_len cd_len rfl B.len_ bt_len (dena_cons (den_v 1) dena_nil)) dena_nil)))) (den_one (den_cal c_is_whole (hr.mono (by decide)) tk (dena_cons (den_v 5) (dena_cons den_int (dena_cons den_int dena_nil))))))))))))))
theorem bi_is_port {f : Addr} {fd : FuncData} (F : Fun K "is_port" "is_port" (topS 26) f fd) : Binds K fd ["thing"] [] := F.binds (ps := ["thing"]) fun _ _ _ _ _ _ us hl => match us, hl with | [_], _ => rfl

theorem sc_is_right : FnScope ["port", "thing"] ["port", "thing"] (defScope (topS 30)) := ⟨rfl, rfl, rfl, by decide +kernel, rfl, by decide +kernel, by decide +kernel⟩
theorem fo_is_right (B : Bl mg) (c_is_house : Cal P w K mg base ⟨K, ca, tb⟩ 1 "is_house" F_is_house) (c_is_whole : Cal P w K mg base ⟨K, ca, tb⟩ 1 "is_whole" F_is_whole)  {f : Addr} {fd : FuncData} (F : Fun K "is_right" "is_right" (topS 30) f fd) : FnOk P w K mg base (L2.CX P w) 2 f fd ["port", "thing"] (spD ⟨K, ca, tb⟩ F_is_right) := by
  have nd := (sc_is_right).nd
  refine fn_den (k := 1) F sc_is_right rfl rfl (g := g_is_right) (fun cdv A outer s H E hr => ?_)
  have tk : Takes (cxOf (L2.CX P w) P w K mg base ["port", "thing"] "is_right" (defScope (topS 30)) f cdv A outer s H E) (WE0 E) := takes_of rfl rfl rfl rfl
  exact (dens_cons (dens_if (PW.pt (dent_or (dent_not (dent_tr (den_callB call_isi cd_isi rfl B.isinstance_ bt_isinstance (dena_cons (den_v 1) (dena_cons (den_ty (t := .tuple) B.tuple_ bt_tuple) dena_nil))))) (dent_or1 (dent_cmp (op_neD hr.units) od_ne (den_callB cl_len cd_len rfl B.len_ bt_len (dena_cons (den_v 1) dena_nil)) den_int (nomark _))))) (dens_one (dens_ret den_bl)) dens_nil)
  (dens_one (dens_ret (den_and (den_cal c_is_whole (hr.mono (by decide)) tk (dena_cons (den_ix ix_lt od_ix (den_v 1) den_int) (dena_cons den_int (dena_cons (den_op op_sub od_subI (den_callB cl_len cd_len rfl B.len_ bt_len (dena_cons (den_ix ix_lt od_ix (den_v 0) den_int) dena_nil)) den_int) dena_nil)))) (den_one (den_cal c_is_house (hr.mono (by decide)) tk (dena_cons (den_ix ix_lt od_ix (den_v 1) den_int) dena_nil)))))))
theorem bi_is_right {f : Addr} {fd : FuncData} (F : Fun K "is_right" "is_right" (topS 30) f fd) : Binds K fd ["port", "thing"] [] := F.binds (ps := ["port", "thing"]) fun _ _ _ _ _ _ us hl => match us, hl with | [_, _], _ => rfl

theorem sc_are_weeks : FnScope ["port", "thing", "one"] ["port", "thing"] (defScope (topS 34)) := ⟨rfl, rfl, rfl, by decide +kernel, rfl, by decide +kernel, by decide +kernel⟩
theorem fo_are_weeks (B : Bl mg) (c_do_rise : Cal P w K mg base ⟨K, ca, tb⟩ 1 "do_rise" F_do_rise) (c_is_whole : Cal P w K mg base ⟨K, ca, tb⟩ 1 "is_whole" F_is_whole)  {f : Addr} {fd : FuncData} (F : Fun K "are_weeks" "are_weeks" (topS 34) f fd) : FnOk P w K mg base (L2.CX P w) 2 f fd ["port", "thing"] (spD ⟨K, ca, tb⟩ F_are_weeks) := by
  have nd := (sc_are_weeks).nd
  refine fn_den (k := 1) F sc_are_weeks rfl rfl (g := g_are_weeks) (fun cdv A outer s H E hr => ?_)
  have tk : Takes (cxOf (L2.CX P w) P w K mg base ["port", "thing", "one"] "are_weeks" (defScope (topS 34)) f cdv A outer s H E) (WE0 E) := takes_of rfl rfl rfl rfl
  exact (dens_one (dens_ret (den_and (den_callB call_isi cd_isi rfl B.isinstance_ bt_isinstance (dena_cons (den_v 1) (dena_cons (den_ty (t := .tuple) B.tuple_ bt_tuple) dena_nil))) (den_and (den_callB (cr_all rfl) cd_all rfl B.all_ bt_all (dena_cons (den_val (denl_lc (own := [("one", 2)]) rfl nd (deni_seq (den_v 1)) (blkOk_by (by kernel_rfl)) (by decide) (fun _ _ _ _ _ => (deng_nm 2 nd)) (fun _ _ _ _ _ => dents_nil) (fun _ _ _ _ _ => (den_cal c_is_whole (hr.mono (by decide)) takes0 (dena_cons (den_v 2) (dena_cons den_int (dena_cons (den_op op_sub od_subI (den_ix ix_lt od_ix (den_v 0) den_int) den_int) dena_nil))))))) dena_nil)) (den_one (den_cal c_do_rise (hr.mono (by decide)) tk (dena_cons (den_v 1) dena_nil)))))))
theorem bi_are_weeks {f : Addr} {fd : FuncData} (F : Fun K "are_weeks" "are_weeks" (topS 34) f fd) : Binds K fd ["port", "thing"] [] := F.binds (ps := ["port", "thing"]) fun _ _ _ _ _ _ us hl => match us, hl with | [_, _], _ => rfl

theorem sc_is_lent : FnScope ["port", "rights", "thing"] ["port", "rights", "thing"] (defScope (topS 35)) := ⟨rfl, rfl, rfl, by decide +kernel, rfl, by decide +kernel, by decide +kernel⟩
theorem fo_is_lent (B : Bl mg)   {f : Addr} {fd : FuncData} (F : Fun K "is_lent" "is_lent" (topS 35) f fd) : FnOk P w K mg base (L2.CX P w) 2 f fd ["port", "rights", "thing"] (spD ⟨K, ca, tb⟩ F_is_lent) := by
  have nd := (sc_is_lent).nd
  refine fn_den (k := 1) F sc_is_lent rfl rfl (g := g_is_lent) (fun cdv A outer s H E hr => ?_)
  have tk : Takes (cxOf (L2.CX P w) P w K mg base ["port", "rights", "thing"] "is_lent" (defScope (topS 35)) f cdv A outer s H E) (WE0 E) := takes_of rfl rfl rfl rfl
  exact (dens_cons dens_bad
  (dens_one dens_bad))
theorem bi_is_lent {f : Addr} {fd : FuncData} (F : Fun K "is_lent" "is_lent" (topS 35) f fd) : Binds K fd ["port", "rights", "thing"] [] := F.binds (ps := ["port", "rights", "thing"]) fun _ _ _ _ _ _ us hl => match us, hl with | [_, _, _], _ => rfl

theorem sc_all_uses : FnScope ["rights", "log", "many"] ["rights", "log"] (defScope (topS 39)) := ⟨rfl, rfl, rfl, by decide +kernel, rfl, by decide +kernel, by decide +kernel⟩
theorem fo_all_uses (B : Bl mg)   {f : Addr} {fd : FuncData} (F : Fun K "all_uses" "all_uses" (topS 39) f fd) : FnOk P w K mg base (L2.CX P w) 2 f fd ["rights", "log"] (spD ⟨K, ca, tb⟩ F_all_uses) := by
  have nd := (sc_all_uses).nd
  refine fn_den (k := 1) F sc_all_uses rfl rfl (g := g_all_uses) (fun cdv A outer s H E hr => ?_)
  have tk : Takes (cxOf (L2.CX P w) P w K mg base ["rights", "log", "many"] "all_uses" (defScope (topS 39)) f cdv A outer s H E) (WE0 E) := takes_of rfl rfl rfl rfl
  exact (dens_one dens_bad)
theorem bi_all_uses {f : Addr} {fd : FuncData} (F : Fun K "all_uses" "all_uses" (topS 39) f fd) : Binds K fd ["rights", "log"] [] := F.binds (ps := ["rights", "log"]) fun _ _ _ _ _ _ us hl => match us, hl with | [_, _], _ => rfl

theorem sc_are_wishes : FnScope ["port", "thing", "one"] ["port", "thing"] (defScope (topS 42)) := ⟨rfl, rfl, rfl, by decide +kernel, rfl, by decide +kernel, by decide +kernel⟩
theorem fo_are_wishes (B : Bl mg)   {f : Addr} {fd : FuncData} (F : Fun K "are_wishes" "are_wishes" (topS 42) f fd) : FnOk P w K mg base (L2.CX P w) 2 f fd ["port", "thing"] (spD ⟨K, ca, tb⟩ F_are_wishes) := by
  have nd := (sc_are_wishes).nd
  refine fn_den (k := 1) F sc_are_wishes rfl rfl (g := g_are_wishes) (fun cdv A outer s H E hr => ?_)
  have tk : Takes (cxOf (L2.CX P w) P w K mg base ["port", "thing", "one"] "are_wishes" (defScope (topS 42)) f cdv A outer s H E) (WE0 E) := takes_of rfl rfl rfl rfl
  exact (dens_cons dens_bad
  (dens_one dens_bad))
theorem bi_are_wishes {f : Addr} {fd : FuncData} (F : Fun K "are_wishes" "are_wishes" (topS 42) f fd) : Binds K fd ["port", "thing"] [] := F.binds (ps := ["port", "thing"]) fun _ _ _ _ _ _ us hl => match us, hl with | [_, _], _ => rfl

theorem sc_text_of_log : FnScope ["log", "rows", "storms", "flown", "lent", "weeks", "place", "week", "house"] ["log"] (defScope (topS 58)) := ⟨rfl, rfl, rfl, by decide +kernel, rfl, by decide +kernel, by decide +kernel⟩
theorem fo_text_of_log (B : Bl mg)   {f : Addr} {fd : FuncData} (F : Fun K "text_of_log" "text_of_log" (topS 58) f fd) : FnOk P w K mg base (L2.CX P w) 2 f fd ["log"] (spD ⟨K, ca, tb⟩ F_text_of_log) := by
  have nd := (sc_text_of_log).nd
  refine fn_den (k := 1) F sc_text_of_log rfl rfl (g := g_text_of_log) (fun cdv A outer s H E hr => ?_)
  have tk : Takes (cxOf (L2.CX P w) P w K mg base ["log", "rows", "storms", "flown", "lent", "weeks", "place", "week", "house"] "text_of_log" (defScope (topS 58)) f cdv A outer s H E) (WE0 E) := takes_of rfl rfl rfl rfl
  exact (dens_cons dens_bad
  (dens_cons dens_bad
  (dens_one dens_bad)))
theorem bi_text_of_log {f : Addr} {fd : FuncData} (F : Fun K "text_of_log" "text_of_log" (topS 58) f fd) : Binds K fd ["log"] [] := F.binds (ps := ["log"]) fun _ _ _ _ _ _ us hl => match us, hl with | [_], _ => rfl

theorem sc_law_pick : FnScope ["script", "town", "some"] ["script", "town", "some"] (defScope (topS 63)) := ⟨rfl, rfl, rfl, by decide +kernel, rfl, by decide +kernel, by decide +kernel⟩
theorem fo_law_pick (B : Bl mg) (c_law_draw : Cal P w K mg base ⟨K, ca, tb⟩ 1 "_law_draw" F_law_draw)  {f : Addr} {fd : FuncData} (F : Fun K "_law_pick" "_law_pick" (topS 63) f fd) : FnOk P w K mg base (L2.CX P w) 2 f fd ["script", "town", "some"] (spD ⟨K, ca, tb⟩ F_law_pick) := by
  have nd := (sc_law_pick).nd
  refine fn_den (k := 1) F sc_law_pick rfl rfl (g := g_law_pick) (fun cdv A outer s H E hr => ?_)
  have tk : Takes (cxOf (L2.CX P w) P w K mg base ["script", "town", "some"] "_law_pick" (defScope (topS 63)) f cdv A outer s H E) (WE0 E) := takes_of rfl rfl rfl rfl
  exact (dens_one (dens_ret (den_ix ix_lt od_ix (den_v 2) (den_cal c_law_draw (hr.mono (by decide)) tk (dena_cons (den_v 0) (dena_cons (den_v 1) (dena_cons (den_callB cl_len cd_len rfl B.len_ bt_len (dena_cons (den_v 2) dena_nil)) dena_nil)))))))
theorem bi_law_pick {f : Addr} {fd : FuncData} (F : Fun K "_law_pick" "_law_pick" (topS 63) f fd) : Binds K fd ["script", "town", "some"] [] := F.binds (ps := ["script", "town", "some"]) fun _ _ _ _ _ _ us hl => match us, hl with | [_, _, _], _ => rfl

theorem sc_law_port : FnScope ["script", "town", "most_hours", "most_slots", "hours", "slots", "q", "keep", "back", "k"] ["script", "town", "most_hours", "most_slots"] (defScope (topS 67)) := ⟨rfl, rfl, rfl, by decide +kernel, rfl, by decide +kernel, by decide +kernel⟩
theorem fo_law_port (B : Bl mg) (c_law_draw : Cal P w K mg base ⟨K, ca, tb⟩ 1 "_law_draw" F_law_draw)  {f : Addr} {fd : FuncData} (F : Fun K "_law_port" "_law_port" (topS 67) f fd) : FnOk P w K mg base (L2.CX P w) 2 f fd ["script", "town", "most_hours", "most_slots"] (spD ⟨K, ca, tb⟩ F_law_port) := by
  have nd := (sc_law_port).nd
  refine fn_den (k := 1) F sc_law_port rfl rfl (g := g_law_port) (fun cdv A outer s H E hr => ?_)
  have tk : Takes (cxOf (L2.CX P w) P w K mg base ["script", "town", "most_hours", "most_slots", "hours", "slots", "q", "keep", "back", "k"] "_law_port" (defScope (topS 67)) f cdv A outer s H E) (WE0 E) := takes_of rfl rfl rfl rfl
  exact (dens_cons (dens_set (i := 4) nd (den_op or_add od_add den_int (den_cal c_law_draw (hr.mono (by decide)) tk (dena_cons (den_v 0) (dena_cons (den_v 1) (dena_cons (den_op op_sub od_subI (den_v 2) den_int) dena_nil))))))
  (dens_cons (dens_set (i := 5) nd (den_callTy call_tuple_of cd_tup rfl B.tuple_ bt_tuple (dena_cons (den_val (denl_lc (own := [("k", 9)]) rfl nd (deni_range1 B.range_ (dena_cons (den_v 4) dena_nil)) (blkOk_by (by kernel_rfl)) (by decide) (fun _ _ _ _ _ => (deng_nm 9 nd)) (fun _ _ _ _ _ => dents_nil) (fun _ _ _ _ _ => (den_op or_add od_add den_int (den_cal c_law_draw (hr.mono (by decide)) takes0 (dena_cons (den_v 0) (dena_cons (den_v 1) (dena_cons (den_v 3) dena_nil)))))))) dena_nil)))
  (dens_cons (dens_set (i := 6) nd (den_op or_add od_add den_int (den_cal c_law_draw (hr.mono (by decide)) tk (dena_cons (den_v 0) (dena_cons (den_v 1) (dena_cons den_int dena_nil))))))
  (dens_cons (dens_set (i := 7) nd (den_tup (dena_cons (den_op or_add od_add den_int (den_cal c_law_draw (hr.mono (by decide)) tk (dena_cons (den_v 0) (dena_cons (den_v 1) (dena_cons (den_v 6) dena_nil))))) (dena_cons (den_v 6) dena_nil))))
  (dens_cons (dens_set (i := 8) nd (den_op or_add od_add den_int (den_cal c_law_draw (hr.mono (by decide)) tk (dena_cons (den_v 0) (dena_cons (den_v 1) (dena_cons (den_v 4) dena_nil))))))
  (dens_one (dens_ret (den_tup (dena_cons (den_v 5) (dena_cons (den_op or_add od_add den_int (den_cal c_law_draw (hr.mono (by decide)) tk (dena_cons (den_v 0) (dena_cons (den_v 1) (dena_cons den_int dena_nil))))) (dena_cons (den_v 7) (dena_cons (den_v 8) (dena_cons (den_op or_add od_add den_int (den_cal c_law_draw (hr.mono (by decide)) tk (dena_cons (den_v 0) (dena_cons (den_v 1) (dena_cons den_int dena_nil))))) dena_nil)))))))))))))
theorem bi_law_port {f : Addr} {fd : FuncData} (F : Fun K "_law_port" "_law_port" (topS 67) f fd) : Binds K fd ["script", "town", "most_hours", "most_slots"] [] := F.binds (ps := ["script", "town", "most_hours", "most_slots"]) fun _ _ _ _ _ _ us hl => match us, hl with | [_, _, _, _], _ => rfl

theorem sc_look_port : FnScope ["port"] ["port"] (defScope (topS 27)) := ⟨rfl, rfl, rfl, by decide +kernel, rfl, by decide +kernel, by decide +kernel⟩
theorem fo_look_port (B : Bl mg) (c_is_port : Cal P w K mg base ⟨K, ca, tb⟩ 2 "is_port" F_is_port) (XF : ExF K mg ca nms 19)  {f : Addr} {fd : FuncData} (F : Fun K "look_port" "look_port" (topS 27) f fd) : FnOk P w K mg base (L2.CX P w) 3 f fd ["port"] (spD ⟨K, ca, tb⟩ F_look_port) := by
  have nd := (sc_look_port).nd
  refine fn_den (k := 2) F sc_look_port rfl rfl (g := g_look_port) (fun cdv A outer s H E hr => ?_)
  have tk : Takes (cxOf (L2.CX P w) P w K mg base ["port"] "look_port" (defScope (topS 27)) f cdv A outer s H E) (WE0 E) := takes_of rfl rfl rfl rfl
  exact (dens_one (dens_if (dent_not (dent_tr (den_cal c_is_port (hr.mono (by decide)) tk (dena_cons (den_v 0) dena_nil)))) (dens_one (dens_raise XF (c := 1) rfl tk)) dens_nil))
theorem bi_look_port {f : Addr} {fd : FuncData} (F : Fun K "look_port" "look_port" (topS 27) f fd) : Binds K fd ["port"] [] := F.binds (ps := ["port"]) fun _ _ _ _ _ _ us hl => match us, hl with | [_], _ => rfl

theorem sc_are_good : FnScope ["port", "thing", "hour", "many", "one", "other"] ["port", "thing"] (defScope (topS 31)) := ⟨rfl, rfl, rfl, by decide +kernel, rfl, by decide +kernel, by decide +kernel⟩
theorem fo_are_good (B : Bl mg) (c_is_right : Cal P w K mg base ⟨K, ca, tb⟩ 2 "is_right" F_is_right)  {f : Addr} {fd : FuncData} (F : Fun K "are_good" "are_good" (topS 31) f fd) : FnOk P w K mg base (L2.CX P w) 3 f fd ["port", "thing"] (spD ⟨K, ca, tb⟩ F_are_good) := by
  have nd := (sc_are_good).nd
  refine fn_den (k := 2) F sc_are_good rfl rfl (g := g_are_good) (fun cdv A outer s H E hr => ?_)
  have tk : Takes (cxOf (L2.CX P w) P w K mg base ["port", "thing", "hour", "many", "one", "other"] "are_good" (defScope (topS 31)) f cdv A outer s H E) (WE0 E) := takes_of rfl rfl rfl rfl
  exact (dens_cons (dens_if (PW.pt (dent_or (dent_not (dent_tr (den_callB call_isi cd_isi rfl B.isinstance_ bt_isinstance (dena_cons (den_v 1) (dena_cons (den_ty (t := .tuple) B.tuple_ bt_tuple) dena_nil))))) (dent_or (dent_cmp op_gt od_gtI (den_callB cl_len cd_len rfl B.len_ bt_len (dena_cons (den_v 1) dena_nil)) den_int (nomark _)) (dent_or1 (dent_not (dent_tr (den_callB (cr_all rfl) cd_all rfl B.all_ bt_all (dena_cons (den_val (denl_lc (own := [("one", 4)]) rfl nd (deni_seq (den_v 1)) (blkOk_by (by kernel_rfl)) (by decide) (fun _ _ _ _ _ => (deng_nm 4 nd)) (fun _ _ _ _ _ => dents_nil) (fun _ _ _ _ _ => (den_cal c_is_right (hr.mono (by decide)) takes0 (dena_cons (den_v 0) (dena_cons (den_v 4) dena_nil)))))) dena_nil)))))))) (dens_one (dens_ret den_bl)) dens_nil)
  (dens_cons (dens_if (dent_not (dent_tr (den_callB (cr_all rfl) cd_all rfl B.all_ bt_all (dena_cons (den_val (denl_lc (own := [("one", 4), ("other", 5)]) rfl nd (deni_zip B.zip_ (dena_cons (den_v 1) (dena_cons (den_slice sl_any sd_sl (den_v 1) (denp_some den_int) denp_none) dena_nil))) (blkOk_by (by kernel_rfl)) (by decide) (fun _ _ _ _ _ => (deng_tp rfl (dengs_cons (deng_nm 4 nd) (dengs_cons (deng_nm 5 nd) dengs_nil)))) (fun _ _ _ _ _ => dents_nil) (fun _ _ _ _ _ => (den_cmp (or_leA hr.units) od_leA (den_v 4) (den_v 5) (nomark _))))) dena_nil)))) (dens_one (dens_ret den_bl)) dens_nil)
  (dens_one (dens_ret (den_callB (cr_all rfl) cd_all rfl B.all_ bt_all (dena_cons (den_val (denl_lc (own := [("hour", 2), ("many", 3)]) rfl nd (deni_enum B.enumerate_ (dena_cons (den_ix ix_lt od_ix (den_v 0) den_int) dena_nil)) (blkOk_by (by kernel_rfl)) (by decide) (fun _ _ _ _ _ => (deng_tp rfl (dengs_cons (deng_nm 2 nd) (dengs_cons (deng_nm 3 nd) dengs_nil)))) (fun _ _ _ _ _ => dents_nil) (fun _ _ _ _ _ => (den_cmp (or_leA hr.units) od_leA (den_callB cl_len cd_len rfl B.len_ bt_len (dena_cons (den_val (denl_lc (own := [("one", 4)]) rfl nd (deni_seq (den_v 1)) (blkOk_by (by kernel_rfl)) (by decide) (fun _ _ _ _ _ => (deng_nm 4 nd)) (fun _ _ _ _ _ => (dents_one (dent_cmp (op_eqD hr.units) od_eq (den_ix ix_lt od_ix (den_v 4) den_int) (den_v 2) (nomark _)))) (fun _ _ _ _ _ => (den_v 4)))) dena_nil)) (den_v 3) (nomark _))))) dena_nil))))))
theorem bi_are_good {f : Addr} {fd : FuncData} (F : Fun K "are_good" "are_good" (topS 31) f fd) : Binds K fd ["port", "thing"] [] := F.binds (ps := ["port", "thing"]) fun _ _ _ _ _ _ us hl => match us, hl with | [_, _], _ => rfl

theorem sc_is_good_log : FnScope ["port", "rights", "thing", "storms", "flown", "lent", "one", "weeks", "week", "place", "house"] ["port", "rights", "thing"] (defScope (topS 36)) := ⟨rfl, rfl, rfl, by decide +kernel, rfl, by decide +kernel, by decide +kernel⟩
theorem fo_is_good_log (B : Bl mg)   {f : Addr} {fd : FuncData} (F : Fun K "is_good_log" "is_good_log" (topS 36) f fd) : FnOk P w K mg base (L2.CX P w) 3 f fd ["port", "rights", "thing"] (spD ⟨K, ca, tb⟩ F_is_good_log) := by
  have nd := (sc_is_good_log).nd
  refine fn_den (k := 2) F sc_is_good_log rfl rfl (g := g_is_good_log) (fun cdv A outer s H E hr => ?_)
  have tk : Takes (cxOf (L2.CX P w) P w K mg base ["port", "rights", "thing", "storms", "flown", "lent", "one", "weeks", "week", "place", "house"] "is_good_log" (defScope (topS 36)) f cdv A outer s H E) (WE0 E) := takes_of rfl rfl rfl rfl
  exact (dens_cons dens_bad
  (dens_cons dens_bad
  (dens_cons dens_bad
  (dens_cons dens_bad
  (dens_cons dens_bad
  (dens_cons dens_bad
  (dens_one dens_bad)))))))
theorem bi_is_good_log {f : Addr} {fd : FuncData} (F : Fun K "is_good_log" "is_good_log" (topS 36) f fd) : Binds K fd ["port", "rights", "thing"] [] := F.binds (ps := ["port", "rights", "thing"]) fun _ _ _ _ _ _ us hl => match us, hl with | [_, _, _], _ => rfl

theorem sc_is_ask : FnScope ["port", "thing"] ["port", "thing"] (defScope (topS 43)) := ⟨rfl, rfl, rfl, by decide +kernel, rfl, by decide +kernel, by decide +kernel⟩
theorem fo_is_ask (B : Bl mg)   {f : Addr} {fd : FuncData} (F : Fun K "is_ask" "is_ask" (topS 43) f fd) : FnOk P w K mg base (L2.CX P w) 3 f fd ["port", "thing"] (spD ⟨K, ca, tb⟩ F_is_ask) := by
  have nd := (sc_is_ask).nd
  refine fn_den (k := 2) F sc_is_ask rfl rfl (g := g_is_ask) (fun cdv A outer s H E hr => ?_)
  have tk : Takes (cxOf (L2.CX P w) P w K mg base ["port", "thing"] "is_ask" (defScope (topS 43)) f cdv A outer s H E) (WE0 E) := takes_of rfl rfl rfl rfl
  exact (dens_cons dens_bad
  (dens_one dens_bad))
theorem bi_is_ask {f : Addr} {fd : FuncData} (F : Fun K "is_ask" "is_ask" (topS 43) f fd) : Binds K fd ["port", "thing"] [] := F.binds (ps := ["port", "thing"]) fun _ _ _ _ _ _ us hl => match us, hl with | [_, _], _ => rfl

theorem sc_law_rights : FnScope ["script", "town", "port", "most_rights", "some", "hour", "many", "k"] ["script", "town", "port", "most_rights"] (defScope (topS 68)) := ⟨rfl, rfl, rfl, by decide +kernel, rfl, by decide +kernel, by decide +kernel⟩
theorem fo_law_rights (B : Bl mg) (c_law_draw : Cal P w K mg base ⟨K, ca, tb⟩ 1 "_law_draw" F_law_draw) (c_law_pick : Cal P w K mg base ⟨K, ca, tb⟩ 2 "_law_pick" F_law_pick)  {f : Addr} {fd : FuncData} (F : Fun K "_law_rights" "_law_rights" (topS 68) f fd) : FnOk P w K mg base (L2.CX P w) 3 f fd ["script", "town", "port", "most_rights"] (spD ⟨K, ca, tb⟩ F_law_rights) := by
  have nd := (sc_law_rights).nd
  refine fn_den (k := 2) F sc_law_rights rfl rfl (g := g_law_rights) (fun cdv A outer s H E hr => ?_)
  have tk : Takes (cxOf (L2.CX P w) P w K mg base ["script", "town", "port", "most_rights", "some", "hour", "many", "k"] "_law_rights" (defScope (topS 68)) f cdv A outer s H E) (WE0 E) := takes_of rfl rfl rfl rfl
  exact (dens_cons (dens_set (i := 4) nd (den_obj (denl_lst dena_nil)))
  (dens_cons (dens_forV (passes_of rfl) rfl (deni_enum B.enumerate_ (dena_cons (den_ix ix_lt od_ix (den_v 2) den_int) dena_nil)) (deng_tp rfl (dengs_cons (deng_nm 5 nd) (dengs_cons (deng_nm 6 nd) dengs_nil))) (dens_one (dens_forV (passes_of rfl) rfl (deni_range1 B.range_ (dena_cons (den_cal c_law_draw (hr.mono (by decide)) tk (dena_cons (den_v 0) (dena_cons (den_v 1) (dena_cons (den_op or_add od_add (den_v 6) den_int) dena_nil)))) dena_nil)) (deng_nm 7 nd) (dens_one (dens_expr (den_bm PySem.F.plainAttrs_list PySem.F.slot_list_append PySem.F.type_list_append mt_append md_app (den_v 4) (dena_cons (den_tup (dena_cons (den_v 5) (dena_cons (den_cal c_law_pick (hr.mono (by decide)) tk (dena_cons (den_v 0) (dena_cons (den_v 1) (dena_cons (den_val (denl_lst (dena_cons den_str (dena_cons den_str (dena_cons den_str dena_nil))))) dena_nil)))) dena_nil))) dena_nil)))))))
  (dens_one (dens_ret (den_callTy call_tuple_of cd_tup rfl B.tuple_ bt_tuple (dena_cons (den_slice sl_any sd_sl (den_callB (cr_srtA hr.units) cd_srtA rfl B.sorted_ bt_sorted (dena_cons (den_v 4) dena_nil)) denp_none (denp_some (den_v 3))) dena_nil))))))
theorem bi_law_rights {f : Addr} {fd : FuncData} (F : Fun K "_law_rights" "_law_rights" (topS 68) f fd) : Binds K fd ["script", "town", "port", "most_rights"] [] := F.binds (ps := ["script", "town", "port", "most_rights"]) fun _ _ _ _ _ _ us hl => match us, hl with | [_, _, _, _], _ => rfl

theorem sc_need : FnScope ["port"] ["port"] (defScope (topS 29)) := ⟨rfl, rfl, rfl, by decide +kernel, rfl, by decide +kernel, by decide +kernel⟩
theorem fo_need (B : Bl mg) (c_look_port : Cal P w K mg base ⟨K, ca, tb⟩ 3 "look_port" F_look_port) (c_need_of : Cal P w K mg base ⟨K, ca, tb⟩ 1 "need_of" F_need_of)  {f : Addr} {fd : FuncData} (F : Fun K "need" "need" (topS 29) f fd) : FnOk P w K mg base (L2.CX P w) 4 f fd ["port"] (spD ⟨K, ca, tb⟩ F_need) := by
  have nd := (sc_need).nd
  refine fn_den (k := 3) F sc_need rfl rfl (g := g_need) (fun cdv A outer s H E hr => ?_)
  have tk : Takes (cxOf (L2.CX P w) P w K mg base ["port"] "need" (defScope (topS 29)) f cdv A outer s H E) (WE0 E) := takes_of rfl rfl rfl rfl
  exact (dens_cons (dens_expr (den_cal c_look_port (hr.mono (by decide)) tk (dena_cons (den_v 0) dena_nil)))
  (dens_one (dens_ret (den_cal c_need_of (hr.mono (by decide)) tk (dena_cons (den_v 0) dena_nil)))))
theorem bi_need {f : Addr} {fd : FuncData} (F : Fun K "need" "need" (topS 29) f fd) : Binds K fd ["port"] [] := F.binds (ps := ["port"]) fun _ _ _ _ _ _ us hl => match us, hl with | [_], _ => rfl

theorem sc_are_rights : FnScope ["port", "thing"] ["port", "thing"] (defScope (topS 32)) := ⟨rfl, rfl, rfl, by decide +kernel, rfl, by decide +kernel, by decide +kernel⟩
theorem fo_are_rights (B : Bl mg) (c_are_good : Cal P w K mg base ⟨K, ca, tb⟩ 3 "are_good" F_are_good) (c_look_port : Cal P w K mg base ⟨K, ca, tb⟩ 3 "look_port" F_look_port)  {f : Addr} {fd : FuncData} (F : Fun K "are_rights" "are_rights" (topS 32) f fd) : FnOk P w K mg base (L2.CX P w) 4 f fd ["port", "thing"] (spD ⟨K, ca, tb⟩ F_are_rights) := by
  have nd := (sc_are_rights).nd
  refine fn_den (k := 3) F sc_are_rights rfl rfl (g := g_are_rights) (fun cdv A outer s H E hr => ?_)
  have tk : Takes (cxOf (L2.CX P w) P w K mg base ["port", "thing"] "are_rights" (defScope (topS 32)) f cdv A outer s H E) (WE0 E) := takes_of rfl rfl rfl rfl
  exact (dens_cons (dens_expr (den_cal c_look_port (hr.mono (by decide)) tk (dena_cons (den_v 0) dena_nil)))
  (dens_one (dens_ret (den_cal c_are_good (hr.mono (by decide)) tk (dena_cons (den_v 0) (dena_cons (den_v 1) dena_nil))))))
theorem bi_are_rights {f : Addr} {fd : FuncData} (F : Fun K "are_rights" "are_rights" (topS 32) f fd) : Binds K fd ["port", "thing"] [] := F.binds (ps := ["port", "thing"]) fun _ _ _ _ _ _ us hl => match us, hl with | [_, _], _ => rfl

theorem sc_look_rights : FnScope ["port", "rights"] ["port", "rights"] (defScope (topS 33)) := ⟨rfl, rfl, rfl, by decide +kernel, rfl, by decide +kernel, by decide +kernel⟩
theorem fo_look_rights (B : Bl mg) (c_are_good : Cal P w K mg base ⟨K, ca, tb⟩ 3 "are_good" F_are_good) (c_look_port : Cal P w K mg base ⟨K, ca, tb⟩ 3 "look_port" F_look_port) (XF : ExF K mg ca nms 19)  {f : Addr} {fd : FuncData} (F : Fun K "look_rights" "look_rights" (topS 33) f fd) : FnOk P w K mg base (L2.CX P w) 4 f fd ["port", "rights"] (spD ⟨K, ca, tb⟩ F_look_rights) := by
  have nd := (sc_look_rights).nd
  refine fn_den (k := 3) F sc_look_rights rfl rfl (g := g_look_rights) (fun cdv A outer s H E hr => ?_)
  have tk : Takes (cxOf (L2.CX P w) P w K mg base ["port", "rights"] "look_rights" (defScope (topS 33)) f cdv A outer s H E) (WE0 E) := takes_of rfl rfl rfl rfl
  exact (dens_cons (dens_expr (den_cal c_look_port (hr.mono (by decide)) tk (dena_cons (den_v 0) dena_nil)))
  (dens_one (dens_if (dent_not (dent_tr (den_cal c_are_good (hr.mono (by decide)) tk (dena_cons (den_v 0) (dena_cons (den_v 1) dena_nil))))) (dens_one (dens_raise XF (c := 2) rfl tk)) dens_nil)))
theorem bi_look_rights {f : Addr} {fd : FuncData} (F : Fun K "look_rights" "look_rights" (topS 33) f fd) : Binds K fd ["port", "rights"] [] := F.binds (ps := ["port", "rights"]) fun _ _ _ _ _ _ us hl => match us, hl with | [_, _], _ => rfl

theorem sc_next_house : FnScope ["port", "asks", "held", "got", "hour", "is_new", "some", "news", "olds", "first", "last", "one", "house"] ["port", "asks", "held", "got", "hour", "is_new"] (defScope (topS 47)) := ⟨rfl, rfl, rfl, by decide +kernel, rfl, by decide +kernel, by decide +kernel⟩
theorem fo_next_house (B : Bl mg)   {f : Addr} {fd : FuncData} (F : Fun K "next_house" "next_house" (topS 47) f fd) : FnOk P w K mg base (L2.CX P w) 4 f fd ["port", "asks", "held", "got", "hour", "is_new"] (spD ⟨K, ca, tb⟩ F_next_house) := by
  have nd := (sc_next_house).nd
  refine fn_den (k := 3) F sc_next_house rfl rfl (g := g_next_house) (fun cdv A outer s H E hr => ?_)
  have tk : Takes (cxOf (L2.CX P w) P w K mg base ["port", "asks", "held", "got", "hour", "is_new", "some", "news", "olds", "first", "last", "one", "house"] "next_house" (defScope (topS 47)) f cdv A outer s H E) (WE0 E) := takes_of rfl rfl rfl rfl
  exact (dens_cons dens_bad
  (dens_cons dens_bad
  (dens_cons dens_bad
  (dens_cons dens_bad
  (dens_one dens_bad)))))
theorem bi_next_house {f : Addr} {fd : FuncData} (F : Fun K "next_house" "next_house" (topS 47) f fd) : Binds K fd ["port", "asks", "held", "got", "hour", "is_new"] [] := F.binds (ps := ["port", "asks", "held", "got", "hour", "is_new"]) fun _ _ _ _ _ _ us hl => match us, hl with | [_, _, _, _, _, _], _ => rfl

theorem sc_port_text : FnScope ["port"] ["port"] (defScope (topS 54)) := ⟨rfl, rfl, rfl, by decide +kernel, rfl, by decide +kernel, by decide +kernel⟩
theorem fo_port_text (B : Bl mg) (c_look_port : Cal P w K mg base ⟨K, ca, tb⟩ 3 "look_port" F_look_port) (c_text_of_port : Cal P w K mg base ⟨K, ca, tb⟩ 1 "text_of_port" F_text_of_port)  {f : Addr} {fd : FuncData} (F : Fun K "port_text" "port_text" (topS 54) f fd) : FnOk P w K mg base (L2.CX P w) 4 f fd ["port"] (spD ⟨K, ca, tb⟩ F_port_text) := by
  have nd := (sc_port_text).nd
  refine fn_den (k := 3) F sc_port_text rfl rfl (g := g_port_text) (fun cdv A outer s H E hr => ?_)
  have tk : Takes (cxOf (L2.CX P w) P w K mg base ["port"] "port_text" (defScope (topS 54)) f cdv A outer s H E) (WE0 E) := takes_of rfl rfl rfl rfl
  exact (dens_cons (dens_expr (den_cal c_look_port (hr.mono (by decide)) tk (dena_cons (den_v 0) dena_nil)))
  (dens_one (dens_ret (den_cal c_text_of_port (hr.mono (by decide)) tk (dena_cons (den_v 0) dena_nil)))))
theorem bi_port_text {f : Addr} {fd : FuncData} (F : Fun K "port_text" "port_text" (topS 54) f fd) : Binds K fd ["port"] [] := F.binds (ps := ["port"]) fun _ _ _ _ _ _ us hl => match us, hl with | [_], _ => rfl

theorem sc_look_log : FnScope ["port", "rights", "log"] ["port", "rights", "log"] (defScope (topS 37)) := ⟨rfl, rfl, rfl, by decide +kernel, rfl, by decide +kernel, by decide +kernel⟩
theorem fo_look_log (B : Bl mg) (c_is_good_log : Cal P w K mg base ⟨K, ca, tb⟩ 3 "is_good_log" F_is_good_log) (c_look_rights : Cal P w K mg base ⟨K, ca, tb⟩ 4 "look_rights" F_look_rights) (XF : ExF K mg ca nms 19)  {f : Addr} {fd : FuncData} (F : Fun K "look_log" "look_log" (topS 37) f fd) : FnOk P w K mg base (L2.CX P w) 5 f fd ["port", "rights", "log"] (spD ⟨K, ca, tb⟩ F_look_log) := by
  have nd := (sc_look_log).nd
  refine fn_den (k := 4) F sc_look_log rfl rfl (g := g_look_log) (fun cdv A outer s H E hr => ?_)
  have tk : Takes (cxOf (L2.CX P w) P w K mg base ["port", "rights", "log"] "look_log" (defScope (topS 37)) f cdv A outer s H E) (WE0 E) := takes_of rfl rfl rfl rfl
  exact (dens_cons (dens_expr (den_cal c_look_rights (hr.mono (by decide)) tk (dena_cons (den_v 0) (dena_cons (den_v 1) dena_nil))))
  (dens_one (dens_if (dent_not (dent_tr (den_cal c_is_good_log (hr.mono (by decide)) tk (dena_cons (den_v 0) (dena_cons (den_v 1) (dena_cons (den_v 2) dena_nil)))))) (dens_one (dens_raise XF (c := 3) rfl tk)) dens_nil)))
theorem bi_look_log {f : Addr} {fd : FuncData} (F : Fun K "look_log" "look_log" (topS 37) f fd) : Binds K fd ["port", "rights", "log"] [] := F.binds (ps := ["port", "rights", "log"]) fun _ _ _ _ _ _ us hl => match us, hl with | [_, _, _], _ => rfl

theorem sc_look_asks : FnScope ["port", "rights", "asks", "one"] ["port", "rights", "asks"] (defScope (topS 44)) := ⟨rfl, rfl, rfl, by decide +kernel, rfl, by decide +kernel, by decide +kernel⟩
theorem fo_look_asks (B : Bl mg) (c_do_rise : Cal P w K mg base ⟨K, ca, tb⟩ 1 "do_rise" F_do_rise) (c_is_ask : Cal P w K mg base ⟨K, ca, tb⟩ 3 "is_ask" F_is_ask) (c_look_rights : Cal P w K mg base ⟨K, ca, tb⟩ 4 "look_rights" F_look_rights) (XF : ExF K mg ca nms 19)  {f : Addr} {fd : FuncData} (F : Fun K "look_asks" "look_asks" (topS 44) f fd) : FnOk P w K mg base (L2.CX P w) 5 f fd ["port", "rights", "asks"] (spD ⟨K, ca, tb⟩ F_look_asks) := by
  have nd := (sc_look_asks).nd
  refine fn_den (k := 4) F sc_look_asks rfl rfl (g := g_look_asks) (fun cdv A outer s H E hr => ?_)
  have tk : Takes (cxOf (L2.CX P w) P w K mg base ["port", "rights", "asks", "one"] "look_asks" (defScope (topS 44)) f cdv A outer s H E) (WE0 E) := takes_of rfl rfl rfl rfl
  exact (dens_cons (dens_expr (den_cal c_look_rights (hr.mono (by decide)) tk (dena_cons (den_v 0) (dena_cons (den_v 1) dena_nil))))
  (dens_cons (dens_if (PW.pt (dent_or (dent_not (dent_tr (den_callB call_isi cd_isi rfl B.isinstance_ bt_isinstance (dena_cons (den_v 2) (dena_cons (den_ty (t := .tuple) B.tuple_ bt_tuple) dena_nil))))) (dent_or (dent_cmp op_gt od_gtI (den_callB cl_len cd_len rfl B.len_ bt_len (dena_cons (den_v 2) dena_nil)) den_int (nomark _)) (dent_or1 (dent_not (dent_tr (den_callB (cr_all rfl) cd_all rfl B.all_ bt_all (dena_cons (den_val (denl_lc (own := [("one", 3)]) rfl nd (deni_seq (den_v 2)) (blkOk_by (by kernel_rfl)) (by decide) (fun _ _ _ _ _ => (deng_nm 3 nd)) (fun _ _ _ _ _ => dents_nil) (fun _ _ _ _ _ => (den_cal c_is_ask (hr.mono (by decide)) takes0 (dena_cons (den_v 0) (dena_cons (den_v 3) dena_nil)))))) dena_nil)))))))) (dens_one (dens_raise XF (c := 10) rfl tk)) dens_nil)
  (dens_one (dens_if (dent_not (dent_tr (den_cal c_do_rise (hr.mono (by decide)) tk (dena_cons (den_val (denl_lc (own := [("one", 3)]) rfl nd (deni_seq (den_v 2)) (blkOk_by (by kernel_rfl)) (by decide) (fun _ _ _ _ _ => (deng_nm 3 nd)) (fun _ _ _ _ _ => dents_nil) (fun _ _ _ _ _ => (den_ix ix_lt od_ix (den_v 3) den_int)))) dena_nil)))) (dens_one (dens_raise XF (c := 10) rfl tk)) dens_nil))))
theorem bi_look_asks {f : Addr} {fd : FuncData} (F : Fun K "look_asks" "look_asks" (topS 44) f fd) : Binds K fd ["port", "rights", "asks"] [] := F.binds (ps := ["port", "rights", "asks"]) fun _ _ _ _ _ _ us hl => match us, hl with | [_, _, _], _ => rfl

theorem sc_free_slots : FnScope ["port", "rights"] ["port", "rights"] (defScope (topS 46)) := ⟨rfl, rfl, rfl, by decide +kernel, rfl, by decide +kernel, by decide +kernel⟩
theorem fo_free_slots (B : Bl mg) (c_all_free : Cal P w K mg base ⟨K, ca, tb⟩ 1 "all_free" F_all_free) (c_look_rights : Cal P w K mg base ⟨K, ca, tb⟩ 4 "look_rights" F_look_rights)  {f : Addr} {fd : FuncData} (F : Fun K "free_slots" "free_slots" (topS 46) f fd) : FnOk P w K mg base (L2.CX P w) 5 f fd ["port", "rights"] (spD ⟨K, ca, tb⟩ F_free_slots) := by
  have nd := (sc_free_slots).nd
  refine fn_den (k := 4) F sc_free_slots rfl rfl (g := g_free_slots) (fun cdv A outer s H E hr => ?_)
  have tk : Takes (cxOf (L2.CX P w) P w K mg base ["port", "rights"] "free_slots" (defScope (topS 46)) f cdv A outer s H E) (WE0 E) := takes_of rfl rfl rfl rfl
  exact (dens_cons (dens_expr (den_cal c_look_rights (hr.mono (by decide)) tk (dena_cons (den_v 0) (dena_cons (den_v 1) dena_nil))))
  (dens_one (dens_ret (den_callTy call_tuple_of cd_tup rfl B.tuple_ bt_tuple (dena_cons (den_cal c_all_free (hr.mono (by decide)) tk (dena_cons (den_v 0) (dena_cons (den_v 1) dena_nil))) dena_nil)))))
theorem bi_free_slots {f : Addr} {fd : FuncData} (F : Fun K "free_slots" "free_slots" (topS 46) f fd) : Binds K fd ["port", "rights"] [] := F.binds (ps := ["port", "rights"]) fun _ _ _ _ _ _ us hl => match us, hl with | [_, _], _ => rfl

theorem sc_all_deals : FnScope ["port", "rights", "asks", "held", "got", "found", "hour", "many", "turn", "one", "house", "right"] ["port", "rights", "asks"] (defScope (topS 48)) := ⟨rfl, rfl, rfl, by decide +kernel, rfl, by decide +kernel, by decide +kernel⟩
theorem fo_all_deals (B : Bl mg)   {f : Addr} {fd : FuncData} (F : Fun K "all_deals" "all_deals" (topS 48) f fd) : FnOk P w K mg base (L2.CX P w) 5 f fd ["port", "rights", "asks"] (spD ⟨K, ca, tb⟩ F_all_deals) := by
  have nd := (sc_all_deals).nd
  refine fn_den (k := 4) F sc_all_deals rfl rfl (g := g_all_deals) (fun cdv A outer s H E hr => ?_)
  have tk : Takes (cxOf (L2.CX P w) P w K mg base ["port", "rights", "asks", "held", "got", "found", "hour", "many", "turn", "one", "house", "right"] "all_deals" (defScope (topS 48)) f cdv A outer s H E) (WE0 E) := takes_of rfl rfl rfl rfl
  exact (dens_cons dens_bad
  (dens_cons dens_bad
  (dens_cons dens_bad
  (dens_cons dens_bad
  (dens_one dens_bad)))))
theorem bi_all_deals {f : Addr} {fd : FuncData} (F : Fun K "all_deals" "all_deals" (topS 48) f fd) : Binds K fd ["port", "rights", "asks"] [] := F.binds (ps := ["port", "rights", "asks"]) fun _ _ _ _ _ _ us hl => match us, hl with | [_, _, _], _ => rfl

theorem sc_rights_text : FnScope ["port", "rights"] ["port", "rights"] (defScope (topS 56)) := ⟨rfl, rfl, rfl, by decide +kernel, rfl, by decide +kernel, by decide +kernel⟩
theorem fo_rights_text (B : Bl mg) (c_look_rights : Cal P w K mg base ⟨K, ca, tb⟩ 4 "look_rights" F_look_rights) (c_text_of_rights : Cal P w K mg base ⟨K, ca, tb⟩ 1 "text_of_rights" F_text_of_rights)  {f : Addr} {fd : FuncData} (F : Fun K "rights_text" "rights_text" (topS 56) f fd) : FnOk P w K mg base (L2.CX P w) 5 f fd ["port", "rights"] (spD ⟨K, ca, tb⟩ F_rights_text) := by
  have nd := (sc_rights_text).nd
  refine fn_den (k := 4) F sc_rights_text rfl rfl (g := g_rights_text) (fun cdv A outer s H E hr => ?_)
  have tk : Takes (cxOf (L2.CX P w) P w K mg base ["port", "rights"] "rights_text" (defScope (topS 56)) f cdv A outer s H E) (WE0 E) := takes_of rfl rfl rfl rfl
  exact (dens_cons (dens_expr (den_cal c_look_rights (hr.mono (by decide)) tk (dena_cons (den_v 0) (dena_cons (den_v 1) dena_nil))))
  (dens_one (dens_ret (den_cal c_text_of_rights (hr.mono (by decide)) tk (dena_cons (den_v 1) dena_nil)))))
theorem bi_rights_text {f : Addr} {fd : FuncData} (F : Fun K "rights_text" "rights_text" (topS 56) f fd) : Binds K fd ["port", "rights"] [] := F.binds (ps := ["port", "rights"]) fun _ _ _ _ _ _ us hl => match us, hl with | [_, _], _ => rfl

theorem sc_Desk_init : FnScope ["self", "port", "rights", "storms"] ["self", "port", "rights", "storms"] (defScope (inClass (topS 51) 0)) := ⟨rfl, rfl, rfl, by decide +kernel, rfl, by decide +kernel, by decide +kernel⟩
theorem fo_Desk_init (B : Bl mg) (c_are_weeks : Cal P w K mg base ⟨K, ca, tb⟩ 2 "are_weeks" F_are_weeks) (c_look_rights : Cal P w K mg base ⟨K, ca, tb⟩ 4 "look_rights" F_look_rights) (cl_Desk : Cls K (ca 24)) (na_Desk_done : NoAttr K (ca 24) "done") (na_Desk_elder : NoAttr K (ca 24) "elder") (na_Desk_now : NoAttr K (ca 24) "now") (na_Desk_port : NoAttr K (ca 24) "port") (na_Desk_rights : NoAttr K (ca 24) "rights") (na_Desk_undone : NoAttr K (ca 24) "undone") (XF : ExF K mg ca nms 19)  {f : Addr} {fd : FuncData} (F : Fun K "__init__" "Desk.__init__" (inClass (topS 51) 0) f fd) : FnOk P w K mg base (L2.CX P w) 5 f fd ["self", "port", "rights", "storms"] (spD ⟨K, ca, tb⟩ F_Desk_init) := by
  have nd := (sc_Desk_init).nd
  refine fn_den (k := 4) F sc_Desk_init rfl rfl (g := g_Desk_init) (fun cdv A outer s H E hr => ?_)
  have tk : Takes (cxOf (L2.CX P w) P w K mg base ["self", "port", "rights", "storms"] "Desk.__init__" (defScope (inClass (topS 51) 0)) f cdv A outer s H E) (WE0 E) := takes_of rfl rfl rfl rfl
  exact (dens_cons (dens_expr (den_cal c_look_rights (hr.mono (by decide)) tk (dena_cons (den_v 1) (dena_cons (den_v 2) dena_nil))))
  (dens_cons (dens_if (dent_not (dent_tr (den_cal c_are_weeks (hr.mono (by decide)) tk (dena_cons (den_v 1) (dena_cons (den_v 3) dena_nil))))) (dens_one (dens_raise XF (c := 3) rfl tk)) dens_nil)
  (dens_cons (dens_fld 24 (den_v 0) (den_v 1) cl_Desk na_Desk_port)
  (dens_cons (dens_fld 24 (den_v 0) (den_v 2) cl_Desk na_Desk_rights)
  (dens_cons (dens_fld 24 (den_v 0) (den_tup (dena_cons (den_tup (dena_cons (den_v 3) (dena_cons (den_op or_mul od_mul (den_tup (dena_cons (den_tup dena_nil) dena_nil)) (den_callB cl_len cd_len rfl B.len_ bt_len (dena_cons (den_v 2) dena_nil))) (dena_cons (den_tup dena_nil) dena_nil)))) (dena_cons (den_un un_neg ud_negI den_int) dena_nil))) cl_Desk na_Desk_now)
  (dens_cons (dens_fld 24 (den_v 0) (den_obj (denl_lst dena_nil)) cl_Desk na_Desk_elder)
  (dens_cons (dens_fld 24 (den_v 0) (den_obj (denl_lst dena_nil)) cl_Desk na_Desk_done)
  (dens_one (dens_fld 24 (den_v 0) (den_obj (denl_lst dena_nil)) cl_Desk na_Desk_undone)))))))))
theorem bi_Desk_init {f : Addr} {fd : FuncData} (F : Fun K "__init__" "Desk.__init__" (inClass (topS 51) 0) f fd) : Binds K fd ["self", "port", "rights", "storms"] [] := F.binds (ps := ["self", "port", "rights", "storms"]) fun _ _ _ _ _ _ us hl => match us, hl with | [_, _, _, _], _ => rfl

theorem sc_uses : FnScope ["port", "rights", "log"] ["port", "rights", "log"] (defScope (topS 40)) := ⟨rfl, rfl, rfl, by decide +kernel, rfl, by decide +kernel, by decide +kernel⟩
theorem fo_uses (B : Bl mg) (c_all_uses : Cal P w K mg base ⟨K, ca, tb⟩ 2 "all_uses" F_all_uses) (c_look_log : Cal P w K mg base ⟨K, ca, tb⟩ 5 "look_log" F_look_log)  {f : Addr} {fd : FuncData} (F : Fun K "uses" "uses" (topS 40) f fd) : FnOk P w K mg base (L2.CX P w) 6 f fd ["port", "rights", "log"] (spD ⟨K, ca, tb⟩ F_uses) := by
  have nd := (sc_uses).nd
  refine fn_den (k := 5) F sc_uses rfl rfl (g := g_uses) (fun cdv A outer s H E hr => ?_)
  have tk : Takes (cxOf (L2.CX P w) P w K mg base ["port", "rights", "log"] "uses" (defScope (topS 40)) f cdv A outer s H E) (WE0 E) := takes_of rfl rfl rfl rfl
  exact (dens_cons (dens_expr (den_cal c_look_log (hr.mono (by decide)) tk (dena_cons (den_v 0) (dena_cons (den_v 1) (dena_cons (den_v 2) dena_nil)))))
  (dens_one (dens_ret (den_cal c_all_uses (hr.mono (by decide)) tk (dena_cons (den_v 1) (dena_cons (den_v 2) dena_nil))))))
theorem bi_uses {f : Addr} {fd : FuncData} (F : Fun K "uses" "uses" (topS 40) f fd) : Binds K fd ["port", "rights", "log"] [] := F.binds (ps := ["port", "rights", "log"]) fun _ _ _ _ _ _ us hl => match us, hl with | [_, _, _], _ => rfl

theorem sc_deals : FnScope ["port", "rights", "asks"] ["port", "rights", "asks"] (defScope (topS 49)) := ⟨rfl, rfl, rfl, by decide +kernel, rfl, by decide +kernel, by decide +kernel⟩
theorem fo_deals (B : Bl mg) (c_all_deals : Cal P w K mg base ⟨K, ca, tb⟩ 5 "all_deals" F_all_deals) (c_look_asks : Cal P w K mg base ⟨K, ca, tb⟩ 5 "look_asks" F_look_asks)  {f : Addr} {fd : FuncData} (F : Fun K "deals" "deals" (topS 49) f fd) : FnOk P w K mg base (L2.CX P w) 6 f fd ["port", "rights", "asks"] (spD ⟨K, ca, tb⟩ F_deals) := by
  have nd := (sc_deals).nd
  refine fn_den (k := 5) F sc_deals rfl rfl (g := g_deals) (fun cdv A outer s H E hr => ?_)
  have tk : Takes (cxOf (L2.CX P w) P w K mg base ["port", "rights", "asks"] "deals" (defScope (topS 49)) f cdv A outer s H E) (WE0 E) := takes_of rfl rfl rfl rfl
  exact (dens_cons (dens_expr (den_cal c_look_asks (hr.mono (by decide)) tk (dena_cons (den_v 0) (dena_cons (den_v 1) (dena_cons (den_v 2) dena_nil)))))
  (dens_one (dens_ret (den_cal c_all_deals (hr.mono (by decide)) tk (dena_cons (den_v 0) (dena_cons (den_v 1) (dena_cons (den_v 2) dena_nil)))))))
theorem bi_deals {f : Addr} {fd : FuncData} (F : Fun K "deals" "deals" (topS 49) f fd) : Binds K fd ["port", "rights", "asks"] [] := F.binds (ps := ["port", "rights", "asks"]) fun _ _ _ _ _ _ us hl => match us, hl with | [_, _, _], _ => rfl

theorem sc_log_text : FnScope ["port", "rights", "log"] ["port", "rights", "log"] (defScope (topS 59)) := ⟨rfl, rfl, rfl, by decide +kernel, rfl, by decide +kernel, by decide +kernel⟩
theorem fo_log_text (B : Bl mg) (c_look_log : Cal P w K mg base ⟨K, ca, tb⟩ 5 "look_log" F_look_log) (c_text_of_log : Cal P w K mg base ⟨K, ca, tb⟩ 2 "text_of_log" F_text_of_log)  {f : Addr} {fd : FuncData} (F : Fun K "log_text" "log_text" (topS 59) f fd) : FnOk P w K mg base (L2.CX P w) 6 f fd ["port", "rights", "log"] (spD ⟨K, ca, tb⟩ F_log_text) := by
  have nd := (sc_log_text).nd
  refine fn_den (k := 5) F sc_log_text rfl rfl (g := g_log_text) (fun cdv A outer s H E hr => ?_)
  have tk : Takes (cxOf (L2.CX P w) P w K mg base ["port", "rights", "log"] "log_text" (defScope (topS 59)) f cdv A outer s H E) (WE0 E) := takes_of rfl rfl rfl rfl
  exact (dens_cons (dens_expr (den_cal c_look_log (hr.mono (by decide)) tk (dena_cons (den_v 0) (dena_cons (den_v 1) (dena_cons (den_v 2) dena_nil)))))
  (dens_one (dens_ret (den_cal c_text_of_log (hr.mono (by decide)) tk (dena_cons (den_v 2) dena_nil)))))
theorem bi_log_text {f : Addr} {fd : FuncData} (F : Fun K "log_text" "log_text" (topS 59) f fd) : Binds K fd ["port", "rights", "log"] [] := F.binds (ps := ["port", "rights", "log"]) fun _ _ _ _ _ _ us hl => match us, hl with | [_, _, _], _ => rfl

theorem sc_law_one : FnScope ["how", "some", "port", "rights", "asked"] ["how", "some"] (defScope (topS 69)) := ⟨rfl, rfl, rfl, by decide +kernel, rfl, by decide +kernel, by decide +kernel⟩
theorem fo_law_one (B : Bl mg) (c_deals : Cal P w K mg base ⟨K, ca, tb⟩ 6 "deals" F_deals) (c_log_text : Cal P w K mg base ⟨K, ca, tb⟩ 6 "log_text" F_log_text) (c_uses : Cal P w K mg base ⟨K, ca, tb⟩ 6 "uses" F_uses) (ci_Desk : CalI P w K mg base ⟨K, ca, tb⟩ 5 "Desk" 24 F_Desk_init) (XF : ExF K mg ca nms 19) (TD : Dsp P w K mg base ⟨K, ca, tb⟩ 5 tblD)  {f : Addr} {fd : FuncData} (F : Fun K "_law_one" "_law_one" (topS 69) f fd) : FnOk P w K mg base (L2.CX P w) 7 f fd ["how", "some"] (spD ⟨K, ca, tb⟩ F_law_one) := by
  have nd := (sc_law_one).nd
  refine fn_den (k := 6) F sc_law_one rfl rfl (g := g_law_one) (fun cdv A outer s H E hr => ?_)
  have tk : Takes (cxOf (L2.CX P w) P w K mg base ["how", "some", "port", "rights", "asked"] "_law_one" (defScope (topS 69)) f cdv A outer s H E) (WE0 E) := takes_of rfl rfl rfl rfl
  exact (dens_cons (dens_pat (den_v 1) (deng_tp rfl (dengs_cons (deng_nm 2 nd) (dengs_cons (deng_nm 3 nd) dengs_nil))))
  (dens_cons (dens_if (dent_cmp op_lt od_ltI (den_v 0) den_int (nomark _)) (dens_cons (dens_set (i := 4) nd (den_ix ix_lt od_ix (den_tup (dena_cons (den_top XF (c := 19)) (dena_cons (den_top XF (c := 20)) (dena_cons (den_top XF (c := 21)) (dena_cons (den_top XF (c := 22)) (dena_cons (den_top XF (c := 23)) dena_nil)))))) (den_v 0)))
  (dens_one (dens_ret (den_if (dent_cmp or_in od_inA (den_v 0) (den_tup (dena_cons den_int (dena_cons den_int dena_nil))) (by with_unfolding_all rfl)) (den_dsp (i := 4) TD (hr.mono (by decide)) tk (dena_cons (den_v 2) dena_nil)) (den_dsp (i := 4) TD (hr.mono (by decide)) tk (dena_cons (den_v 2) (dena_cons (den_v 3) dena_nil))))))) dens_nil)
  (dens_cons (dens_if (dent_cmp (op_eqD hr.units) od_eq (den_v 0) den_int (nomark _)) (dens_one (dens_ret (den_cal c_uses (hr.mono (by decide)) tk (dena_cons (den_v 2) (dena_cons (den_v 3) (dena_cons den_non dena_nil)))))) dens_nil)
  (dens_cons (dens_if (dent_cmp (op_eqD hr.units) od_eq (den_v 0) den_int (nomark _)) (dens_one (dens_ret (den_cal c_deals (hr.mono (by decide)) tk (dena_cons (den_v 2) (dena_cons (den_v 3) (dena_cons den_non dena_nil)))))) dens_nil)
  (dens_one (dens_ret (den_if (dent_cmp (op_eqD hr.units) od_eq (den_v 0) den_int (nomark _)) (den_make ci_Desk (hr.mono (by decide)) tk (dena_cons (den_v 2) (dena_cons (den_v 3) (dena_cons den_non dena_nil)))) (den_cal c_log_text (hr.mono (by decide)) tk (dena_cons (den_v 2) (dena_cons (den_v 3) (dena_cons den_non dena_nil)))))))))))
theorem bi_law_one {f : Addr} {fd : FuncData} (F : Fun K "_law_one" "_law_one" (topS 69) f fd) : Binds K fd ["how", "some"] [] := F.binds (ps := ["how", "some"]) fun _ _ _ _ _ _ us hl => match us, hl with | [_, _], _ => rfl

theorem sc_law_told : FnScope ["way", "some", "caught", "found", "e"] ["way", "some"] (defScope (topS 64)) := ⟨rfl, rfl, rfl, by decide +kernel, rfl, by decide +kernel, by decide +kernel⟩
theorem fo_law_told (B : Bl mg) (c_law_one : Cal P w K mg base ⟨K, ca, tb⟩ 7 "_law_one" F_law_one) (c_law_word : Cal P w K mg base ⟨K, ca, tb⟩ 1 "_law_word" F_law_word) (XF : ExF K mg ca nms 19)  {f : Addr} {fd : FuncData} (F : Fun K "_law_told" "_law_told" (topS 64) f fd) : FnOk P w K mg base (L2.CX P w) 8 f fd ["way", "some"] (spD ⟨K, ca, tb⟩ F_law_told) := by
  have nd := (sc_law_told).nd
  refine fn_den (k := 7) F sc_law_told rfl rfl (g := g_law_told) (fun cdv A outer s H E hr => ?_)
  have tk : Takes (cxOf (L2.CX P w) P w K mg base ["way", "some", "caught", "found", "e"] "_law_told" (defScope (topS 64)) f cdv A outer s H E) (WE0 E) := takes_of rfl rfl rfl rfl
  exact (dens_cons (dens_set (i := 2) nd den_non)
  (dens_cons (dens_set (i := 3) nd den_non)
  (dens_cons (dens_try (i := 4) (j := 2) nd rfl rfl rfl ⟨rfl, by decide, .inl (XF.glo 0 _ rfl)⟩ tk (okF_ok XF) (fun W pn xe tkB hpB => (dens_one (dens_set (i := 3) nd (den_cal c_law_one (hr.mono (by decide)) tkB (dena_cons (den_v 0) (dena_cons (den_v 1) dena_nil)))))))
  (dens_cons (dens_if (dent_cmp or_is od_isA (den_v 2) den_non (nomark _)) (dens_one (dens_ret (den_tup (dena_cons den_str (dena_cons (den_v 3) dena_nil))))) dens_nil)
  (dens_one (dens_ret (den_tup (dena_cons den_str (dena_cons (den_cal c_law_word (hr.mono (by decide)) tk (dena_cons (den_v 2) dena_nil)) dena_nil)))))))))
theorem bi_law_told {f : Addr} {fd : FuncData} (F : Fun K "_law_told" "_law_told" (topS 64) f fd) : Binds K fd ["way", "some"] [] := F.binds (ps := ["way", "some"]) fun _ _ _ _ _ _ us hl => match us, hl with | [_, _], _ => rfl

theorem sc_law : FnScope ["script", "town", "port", "rights", "goods", "bad", "wide", "ten", "bads", "odds", "how", "odd", "good"] ["script"] (defScope (topS 71)) := ⟨rfl, rfl, rfl, by decide +kernel, rfl, by decide +kernel, by decide +kernel⟩
theorem fo_law (B : Bl mg) (c_are_rights : Cal P w K mg base ⟨K, ca, tb⟩ 4 "are_rights" F_are_rights) (c_is_port : Cal P w K mg base ⟨K, ca, tb⟩ 2 "is_port" F_is_port) (c_law_bad_ports : Cal P w K mg base ⟨K, ca, tb⟩ 1 "_law_bad_ports" F_law_bad_ports) (c_law_pick : Cal P w K mg base ⟨K, ca, tb⟩ 2 "_law_pick" F_law_pick) (c_law_port : Cal P w K mg base ⟨K, ca, tb⟩ 2 "_law_port" F_law_port) (c_law_refused : Cal P w K mg base ⟨K, ca, tb⟩ 1 "_law_refused" F_law_refused) (c_law_rights : Cal P w K mg base ⟨K, ca, tb⟩ 3 "_law_rights" F_law_rights) (c_law_told : Cal P w K mg base ⟨K, ca, tb⟩ 8 "_law_told" F_law_told) (c_law_town : Cal P w K mg base ⟨K, ca, tb⟩ 1 "_law_town" F_law_town)  {f : Addr} {fd : FuncData} (F : Fun K "law" "law" (topS 71) f fd) : FnOk P w K mg base (L2.CX P w) 9 f fd ["script"] (spD ⟨K, ca, tb⟩ F_law) := by
  have nd := (sc_law).nd
  refine fn_den (k := 8) F sc_law rfl rfl (g := g_law) (fun cdv A outer s H E hr => ?_)
  have tk : Takes (cxOf (L2.CX P w) P w K mg base ["script", "town", "port", "rights", "goods", "bad", "wide", "ten", "bads", "odds", "how", "odd", "good"] "law" (defScope (topS 71)) f cdv A outer s H E) (WE0 E) := takes_of rfl rfl rfl rfl
  exact (dens_cons (dens_set (i := 1) nd (den_cal c_law_town (hr.mono (by decide)) tk (dena_cons (den_v 0) dena_nil)))
  (dens_cons (dens_set (i := 2) nd (den_cal c_law_port (hr.mono (by decide)) tk (dena_cons (den_v 0) (dena_cons (den_v 1) (dena_cons den_int (dena_cons den_int dena_nil))))))
  (dens_cons (dens_set (i := 3) nd (den_cal c_law_rights (hr.mono (by decide)) tk (dena_cons (den_v 0) (dena_cons (den_v 1) (dena_cons (den_v 2) (dena_cons den_int dena_nil))))))
  (dens_cons (dens_set (i := 4) nd (den_val (denl_lst (dena_cons (den_v 2) (dena_cons (den_tup (dena_cons (den_tup (dena_cons den_int (dena_cons den_int dena_nil))) (dena_cons den_int (dena_cons (den_tup (dena_cons den_int (dena_cons den_int dena_nil))) (dena_cons den_int (dena_cons den_int dena_nil)))))) (dena_cons (den_tup (dena_cons (den_op or_mul od_mul (den_tup (dena_cons den_int dena_nil)) den_int) (dena_cons den_int (dena_cons (den_tup (dena_cons den_int (dena_cons den_int dena_nil))) (dena_cons den_int (dena_cons den_int dena_nil)))))) (dena_cons (den_tup (dena_cons (den_tup (dena_cons den_int (dena_cons den_int dena_nil))) (dena_cons den_int (dena_cons (den_tup (dena_cons den_int (dena_cons den_int dena_nil))) (dena_cons den_int (dena_cons den_int dena_nil)))))) dena_nil)))))))
  (dens_cons (dens_if (PW.pt (dent_or (dent_cmp (op_neD hr.units) od_ne (den_val (denl_lc (own := [("good", 12)]) rfl nd (deni_seq (den_v 4)) (blkOk_by (by kernel_rfl)) (by decide) (fun _ _ _ _ _ => (deng_nm 12 nd)) (fun _ _ _ _ _ => (dents_one (dent_cmp or_isNot od_isNotA (den_cal c_is_port (hr.mono (by decide)) takes0 (dena_cons (den_v 12) dena_nil)) den_bl (nomark _)))) (fun _ _ _ _ _ => (den_v 12)))) (den_val (denl_lst dena_nil)) (nomark _)) (dent_or1 (dent_cmp or_isNot od_isNotA (den_cal c_are_rights (hr.mono (by decide)) tk (dena_cons (den_v 2) (dena_cons (den_v 3) dena_nil))) den_bl (nomark _))))) (dens_one (dens_ret den_bl)) dens_nil)
  (dens_cons (dens_forV (passes_of rfl) rfl (deni_seq (den_cal c_law_bad_ports (hr.mono (by decide)) tk (dena_cons (den_v 2) dena_nil))) (deng_nm 5 nd) (dens_one (dens_if (dent_cmp or_isNot od_isNotA (den_cal c_is_port (hr.mono (by decide)) tk (dena_cons (den_v 5) dena_nil)) den_bl (nomark _)) (dens_one (dens_ret den_bl)) dens_nil)))
  (dens_cons (dens_set (i := 5) nd (den_cal c_law_pick (hr.mono (by decide)) tk (dena_cons (den_v 0) (dena_cons (den_v 1) (dena_cons (den_cal c_law_bad_ports (hr.mono (by decide)) tk (dena_cons (den_v 2) dena_nil)) dena_nil)))))
  (dens_cons (dens_if (dent_cmp (op_neD hr.units) od_ne (den_val (denl_lc (own := [("how", 10)]) rfl nd (deni_range1 B.range_ (dena_cons den_int dena_nil)) (blkOk_by (by kernel_rfl)) (by decide) (fun _ _ _ _ _ => (deng_nm 10 nd)) (fun _ _ _ _ _ => dents_nil) (fun _ _ _ _ _ => (den_cal c_law_told (hr.mono (by decide)) takes0 (dena_cons (den_v 10) (dena_cons (den_tup (dena_cons (den_v 5) (dena_cons den_non dena_nil))) dena_nil)))))) (den_op or_mul od_mul (den_val (denl_lst (dena_cons (den_cal c_law_refused (hr.mono (by decide)) tk (dena_cons den_str dena_nil)) dena_nil))) den_int) (nomark _)) (dens_one (dens_ret den_bl)) dens_nil)
  (dens_cons (dens_set (i := 6) nd (den_tup (dena_cons (den_tup (dena_cons den_int (dena_cons den_int dena_nil))) (dena_cons den_int (dena_cons (den_tup (dena_cons den_int (dena_cons den_int dena_nil))) (dena_cons den_int (dena_cons den_int dena_nil)))))))
  (dens_cons (dens_set (i := 7) nd (den_op or_add od_add (den_op or_mul od_mul (den_tup (dena_cons (den_tup (dena_cons den_int (dena_cons den_str dena_nil))) dena_nil)) den_int) (den_op or_mul od_mul (den_tup (dena_cons (den_tup (dena_cons den_int (dena_cons den_str dena_nil))) dena_nil)) den_int)))
  (dens_cons (dens_if (PW.pt (dent_or (dent_cmp or_isNot od_isNotA (den_cal c_are_rights (hr.mono (by decide)) tk (dena_cons (den_v 6) (dena_cons (den_v 7) dena_nil))) den_bl (nomark _)) (dent_or1 (dent_cmp or_isNot od_isNotA (den_cal c_are_rights (hr.mono (by decide)) tk (dena_cons (den_v 6) (dena_cons (den_tup dena_nil) dena_nil))) den_bl (nomark _))))) (dens_one (dens_ret den_bl)) dens_nil)
  (dens_cons (dens_set (i := 8) nd (den_val (denl_lst (dena_cons den_non (dena_cons den_int (dena_cons (den_callTy call_list_of cd_list rfl B.list_ bt_list (dena_cons (den_v 7) dena_nil)) (dena_cons (den_op or_add od_add (den_v 7) (den_tup (dena_cons (den_tup (dena_cons den_int (dena_cons den_str dena_nil))) dena_nil))) (dena_cons (den_op or_mul od_mul (den_tup (dena_cons (den_tup (dena_cons den_int (dena_cons den_str dena_nil))) dena_nil)) den_int) (dena_cons (den_tup (dena_cons (den_tup (dena_cons den_int (dena_cons den_str dena_nil))) (dena_cons (den_tup (dena_cons den_int (dena_cons den_str dena_nil))) dena_nil))) (dena_cons (den_tup (dena_cons (den_tup (dena_cons den_int (dena_cons den_str dena_nil))) (dena_cons (den_tup (dena_cons den_int (dena_cons den_str dena_nil))) dena_nil))) dena_nil))))))))))
  (dens_cons (dens_set (i := 9) nd (den_val (denl_lst (dena_cons (den_tup (dena_cons den_int (dena_cons den_str dena_nil))) (dena_cons (den_tup (dena_cons (den_un un_neg ud_negI den_int) (dena_cons den_str dena_nil))) (dena_cons (den_tup (dena_cons den_bl (dena_cons den_str dena_nil))) (dena_cons (den_tup (dena_cons den_int (dena_cons den_str dena_nil))) (dena_cons (den_tup (dena_cons den_int (dena_cons den_str dena_nil))) (dena_cons (den_tup (dena_cons den_int (dena_cons den_str dena_nil))) (dena_cons (den_tup (dena_cons den_int (dena_cons den_int dena_nil))) (dena_cons (den_tup (dena_cons den_int dena_nil)) (dena_cons den_non dena_nil))))))))))))
  (dens_cons (dens_set (i := 8) nd (den_op or_add od_add (den_v 8) (den_val (denl_lc (own := [("odd", 11)]) rfl nd (deni_seq (den_op or_add od_add (den_v 9) (den_val (denl_lst (dena_cons (den_tup (dena_cons den_int (dena_cons den_str (dena_cons den_int dena_nil)))) dena_nil))))) (blkOk_by (by kernel_rfl)) (by decide) (fun _ _ _ _ _ => (deng_nm 11 nd)) (fun _ _ _ _ _ => dents_nil) (fun _ _ _ _ _ => (den_tup (dena_cons (den_v 11) dena_nil)))))))
  (dens_cons (dens_if (dent_cmp (op_neD hr.units) od_ne (den_val (denl_lc (own := [("bad", 5)]) rfl nd (deni_seq (den_v 8)) (blkOk_by (by kernel_rfl)) (by decide) (fun _ _ _ _ _ => (deng_nm 5 nd)) (fun _ _ _ _ _ => (dents_one (dent_cmp or_isNot od_isNotA (den_cal c_are_rights (hr.mono (by decide)) takes0 (dena_cons (den_v 6) (dena_cons (den_v 5) dena_nil))) den_bl (nomark _)))) (fun _ _ _ _ _ => (den_v 5)))) (den_val (denl_lst dena_nil)) (nomark _)) (dens_one (dens_ret den_bl)) dens_nil)
  (dens_cons (dens_set (i := 5) nd (den_cal c_law_pick (hr.mono (by decide)) tk (dena_cons (den_v 0) (dena_cons (den_v 1) (dena_cons (den_v 8) dena_nil)))))
  (dens_one (dens_ret (den_cmp (op_eqD hr.units) od_eq (den_val (denl_lc (own := [("how", 10)]) rfl nd (deni_seq (den_tup (dena_cons den_int (dena_cons den_int (dena_cons den_int (dena_cons den_int (dena_cons den_int (dena_cons den_int dena_nil)))))))) (blkOk_by (by kernel_rfl)) (by decide) (fun _ _ _ _ _ => (deng_nm 10 nd)) (fun _ _ _ _ _ => dents_nil) (fun _ _ _ _ _ => (den_cal c_law_told (hr.mono (by decide)) takes0 (dena_cons (den_v 10) (dena_cons (den_tup (dena_cons (den_v 6) (dena_cons (den_v 5) dena_nil))) dena_nil)))))) (den_op or_mul od_mul (den_val (denl_lst (dena_cons (den_cal c_law_refused (hr.mono (by decide)) tk (dena_cons den_str dena_nil)) dena_nil))) den_int) (nomark _))))))))))))))))))))
theorem bi_law {f : Addr} {fd : FuncData} (F : Fun K "law" "law" (topS 71) f fd) : Binds K fd ["script"] [] := F.binds (ps := ["script"]) fun _ _ _ _ _ _ us hl => match us, hl with | [_], _ => rfl
end
end Qk01

namespace Qk01
open PySem PySem.Spec PyProof.Rows L2 Dn

def fa0 : List He.Fa := [.glo "_wall", .keep "_wall", .glo "is_whole", .keep "is_whole", .glo "is_house", .keep "is_house", .glo "do_rise", .keep "do_rise", .glo "need_of", .keep "need_of", .glo "flown_weeks", .keep "flown_weeks", .glo "all_free", .keep "all_free", .glo "text_of_port", .keep "text_of_port", .glo "text_of_rights", .keep "text_of_rights", .glo "weeks_text", .keep "weeks_text", .glo "_law_town", .keep "_law_town", .glo "_law_draw", .keep "_law_draw", .glo "_law_word", .keep "_law_word", .glo "_law_refused", .keep "_law_refused", .glo "_law_bad_ports", .keep "_law_bad_ports"]
def fa1 : List He.Fa := [.glo "is_port", .keep "is_port", .glo "is_right", .keep "is_right", .glo "are_weeks", .keep "are_weeks", .glo "is_lent", .keep "is_lent", .glo "all_uses", .keep "all_uses", .glo "are_wishes", .keep "are_wishes", .glo "text_of_log", .keep "text_of_log", .glo "_law_pick", .keep "_law_pick", .glo "_law_port", .keep "_law_port", .glo "look_port", .keep "look_port", .glo "are_good", .keep "are_good", .glo "is_good_log", .keep "is_good_log", .glo "is_ask", .keep "is_ask", .glo "_law_rights", .keep "_law_rights", .glo "need", .keep "need"]
def fa2 : List He.Fa := [.glo "are_rights", .keep "are_rights", .glo "look_rights", .keep "look_rights", .glo "next_house", .keep "next_house", .glo "port_text", .keep "port_text", .glo "look_log", .keep "look_log", .glo "look_asks", .keep "look_asks", .glo "free_slots", .keep "free_slots", .glo "all_deals", .keep "all_deals", .glo "rights_text", .keep "rights_text", .meth "Desk" "__init__", .glo "uses", .keep "uses", .glo "deals", .keep "deals", .glo "log_text", .keep "log_text", .glo "_law_one", .keep "_law_one", .glo "_law_told", .keep "_law_told", .glo "law"]
def fa3 : List He.Fa := [.keep "law", .cls "Desk", .mkr "Desk", .noat "Desk" "done", .noat "Desk" "elder", .noat "Desk" "now", .noat "Desk" "port", .noat "Desk" "rights", .noat "Desk" "undone", .free "ValueError", .free "all", .free "bool", .free "enumerate", .free "int", .free "isinstance", .free "len", .free "list", .free "range", .free "sorted", .free "str", .free "tuple", .free "zip", .str "LETTERS" "abcdefghijklmnopqrstuvwxyz"]
def fa : List He.Fa := fa0 ++ fa1 ++ fa2 ++ fa3
def d_wall : He.FnD := ⟨("_wall", none), "_wall", "_wall", defArgs (topS 0), defBody (topS 0), defScope (topS 0)⟩
def d_is_whole : He.FnD := ⟨("is_whole", none), "is_whole", "is_whole", defArgs (topS 23), defBody (topS 23), defScope (topS 23)⟩
def d_is_house : He.FnD := ⟨("is_house", none), "is_house", "is_house", defArgs (topS 24), defBody (topS 24), defScope (topS 24)⟩
def d_do_rise : He.FnD := ⟨("do_rise", none), "do_rise", "do_rise", defArgs (topS 25), defBody (topS 25), defScope (topS 25)⟩
def d_need_of : He.FnD := ⟨("need_of", none), "need_of", "need_of", defArgs (topS 28), defBody (topS 28), defScope (topS 28)⟩
def d_flown_weeks : He.FnD := ⟨("flown_weeks", none), "flown_weeks", "flown_weeks", defArgs (topS 38), defBody (topS 38), defScope (topS 38)⟩
def d_all_free : He.FnD := ⟨("all_free", none), "all_free", "all_free", defArgs (topS 45), defBody (topS 45), defScope (topS 45)⟩
def d_text_of_port : He.FnD := ⟨("text_of_port", none), "text_of_port", "text_of_port", defArgs (topS 53), defBody (topS 53), defScope (topS 53)⟩
def d_text_of_rights : He.FnD := ⟨("text_of_rights", none), "text_of_rights", "text_of_rights", defArgs (topS 55), defBody (topS 55), defScope (topS 55)⟩
def d_weeks_text : He.FnD := ⟨("weeks_text", none), "weeks_text", "weeks_text", defArgs (topS 57), defBody (topS 57), defScope (topS 57)⟩
def d_law_town : He.FnD := ⟨("_law_town", none), "_law_town", "_law_town", defArgs (topS 61), defBody (topS 61), defScope (topS 61)⟩
def d_law_draw : He.FnD := ⟨("_law_draw", none), "_law_draw", "_law_draw", defArgs (topS 62), defBody (topS 62), defScope (topS 62)⟩
def d_law_word : He.FnD := ⟨("_law_word", none), "_law_word", "_law_word", defArgs (topS 65), defBody (topS 65), defScope (topS 65)⟩
def d_law_refused : He.FnD := ⟨("_law_refused", none), "_law_refused", "_law_refused", defArgs (topS 66), defBody (topS 66), defScope (topS 66)⟩
def d_law_bad_ports : He.FnD := ⟨("_law_bad_ports", none), "_law_bad_ports", "_law_bad_ports", defArgs (topS 70), defBody (topS 70), defScope (topS 70)⟩
def d_is_port : He.FnD := ⟨("is_port", none), "is_port", "is_port", defArgs (topS 26), defBody (topS 26), defScope (topS 26)⟩
def d_is_right : He.FnD := ⟨("is_right", none), "is_right", "is_right", defArgs (topS 30), defBody (topS 30), defScope (topS 30)⟩
def d_are_weeks : He.FnD := ⟨("are_weeks", none), "are_weeks", "are_weeks", defArgs (topS 34), defBody (topS 34), defScope (topS 34)⟩
def d_is_lent : He.FnD := ⟨("is_lent", none), "is_lent", "is_lent", defArgs (topS 35), defBody (topS 35), defScope (topS 35)⟩
def d_all_uses : He.FnD := ⟨("all_uses", none), "all_uses", "all_uses", defArgs (topS 39), defBody (topS 39), defScope (topS 39)⟩
def d_are_wishes : He.FnD := ⟨("are_wishes", none), "are_wishes", "are_wishes", defArgs (topS 42), defBody (topS 42), defScope (topS 42)⟩
def d_text_of_log : He.FnD := ⟨("text_of_log", none), "text_of_log", "text_of_log", defArgs (topS 58), defBody (topS 58), defScope (topS 58)⟩
def d_law_pick : He.FnD := ⟨("_law_pick", none), "_law_pick", "_law_pick", defArgs (topS 63), defBody (topS 63), defScope (topS 63)⟩
def d_law_port : He.FnD := ⟨("_law_port", none), "_law_port", "_law_port", defArgs (topS 67), defBody (topS 67), defScope (topS 67)⟩
def d_look_port : He.FnD := ⟨("look_port", none), "look_port", "look_port", defArgs (topS 27), defBody (topS 27), defScope (topS 27)⟩
def d_are_good : He.FnD := ⟨("are_good", none), "are_good", "are_good", defArgs (topS 31), defBody (topS 31), defScope (topS 31)⟩
def d_is_good_log : He.FnD := ⟨("is_good_log", none), "is_good_log", "is_good_log", defArgs (topS 36), defBody (topS 36), defScope (topS 36)⟩
def d_is_ask : He.FnD := ⟨("is_ask", none), "is_ask", "is_ask", defArgs (topS 43), defBody (topS 43), defScope (topS 43)⟩
def d_law_rights : He.FnD := ⟨("_law_rights", none), "_law_rights", "_law_rights", defArgs (topS 68), defBody (topS 68), defScope (topS 68)⟩
def d_need : He.FnD := ⟨("need", none), "need", "need", defArgs (topS 29), defBody (topS 29), defScope (topS 29)⟩
def d_are_rights : He.FnD := ⟨("are_rights", none), "are_rights", "are_rights", defArgs (topS 32), defBody (topS 32), defScope (topS 32)⟩
def d_look_rights : He.FnD := ⟨("look_rights", none), "look_rights", "look_rights", defArgs (topS 33), defBody (topS 33), defScope (topS 33)⟩
def d_next_house : He.FnD := ⟨("next_house", none), "next_house", "next_house", defArgs (topS 47), defBody (topS 47), defScope (topS 47)⟩
def d_port_text : He.FnD := ⟨("port_text", none), "port_text", "port_text", defArgs (topS 54), defBody (topS 54), defScope (topS 54)⟩
def d_look_log : He.FnD := ⟨("look_log", none), "look_log", "look_log", defArgs (topS 37), defBody (topS 37), defScope (topS 37)⟩
def d_look_asks : He.FnD := ⟨("look_asks", none), "look_asks", "look_asks", defArgs (topS 44), defBody (topS 44), defScope (topS 44)⟩
def d_free_slots : He.FnD := ⟨("free_slots", none), "free_slots", "free_slots", defArgs (topS 46), defBody (topS 46), defScope (topS 46)⟩
def d_all_deals : He.FnD := ⟨("all_deals", none), "all_deals", "all_deals", defArgs (topS 48), defBody (topS 48), defScope (topS 48)⟩
def d_rights_text : He.FnD := ⟨("rights_text", none), "rights_text", "rights_text", defArgs (topS 56), defBody (topS 56), defScope (topS 56)⟩
def d_Desk_init : He.FnD := ⟨("Desk", some "__init__"), "__init__", "Desk.__init__", defArgs (inClass (topS 51) 0), defBody (inClass (topS 51) 0), defScope (inClass (topS 51) 0)⟩
def d_uses : He.FnD := ⟨("uses", none), "uses", "uses", defArgs (topS 40), defBody (topS 40), defScope (topS 40)⟩
def d_deals : He.FnD := ⟨("deals", none), "deals", "deals", defArgs (topS 49), defBody (topS 49), defScope (topS 49)⟩
def d_log_text : He.FnD := ⟨("log_text", none), "log_text", "log_text", defArgs (topS 59), defBody (topS 59), defScope (topS 59)⟩
def d_law_one : He.FnD := ⟨("_law_one", none), "_law_one", "_law_one", defArgs (topS 69), defBody (topS 69), defScope (topS 69)⟩
def d_law_told : He.FnD := ⟨("_law_told", none), "_law_told", "_law_told", defArgs (topS 64), defBody (topS 64), defScope (topS 64)⟩
def d_law : He.FnD := ⟨("law", none), "law", "law", defArgs (topS 71), defBody (topS 71), defScope (topS 71)⟩
def fn0 : List He.FnD := [d_wall, d_is_whole, d_is_house, d_do_rise, d_need_of, d_flown_weeks, d_all_free, d_text_of_port, d_text_of_rights, d_weeks_text, d_law_town, d_law_draw, d_law_word, d_law_refused, d_law_bad_ports, d_is_port, d_is_right, d_are_weeks, d_is_lent, d_all_uses, d_are_wishes, d_text_of_log, d_law_pick, d_law_port, d_look_port, d_are_good, d_is_good_log, d_is_ask, d_law_rights, d_need]
def fn1 : List He.FnD := [d_are_rights, d_look_rights, d_next_house, d_port_text, d_look_log, d_look_asks, d_free_slots, d_all_deals, d_rights_text, d_Desk_init, d_uses, d_deals, d_log_text, d_law_one, d_law_told, d_law]
def fn : List He.FnD := fn0 ++ fn1
def lo0 : List Str := ["_wall", "HourError", "BadPort", "BadRights", "BadLog", "BadPlace", "BadHours", "BadNumber", "BadCounts", "BadGains", "BadPrices", "BadAsks", "BadPlan", "BadBoard", "BadHouse", "Full", "Nothing", "Taken", "NoBack", "BadText", "LETTERS", "is_whole", "is_house", "do_rise", "is_port", "look_port", "need_of", "need", "is_right", "are_good"]
def lo1 : List Str := ["are_rights", "look_rights", "are_weeks", "is_lent", "is_good_log", "look_log", "flown_weeks", "all_uses", "uses", "are_wishes", "is_ask", "look_asks", "all_free", "free_slots", "next_house", "all_deals", "deals", "Desk", "text_of_port", "port_text", "text_of_rights", "rights_text", "weeks_text", "text_of_log", "log_text", "_law_town", "_law_draw", "_law_pick", "_law_told", "_law_word"]
def lo2 : List Str := ["_law_refused", "_law_port", "_law_rights", "_law_one", "_law_bad_ports"]
def lo : List Str := lo0 ++ lo1 ++ lo2
abbrev R : PySem.W.OpenRow := PySem.W.OpenLaw.row PySem.Challenge.rw_hoursheld_k01_no_ports
abbrev hk : PySem.W.Hook := Dn.hookX 4 fa fn (exfB nms 19)
def ob (s : PySem.W.SharedT) : He.Al × Bool := (He.obsG 4 fa fn (HandSHeadRun.getT s), exfB nms 19 (He.frG (HandSHeadRun.getT s) (He.asG (HandSHeadRun.getT s) 4)))
theorem ob_eq (s : PySem.W.SharedT) : ob s = hk.obs s.abs := Dn.obsX_eq (HandSHeadRun.getT_eq s)
theorem run (w : World) : HandSHeadRun.RunEq R (PySem.W.view R.prog [71]) hk ob 30000 lo w := by
  intro os
  kernel_rfl

theorem bl_law {K : PySem.W.Frag} {f : Addr} {fd : FuncData} (F : Fun K "law" "law" (topS 71) f fd) (s : Shared) (v : Value) : BindsTo s fd ⟨[v], []⟩ [("script", v)] := by
  obtain ⟨oc, od, kV, doc, pm, an, cdv, ct, osl, rfl, lk, hcd⟩ := F.ex
  exact .of_eq rfl
theorem facts {P : Program} {w : World} {K : PySem.W.Frag} {h : Heap} {mg : Str → Option Value} {f : Addr} (X : K.In h) (G : h.Ns mainGlobals mg) (hfa : mg ("law" : Str) = some (.ref f)) (c : He.SaysE fa fn K) (xb : exfB nms 19 K = true) :
    ∃ fd : FuncData, (∀ (s : Shared) (v : Value), BindsTo s fd ⟨[v], []⟩ [("script", v)]) ∧ ∀ base : Heap, FnOk P w K mg base (L2.CX P w) 9 f fd ["script"] (spD ⟨K, (caOf K nms), []⟩ F_law) := by
  have XF : ExF K mg (caOf K nms) nms 19 := exf_of X G xb
  have B : Bl mg := ⟨He.free_ok X G (c.fact 99 (f := .free "ValueError") rfl), He.free_ok X G (c.fact 100 (f := .free "all") rfl), He.free_ok X G (c.fact 101 (f := .free "bool") rfl), He.free_ok X G (c.fact 102 (f := .free "enumerate") rfl), He.free_ok X G (c.fact 103 (f := .free "int") rfl), He.free_ok X G (c.fact 104 (f := .free "isinstance") rfl), He.free_ok X G (c.fact 105 (f := .free "len") rfl), He.free_ok X G (c.fact 106 (f := .free "list") rfl), He.free_ok X G (c.fact 107 (f := .free "range") rfl), He.free_ok X G (c.fact 108 (f := .free "sorted") rfl), He.free_ok X G (c.fact 109 (f := .free "str") rfl), He.free_ok X G (c.fact 110 (f := .free "tuple") rfl), He.free_ok X G (c.fact 111 (f := .free "zip") rfl)⟩
  obtain ⟨_, _, _, _, _, _, _, _, _, l0, cc0⟩ := c.def_ 0 (d := d_wall) rfl
  have F0 := fun_mk (st := (topS 0)) l0 cc0 (He.keep_ok (c.fact 1 (f := .keep "_wall") rfl))
  obtain ⟨_, _, _, _, _, _, _, _, _, l1, cc1⟩ := c.def_ 1 (d := d_is_whole) rfl
  have F1 := fun_mk (st := (topS 23)) l1 cc1 (He.keep_ok (c.fact 3 (f := .keep "is_whole") rfl))
  obtain ⟨_, _, _, _, _, _, _, _, _, l2, cc2⟩ := c.def_ 2 (d := d_is_house) rfl
  have F2 := fun_mk (st := (topS 24)) l2 cc2 (He.keep_ok (c.fact 5 (f := .keep "is_house") rfl))
  obtain ⟨_, _, _, _, _, _, _, _, _, l3, cc3⟩ := c.def_ 3 (d := d_do_rise) rfl
  have F3 := fun_mk (st := (topS 25)) l3 cc3 (He.keep_ok (c.fact 7 (f := .keep "do_rise") rfl))
  obtain ⟨_, _, _, _, _, _, _, _, _, l4, cc4⟩ := c.def_ 4 (d := d_need_of) rfl
  have F4 := fun_mk (st := (topS 28)) l4 cc4 (He.keep_ok (c.fact 9 (f := .keep "need_of") rfl))
  obtain ⟨_, _, _, _, _, _, _, _, _, l5, cc5⟩ := c.def_ 5 (d := d_flown_weeks) rfl
  have F5 := fun_mk (st := (topS 38)) l5 cc5 (He.keep_ok (c.fact 11 (f := .keep "flown_weeks") rfl))
  obtain ⟨_, _, _, _, _, _, _, _, _, l6, cc6⟩ := c.def_ 6 (d := d_all_free) rfl
  have F6 := fun_mk (st := (topS 45)) l6 cc6 (He.keep_ok (c.fact 13 (f := .keep "all_free") rfl))
  obtain ⟨_, _, _, _, _, _, _, _, _, l7, cc7⟩ := c.def_ 7 (d := d_text_of_port) rfl
  have F7 := fun_mk (st := (topS 53)) l7 cc7 (He.keep_ok (c.fact 15 (f := .keep "text_of_port") rfl))
  obtain ⟨_, _, _, _, _, _, _, _, _, l8, cc8⟩ := c.def_ 8 (d := d_text_of_rights) rfl
  have F8 := fun_mk (st := (topS 55)) l8 cc8 (He.keep_ok (c.fact 17 (f := .keep "text_of_rights") rfl))
  obtain ⟨_, _, _, _, _, _, _, _, _, l9, cc9⟩ := c.def_ 9 (d := d_weeks_text) rfl
  have F9 := fun_mk (st := (topS 57)) l9 cc9 (He.keep_ok (c.fact 19 (f := .keep "weeks_text") rfl))
  obtain ⟨_, _, _, _, _, _, _, _, _, l10, cc10⟩ := c.def_ 10 (d := d_law_town) rfl
  have F10 := fun_mk (st := (topS 61)) l10 cc10 (He.keep_ok (c.fact 21 (f := .keep "_law_town") rfl))
  obtain ⟨_, _, _, _, _, _, _, _, _, l11, cc11⟩ := c.def_ 11 (d := d_law_draw) rfl
  have F11 := fun_mk (st := (topS 62)) l11 cc11 (He.keep_ok (c.fact 23 (f := .keep "_law_draw") rfl))
  obtain ⟨_, _, _, _, _, _, _, _, _, l12, cc12⟩ := c.def_ 12 (d := d_law_word) rfl
  have F12 := fun_mk (st := (topS 65)) l12 cc12 (He.keep_ok (c.fact 25 (f := .keep "_law_word") rfl))
  obtain ⟨_, _, _, _, _, _, _, _, _, l13, cc13⟩ := c.def_ 13 (d := d_law_refused) rfl
  have F13 := fun_mk (st := (topS 66)) l13 cc13 (He.keep_ok (c.fact 27 (f := .keep "_law_refused") rfl))
  obtain ⟨_, _, _, _, _, _, _, _, _, l14, cc14⟩ := c.def_ 14 (d := d_law_bad_ports) rfl
  have F14 := fun_mk (st := (topS 70)) l14 cc14 (He.keep_ok (c.fact 29 (f := .keep "_law_bad_ports") rfl))
  obtain ⟨_, _, _, _, _, _, _, _, _, l15, cc15⟩ := c.def_ 15 (d := d_is_port) rfl
  have F15 := fun_mk (st := (topS 26)) l15 cc15 (He.keep_ok (c.fact 31 (f := .keep "is_port") rfl))
  obtain ⟨_, _, _, _, _, _, _, _, _, l16, cc16⟩ := c.def_ 16 (d := d_is_right) rfl
  have F16 := fun_mk (st := (topS 30)) l16 cc16 (He.keep_ok (c.fact 33 (f := .keep "is_right") rfl))
  obtain ⟨_, _, _, _, _, _, _, _, _, l17, cc17⟩ := c.def_ 17 (d := d_are_weeks) rfl
  have F17 := fun_mk (st := (topS 34)) l17 cc17 (He.keep_ok (c.fact 35 (f := .keep "are_weeks") rfl))
  obtain ⟨_, _, _, _, _, _, _, _, _, l18, cc18⟩ := c.def_ 18 (d := d_is_lent) rfl
  have F18 := fun_mk (st := (topS 35)) l18 cc18 (He.keep_ok (c.fact 37 (f := .keep "is_lent") rfl))
  obtain ⟨_, _, _, _, _, _, _, _, _, l19, cc19⟩ := c.def_ 19 (d := d_all_uses) rfl
  have F19 := fun_mk (st := (topS 39)) l19 cc19 (He.keep_ok (c.fact 39 (f := .keep "all_uses") rfl))
  obtain ⟨_, _, _, _, _, _, _, _, _, l20, cc20⟩ := c.def_ 20 (d := d_are_wishes) rfl
  have F20 := fun_mk (st := (topS 42)) l20 cc20 (He.keep_ok (c.fact 41 (f := .keep "are_wishes") rfl))
  obtain ⟨_, _, _, _, _, _, _, _, _, l21, cc21⟩ := c.def_ 21 (d := d_text_of_log) rfl
  have F21 := fun_mk (st := (topS 58)) l21 cc21 (He.keep_ok (c.fact 43 (f := .keep "text_of_log") rfl))
  obtain ⟨_, _, _, _, _, _, _, _, _, l22, cc22⟩ := c.def_ 22 (d := d_law_pick) rfl
  have F22 := fun_mk (st := (topS 63)) l22 cc22 (He.keep_ok (c.fact 45 (f := .keep "_law_pick") rfl))
  obtain ⟨_, _, _, _, _, _, _, _, _, l23, cc23⟩ := c.def_ 23 (d := d_law_port) rfl
  have F23 := fun_mk (st := (topS 67)) l23 cc23 (He.keep_ok (c.fact 47 (f := .keep "_law_port") rfl))
  obtain ⟨_, _, _, _, _, _, _, _, _, l24, cc24⟩ := c.def_ 24 (d := d_look_port) rfl
  have F24 := fun_mk (st := (topS 27)) l24 cc24 (He.keep_ok (c.fact 49 (f := .keep "look_port") rfl))
  obtain ⟨_, _, _, _, _, _, _, _, _, l25, cc25⟩ := c.def_ 25 (d := d_are_good) rfl
  have F25 := fun_mk (st := (topS 31)) l25 cc25 (He.keep_ok (c.fact 51 (f := .keep "are_good") rfl))
  obtain ⟨_, _, _, _, _, _, _, _, _, l26, cc26⟩ := c.def_ 26 (d := d_is_good_log) rfl
  have F26 := fun_mk (st := (topS 36)) l26 cc26 (He.keep_ok (c.fact 53 (f := .keep "is_good_log") rfl))
  obtain ⟨_, _, _, _, _, _, _, _, _, l27, cc27⟩ := c.def_ 27 (d := d_is_ask) rfl
  have F27 := fun_mk (st := (topS 43)) l27 cc27 (He.keep_ok (c.fact 55 (f := .keep "is_ask") rfl))
  obtain ⟨_, _, _, _, _, _, _, _, _, l28, cc28⟩ := c.def_ 28 (d := d_law_rights) rfl
  have F28 := fun_mk (st := (topS 68)) l28 cc28 (He.keep_ok (c.fact 57 (f := .keep "_law_rights") rfl))
  obtain ⟨_, _, _, _, _, _, _, _, _, l29, cc29⟩ := c.def_ 29 (d := d_need) rfl
  have F29 := fun_mk (st := (topS 29)) l29 cc29 (He.keep_ok (c.fact 59 (f := .keep "need") rfl))
  obtain ⟨_, _, _, _, _, _, _, _, _, l30, cc30⟩ := c.def_ 30 (d := d_are_rights) rfl
  have F30 := fun_mk (st := (topS 32)) l30 cc30 (He.keep_ok (c.fact 61 (f := .keep "are_rights") rfl))
  obtain ⟨_, _, _, _, _, _, _, _, _, l31, cc31⟩ := c.def_ 31 (d := d_look_rights) rfl
  have F31 := fun_mk (st := (topS 33)) l31 cc31 (He.keep_ok (c.fact 63 (f := .keep "look_rights") rfl))
  obtain ⟨_, _, _, _, _, _, _, _, _, l32, cc32⟩ := c.def_ 32 (d := d_next_house) rfl
  have F32 := fun_mk (st := (topS 47)) l32 cc32 (He.keep_ok (c.fact 65 (f := .keep "next_house") rfl))
  obtain ⟨_, _, _, _, _, _, _, _, _, l33, cc33⟩ := c.def_ 33 (d := d_port_text) rfl
  have F33 := fun_mk (st := (topS 54)) l33 cc33 (He.keep_ok (c.fact 67 (f := .keep "port_text") rfl))
  obtain ⟨_, _, _, _, _, _, _, _, _, l34, cc34⟩ := c.def_ 34 (d := d_look_log) rfl
  have F34 := fun_mk (st := (topS 37)) l34 cc34 (He.keep_ok (c.fact 69 (f := .keep "look_log") rfl))
  obtain ⟨_, _, _, _, _, _, _, _, _, l35, cc35⟩ := c.def_ 35 (d := d_look_asks) rfl
  have F35 := fun_mk (st := (topS 44)) l35 cc35 (He.keep_ok (c.fact 71 (f := .keep "look_asks") rfl))
  obtain ⟨_, _, _, _, _, _, _, _, _, l36, cc36⟩ := c.def_ 36 (d := d_free_slots) rfl
  have F36 := fun_mk (st := (topS 46)) l36 cc36 (He.keep_ok (c.fact 73 (f := .keep "free_slots") rfl))
  obtain ⟨_, _, _, _, _, _, _, _, _, l37, cc37⟩ := c.def_ 37 (d := d_all_deals) rfl
  have F37 := fun_mk (st := (topS 48)) l37 cc37 (He.keep_ok (c.fact 75 (f := .keep "all_deals") rfl))
  obtain ⟨_, _, _, _, _, _, _, _, _, l38, cc38⟩ := c.def_ 38 (d := d_rights_text) rfl
  have F38 := fun_mk (st := (topS 56)) l38 cc38 (He.keep_ok (c.fact 77 (f := .keep "rights_text") rfl))
  obtain ⟨_, _, _, _, _, _, _, _, _, l39, cc39⟩ := c.def_ 39 (d := d_Desk_init) rfl
  have F39 := fun_mk (st := (inClass (topS 51) 0)) l39 cc39 (He.meth_ok (c.fact 78 (f := .meth "Desk" "__init__") rfl)).kp
  obtain ⟨_, _, _, _, _, _, _, _, _, l40, cc40⟩ := c.def_ 40 (d := d_uses) rfl
  have F40 := fun_mk (st := (topS 40)) l40 cc40 (He.keep_ok (c.fact 80 (f := .keep "uses") rfl))
  obtain ⟨_, _, _, _, _, _, _, _, _, l41, cc41⟩ := c.def_ 41 (d := d_deals) rfl
  have F41 := fun_mk (st := (topS 49)) l41 cc41 (He.keep_ok (c.fact 82 (f := .keep "deals") rfl))
  obtain ⟨_, _, _, _, _, _, _, _, _, l42, cc42⟩ := c.def_ 42 (d := d_log_text) rfl
  have F42 := fun_mk (st := (topS 59)) l42 cc42 (He.keep_ok (c.fact 84 (f := .keep "log_text") rfl))
  obtain ⟨_, _, _, _, _, _, _, _, _, l43, cc43⟩ := c.def_ 43 (d := d_law_one) rfl
  have F43 := fun_mk (st := (topS 69)) l43 cc43 (He.keep_ok (c.fact 86 (f := .keep "_law_one") rfl))
  obtain ⟨_, _, _, _, _, _, _, _, _, l44, cc44⟩ := c.def_ 44 (d := d_law_told) rfl
  have F44 := fun_mk (st := (topS 64)) l44 cc44 (He.keep_ok (c.fact 88 (f := .keep "_law_told") rfl))
  obtain ⟨_, _, _, _, _, _, _, _, _, l45, cc45⟩ := c.def_ 45 (d := d_law) rfl
  have F45 := fun_mk (st := (topS 71)) l45 cc45 (He.keep_ok (c.fact 90 (f := .keep "law") rfl))
  have e := hfa.symm.trans (He.glo_ok X G (c.fact 89 (f := .glo "law") rfl))
  cases e
  refine ⟨_, fun s v => bl_law F45 s v, fun base => ?_⟩
  have cl_Desk : Cls K (caOf K nms 24) := He.cls_ok (c.fact 91 (f := .cls "Desk") rfl)
  have na_Desk_done : NoAttr K (caOf K nms 24) "done" := He.noat_ok (c.fact 93 (f := .noat "Desk" "done") rfl)
  have na_Desk_elder : NoAttr K (caOf K nms 24) "elder" := He.noat_ok (c.fact 94 (f := .noat "Desk" "elder") rfl)
  have na_Desk_now : NoAttr K (caOf K nms 24) "now" := He.noat_ok (c.fact 95 (f := .noat "Desk" "now") rfl)
  have na_Desk_port : NoAttr K (caOf K nms 24) "port" := He.noat_ok (c.fact 96 (f := .noat "Desk" "port") rfl)
  have na_Desk_rights : NoAttr K (caOf K nms 24) "rights" := He.noat_ok (c.fact 97 (f := .noat "Desk" "rights") rfl)
  have na_Desk_undone : NoAttr K (caOf K nms 24) "undone" := He.noat_ok (c.fact 98 (f := .noat "Desk" "undone") rfl)
  have c_law_bad_ports : Cal P w K mg base ⟨K, (caOf K nms), []⟩ 1 "_law_bad_ports" F_law_bad_ports := ⟨_, _, _, fo_law_bad_ports B   F14, He.glo_ok X G (c.fact 28 (f := .glo "_law_bad_ports") rfl), F14.kp, bi_law_bad_ports F14⟩
  have c_law_draw : Cal P w K mg base ⟨K, (caOf K nms), []⟩ 1 "_law_draw" F_law_draw := ⟨_, _, _, fo_law_draw B   F11, He.glo_ok X G (c.fact 22 (f := .glo "_law_draw") rfl), F11.kp, bi_law_draw F11⟩
  have c_law_pick : Cal P w K mg base ⟨K, (caOf K nms), []⟩ 2 "_law_pick" F_law_pick := ⟨_, _, _, fo_law_pick B c_law_draw  F22, He.glo_ok X G (c.fact 44 (f := .glo "_law_pick") rfl), F22.kp, bi_law_pick F22⟩
  have c_law_port : Cal P w K mg base ⟨K, (caOf K nms), []⟩ 2 "_law_port" F_law_port := ⟨_, _, _, fo_law_port B c_law_draw  F23, He.glo_ok X G (c.fact 46 (f := .glo "_law_port") rfl), F23.kp, bi_law_port F23⟩
  have c_law_refused : Cal P w K mg base ⟨K, (caOf K nms), []⟩ 1 "_law_refused" F_law_refused := ⟨_, _, _, fo_law_refused B   F13, He.glo_ok X G (c.fact 26 (f := .glo "_law_refused") rfl), F13.kp, bi_law_refused F13⟩
  have c_law_rights : Cal P w K mg base ⟨K, (caOf K nms), []⟩ 3 "_law_rights" F_law_rights := ⟨_, _, _, fo_law_rights B c_law_draw c_law_pick  F28, He.glo_ok X G (c.fact 56 (f := .glo "_law_rights") rfl), F28.kp, bi_law_rights F28⟩
  have c_all_deals : Cal P w K mg base ⟨K, (caOf K nms), []⟩ 5 "all_deals" F_all_deals := ⟨_, _, _, fo_all_deals B   F37, He.glo_ok X G (c.fact 74 (f := .glo "all_deals") rfl), F37.kp, bi_all_deals F37⟩
  have c_do_rise : Cal P w K mg base ⟨K, (caOf K nms), []⟩ 1 "do_rise" F_do_rise := ⟨_, _, _, fo_do_rise B   F3, He.glo_ok X G (c.fact 6 (f := .glo "do_rise") rfl), F3.kp, bi_do_rise F3⟩
  have c_is_ask : Cal P w K mg base ⟨K, (caOf K nms), []⟩ 3 "is_ask" F_is_ask := ⟨_, _, _, fo_is_ask B   F27, He.glo_ok X G (c.fact 54 (f := .glo "is_ask") rfl), F27.kp, bi_is_ask F27⟩
  have c_is_house : Cal P w K mg base ⟨K, (caOf K nms), []⟩ 1 "is_house" F_is_house := ⟨_, _, _, fo_is_house B  (He.str_ok X G (c.fact 112 rfl)) F2, He.glo_ok X G (c.fact 4 (f := .glo "is_house") rfl), F2.kp, bi_is_house F2⟩
  have c_is_whole : Cal P w K mg base ⟨K, (caOf K nms), []⟩ 1 "is_whole" F_is_whole := ⟨_, _, _, fo_is_whole B   F1, He.glo_ok X G (c.fact 2 (f := .glo "is_whole") rfl), F1.kp, bi_is_whole F1⟩
  have c_is_right : Cal P w K mg base ⟨K, (caOf K nms), []⟩ 2 "is_right" F_is_right := ⟨_, _, _, fo_is_right B c_is_house c_is_whole  F16, He.glo_ok X G (c.fact 32 (f := .glo "is_right") rfl), F16.kp, bi_is_right F16⟩
  have c_are_good : Cal P w K mg base ⟨K, (caOf K nms), []⟩ 3 "are_good" F_are_good := ⟨_, _, _, fo_are_good B c_is_right  F25, He.glo_ok X G (c.fact 50 (f := .glo "are_good") rfl), F25.kp, bi_are_good F25⟩
  have c_is_port : Cal P w K mg base ⟨K, (caOf K nms), []⟩ 2 "is_port" F_is_port := ⟨_, _, _, fo_is_port B c_is_whole  F15, He.glo_ok X G (c.fact 30 (f := .glo "is_port") rfl), F15.kp, bi_is_port F15⟩
  have c_look_port : Cal P w K mg base ⟨K, (caOf K nms), []⟩ 3 "look_port" F_look_port := ⟨_, _, _, fo_look_port B c_is_port XF  F24, He.glo_ok X G (c.fact 48 (f := .glo "look_port") rfl), F24.kp, bi_look_port F24⟩
  have c_look_rights : Cal P w K mg base ⟨K, (caOf K nms), []⟩ 4 "look_rights" F_look_rights := ⟨_, _, _, fo_look_rights B c_are_good c_look_port XF  F31, He.glo_ok X G (c.fact 62 (f := .glo "look_rights") rfl), F31.kp, bi_look_rights F31⟩
  have c_look_asks : Cal P w K mg base ⟨K, (caOf K nms), []⟩ 5 "look_asks" F_look_asks := ⟨_, _, _, fo_look_asks B c_do_rise c_is_ask c_look_rights XF  F35, He.glo_ok X G (c.fact 70 (f := .glo "look_asks") rfl), F35.kp, bi_look_asks F35⟩
  have c_deals : Cal P w K mg base ⟨K, (caOf K nms), []⟩ 6 "deals" F_deals := ⟨_, _, _, fo_deals B c_all_deals c_look_asks  F41, He.glo_ok X G (c.fact 81 (f := .glo "deals") rfl), F41.kp, bi_deals F41⟩
  have c_is_good_log : Cal P w K mg base ⟨K, (caOf K nms), []⟩ 3 "is_good_log" F_is_good_log := ⟨_, _, _, fo_is_good_log B   F26, He.glo_ok X G (c.fact 52 (f := .glo "is_good_log") rfl), F26.kp, bi_is_good_log F26⟩
  have c_look_log : Cal P w K mg base ⟨K, (caOf K nms), []⟩ 5 "look_log" F_look_log := ⟨_, _, _, fo_look_log B c_is_good_log c_look_rights XF  F34, He.glo_ok X G (c.fact 68 (f := .glo "look_log") rfl), F34.kp, bi_look_log F34⟩
  have c_text_of_log : Cal P w K mg base ⟨K, (caOf K nms), []⟩ 2 "text_of_log" F_text_of_log := ⟨_, _, _, fo_text_of_log B   F21, He.glo_ok X G (c.fact 42 (f := .glo "text_of_log") rfl), F21.kp, bi_text_of_log F21⟩
  have c_log_text : Cal P w K mg base ⟨K, (caOf K nms), []⟩ 6 "log_text" F_log_text := ⟨_, _, _, fo_log_text B c_look_log c_text_of_log  F42, He.glo_ok X G (c.fact 83 (f := .glo "log_text") rfl), F42.kp, bi_log_text F42⟩
  have c_all_uses : Cal P w K mg base ⟨K, (caOf K nms), []⟩ 2 "all_uses" F_all_uses := ⟨_, _, _, fo_all_uses B   F19, He.glo_ok X G (c.fact 38 (f := .glo "all_uses") rfl), F19.kp, bi_all_uses F19⟩
  have c_uses : Cal P w K mg base ⟨K, (caOf K nms), []⟩ 6 "uses" F_uses := ⟨_, _, _, fo_uses B c_all_uses c_look_log  F40, He.glo_ok X G (c.fact 79 (f := .glo "uses") rfl), F40.kp, bi_uses F40⟩
  have c_are_weeks : Cal P w K mg base ⟨K, (caOf K nms), []⟩ 2 "are_weeks" F_are_weeks := ⟨_, _, _, fo_are_weeks B c_do_rise c_is_whole  F17, He.glo_ok X G (c.fact 34 (f := .glo "are_weeks") rfl), F17.kp, bi_are_weeks F17⟩
  have ci_Desk : CalI P w K mg base ⟨K, (caOf K nms), []⟩ 5 "Desk" 24 F_Desk_init := ⟨_, _, _, fo_Desk_init B c_are_weeks c_look_rights cl_Desk na_Desk_done na_Desk_elder na_Desk_now na_Desk_port na_Desk_rights na_Desk_undone XF  F39, XF.glo 24 _ rfl, He.mkr_ok (c.fact 92 (f := .mkr "Desk") rfl), bi_Desk_init F39⟩
  have c_need_of : Cal P w K mg base ⟨K, (caOf K nms), []⟩ 1 "need_of" F_need_of := ⟨_, _, _, fo_need_of B   F4, He.glo_ok X G (c.fact 8 (f := .glo "need_of") rfl), F4.kp, bi_need_of F4⟩
  have c_need : Cal P w K mg base ⟨K, (caOf K nms), []⟩ 4 "need" F_need := ⟨_, _, _, fo_need B c_look_port c_need_of  F29, He.glo_ok X G (c.fact 58 (f := .glo "need") rfl), F29.kp, bi_need F29⟩
  have c_are_rights : Cal P w K mg base ⟨K, (caOf K nms), []⟩ 4 "are_rights" F_are_rights := ⟨_, _, _, fo_are_rights B c_are_good c_look_port  F30, He.glo_ok X G (c.fact 60 (f := .glo "are_rights") rfl), F30.kp, bi_are_rights F30⟩
  have c_all_free : Cal P w K mg base ⟨K, (caOf K nms), []⟩ 1 "all_free" F_all_free := ⟨_, _, _, fo_all_free B   F6, He.glo_ok X G (c.fact 12 (f := .glo "all_free") rfl), F6.kp, bi_all_free F6⟩
  have c_free_slots : Cal P w K mg base ⟨K, (caOf K nms), []⟩ 5 "free_slots" F_free_slots := ⟨_, _, _, fo_free_slots B c_all_free c_look_rights  F36, He.glo_ok X G (c.fact 72 (f := .glo "free_slots") rfl), F36.kp, bi_free_slots F36⟩
  have c_text_of_port : Cal P w K mg base ⟨K, (caOf K nms), []⟩ 1 "text_of_port" F_text_of_port := ⟨_, _, _, fo_text_of_port B   F7, He.glo_ok X G (c.fact 14 (f := .glo "text_of_port") rfl), F7.kp, bi_text_of_port F7⟩
  have c_port_text : Cal P w K mg base ⟨K, (caOf K nms), []⟩ 4 "port_text" F_port_text := ⟨_, _, _, fo_port_text B c_look_port c_text_of_port  F33, He.glo_ok X G (c.fact 66 (f := .glo "port_text") rfl), F33.kp, bi_port_text F33⟩
  have c_text_of_rights : Cal P w K mg base ⟨K, (caOf K nms), []⟩ 1 "text_of_rights" F_text_of_rights := ⟨_, _, _, fo_text_of_rights B   F8, He.glo_ok X G (c.fact 16 (f := .glo "text_of_rights") rfl), F8.kp, bi_text_of_rights F8⟩
  have c_rights_text : Cal P w K mg base ⟨K, (caOf K nms), []⟩ 5 "rights_text" F_rights_text := ⟨_, _, _, fo_rights_text B c_look_rights c_text_of_rights  F38, He.glo_ok X G (c.fact 76 (f := .glo "rights_text") rfl), F38.kp, bi_rights_text F38⟩
  have TD : Dsp P w K mg base ⟨K, (caOf K nms), []⟩ 5 tblD := by
    refine ⟨fun q F h => ?_⟩
    unfold tblD at h
    split at h
    · rename_i e; cases e; cases h; exact ⟨_, _, (fo_need B c_look_port c_need_of  F29).mono (by decide), F29.kp, bi_need F29⟩
    split at h
    · rename_i e; cases e; cases h; exact ⟨_, _, (fo_are_rights B c_are_good c_look_port  F30).mono (by decide), F30.kp, bi_are_rights F30⟩
    split at h
    · rename_i e; cases e; cases h; exact ⟨_, _, (fo_free_slots B c_all_free c_look_rights  F36).mono (by decide), F36.kp, bi_free_slots F36⟩
    split at h
    · rename_i e; cases e; cases h; exact ⟨_, _, (fo_port_text B c_look_port c_text_of_port  F33).mono (by decide), F33.kp, bi_port_text F33⟩
    split at h
    · rename_i e; cases e; cases h; exact ⟨_, _, (fo_rights_text B c_look_rights c_text_of_rights  F38).mono (by decide), F38.kp, bi_rights_text F38⟩
    · cases h
  have c_law_one : Cal P w K mg base ⟨K, (caOf K nms), []⟩ 7 "_law_one" F_law_one := ⟨_, _, _, fo_law_one B c_deals c_log_text c_uses ci_Desk XF TD  F43, He.glo_ok X G (c.fact 85 (f := .glo "_law_one") rfl), F43.kp, bi_law_one F43⟩
  have c_law_word : Cal P w K mg base ⟨K, (caOf K nms), []⟩ 1 "_law_word" F_law_word := ⟨_, _, _, fo_law_word B  XF  F12, He.glo_ok X G (c.fact 24 (f := .glo "_law_word") rfl), F12.kp, bi_law_word F12⟩
  have c_law_told : Cal P w K mg base ⟨K, (caOf K nms), []⟩ 8 "_law_told" F_law_told := ⟨_, _, _, fo_law_told B c_law_one c_law_word XF  F44, He.glo_ok X G (c.fact 87 (f := .glo "_law_told") rfl), F44.kp, bi_law_told F44⟩
  have c_law_town : Cal P w K mg base ⟨K, (caOf K nms), []⟩ 1 "_law_town" F_law_town := ⟨_, _, _, fo_law_town B   F10, He.glo_ok X G (c.fact 20 (f := .glo "_law_town") rfl), F10.kp, bi_law_town F10⟩
  exact fo_law B c_are_rights c_is_port c_law_bad_ports c_law_pick c_law_port c_law_refused c_law_rights c_law_told c_law_town  F45
end Qk01
open PySem PySem.W PySem.Calls PyProof.Rows
theorem Qk01.holds_of (hF : ∀ ns : List Int, ns.length ≤ 63 → ∃ S, Qk01.F_law [.frz (ns.map .int)] [] = .ok (.bl true) S) : PySem.Challenge.rw_hoursheld_k01_no_ports.Holds := by
  w_on; o_law
  refine HandSHeadRun.head_any (r := OpenLaw.row PySem.Challenge.rw_hoursheld_k01_no_ports) (q := view (OpenLaw.row PySem.Challenge.rw_hoursheld_k01_no_ports).prog [71]) (H := Qk01.hk) (ob := Qk01.ob) (M := 30000) (loose := Qk01.lo) (d := HandSHeadRun.topDef (OpenLaw.row PySem.Challenge.rw_hoursheld_k01_no_ports).prog 71) (kwd := []) Qk01.ob_eq
    (by kernel_rfl) (fun s => by kernel_rfl) Qk01.run (by kernel_rfl) (by kernel_rfl) (by kernel_rfl) (by rfl) (by first | assumption | decide +kernel) (by decide +kernel) ⟨rfl, rfl, rfl, rfl, rfl, by decide +kernel⟩ ?hw ?hc
  case hw => w_witness2
  case hc =>
    refine Dn.walk_ofW (l := PySem.Challenge.rw_hoursheld_k01_no_ports) (n := 63) (k := 9) (x := "script") rfl (by decide) (by kernel_rfl) ⟨rfl, by decide, by decide⟩ ?F
    intro w mg fa h Y G hmg0
    obtain ⟨K, KX, c, xb⟩ := Y
    have hmg : mg ("law" : PySem.Str) = some (.ref fa) := by
      have e : (HandSHeadRun.topDef (OpenLaw.row PySem.Challenge.rw_hoursheld_k01_no_ports).prog 71).name = ("law" : PySem.Str) := by kernel_rfl
      rw [← e]
      exact hmg0
    obtain ⟨fd, hb, hFn⟩ := Qk01.facts (P := (PySem.Challenge.rw_hoursheld_k01_no_ports).prog) (w := w) KX G hmg c xb
    exact ⟨K, fd, _, KX, hb, fun H a ns hl ho hS => Dn.law_end (G := ⟨K, Dn.caOf K Qk01.nms, []⟩) hF H a ns hl ho hS, fun base _ _ => hFn base⟩

theorem PySem.Challenge.cw_hoursheld_k01_no_ports_holds : PySem.Challenge.rw_hoursheld_k01_no_ports.Holds :=
  Qk01.holds_of fun ns h => Qk01.law_true h
