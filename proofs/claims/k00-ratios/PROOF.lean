import PyProof.Rows.All
import Wide.All
import OpenK.AllK
import Wide.FinOn
import HandS.ForMost
import HandS.Gcd
import HandS.Wide
import HandS.IsInst
import HandS.CallSlots
import HandS.Exc
import HandS.ExcOwn
import HandS.ExcInit
import HandS.ExcField
import HandS.ExcIs
import HandS.WordsExc
import HandS.TryOnly
import HandS.Flow
import HandS.Defaults
import HandS.HotCalls
import KE.KStateDown
import HandS.Head0
import HandS.Head1
import HandS.Head2
import HandS.Head3
import HandS.HeadEnd
import HandS.HeadHook1
import HandS.HeadHook2
import PySem.Challenge.RW_ledbymarks_k00_ratios
set_option Elab.async false
set_option linter.all false
set_option maxRecDepth 100000
set_option maxHeartbeats 2000000
/-! A layer of our own over the hand layer: what a def does, told by data alone (no heap in sight). Part a: data, what stands for it, the cut heap. -/
namespace DL
open PySem PySem.Spec PyProof.Rows L2
inductive D where
  | non | bl (b : Bool) | int (i : Int) | str (x : Str)
  /-- a list (true) or a tuple (false) -/
  | sq (l : Bool) (ds : List D)
  | dic (kvs : List (Key × D))
  | ins (C : Addr) (fs : List (Str × D))
  | ob (a : Addr)
  /-- a caught error at a, its fields at dd -/
  | exc (a dd : Addr) (fs : List (Str × D))
  /-- the script -/
  | scr (ns : List Int)
abbrev Ex := L2.Same
inductive Is (K : PySem.W.Frag) (H : Hp) : V → D → Prop
  | non : Is K H .non .non
  | bl (b : Bool) : Is K H (.bl b) (.bl b)
  | int (i : Int) : Is K H (.int i) (.int i)
  | str (x : Str) : Is K H (.str x) (.str x)
  | lst {a : Addr} {xs : List V} {ds : List D} : Rd H a (.lst xs) → xs.length = ds.length → (∀ (i : Nat) x d, xs[i]? = some x → ds[i]? = some d → Is K H x d) → Is K H (.ref a) (.sq true ds)
  | tup {a : Addr} {xs : List V} {ds : List D} : SqT K H a xs → xs.length = ds.length → (∀ (i : Nat) x d, xs[i]? = some x → ds[i]? = some d → Is K H x d) → Is K H (.ref a) (.sq false ds)
  | dic {a : Addr} {kvs : List (Key × V)} {kds : List (Key × D)} : Rd H a (.dK kvs) → kvs.map (·.1) = kds.map (·.1) → (∀ (i : Nat) x d, kvs[i]? = some x → kds[i]? = some d → Is K H x.2 d.2) → Is K H (.ref a) (.dic kds)
  | ins {a C dx : Addr} {fs : List (Str × V)} {gs : List (Str × D)} : H a = some (.ins C dx fs) → fs.map (·.1) = gs.map (·.1) → (∀ (i : Nat) x d, fs[i]? = some x → gs[i]? = some d → Is K H x.2 d.2) → Is K H (.ref a) (.ins C gs)
  | ob (a : Addr) : Is K H (.ref a) (.ob a)
  | scr {a : Addr} {ns : List Int} : SqL K H a (ns.map V.int) → Is K H (.ref a) (.scr ns)
  | exc {a dd : Addr} {fs : List (Str × V)} {gs : List (Str × D)} : H dd = some (.xd fs) → fs.map (·.1) = gs.map (·.1) → (∀ (i : Nat) x d, fs[i]? = some x → gs[i]? = some d → Is K H x.2 d.2) → Is K H (.ref a) (.exc a dd gs)
def IsL (K : PySem.W.Frag) (H : Hp) (xs : List V) (ds : List D) : Prop := xs.length = ds.length ∧ ∀ (i : Nat) x d, xs[i]? = some x → ds[i]? = some d → Is K H x d
def IsK (K : PySem.W.Frag) (H : Hp) (xs : List (Key × V)) (ds : List (Key × D)) : Prop := xs.map (·.1) = ds.map (·.1) ∧ ∀ (i : Nat) x d, xs[i]? = some x → ds[i]? = some d → Is K H x.2 d.2
def IsF (K : PySem.W.Frag) (H : Hp) (xs : List (Str × V)) (ds : List (Str × D)) : Prop := xs.map (·.1) = ds.map (·.1) ∧ ∀ (i : Nat) x d, xs[i]? = some x → ds[i]? = some d → Is K H x.2 d.2
section
variable {K : PySem.W.Frag} {H H' : Hp} {v : V} {d : D} {xs : List V} {ds : List D}
theorem Ex.rd {a : Addr} {u : HO} (e : Ex H H') (h : Rd H a u) : Rd H' a u := by
  rcases h with h | ⟨o, h⟩
  · exact Or.inl (e a _ h)
  · exact Or.inr ⟨o, e a _ h⟩
theorem Ex.sqL {a : Addr} {xs : List V} (e : Ex H H') (h : SqL K H a xs) : SqL K H' a xs := by
  rcases h with h | h
  · exact Or.inl (Ex.rd e h)
  · exact Or.inr h
theorem Ex.sqT {a : Addr} {xs : List V} (e : Ex H H') (h : SqT K H a xs) : SqT K H' a xs := by
  rcases h with h | h
  · exact Or.inl (Ex.rd e h)
  · exact Or.inr h
theorem Ex.new {p : Addr} {o : HO} (h : H p = none) : Ex H (upd H p o) := fun a u e => by
  rw [upd_ne (ne_of_none e h)]
  exact e
theorem Is.mono (e : Ex H H') (h : Is K H v d) : Is K H' v d := by
  induction h with
  | non => exact .non
  | bl b => exact .bl b
  | int i => exact .int i
  | str x => exact .str x
  | lst a b _ ih => exact .lst (Ex.rd e a) b ih
  | scr a => exact .scr (Ex.sqL e a)
  | tup a b _ ih => exact .tup (Ex.sqT e a) b ih
  | dic a b _ ih => exact .dic (Ex.rd e a) b ih
  | ins a b _ ih => exact .ins (e _ _ a) b ih
  | ob a => exact .ob a
  | exc a b _ ih => exact .exc (e _ _ a) b ih
theorem IsL.mono (e : Ex H H') (h : IsL K H xs ds) : IsL K H' xs ds := ⟨h.1, fun i x d a b => (h.2 i x d a b).mono e⟩
theorem IsK.mono {xs : List (Key × V)} {ds : List (Key × D)} (e : Ex H H') (h : IsK K H xs ds) : IsK K H' xs ds := ⟨h.1, fun i x d a b => (h.2 i x d a b).mono e⟩
theorem IsF.mono {xs : List (Str × V)} {ds : List (Str × D)} (e : Ex H H') (h : IsF K H xs ds) : IsF K H' xs ds := ⟨h.1, fun i x d a b => (h.2 i x d a b).mono e⟩
theorem IsL.nil : IsL K H [] [] := ⟨rfl, fun i x d a _ => by cases a⟩
theorem IsL.cons (h : Is K H v d) (r : IsL K H xs ds) : IsL K H (v :: xs) (d :: ds) := ⟨congrArg (· + 1) r.1, fun i x d' a b => by
  cases i with
  | zero => cases a; cases b; exact h
  | succ i => exact r.2 i x d' a b⟩
theorem IsL.head {x : V} (h : IsL K H (x :: xs) (d :: ds)) : Is K H x d := h.2 0 x d rfl rfl
theorem IsL.tail {x : V} (h : IsL K H (x :: xs) (d :: ds)) : IsL K H xs ds := ⟨Nat.succ.inj h.1, fun i x d a b => h.2 (i + 1) x d a b⟩
theorem IsL.inv_nil (h : IsL K H xs []) : xs = [] := List.length_eq_zero_iff.mp h.1
theorem IsL.inv_cons (h : IsL K H xs (d :: ds)) : ∃ x r, xs = x :: r ∧ Is K H x d ∧ IsL K H r ds := by
  cases xs with
  | nil => cases h.1
  | cons x r => exact ⟨x, r, rfl, h.head, h.tail⟩
theorem IsL.get {i : Nat} (h : IsL K H xs ds) (e : ds[i]? = some d) : ∃ x, xs[i]? = some x ∧ Is K H x d := by
  have hi : i < xs.length := by rw [h.1]; exact (List.getElem?_eq_some_iff.mp e).1
  exact ⟨xs[i], List.getElem?_eq_getElem hi, h.2 i _ d (List.getElem?_eq_getElem hi) e⟩
theorem IsL.getV {i : Nat} {x : V} (h : IsL K H xs ds) (e : xs[i]? = some x) : ∃ d, ds[i]? = some d ∧ Is K H x d := by
  have hi : i < ds.length := by rw [← h.1]; exact (List.getElem?_eq_some_iff.mp e).1
  exact ⟨ds[i], List.getElem?_eq_getElem hi, h.2 i x _ e (List.getElem?_eq_getElem hi)⟩
theorem IsL.snoc (h : IsL K H xs ds) (r : Is K H v d) : IsL K H (xs ++ [v]) (ds ++ [d]) := ⟨by simp [h.1], fun i x d' a b => by
  by_cases hi : i < xs.length
  · rw [List.getElem?_append_left hi] at a
    rw [List.getElem?_append_left (by rw [← h.1]; exact hi)] at b
    exact h.2 i x d' a b
  · rw [List.getElem?_append_right (Nat.le_of_not_lt hi)] at a
    rw [List.getElem?_append_right (by rw [← h.1]; exact Nat.le_of_not_lt hi), ← h.1] at b
    cases e : i - xs.length with
    | zero => rw [e] at a b; cases a; cases b; exact r
    | succ n => rw [e] at a; cases a⟩
theorem IsL.app {ys : List V} {es : List D} (h : IsL K H xs ds) (r : IsL K H ys es) : IsL K H (xs ++ ys) (ds ++ es) := ⟨by simp [h.1, r.1], fun i x d' a b => by
  by_cases hi : i < xs.length
  · rw [List.getElem?_append_left hi] at a
    rw [List.getElem?_append_left (by rw [← h.1]; exact hi)] at b
    exact h.2 i x d' a b
  · rw [List.getElem?_append_right (Nat.le_of_not_lt hi)] at a
    rw [List.getElem?_append_right (by rw [← h.1]; exact Nat.le_of_not_lt hi), ← h.1] at b
    exact r.2 _ x d' a b⟩
theorem IsL.set {i : Nat} (h : IsL K H xs ds) (r : Is K H v d) : IsL K H (xs.set i v) (ds.set i d) := ⟨by simp [h.1], fun j x d' a b => by
  rw [List.getElem?_set] at a b
  by_cases e : i = j
  · rw [if_pos e] at a b
    split at a
    · split at b
      · cases a; cases b; exact r
      · cases b
    · cases a
  · rw [if_neg e] at a b
    exact h.2 j x d' a b⟩
theorem IsL.of_get (hl : xs.length = ds.length) (h : ∀ (i : Nat) x d, xs[i]? = some x → ds[i]? = some d → Is K H x d) : IsL K H xs ds := ⟨hl, h⟩
theorem IsL.ints (ns : List Int) : IsL K H (ns.map V.int) (ns.map D.int) := ⟨by simp, fun i x d a b => by
  rw [List.getElem?_map] at a b
  cases e : ns[i]? with
  | none => rw [e] at a; cases a
  | some n => rw [e] at a b; cases a; cases b; exact .int n⟩
theorem Is.int_inv {i : Int} (h : Is K H v (.int i)) : v = .int i := by cases h; rfl
theorem Is.bl_inv {i : Bool} (h : Is K H v (.bl i)) : v = .bl i := by cases h; rfl
theorem Is.str_inv {i : Str} (h : Is K H v (.str i)) : v = .str i := by cases h; rfl
theorem Is.non_inv (h : Is K H v .non) : v = .non := by cases h; rfl
theorem Is.lst_inv (h : Is K H v (.sq true ds)) : ∃ a xs, v = .ref a ∧ Rd H a (.lst xs) ∧ IsL K H xs ds := by
  cases h with
  | lst a b c => exact ⟨_, _, rfl, a, b, c⟩
theorem Is.tup_inv (h : Is K H v (.sq false ds)) : ∃ a xs, v = .ref a ∧ SqT K H a xs ∧ IsL K H xs ds := by
  cases h with
  | tup a b c => exact ⟨_, _, rfl, a, b, c⟩
theorem Is.sq_inv {l : Bool} (h : Is K H v (.sq l ds)) : ∃ a xs, v = .ref a ∧ (if l then Rd H a (.lst xs) else SqT K H a xs) ∧ IsL K H xs ds := by
  cases l with
  | true => exact h.lst_inv
  | false => exact h.tup_inv
theorem Is.ins_inv {C : Addr} {gs : List (Str × D)} (h : Is K H v (.ins C gs)) : ∃ a dx fs, v = .ref a ∧ H a = some (.ins C dx fs) ∧ IsF K H fs gs := by
  cases h with
  | ins a b c => exact ⟨_, _, _, rfl, a, b, c⟩
theorem Is.dic_inv {kds : List (Key × D)} (h : Is K H v (.dic kds)) : ∃ a kvs, v = .ref a ∧ Rd H a (.dK kvs) ∧ IsK K H kvs kds := by
  cases h with
  | dic a b c => exact ⟨_, _, rfl, a, b, c⟩
theorem Is.scr_inv {ns : List Int} (h : Is K H v (.scr ns)) : ∃ a, v = .ref a ∧ SqL K H a (ns.map V.int) := by
  cases h with
  | scr a => exact ⟨_, rfl, a⟩
theorem Is.mkL {a : Addr} (h : Rd H a (.lst xs)) (r : IsL K H xs ds) : Is K H (.ref a) (.sq true ds) := .lst h r.1 r.2
theorem Is.mkT {a : Addr} (h : SqT K H a xs) (r : IsL K H xs ds) : Is K H (.ref a) (.sq false ds) := .tup h r.1 r.2
/-- no reference in it -/
def Flat : D → Prop
  | .non | .bl _ | .int _ | .str _ => True
  | _ => False
theorem Is.flat (f : Flat d) (h : Is K H v d) : Is K H' v d := by
  cases h with
  | non => exact .non
  | bl b => exact .bl b
  | int i => exact .int i
  | str x => exact .str x
  | _ => exact f.elim
end
/-! ### the cut heap -/
def cut (H : Hp) (ps : List Addr) : Hp := fun a => if a ∈ ps then none else H a
def mrg (H : Hp) (ps : List Addr) (G : Hp) : Hp := fun a => if a ∈ ps then H a else G a
theorem cut_in {H : Hp} {ps : List Addr} {a : Addr} (h : a ∈ ps) : cut H ps a = none := if_pos h
theorem cut_out {H : Hp} {ps : List Addr} {a : Addr} (h : a ∉ ps) : cut H ps a = H a := if_neg h
theorem mrg_in {H G : Hp} {ps : List Addr} {a : Addr} (h : a ∈ ps) : mrg H ps G a = H a := if_pos h
theorem mrg_out {H G : Hp} {ps : List Addr} {a : Addr} (h : a ∉ ps) : mrg H ps G a = G a := if_neg h
theorem cut_ex {H : Hp} {ps : List Addr} : Ex (cut H ps) H := fun a o e => by
  by_cases h : a ∈ ps
  · rw [cut_in h] at e; cases e
  · rw [cut_out h] at e; exact e
theorem cut_some {H : Hp} {ps : List Addr} {a : Addr} {o : HO} (e : cut H ps a = some o) : a ∉ ps ∧ H a = some o := by
  by_cases h : a ∈ ps
  · rw [cut_in h] at e; cases e
  · rw [cut_out h] at e; exact ⟨h, e⟩
theorem cut_sub {H : Hp} {ps qs : List Addr} (h : ∀ a ∈ qs, a ∈ ps) : Ex (cut H ps) (cut H qs) := fun a o e => by
  obtain ⟨n, e⟩ := cut_some e
  rw [cut_out fun z => n (h a z)]
  exact e
theorem cut_mono {H H' : Hp} {ps : List Addr} (h : Ex H H') : Ex (cut H ps) (cut H' ps) := fun a o e => by
  obtain ⟨n, e⟩ := cut_some e
  rw [cut_out n]
  exact h a o e
theorem cut_mrg {H G : Hp} {ps : List Addr} (h : ∀ a ∈ ps, G a = none) : cut (mrg H ps G) ps = G := by
  funext a
  by_cases z : a ∈ ps
  · rw [cut_in z, h a z]
  · rw [cut_out z, mrg_out z]
theorem mrg_ex {H G : Hp} {ps : List Addr} (h : Ex (cut H ps) G) : Ex H (mrg H ps G) := fun a o e => by
  by_cases z : a ∈ ps
  · rw [mrg_in z]; exact e
  · rw [mrg_out z]; exact h a o (by rw [cut_out z]; exact e)
theorem cut_nil {H : Hp} : cut H [] = H := by
  funext a
  exact cut_out (by simp)
/-- what may be owned -/
def OwnAt (H : Hp) (ps : List Addr) (a : Addr) : Prop :=
  (∃ xs, H a = some (.lst xs)) ∨ (∃ kvs, H a = some (.dK kvs)) ∨ (∃ C dx fs, H a = some (.ins C dx fs) ∧ dx ∈ ps) ∨ (∃ x C fs, H a = some (.own x) ∧ x ∈ ps ∧ H x = some (.ins C a fs))
section
variable {X : Cx} {pins : List (Addr × Obj)} {σ σ' : L2.St} {H G : Hp} {s s' : Shared} {ps : List Addr}
theorem OwnAt.some {a : Addr} (h : OwnAt H ps a) : ∃ o, H a = .some o := by
  rcases h with ⟨_, h⟩ | ⟨_, h⟩ | ⟨_, _, _, h, _⟩ | ⟨_, _, _, h, _⟩ <;> exact ⟨_, h⟩
theorem OwnAt.notup {a : Addr} {xs : List V} (h : OwnAt H ps a) : H a ≠ .some (.tup xs) := fun e => by
  rcases h with ⟨_, h⟩ | ⟨_, h⟩ | ⟨_, _, _, h, _⟩ | ⟨_, _, _, h, _⟩ <;> (rw [e] at h; cases h)
theorem OwnAt.nofrz {a : Addr} {o : Obj} {u : HO} (h : OwnAt H ps a) : H a ≠ .some (.frz o u) := fun e => by
  rcases h with ⟨_, h⟩ | ⟨_, h⟩ | ⟨_, _, _, h, _⟩ | ⟨_, _, _, h, _⟩ <;> (rw [e] at h; cases h)
theorem OwnAt.notbl {a : Addr} {ts : Array Value} (h : OwnAt H ps a) : H a ≠ .some (.tbl ts) := fun e => by
  rcases h with ⟨_, h⟩ | ⟨_, h⟩ | ⟨_, _, _, h, _⟩ | ⟨_, _, _, h, _⟩ <;> (rw [e] at h; cases h)
theorem fs_free (I : Inv X pins σ H s) : ∀ b ∈ X.fs, H b = none := fun b hb => by
  obtain ⟨_, o, ho, _⟩ := I.ok.funs.mem hb
  exact I.base.free b o ho (I.ok.frf b hb) fun z => I.ok.exfs b z hb
/-- an owned object's description, and its record, at a heap where the owned records stand -/
theorem own_ok {P : Program} {w : World} {H H' : Hp} {h h' : Heap} {a : Addr} {o : HO} (hp : ∀ a ∈ ps, OwnAt H ps a) (ha : a ∈ ps) (e : H a = some o) (x : ObjOk P w H h a o)
    (k : ∀ b ∈ ps, ∀ u, h.get? b = some u → h'.get? b = some u) (hH : ∀ b ∈ ps, H' b = H b) : ObjOk P w H' h' a o := by
  rcases hp a ha with ⟨xs, q⟩ | ⟨kvs, q⟩ | ⟨C, dx, fs, q, hd⟩ | ⟨y, C, fs, q, hy, hI⟩
  · rw [e] at q; cases q
    obtain ⟨z, its, n, r, g⟩ := x
    exact ⟨z, its, n, r, k a ha _ g⟩
  · rw [e] at q; cases q
    obtain ⟨z, y, vs, r, ob, es, ep, g, c⟩ := x
    exact ⟨z, y, vs, r, ob, es, ep, k a ha _ g, c⟩
  · rw [e] at q; cases q
    obtain ⟨d, z, ne, g, mA, ⟨od, es, ep, e2, c⟩, r⟩ := x
    exact ⟨by rw [hH dx hd]; exact d, z, ne, k a ha _ g, mA, ⟨od, es, ep, k dx hd _ e2, c⟩, r⟩
  · rw [e] at q; cases q
    obtain ⟨ob, g⟩ := x
    exact ⟨ob, k a ha _ g⟩
theorem own_nocell {P : Program} {w : World} {H : Hp} {h : Heap} {a : Addr} {o : HO} {ob : Obj} (ok : HOk P w H h) (hp : ∀ a ∈ ps, OwnAt H ps a) (ha : a ∈ ps) (e : H a = some o) (g : h.get? a = some ob) : ∀ v, ob.data ≠ .cell v := by
  have x := ok a o e
  rcases hp a ha with ⟨xs, q⟩ | ⟨kvs, q⟩ | ⟨C, dx, fs, q, hd⟩ | ⟨y, C, fs, q, hy, hI⟩
  · rw [e] at q; cases q
    obtain ⟨z, its, n, r, g'⟩ := x
    rw [g] at g'; cases g'
    intro v z; cases z
  · rw [e] at q; cases q
    obtain ⟨z, y, vs, r, ob', es, ep, g', c⟩ := x
    rw [g] at g'; cases g'
    intro v z
    have := c.2.1
    rw [z] at this; cases this
  · rw [e] at q; cases q
    obtain ⟨d, z, ne, g', _⟩ := x
    rw [g] at g'; cases g'
    intro v z; cases z
  · rw [e] at q; cases q
    obtain ⟨d, z, ne, g', mA, ⟨od, es, ep, e2, c, _⟩, _⟩ := ok y _ hI
    rw [g] at e2; cases e2
    intro v z
    rw [z] at c; cases c
theorem own_there {P : Program} {w : World} {H : Hp} {h : Heap} {a : Addr} {o : HO} (ok : HOk P w H h) (hp : ∀ a ∈ ps, OwnAt H ps a) (ha : a ∈ ps) (e : H a = some o) : ∃ ob, h.get? a = some ob := by
  have x := ok a o e
  rcases hp a ha with ⟨xs, q⟩ | ⟨kvs, q⟩ | ⟨C, dx, fs, q, hd⟩ | ⟨y, C, fs, q, hy, hI⟩
  · rw [e] at q; cases q
    obtain ⟨z, its, n, r, g'⟩ := x
    exact ⟨_, g'⟩
  · rw [e] at q; cases q
    obtain ⟨z, y, vs, r, ob', es, ep, g', c⟩ := x
    exact ⟨_, g'⟩
  · rw [e] at q; cases q
    obtain ⟨d, z, ne, g', _⟩ := x
    exact ⟨_, g'⟩
  · rw [e] at q; cases q
    exact x
/-- ahead: the owned records are pinned and no more tracked -/
theorem cut_inv (I : Inv X pins σ H s) (hp : ∀ a ∈ ps, OwnAt H ps a) : Inv X (pins ++ pinsAt ps s.heap) σ (cut H ps) s := by
  have noH : ∀ {b}, H b = none → cut H ps b = none := fun {b} e => by
    by_cases z : b ∈ ps
    · exact cut_in z
    · rw [cut_out z]; exact e
  have B := I.base
  refine ⟨I.ok, I.os, I.bare, ⟨B.keep, B.slot, fun b o q n hx => noH (B.free b o q n hx), B.there, fun b xs q => ?_, fun b o u q => ?_, fun b ts q => ?_⟩, I.loc, I.cell, noH I.free, fun x c e => noH (I.freeC x c e), fun p hpn => ?_, fun b u q => ?_, I.len⟩
  · have h := B.tups b xs q
    rw [cut_out fun z => (hp b z).notup h]
    exact h
  · have h := B.frzs b o u q
    rw [cut_out fun z => (hp b z).nofrz h]
    exact h
  · obtain ⟨more, h⟩ := B.tbls b ts q
    exact ⟨more, by rw [cut_out fun z => (hp b z).notbl h]; exact h⟩
  · rw [← List.append_assoc] at hpn
    rcases List.mem_append.mp hpn with z | z
    · obtain ⟨a1, a2, a3⟩ := I.pin p z
      exact ⟨a1, noH a2, a3⟩
    · obtain ⟨hb, g⟩ := of_pinsAt z
      obtain ⟨u, hu⟩ := (hp p.1 hb).some
      refine ⟨g, cut_in hb, fun q => ?_, fun q => ?_, own_nocell I.hok hp hb hu g⟩
      · rw [q, I.free] at hu; cases hu
      · rw [fs_free I p.1 q] at hu; cases hu
  · obtain ⟨n, q⟩ := cut_some q
    refine (I.hok b u q).stay (fun _ _ _ z => z) (fun c z => ?_) fun c xs z => ?_
    · rw [cut_out]
      · exact z
      · intro hc
        rcases hp c hc with ⟨_, h⟩ | ⟨_, h⟩ | ⟨_, _, _, h, _⟩ | ⟨x, _, _, h, hx, _⟩
        · rw [z] at h; cases h
        · rw [z] at h; cases h
        · rw [z] at h; cases h
        · rw [z] at h; cases h
          exact n hx
    · rw [cut_out fun hc => (hp c hc).notup z]
      exact z
/-- behind: they are tracked again -/
theorem mrg_inv (I : Inv X pins σ H s) (hp : ∀ a ∈ ps, OwnAt H ps a) (J : Inv X (pins ++ pinsAt ps s.heap) σ' G s') : Inv X pins σ' (mrg H ps G) s' ∧ ∀ a ∈ ps, G a = none := by
  have pn : ∀ a ∈ ps, ∃ o, s.heap.get? a = some o ∧ s'.heap.get? a = some o ∧ G a = none := fun a ha => by
    obtain ⟨u, hu⟩ := (hp a ha).some
    obtain ⟨o, ho⟩ := own_there I.hok hp ha hu
    obtain ⟨a1, a2, _⟩ := J.pin (a, o) (List.mem_append_right _ (List.mem_append_right _ (mem_pinsAt ha ho)))
    exact ⟨o, ho, a1, a2⟩
  have gn : ∀ a ∈ ps, G a = none := fun a ha => (pn a ha).choose_spec.2.2
  have noM : ∀ {b}, H b = none → G b = none → mrg H ps G b = none := fun {b} e e' => by
    by_cases z : b ∈ ps
    · rw [mrg_in z]; exact e
    · rw [mrg_out z]; exact e'
  have B := J.base
  have B0 := I.base
  refine ⟨⟨J.ok, J.os, J.bare, ⟨B.keep, B.slot, fun b o q n hx => noM (B0.free b o q n hx) (B.free b o q n hx), B.there, fun b xs q => ?_, fun b o u q => ?_, fun b ts q => ?_⟩, J.loc, J.cell, noM I.free J.free, fun x c e => noM (I.freeC x c e) (J.freeC x c e), fun p hpn => ?_, fun b u q => ?_, J.len⟩, gn⟩
  · rw [mrg_out fun z => (hp b z).notup (B0.tups b xs q)]
    exact B.tups b xs q
  · rw [mrg_out fun z => (hp b z).nofrz (B0.frzs b o u q)]
    exact B.frzs b o u q
  · obtain ⟨_, h0⟩ := B0.tbls b ts q
    obtain ⟨more, h⟩ := B.tbls b ts q
    exact ⟨more, by rw [mrg_out fun z => (hp b z).notbl h0]; exact h⟩
  · obtain ⟨a1, a2, a3⟩ := J.pin p (by rw [← List.append_assoc]; exact List.mem_append_left _ hpn)
    exact ⟨a1, noM (I.pin p hpn).2.1 a2, a3⟩
  · by_cases z : b ∈ ps
    · rw [mrg_in z] at q
      refine own_ok hp z q (I.hok b u q) (fun c hc v hv => ?_) fun c hc => mrg_in hc
      obtain ⟨o, h1, h2, _⟩ := pn c hc
      rw [hv] at h1; cases h1
      exact h2
    · rw [mrg_out z] at q
      refine (J.hok b u q).stay (fun _ _ _ z => z) (fun c y => ?_) fun c xs y => ?_
      · rw [mrg_out fun hc => by rw [gn c hc] at y; cases y]
        exact y
      · rw [mrg_out fun hc => by rw [gn c hc] at y; cases y]
        exact y
end
end DL
set_option Elab.async false
set_option linter.all false
set_option maxRecDepth 100000
set_option maxHeartbeats 2000000
/-! Part b: the state told by data; expressions. -/
namespace DL
open PySem PySem.Spec PyProof.Rows L2
/-- an object that the frame alone holds -/
inductive Ow where
  | lst (ds : List D) | dic (kvs : List (Key × D)) | ins (C : Addr) (fs : List (Str × D))
def Ow.d : Ow → D
  | .lst ds => .sq true ds
  | .dic kvs => .dic kvs
  | .ins C fs => .ins C fs
/-- what a slot holds (or a call hands back) -/
inductive S where
  | no | sh (d : D) | ow (o : Ow)
def S.d : S → D
  | .no => .non
  | .sh d => d
  | .ow o => o.d
def OwIs (K : PySem.W.Frag) (H G : Hp) (v : V) (l : List Addr) : Ow → Prop
  | .lst ds => ∃ p xs, v = .ref p ∧ l = [p] ∧ H p = some (.lst xs) ∧ IsL K G xs ds
  | .dic kds => ∃ p kvs, v = .ref p ∧ l = [p] ∧ H p = some (.dK kvs) ∧ IsK K G kvs kds
  | .ins C gs => ∃ p dx fs, v = .ref p ∧ l = [p, dx] ∧ H p = some (.ins C dx fs) ∧ H dx = some (.own p) ∧ IsF K G fs gs
def SlotIs (K : PySem.W.Frag) (H G : Hp) (x : Option V) (l : List Addr) : S → Prop
  | .no => l = []
  | .sh d => l = [] ∧ ∃ v, x = some v ∧ Is K G v d
  | .ow o => ∃ v, x = some v ∧ OwIs K H G v l o
theorem OwIs.mono {K : PySem.W.Frag} {H H' G G' : Hp} {v : V} {l : List Addr} {o : Ow} (h : OwIs K H G v l o) (e : Ex G G') (k : ∀ a ∈ l, H' a = H a) : OwIs K H' G' v l o := by
  cases o with
  | lst ds =>
    obtain ⟨p, xs, a, rfl, b, c⟩ := h
    exact ⟨p, xs, a, rfl, by rw [k p (by simp)]; exact b, c.mono e⟩
  | dic ds =>
    obtain ⟨p, xs, a, rfl, b, c⟩ := h
    exact ⟨p, xs, a, rfl, by rw [k p (by simp)]; exact b, c.mono e⟩
  | ins C fs =>
    obtain ⟨p, dx, xs, a, rfl, b, b', c⟩ := h
    exact ⟨p, dx, xs, a, rfl, by rw [k p (by simp)]; exact b, by rw [k dx (by simp)]; exact b', c.mono e⟩
theorem OwIs.at {K : PySem.W.Frag} {H G : Hp} {v : V} {l ps : List Addr} {o : Ow} (h : OwIs K H G v l o) (hs : ∀ a ∈ l, a ∈ ps) : ∀ a ∈ l, OwnAt H ps a := by
  cases o with
  | lst ds =>
    obtain ⟨p, xs, _, rfl, b, c⟩ := h
    intro a ha
    obtain rfl : a = p := by simpa using ha
    exact .inl ⟨_, b⟩
  | dic ds =>
    obtain ⟨p, xs, _, rfl, b, c⟩ := h
    intro a ha
    obtain rfl : a = p := by simpa using ha
    exact .inr (.inl ⟨_, b⟩)
  | ins C fs =>
    obtain ⟨p, dx, xs, _, rfl, b, b', c⟩ := h
    intro a ha
    rcases (by simpa using ha : a = p ∨ a = dx) with rfl | rfl
    · exact .inr (.inr (.inl ⟨_, _, _, b, hs _ (by simp)⟩))
    · exact .inr (.inr (.inr ⟨_, _, _, b', hs _ (by simp), b⟩))
/-- frozen -/
theorem OwIs.is {K : PySem.W.Frag} {H G : Hp} {v : V} {l : List Addr} {o : Ow} (h : OwIs K H G v l o) (e : Ex G H) : Is K H v o.d := by
  cases o with
  | lst ds =>
    obtain ⟨p, xs, rfl, rfl, b, c⟩ := h
    exact .mkL (Rd.of b) (c.mono e)
  | dic ds =>
    obtain ⟨p, xs, rfl, rfl, b, c⟩ := h
    exact .dic (Rd.of b) c.1 (c.mono e).2
  | ins C fs =>
    obtain ⟨p, dx, xs, rfl, rfl, b, b', c⟩ := h
    exact .ins b c.1 (c.mono e).2
/-- the shared part of the state -/
structure RelS (K : PySem.W.Frag) (H0 : Hp) (σ : L2.St) (G : Hp) (δ : List S) : Prop where
  ex : Ex H0 G
  len : σ.length = δ.length
  sh : ∀ (i : Nat) d, δ[i]? = some (.sh d) → ∃ v, σ[i]? = some (some v) ∧ Is K G v d
structure Rel (K : PySem.W.Frag) (H0 : Hp) (σ : L2.St) (H : Hp) (δ : List S) (own : List (List Addr)) : Prop where
  ex : Ex H0 (cut H own.flatten)
  len1 : σ.length = δ.length
  len2 : own.length = δ.length
  sl : ∀ (i : Nat) s x l, δ[i]? = some s → σ[i]? = some x → own[i]? = some l → SlotIs K H (cut H own.flatten) x l s
  nd : own.flatten.Nodup
section
variable {K : PySem.W.Frag} {H0 H H' G G' : Hp} {σ : L2.St} {δ δ' : List S} {own : List (List Addr)} {v : V} {d : D} {i : Nat}
theorem RelS.mono (R : RelS K H0 σ G δ) (e : Ex G G') : RelS K H0 σ G' δ := ⟨R.ex.trans e, R.len, fun i d h => let ⟨v, a, b⟩ := R.sh i d h; ⟨v, a, b.mono e⟩⟩
theorem Rel.idx (R : Rel K H0 σ H δ own) {s : S} (h : δ[i]? = some s) : ∃ x l, σ[i]? = some x ∧ own[i]? = some l ∧ SlotIs K H (cut H own.flatten) x l s := by
  have hi : i < δ.length := (List.getElem?_eq_some_iff.mp h).1
  have h1 : i < σ.length := by rw [R.len1]; exact hi
  have h2 : i < own.length := by rw [R.len2]; exact hi
  exact ⟨_, _, List.getElem?_eq_getElem h1, List.getElem?_eq_getElem h2, R.sl i s _ _ h (List.getElem?_eq_getElem h1) (List.getElem?_eq_getElem h2)⟩
theorem Rel.toS (R : Rel K H0 σ H δ own) : RelS K H0 σ (cut H own.flatten) δ := ⟨R.ex, R.len1, fun i d h => by
  obtain ⟨x, l, a, b, _, v, rfl, q⟩ := R.idx h
  exact ⟨v, a, q⟩⟩
theorem mem_flat {own : List (List Addr)} {l : List Addr} {a : Addr} (h : own[i]? = some l) (ha : a ∈ l) : a ∈ own.flatten := List.mem_flatten.mpr ⟨l, List.mem_of_getElem? h, ha⟩
theorem Rel.owned (R : Rel K H0 σ H δ own) : ∀ a ∈ own.flatten, OwnAt H own.flatten a := fun a ha => by
  obtain ⟨l, hl, hal⟩ := List.mem_flatten.mp ha
  obtain ⟨i, hi⟩ := List.mem_iff_getElem?.mp hl
  have hd : i < δ.length := by rw [← R.len2]; exact (List.getElem?_eq_some_iff.mp hi).1
  obtain ⟨x, l', _, e, q⟩ := R.idx (List.getElem?_eq_getElem hd)
  rw [hi] at e; cases e
  cases hs : δ[i] with
  | no => rw [hs] at q; have q : l = [] := q; rw [q] at hal; cases hal
  | sh d => rw [hs] at q; obtain ⟨q, _⟩ := q; rw [q] at hal; cases hal
  | ow o => rw [hs] at q; obtain ⟨v, _, q⟩ := q; exact q.at (fun a h => mem_flat hi h) a hal
/-- the shared heap has grown -/
theorem Rel.step (R : Rel K H0 σ H δ own) (e : Ex (cut H own.flatten) G) (n : ∀ a ∈ own.flatten, G a = none) : Rel K H0 σ (mrg H own.flatten G) δ own := by
  have c : cut (mrg H own.flatten G) own.flatten = G := cut_mrg n
  refine ⟨by rw [c]; exact R.ex.trans e, R.len1, R.len2, fun i s x l h1 h2 h3 => ?_, R.nd⟩
  rw [c]
  have q := R.sl i s x l h1 h2 h3
  cases s with
  | no => exact q
  | sh d => obtain ⟨q0, v, q1, q2⟩ := q; exact ⟨q0, v, q1, q2.mono e⟩
  | ow o => obtain ⟨v, q1, q2⟩ := q; exact ⟨v, q1, q2.mono e fun a ha => mrg_in (mem_flat h3 ha)⟩
theorem flat_set_sub : ∀ {own : List (List Addr)} {i : Nat} {l : List Addr} {a : Addr}, a ∈ (own.set i l).flatten → a ∈ own.flatten ∨ a ∈ l
  | [], _, _, _, h => .inl h
  | l0 :: r, 0, l, a, h => by
    simp only [List.set_cons_zero, List.flatten_cons, List.mem_append] at h ⊢
    rcases h with h | h
    · exact .inr h
    · exact .inl (.inr h)
  | l0 :: r, i + 1, l, a, h => by
    simp only [List.set_cons_succ, List.flatten_cons, List.mem_append] at h ⊢
    rcases h with h | h
    · exact .inl (.inl h)
    · rcases flat_set_sub h with h | h
      · exact .inl (.inr h)
      · exact .inr h
theorem flat_set_nd : ∀ {own : List (List Addr)} {i : Nat} {l : List Addr}, own.flatten.Nodup → l.Nodup → (∀ a ∈ l, a ∉ own.flatten) → (own.set i l).flatten.Nodup
  | [], _, _, h, _, _ => h
  | l0 :: r, 0, l, h, hl, hd => by
    simp only [List.set_cons_zero, List.flatten_cons] at h ⊢
    rw [List.nodup_append] at h ⊢
    refine ⟨hl, h.2.1, fun a ha b hb e => ?_⟩
    subst e
    exact hd a ha (by simp only [List.flatten_cons, List.mem_append]; exact .inr hb)
  | l0 :: r, i + 1, l, h, hl, hd => by
    simp only [List.set_cons_succ, List.flatten_cons] at h ⊢
    rw [List.nodup_append] at h ⊢
    refine ⟨h.1, flat_set_nd h.2.1 hl fun a ha hb => hd a ha (by simp only [List.flatten_cons, List.mem_append]; exact .inr hb), fun a ha b hb e => ?_⟩
    subst e
    rcases flat_set_sub hb with hb | hb
    · exact h.2.2 a ha a hb rfl
    · exact hd a hb (by simp only [List.flatten_cons, List.mem_append]; exact .inl ha)
/-- what stays when the slots' data may only get easier -/
theorem SlotIs.mono {x : Option V} {l : List Addr} {s : S} (q : SlotIs K H G x l s) (e : Ex G G') (k : ∀ a ∈ l, H' a = H a) : SlotIs K H' G' x l s := by
  cases s with
  | no => exact q
  | sh d => obtain ⟨q0, v, q1, q2⟩ := q; exact ⟨q0, v, q1, q2.mono e⟩
  | ow o => obtain ⟨v, q1, q2⟩ := q; exact ⟨v, q1, q2.mono e k⟩
theorem set_get {α : Type} {l : List α} {i j : Nat} {a b : α} (h : (l.set i a)[j]? = some b) : (i = j ∧ b = a) ∨ (i ≠ j ∧ l[j]? = some b) := by
  rw [List.getElem?_set] at h
  by_cases e : i = j
  · rw [if_pos e] at h
    split at h
    · exact .inl ⟨e, (Option.some.inj h).symm⟩
    · cases h
  · rw [if_neg e] at h
    exact .inr ⟨e, h⟩
theorem Rel.setSh (R : Rel K H0 σ H δ own) (h : Is K (cut H own.flatten) v d) : Rel K H0 (σ.set i (some v)) H (δ.set i (.sh d)) (own.set i []) := by
  have sub : ∀ a ∈ (own.set i []).flatten, a ∈ own.flatten := fun a ha => by
    rcases flat_set_sub ha with z | z
    · exact z
    · cases z
  have e : Ex (cut H own.flatten) (cut H (own.set i []).flatten) := cut_sub sub
  refine ⟨R.ex.trans e, by simp [R.len1], by simp [R.len2], fun j s x l h1 h2 h3 => ?_, flat_set_nd R.nd List.nodup_nil fun a ha => by cases ha⟩
  rcases set_get h1 with ⟨e1, rfl⟩ | ⟨n1, g1⟩
  · rcases set_get h2 with ⟨_, rfl⟩ | ⟨n2, _⟩
    · rcases set_get h3 with ⟨_, rfl⟩ | ⟨n3, _⟩
      · exact ⟨rfl, v, rfl, h.mono e⟩
      · exact absurd e1 n3
    · exact absurd e1 n2
  · rcases set_get h2 with ⟨e2, _⟩ | ⟨_, g2⟩
    · exact absurd e2 n1
    · rcases set_get h3 with ⟨e3, _⟩ | ⟨_, g3⟩
      · exact absurd e3 n1
      · exact (R.sl j s x l g1 g2 g3).mono e fun _ _ => rfl
/-- a new object, the frame's own; G1: the shared heap with it -/
theorem Rel.setOw {G1 : Hp} {l0 : List Addr} {o : Ow} (R : Rel K H0 σ H δ own) (e : Ex (cut H own.flatten) (cut G1 l0)) (n : ∀ a ∈ own.flatten, G1 a = none) (nd : l0.Nodup) (h : OwIs K G1 (cut G1 l0) v l0 o) :
    Rel K H0 (σ.set i (some v)) (mrg H own.flatten G1) (δ.set i (.ow o)) (own.set i l0) := by
  have some1 : ∀ a ∈ l0, G1 a ≠ none := fun a ha z => by
    obtain ⟨u, hu⟩ := (h.at (fun a h => h) a ha).some
    rw [z] at hu; cases hu
  have dis : ∀ a ∈ l0, a ∉ own.flatten := fun a ha z => some1 a ha (n a z)
  have ee : Ex (cut G1 l0) (cut (mrg H own.flatten G1) (own.set i l0).flatten) := fun a u q => by
    obtain ⟨q1, q2⟩ := cut_some q
    have q3 : a ∉ own.flatten := fun z => by rw [n a z] at q2; cases q2
    rw [cut_out (fun z => (flat_set_sub z).elim q3 q1), mrg_out q3]
    exact q2
  refine ⟨(R.ex.trans e).trans ee, by simp [R.len1], by simp [R.len2], fun j s x l h1 h2 h3 => ?_, flat_set_nd R.nd nd dis⟩
  rcases set_get h1 with ⟨e1, rfl⟩ | ⟨n1, g1⟩
  · rcases set_get h2 with ⟨_, rfl⟩ | ⟨n2, _⟩
    · rcases set_get h3 with ⟨_, rfl⟩ | ⟨n3, _⟩
      · exact ⟨v, rfl, h.mono ee fun a ha => mrg_out (dis a ha)⟩
      · exact absurd e1 n3
    · exact absurd e1 n2
  · rcases set_get h2 with ⟨e2, _⟩ | ⟨_, g2⟩
    · exact absurd e2 n1
    · rcases set_get h3 with ⟨e3, _⟩ | ⟨_, g3⟩
      · exact absurd e3 n1
      · exact (R.sl j s x l g1 g2 g3).mono (e.trans ee) fun a ha => mrg_in (mem_flat g3 ha)
theorem nd_apart : ∀ {own : List (List Addr)} {i j : Nat} {l l' : List Addr} {a : Addr}, own.flatten.Nodup → own[i]? = some l → own[j]? = some l' → i ≠ j → a ∈ l → a ∈ l' → False
  | [], _, _, _, _, _, _, h, _, _, _, _ => by cases h
  | l0 :: r, 0, 0, _, _, _, _, _, _, n, _, _ => n rfl
  | l0 :: r, 0, j + 1, l, l', a, nd, h, h', n, ha, ha' => by
    rw [List.flatten_cons, List.nodup_append] at nd
    cases h
    exact nd.2.2 a ha a (mem_flat (i := j) h' ha') rfl
  | l0 :: r, i + 1, 0, l, l', a, nd, h, h', n, ha, ha' => by
    rw [List.flatten_cons, List.nodup_append] at nd
    cases h'
    exact nd.2.2 a ha' a (mem_flat (i := i) h ha) rfl
  | l0 :: r, i + 1, j + 1, l, l', a, nd, h, h', n, ha, ha' => by
    rw [List.flatten_cons, List.nodup_append] at nd
    exact nd_apart (i := i) (j := j) nd.2.1 h h' (fun e => n (by rw [e])) ha ha'
/-- an owned object is written -/
theorem Rel.write {p : Addr} {ho : HO} {l : List Addr} {o' : Ow} (R : Rel K H0 σ H δ own) (hi : own[i]? = some l) (hp : p ∈ l) (hs : σ[i]? = some (some v)) (h : OwIs K (upd H p ho) (cut H own.flatten) v l o') : Rel K H0 σ (upd H p ho) (δ.set i (.ow o')) own := by
  have c : cut (upd H p ho) own.flatten = cut H own.flatten := by
    funext a
    by_cases z : a ∈ own.flatten
    · rw [cut_in z, cut_in z]
    · rw [cut_out z, cut_out z, upd_ne fun e => z (by rw [e]; exact mem_flat hi hp)]
  refine ⟨by rw [c]; exact R.ex, by simp [R.len1], by simp [R.len2], fun j s x l' h1 h2 h3 => ?_, R.nd⟩
  rw [c]
  rcases set_get h1 with ⟨rfl, rfl⟩ | ⟨n1, g1⟩
  · rw [hi] at h3; cases h3
    rw [hs] at h2; cases h2
    exact ⟨v, rfl, h⟩
  · refine (R.sl j s x l' g1 h2 h3).mono (Same.refl _) fun a ha => upd_ne fun e => ?_
    subst e
    exact nd_apart R.nd hi h3 n1 hp ha

/-- a state told by less: a slot forgotten, an owned object read as data -/
inductive Vw : List S → List S → Prop
  | nil : Vw [] []
  | keep {s : S} {a b : List S} : Vw a b → Vw (s :: a) (s :: b)
  | drop {s : S} {a b : List S} : Vw a b → Vw (s :: a) (.no :: b)
  | bor {o : Ow} {a b : List S} : Vw a b → Vw (.ow o :: a) (.sh o.d :: b)
theorem Vw.refl : ∀ (δ : List S), Vw δ δ
  | [] => .nil
  | _ :: r => .keep (Vw.refl r)
theorem Vw.len {δ δ' : List S} (h : Vw δ δ') : δ.length = δ'.length := by
  induction h with
  | nil => rfl
  | keep _ ih => exact congrArg (· + 1) ih
  | drop _ ih => exact congrArg (· + 1) ih
  | bor _ ih => exact congrArg (· + 1) ih
theorem Vw.get {δ δ' : List S} (h : Vw δ δ') : ∀ {i : Nat} {s' : S}, δ'[i]? = some s' → ∃ s, δ[i]? = some s ∧ (s' = s ∨ s' = .no ∨ ∃ o, s = .ow o ∧ s' = .sh o.d) := by
  induction h with
  | nil => intro i s' e; cases e
  | @keep s a b _ ih =>
    intro i s' e
    cases i with
    | zero => cases e; exact ⟨s, rfl, .inl rfl⟩
    | succ i => exact ih (i := i) e
  | @drop s a b _ ih =>
    intro i s' e
    cases i with
    | zero => cases e; exact ⟨s, rfl, .inr (.inl rfl)⟩
    | succ i => exact ih (i := i) e
  | @bor o a b _ ih =>
    intro i s' e
    cases i with
    | zero => cases e; exact ⟨_, rfl, .inr (.inr ⟨o, rfl, rfl⟩)⟩
    | succ i => exact ih (i := i) e
def keepOw : List (List Addr) → List S → List (List Addr)
  | l :: r, .ow _ :: b => l :: keepOw r b
  | _ :: r, _ :: b => [] :: keepOw r b
  | _, _ => []
theorem keepOw_sub : ∀ (own : List (List Addr)) (δ : List S), (keepOw own δ).flatten.Sublist own.flatten
  | [], δ => by cases δ <;> exact List.Sublist.refl _
  | l :: r, [] => by simp [keepOw]
  | l :: r, .ow _ :: b => by
    simp only [keepOw, List.flatten_cons]
    exact (List.Sublist.refl l).append (keepOw_sub r b)
  | l :: r, .no :: b => by
    simp only [keepOw, List.flatten_cons, List.nil_append]
    exact (keepOw_sub r b).trans (List.sublist_append_right _ _)
  | l :: r, .sh _ :: b => by
    simp only [keepOw, List.flatten_cons, List.nil_append]
    exact (keepOw_sub r b).trans (List.sublist_append_right _ _)
theorem keepOw_len : ∀ (own : List (List Addr)) (δ : List S), own.length = δ.length → (keepOw own δ).length = δ.length
  | [], [], _ => rfl
  | l :: r, .ow _ :: b, h => congrArg (· + 1) (keepOw_len r b (Nat.succ.inj h))
  | l :: r, .no :: b, h => congrArg (· + 1) (keepOw_len r b (Nat.succ.inj h))
  | l :: r, .sh _ :: b, h => congrArg (· + 1) (keepOw_len r b (Nat.succ.inj h))
theorem keepOw_get : ∀ (own : List (List Addr)) (δ : List S) (i : Nat) (l : List Addr) (s : S), δ[i]? = some s → (keepOw own δ)[i]? = some l → (∃ o, s = .ow o ∧ own[i]? = some l) ∨ ((∀ o, s ≠ .ow o) ∧ l = [])
  | [], δ, i, l, s, _, h => by cases δ <;> cases h
  | l0 :: r, [], i, l, s, h, _ => by cases h
  | l0 :: r, .ow o :: b, 0, l, s, h, h' => by cases h; cases h'; exact .inl ⟨o, rfl, rfl⟩
  | l0 :: r, .no :: b, 0, l, s, h, h' => by cases h; cases h'; exact .inr ⟨fun o e => (by cases e), rfl⟩
  | l0 :: r, .sh d :: b, 0, l, s, h, h' => by cases h; cases h'; exact .inr ⟨fun o e => (by cases e), rfl⟩
  | l0 :: r, .ow o :: b, i + 1, l, s, h, h' => keepOw_get r b i l s h h'
  | l0 :: r, .no :: b, i + 1, l, s, h, h' => keepOw_get r b i l s h h'
  | l0 :: r, .sh d :: b, i + 1, l, s, h, h' => keepOw_get r b i l s h h'
theorem Rel.view (R : Rel K H0 σ H δ own) (h : Vw δ δ') : Rel K H0 σ H δ' (keepOw own δ') ∧ ∀ a ∈ (keepOw own δ').flatten, a ∈ own.flatten := by
  have hl := h.len
  have sub : ∀ a ∈ (keepOw own δ').flatten, a ∈ own.flatten := fun a ha => (keepOw_sub own δ').mem ha
  have e : Ex (cut H own.flatten) (cut H (keepOw own δ').flatten) := cut_sub sub
  refine ⟨⟨R.ex.trans e, R.len1.trans hl, keepOw_len own δ' (R.len2.trans hl), fun i s' x l h1 h2 h3 => ?_, R.nd.sublist (keepOw_sub own δ')⟩, sub⟩
  obtain ⟨s, hs, c⟩ := h.get h1
  obtain ⟨x', l', e1, e2, q⟩ := R.idx hs
  rw [h2] at e1; cases e1
  rcases keepOw_get own δ' i l s' h1 h3 with ⟨o, rfl, ho⟩ | ⟨no, rfl⟩
  · rw [e2] at ho; cases ho
    rcases c with rfl | c | ⟨o', _, c⟩
    · exact q.mono e fun _ _ => rfl
    · cases c
    · cases c
  · rcases c with rfl | rfl | ⟨o, rfl, rfl⟩
    · cases s' with
      | no => exact rfl
      | sh d => obtain ⟨_, v, q1, q2⟩ := q; exact ⟨rfl, v, q1, q2.mono e⟩
      | ow o => exact absurd rfl (no o)
    · exact rfl
    · obtain ⟨v, q1, q2⟩ := q
      refine ⟨rfl, v, q1, ?_⟩
      -- the object is no more cut
      have e3 : Ex (cut H own.flatten) H := cut_ex
      have gone : ∀ a ∈ l', a ∉ (keepOw own δ').flatten := fun a ha hm => by
        obtain ⟨l2, hl2, ha2⟩ := List.mem_flatten.mp hm
        obtain ⟨j, hj⟩ := List.mem_iff_getElem?.mp hl2
        have hjd : j < δ'.length := by rw [← keepOw_len own δ' (R.len2.trans hl)]; exact (List.getElem?_eq_some_iff.mp hj).1
        rcases keepOw_get own δ' j l2 _ (List.getElem?_eq_getElem hjd) hj with ⟨o2, h4, h5⟩ | ⟨_, rfl⟩
        · by_cases ij : i = j
          · subst ij
            have h6 := List.getElem?_eq_getElem hjd
            rw [h1, h4] at h6
            cases h6
          · exact nd_apart R.nd e2 h5 ij ha ha2
        · cases ha2
      have q3 : OwIs K (cut H (keepOw own δ').flatten) (cut H own.flatten) v l' o := q2.mono (Same.refl _) fun a ha => cut_out (gone a ha)
      exact q3.is e
end
/-! ### what an expression, a statement comes to, as a reading -/
section
variable {X : Cx} {σ : L2.St} {H : Hp}
def semE (X : Cx) (e : Expr) : TE := fun σ H Q => ∀ pins s, Inv X pins σ H s → wpAny (model X.prog X.w) X.A (eval e X.env) (EP X pins σ Q) X.xe s
def semT (X : Cx) (e : Expr) : TT := fun σ H Q => ∀ pins s, Inv X pins σ H s → wpAny (model X.prog X.w) X.A (isTrue e X.env (eval e X.env)) (TP X pins σ Q) X.xe s
def semW (X : Cx) (e : Expr) : TT := fun σ H Q => ∀ whole pins s, Inv X pins σ H s → wpAny (model X.prog X.w) X.A (isTrue e X.env whole) (TP X pins σ Q) X.xe s
def semA (X : Cx) (es : List Expr) : TA := fun σ H Q => ∀ pos pins s, Inv X pins σ H s → wpAny (model X.prog X.w) X.A (spliced (backTo pos (starEach es X.env))) (AP X pins σ Q) X.xe s
def semS (X : Cx) (st : Stmt) : TS := fun D σ H => ∀ pins s, Inv X pins σ H s → wpAny (model X.prog X.w) X.A (exec st X.env) (SP X pins D) X.xe s
def semB (X : Cx) (st : List Stmt) : TS := fun D σ H => ∀ pins s, Inv X pins σ H s → wpAny (model X.prog X.w) X.A (execs st X.env) (SP X pins D) X.xe s
theorem pe_sem {e : Expr} : PE X e (semE X e) := ⟨fun pins s σ H Q I h => h pins s I⟩
theorem pt_sem {e : Expr} : PT X e (semT X e) := ⟨fun pins s σ H Q I h => h pins s I⟩
theorem pw_sem {e : Expr} : PW X e (semW X e) := ⟨fun whole pins s σ H Q I h => h whole pins s I⟩
theorem pa_sem {es : List Expr} : PA X es (semA X es) := ⟨fun pos pins s σ H Q I h => h pos pins s I⟩
theorem ps_sem {st : Stmt} : PS X st (semS X st) := ⟨fun pins s σ H D I h => h pins s I⟩
theorem pb_sem {st : List Stmt} : PSs X st (semB X st) := ⟨fun pins s σ H D I h => h pins s I⟩
theorem toE {e : Expr} {t : TE} {Q : VK} (h : PE X e t) (q : t σ H Q) : semE X e σ H Q := fun pins s I => h.run pins s σ H Q I q
theorem toT {e : Expr} {t : TT} {Q : Bool → Hp → Prop} (h : PT X e t) (q : t σ H Q) : semT X e σ H Q := fun pins s I => h.run pins s σ H Q I q
theorem toW {e : Expr} {t : TT} {Q : Bool → Hp → Prop} (h : PW X e t) (q : t σ H Q) : semW X e σ H Q := fun whole pins s I => h.run whole pins s σ H Q I q
theorem toA {es : List Expr} {t : TA} {Q : List V → Hp → Prop} (h : PA X es t) (q : t σ H Q) : semA X es σ H Q := fun pos pins s I => h.run pos pins s σ H Q I q
theorem toS {st : Stmt} {t : TS} {D : Ends} (h : PS X st t) (q : t D σ H) : semS X st D σ H := fun pins s I => h.run pins s σ H D I q
theorem toB {st : List Stmt} {t : TS} {D : Ends} (h : PSs X st t) (q : t D σ H) : semB X st D σ H := fun pins s I => h.run pins s σ H D I q
theorem semE.mono {e : Expr} {Q Q' : VK} (h : semE X e σ H Q) (k : ∀ v H', Q v H' → Q' v H') : semE X e σ H Q' := fun pins s I => thn (h pins s I) fun u s' ⟨v, H', J, r, q⟩ => ⟨v, H', J, r, k v H' q⟩
theorem semT.mono {e : Expr} {Q Q' : Bool → Hp → Prop} (h : semT X e σ H Q) (k : ∀ v H', Q v H' → Q' v H') : semT X e σ H Q' := fun pins s I => thn (h pins s I) fun u s' ⟨H', J, q⟩ => ⟨H', J, k u H' q⟩
theorem semW.mono {e : Expr} {Q Q' : Bool → Hp → Prop} (h : semW X e σ H Q) (k : ∀ v H', Q v H' → Q' v H') : semW X e σ H Q' := fun whole pins s I => thn (h whole pins s I) fun u s' ⟨H', J, q⟩ => ⟨H', J, k u H' q⟩
theorem semA.mono {es : List Expr} {Q Q' : List V → Hp → Prop} (h : semA X es σ H Q) (k : ∀ v H', Q v H' → Q' v H') : semA X es σ H Q' := fun pos pins s I => thn (h pos pins s I) fun u s' ⟨v, H', J, r, q⟩ => ⟨v, H', J, r, k v H' q⟩
theorem SP.mono {D D' : Ends} {pins : List (Addr × Obj)} {f : Flow} {s : Shared} (h : SP X pins D f s) (nx : ∀ σ H, D.nx σ H → D'.nx σ H) (rt : ∀ v H, D.rt v H → D'.rt v H) (bk : ∀ σ H, D.bk σ H → D'.bk σ H) (ct : ∀ σ H, D.ct σ H → D'.ct σ H) : SP X pins D' f s := by
  cases f with
  | next => obtain ⟨σ', H', I, q⟩ := h; exact ⟨σ', H', I, nx _ _ q⟩
  | brk => obtain ⟨σ', H', I, q⟩ := h; exact ⟨σ', H', I, bk _ _ q⟩
  | cont => obtain ⟨σ', H', I, q⟩ := h; exact ⟨σ', H', I, ct _ _ q⟩
  | ret u => obtain ⟨v, σ', H', I, r, q⟩ := h; exact ⟨v, σ', H', I, r, rt _ _ q⟩
theorem semS.mono {st : Stmt} {D D' : Ends} (h : semS X st D σ H) (nx : ∀ σ H, D.nx σ H → D'.nx σ H) (rt : ∀ v H, D.rt v H → D'.rt v H) (bk : ∀ σ H, D.bk σ H → D'.bk σ H) (ct : ∀ σ H, D.ct σ H → D'.ct σ H) : semS X st D' σ H :=
  fun pins s I => thn (h pins s I) fun f s' q => DL.SP.mono q nx rt bk ct
theorem semB.mono {st : List Stmt} {D D' : Ends} (h : semB X st D σ H) (nx : ∀ σ H, D.nx σ H → D'.nx σ H) (rt : ∀ v H, D.rt v H → D'.rt v H) (bk : ∀ σ H, D.bk σ H → D'.bk σ H) (ct : ∀ σ H, D.ct σ H → D'.ct σ H) : semB X st D' σ H :=
  fun pins s I => thn (h pins s I) fun f s' q => DL.SP.mono q nx rt bk ct
/-- an expression is run with the owned objects out of sight -/
theorem semE.frame {e : Expr} {ps : List Addr} {Q : VK} (hp : ∀ a ∈ ps, OwnAt H ps a) (h : semE X e σ (cut H ps) Q) : semE X e σ H (fun v H' => ∃ G, H' = mrg H ps G ∧ (∀ a ∈ ps, G a = none) ∧ Q v G) := fun pins s I =>
  thn (h _ s (cut_inv I hp)) fun u s' ⟨v, G, J, r, q⟩ => by
    obtain ⟨M, gn⟩ := mrg_inv I hp J
    exact ⟨v, _, M, r, G, rfl, gn, q⟩
theorem semT.frame {e : Expr} {ps : List Addr} {Q : Bool → Hp → Prop} (hp : ∀ a ∈ ps, OwnAt H ps a) (h : semT X e σ (cut H ps) Q) : semT X e σ H (fun v H' => ∃ G, H' = mrg H ps G ∧ (∀ a ∈ ps, G a = none) ∧ Q v G) := fun pins s I =>
  thn (h _ s (cut_inv I hp)) fun u s' ⟨G, J, q⟩ => by
    obtain ⟨M, gn⟩ := mrg_inv I hp J
    exact ⟨_, M, G, rfl, gn, q⟩
theorem semA.frame {es : List Expr} {ps : List Addr} {Q : List V → Hp → Prop} (hp : ∀ a ∈ ps, OwnAt H ps a) (h : semA X es σ (cut H ps) Q) : semA X es σ H (fun v H' => ∃ G, H' = mrg H ps G ∧ (∀ a ∈ ps, G a = none) ∧ Q v G) := fun pos pins s I =>
  thn (h pos _ s (cut_inv I hp)) fun u s' ⟨v, G, J, r, q⟩ => by
    obtain ⟨M, gn⟩ := mrg_inv I hp J
    exact ⟨v, _, M, r, G, rfl, gn, q⟩
end
end DL
set_option Elab.async false
set_option linter.all false
set_option maxRecDepth 100000
set_option maxHeartbeats 2000000
/-! Part c: expressions, by data. -/
namespace DL
open PySem PySem.Spec PyProof.Rows L2
def notStar : Expr → Bool
  | .Starred _ _ => false
  | _ => true
theorem star_of {e : Expr} {es : List Expr} {env : Env} (h : notStar e = true) : starEach (e :: es) env = (false, eval e env) :: starEach es env := by
  cases e <;> first | rfl | cases h
theorem star_any {pos : Pos} {env : Env} : ∀ {es : List Expr}, es.all notStar = true → (backTo pos (starEach es env)).any (·.1) = false
  | [], _ => rfl
  | e :: es, h => by
    rw [List.all_cons, Bool.and_eq_true] at h
    rw [star_of h.1]
    have ih := star_any (pos := pos) (env := env) h.2
    simpa [backTo] using ih
section
variable (X : Cx) (H0 : Hp)
def We (e : Expr) (δ : List S) (k : D → Prop) : Prop := ∀ σ G, RelS X.K H0 σ G δ → semE X e σ G (fun v G' => Ex G G' ∧ ∃ d, Is X.K G' v d ∧ k d)
def Wt (e : Expr) (δ : List S) (k : Bool → Prop) : Prop := ∀ σ G, RelS X.K H0 σ G δ → semT X e σ G (fun b G' => Ex G G' ∧ k b)
def Ww (e : Expr) (δ : List S) (k : Bool → Prop) : Prop := ∀ σ G, RelS X.K H0 σ G δ → semW X e σ G (fun b G' => Ex G G' ∧ k b)
def Wa (es : List Expr) (δ : List S) (k : List D → Prop) : Prop := ∀ σ G, RelS X.K H0 σ G δ → semA X es σ G (fun vs G' => Ex G G' ∧ ∃ ds, IsL X.K G' vs ds ∧ k ds)
/-- a new object -/
def NewIs (K : PySem.W.Frag) (G : Hp) (v : V) (G' : Hp) (o : Ow) : Prop := ∃ l, OwIs K G' (cut G' l) v l o ∧ (∀ a ∈ l, G a = none) ∧ Ex G (cut G' l) ∧ l.Nodup
def Wo (e : Expr) (δ : List S) (k : Ow → Prop) : Prop := ∀ σ G, RelS X.K H0 σ G δ → semE X e σ G (fun v G' => ∃ o, NewIs X.K G v G' o ∧ k o)
end
theorem NewIs.ex {K : PySem.W.Frag} {G G' : Hp} {v : V} {o : Ow} (h : NewIs K G v G' o) : Ex G G' := by
  obtain ⟨l, _, _, e, _⟩ := h
  exact e.trans cut_ex
theorem NewIs.is {K : PySem.W.Frag} {G G' : Hp} {v : V} {o : Ow} (h : NewIs K G v G' o) : Is K G' v o.d := by
  obtain ⟨l, q, _, e, _⟩ := h
  exact q.is cut_ex
theorem NewIs.back {K : PySem.W.Frag} {G0 G G' : Hp} {v : V} {o : Ow} (e : Ex G0 G) (h : NewIs K G v G' o) : NewIs K G0 v G' o := by
  obtain ⟨l, q, n, e', nd⟩ := h
  exact ⟨l, q, fun a ha => e.free (n a ha), e.trans e', nd⟩
theorem NewIs.lst {K : PySem.W.Frag} {G : Hp} {p : Addr} {xs : List V} {ds : List D} (n : G p = none) (h : IsL K G xs ds) : NewIs K G (.ref p) (upd G p (.lst xs)) (.lst ds) := by
  have e : Ex G (cut (upd G p (.lst xs)) [p]) := fun a u q => by
    have hne : a ≠ p := ne_of_none q n
    rw [cut_out (by simpa using hne), upd_ne hne]
    exact q
  exact ⟨[p], ⟨p, xs, rfl, rfl, upd_same, h.mono e⟩, fun a ha => by rw [show a = p by simpa using ha]; exact n, e, by simp⟩
theorem NewIs.dic {K : PySem.W.Frag} {G : Hp} {p : Addr} {xs : List (Key × V)} {ds : List (Key × D)} (n : G p = none) (h : IsK K G xs ds) : NewIs K G (.ref p) (upd G p (.dK xs)) (.dic ds) := by
  have e : Ex G (cut (upd G p (.dK xs)) [p]) := fun a u q => by
    have hne : a ≠ p := ne_of_none q n
    rw [cut_out (by simpa using hne), upd_ne hne]
    exact q
  exact ⟨[p], ⟨p, xs, rfl, rfl, upd_same, h.mono e⟩, fun a ha => by rw [show a = p by simpa using ha]; exact n, e, by simp⟩
def I2 (x y : D) (P : Int → Int → Prop) : Prop := ∃ i j, x = .int i ∧ y = .int j ∧ P i j
theorem i2 {i j : Int} {P : Int → Int → Prop} (h : P i j) : I2 (.int i) (.int j) P := ⟨i, j, rfl, rfl, h⟩
def I1 (x : D) (P : Int → Prop) : Prop := ∃ i, x = .int i ∧ P i
theorem i1 {i : Int} {P : Int → Prop} (h : P i) : I1 (.int i) P := ⟨i, rfl, h⟩
def B1 (x : D) (P : Bool → Prop) : Prop := ∃ i, x = .bl i ∧ P i
theorem b1 {i : Bool} {P : Bool → Prop} (h : P i) : B1 (.bl i) P := ⟨i, rfl, h⟩
section
variable {X : Cx} {H0 : Hp} {δ : List S} {a b c e : Expr} {es : List Expr} {k : D → Prop} {kt : Bool → Prop} {pos : Pos}
theorem We.mono {k' : D → Prop} (h : We X H0 e δ k) (m : ∀ d, k d → k' d) : We X H0 e δ k' := fun σ G R => (h σ G R).mono fun v G' ⟨e, d, i, q⟩ => ⟨e, d, i, m d q⟩
theorem Wt.mono {k' : Bool → Prop} (h : Wt X H0 e δ kt) (m : ∀ d, kt d → k' d) : Wt X H0 e δ k' := fun σ G R => (h σ G R).mono fun v G' ⟨e, q⟩ => ⟨e, m v q⟩
theorem we_new (h : Wo X H0 e δ (fun o => k o.d)) : We X H0 e δ k := fun σ G R => (h σ G R).mono fun v G' ⟨o, n, q⟩ => ⟨n.ex, _, n.is, q⟩
theorem we_var (i : Nat) {x : Str} {d : D} (hd : δ[i]? = some (.sh d)) (h : k d) (hp : PE X (.Name x pos) (tVar i) := by exact pv _) : We X H0 (.Name x pos) δ k := fun σ G R => by
  obtain ⟨v, e, q⟩ := R.sh i d hd
  exact toE hp ⟨v, e, Same.refl _, d, q, h⟩
theorem we_int {i : Int} {j} (h : k (.int i)) : We X H0 (.Constant (.int i) j pos) δ k := fun σ G R => toE pe_int ⟨Same.refl _, _, .int i, h⟩
theorem we_bl {i : Bool} {j} (h : k (.bl i)) : We X H0 (.Constant (.bool i) j pos) δ k := fun σ G R => toE pe_bl ⟨Same.refl _, _, .bl i, h⟩
theorem we_non {j} (h : k .non) : We X H0 (.Constant .none j pos) δ k := fun σ G R => toE pe_non ⟨Same.refl _, _, .non, h⟩
theorem we_str {x : Str} {j} (h : k (.str x)) : We X H0 (.Constant (.str x) j pos) δ k := fun σ G R => toE pe_str ⟨Same.refl _, _, .str x, h⟩
/-- two operands, then a rule on values -/
theorem two {f : V → V → Hp → VK → Prop} {P : D → D → Prop} (h : We X H0 a δ (fun x => We X H0 b δ (fun y => P x y))) (hf : ∀ G v w x y, Is X.K G v x → Is X.K G w y → P x y → ∀ Q : VK, (∀ z G' d, Ex G G' → Is X.K G' z d → k d → Q z G') → f v w G Q) :
    ∀ σ G, RelS X.K H0 σ G δ → tOp f (semE X a) (semE X b) σ G (fun v G' => Ex G G' ∧ ∃ d, Is X.K G' v d ∧ k d) := fun σ G R =>
  (h σ G R).mono fun v G1 ⟨e1, x, ix, q1⟩ => (q1 σ G1 (R.mono e1)).mono fun w G2 ⟨e2, y, iy, q2⟩ => hf G2 v w x y (ix.mono e2) iy q2 _ fun z G' d e3 iz kz => ⟨(e1.trans e2).trans e3, d, iz, kz⟩
theorem twoT {f : V → V → Hp → VK → Prop} {P : D → D → Prop} (h : We X H0 a δ (fun x => We X H0 b δ (fun y => P x y))) (hf : ∀ G v w x y, Is X.K G v x → Is X.K G w y → P x y → ∀ Q : VK, (∀ z, kt z → Q (.bl z) G) → f v w G Q) :
    ∀ σ G, RelS X.K H0 σ G δ → tTest (tOp f (semE X a) (semE X b)) σ G (fun v G' => Ex G G' ∧ kt v) := fun σ G R =>
  (h σ G R).mono fun v G1 ⟨e1, x, ix, q1⟩ => (q1 σ G1 (R.mono e1)).mono fun w G2 ⟨e2, y, iy, q2⟩ => hf G2 v w x y (ix.mono e2) iy q2 _ fun z kz => ⟨z, rfl, e1.trans e2, kz⟩
theorem one {f : V → Hp → VK → Prop} {P : D → Prop} (h : We X H0 a δ P) (hf : ∀ G v x, Is X.K G v x → P x → ∀ Q : VK, (∀ z G' d, Ex G G' → Is X.K G' z d → k d → Q z G') → f v G Q) :
    ∀ σ G, RelS X.K H0 σ G δ → tUn f (semE X a) σ G (fun v G' => Ex G G' ∧ ∃ d, Is X.K G' v d ∧ k d) := fun σ G R =>
  (h σ G R).mono fun v G1 ⟨e1, x, ix, q1⟩ => hf G1 v x ix q1 _ fun z G' d e3 iz kz => ⟨e1.trans e3, d, iz, kz⟩
theorem ii {C : Int → Int → Prop} {g : Int → Int → V} {g' : Int → Int → D} (hg : ∀ G i j, Is X.K G (g i j) (g' i j)) : ∀ (G : Hp) v w x y, Is X.K G v x → Is X.K G w y → I2 x y (fun i j => C i j ∧ k (g' i j)) → ∀ Q : VK, (∀ z G' d, Ex G G' → Is X.K G' z d → k d → Q z G') → rI C g v w G Q :=
  fun G v w x y iv iw h Q q => by
    obtain ⟨i, j, rfl, rfl, hc, hk⟩ := h
    cases iv
    cases iw
    exact ⟨i, j, rfl, rfl, hc, q _ G _ (Same.refl _) (hg G i j) hk⟩
theorem ii0 {g : Int → Int → V} {g' : Int → Int → D} (hg : ∀ G i j, Is X.K G (g i j) (g' i j)) : ∀ (G : Hp) v w x y, Is X.K G v x → Is X.K G w y → I2 x y (fun i j => k (g' i j)) → ∀ Q : VK, (∀ z G' d, Ex G G' → Is X.K G' z d → k d → Q z G') → rI0 g v w G Q :=
  fun G v w x y iv iw h Q q => by
    obtain ⟨i, j, rfl, rfl, hk⟩ := h
    cases iv
    cases iw
    exact ⟨i, j, rfl, rfl, q _ G _ (Same.refl _) (hg G i j) hk⟩
theorem iiT {g : Int → Int → Bool} : ∀ (G : Hp) v w x y, Is X.K G v x → Is X.K G w y → I2 x y (fun i j => kt (g i j)) → ∀ Q : VK, (∀ z, kt z → Q (.bl z) G) → rI0 (fun i j => .bl (g i j)) v w G Q :=
  fun G v w x y iv iw h Q q => by
    obtain ⟨i, j, rfl, rfl, hk⟩ := h
    cases iv
    cases iw
    exact ⟨i, j, rfl, rfl, q _ hk⟩
theorem we_add (h : We X H0 a δ (fun x => We X H0 b δ (fun y => I2 x y (fun i j => k (.int (i + j)))))) : We X H0 (.BinOp a .Add b pos) δ k := fun σ G R => toE (pe_op op_add pe_sem pe_sem) (two h (ii0 fun G i j => .int _) σ G R)
theorem we_sub (h : We X H0 a δ (fun x => We X H0 b δ (fun y => I2 x y (fun i j => k (.int (i - j)))))) : We X H0 (.BinOp a .Sub b pos) δ k := fun σ G R => toE (pe_op op_sub pe_sem pe_sem) (two h (ii0 fun G i j => .int _) σ G R)
theorem we_mul (h : We X H0 a δ (fun x => We X H0 b δ (fun y => I2 x y (fun i j => CMulW i j ∧ k (.int (i * j)))))) : We X H0 (.BinOp a .Mult b pos) δ k := fun σ G R => toE (pe_op op_mulW pe_sem pe_sem) (two h (ii fun G i j => .int _) σ G R)
theorem we_div (h : We X H0 a δ (fun x => We X H0 b δ (fun y => I2 x y (fun i j => CDivW i j ∧ k (.int (i / j)))))) : We X H0 (.BinOp a .FloorDiv b pos) δ k := fun σ G R => toE (pe_op op_fdivW pe_sem pe_sem) (two h (ii fun G i j => .int _) σ G R)
theorem we_mod (h : We X H0 a δ (fun x => We X H0 b δ (fun y => I2 x y (fun i j => 0 < j ∧ k (.int (i % j)))))) : We X H0 (.BinOp a .Mod b pos) δ k := fun σ G R => toE (pe_op op_mod pe_sem pe_sem) (two h (ii fun G i j => .int _) σ G R)
theorem we_pow (h : We X H0 a δ (fun x => We X H0 b δ (fun y => I2 x y (fun i j => (0 ≤ j ∧ j ≤ 1000000 ∧ i.natAbs < 2 ^ 64) ∧ k (.int (i ^ j.toNat)))))) : We X H0 (.BinOp a .Pow b pos) δ k := fun σ G R => toE (pe_op op_pow pe_sem pe_sem) (two h (ii fun G i j => .int _) σ G R)
theorem we_neg (h : We X H0 a δ (fun x => I1 x (fun i => k (.int (-i))))) : We X H0 (.UnaryOp .USub a pos) δ k := fun σ G R => toE (pe_un un_neg pe_sem) (one h (fun G v x iv h Q q => by
  obtain ⟨i, rfl, hk⟩ := h
  cases iv
  exact ⟨i, rfl, q _ G _ (Same.refl _) (.int _) hk⟩) σ G R)
theorem wt_lt (h : We X H0 a δ (fun x => We X H0 b δ (fun y => I2 x y (fun i j => kt (decide (i < j)))))) : Wt X H0 (.Compare a [.Lt] [b] pos) δ kt := fun σ G R => toT (pt_cmpR op_lt pe_sem pe_sem (nomark _)) (twoT h (iiT (g := fun i j => decide (i < j))) σ G R)
theorem wt_le (h : We X H0 a δ (fun x => We X H0 b δ (fun y => I2 x y (fun i j => kt (decide (i ≤ j)))))) : Wt X H0 (.Compare a [.LtE] [b] pos) δ kt := fun σ G R => toT (pt_cmpR op_le pe_sem pe_sem (nomark _)) (twoT h (iiT (g := fun i j => decide (i ≤ j))) σ G R)
theorem wt_gt (h : We X H0 a δ (fun x => We X H0 b δ (fun y => I2 x y (fun i j => kt (decide (j < i)))))) : Wt X H0 (.Compare a [.Gt] [b] pos) δ kt := fun σ G R => toT (pt_cmpR op_gt pe_sem pe_sem (nomark _)) (twoT h (iiT (g := fun i j => decide (j < i))) σ G R)
theorem wt_ge (h : We X H0 a δ (fun x => We X H0 b δ (fun y => I2 x y (fun i j => kt (decide (j ≤ i)))))) : Wt X H0 (.Compare a [.GtE] [b] pos) δ kt := fun σ G R => toT (pt_cmpR op_ge pe_sem pe_sem (nomark _)) (twoT h (iiT (g := fun i j => decide (j ≤ i))) σ G R)
theorem we_lt (h : We X H0 a δ (fun x => We X H0 b δ (fun y => I2 x y (fun i j => k (.bl (decide (i < j))))))) : We X H0 (.Compare a [.Lt] [b] pos) δ k := fun σ G R => toE (pe_cmpR op_lt pe_sem pe_sem (nomark _)) (two h (ii0 fun G i j => .bl _) σ G R)
theorem we_le (h : We X H0 a δ (fun x => We X H0 b δ (fun y => I2 x y (fun i j => k (.bl (decide (i ≤ j))))))) : We X H0 (.Compare a [.LtE] [b] pos) δ k := fun σ G R => toE (pe_cmpR op_le pe_sem pe_sem (nomark _)) (two h (ii0 fun G i j => .bl _) σ G R)
theorem we_gt (h : We X H0 a δ (fun x => We X H0 b δ (fun y => I2 x y (fun i j => k (.bl (decide (j < i))))))) : We X H0 (.Compare a [.Gt] [b] pos) δ k := fun σ G R => toE (pe_cmpR op_gt pe_sem pe_sem (nomark _)) (two h (ii0 fun G i j => .bl _) σ G R)
theorem we_ge (h : We X H0 a δ (fun x => We X H0 b δ (fun y => I2 x y (fun i j => k (.bl (decide (j ≤ i))))))) : We X H0 (.Compare a [.GtE] [b] pos) δ k := fun σ G R => toE (pe_cmpR op_ge pe_sem pe_sem (nomark _)) (two h (ii0 fun G i j => .bl _) σ G R)
/-! ### == of flat things -/
def flatEq : D → D → Option Bool
  | .non, .non => some true | .non, .int _ => some false | .int _, .non => some false | .non, .bl _ => some false | .bl _, .non => some false | .non, .str _ => some false | .str _, .non => some false
  | .int i, .int j => some (decide (i = j)) | .bl i, .bl j => some (decide (i = j)) | .str i, .str j => some (decide (i = j))
  | .int _, .str _ => some false | .str _, .int _ => some false | .bl _, .str _ => some false | .str _, .bl _ => some false
  | _, _ => none
def FE (x y : D) (P : Bool → Prop) : Prop := ∃ r, flatEq x y = some r ∧ P r
theorem flatEq_is {K : PySem.W.Frag} {G : Hp} {v w : V} {x y : D} {r : Bool} (iv : Is K G v x) (iw : Is K G w y) (h : flatEq x y = some r) : scal v w = true ∧ decide (v = w) = r := by
  cases iv <;> cases iw <;> first
    | (cases h; exact ⟨rfl, by simp⟩)
    | (cases h; exact ⟨rfl, rfl⟩)
    | cases h
theorem wt_eq (h : We X H0 a δ (fun x => We X H0 b δ (fun y => FE x y kt))) : Wt X H0 (.Compare a [.Eq] [b] pos) δ kt := fun σ G R => toT (pt_cmpR op_eq pe_sem pe_sem (nomark _)) (twoT h (fun G v w x y iv iw ⟨r, h, hk⟩ Q q => by
  obtain ⟨h1, h2⟩ := flatEq_is iv iw h
  exact ⟨h1, by rw [h2]; exact q r hk⟩) σ G R)
theorem wt_ne (h : We X H0 a δ (fun x => We X H0 b δ (fun y => FE x y fun r => kt (!r)))) : Wt X H0 (.Compare a [.NotEq] [b] pos) δ kt := fun σ G R => toT (pt_cmpR op_ne pe_sem pe_sem (nomark _)) (twoT h (fun G v w x y iv iw ⟨r, h, hk⟩ Q q => by
  obtain ⟨h1, h2⟩ := flatEq_is iv iw h
  exact ⟨h1, by rw [h2]; exact q _ hk⟩) σ G R)
theorem we_eq (h : We X H0 a δ (fun x => We X H0 b δ (fun y => FE x y fun r => k (.bl r)))) : We X H0 (.Compare a [.Eq] [b] pos) δ k := fun σ G R => toE (pe_cmpR op_eq pe_sem pe_sem (nomark _)) (two h (fun G v w x y iv iw ⟨r, h, hk⟩ Q q => by
  obtain ⟨h1, h2⟩ := flatEq_is iv iw h
  exact ⟨h1, by rw [h2]; exact q _ G _ (Same.refl _) (.bl r) hk⟩) σ G R)
theorem we_ne (h : We X H0 a δ (fun x => We X H0 b δ (fun y => FE x y fun r => k (.bl (!r))))) : We X H0 (.Compare a [.NotEq] [b] pos) δ k := fun σ G R => toE (pe_cmpR op_ne pe_sem pe_sem (nomark _)) (two h (fun G v w x y iv iw ⟨r, h, hk⟩ Q q => by
  obtain ⟨h1, h2⟩ := flatEq_is iv iw h
  exact ⟨h1, by rw [h2]; exact q _ G _ (Same.refl _) (.bl (!r)) hk⟩) σ G R)
theorem fe {x y : D} {r : Bool} {P : Bool → Prop} (e : flatEq x y = some r) (h : P r) : FE x y P := ⟨r, e, h⟩
/-- is None -/
def isNon : D → Bool
  | .non => true
  | _ => false
def NN (y : D) (P : Prop) : Prop := y = .non ∧ P
theorem nn {P : Prop} (h : P) : NN .non P := ⟨rfl, h⟩
theorem isNon_is {K : PySem.W.Frag} {G : Hp} {v : V} {x : D} (iv : Is K G v x) : decide (v = .non) = isNon x := by
  cases iv <;> rfl
theorem wt_isN (h : We X H0 a δ (fun x => We X H0 b δ (fun y => NN y (kt (isNon x))))) : Wt X H0 (.Compare a [.Is] [b] pos) δ kt := fun σ G R => toT (pt_cmpR op_isN pe_sem pe_sem (nomark _)) (twoT h (fun G v w x y iv iw ⟨h, hk⟩ Q q => by
  subst h
  cases iw
  exact ⟨rfl, by rw [isNon_is iv]; exact q _ hk⟩) σ G R)
theorem wt_notN (h : We X H0 a δ (fun x => We X H0 b δ (fun y => NN y (kt (!isNon x))))) : Wt X H0 (.Compare a [.IsNot] [b] pos) δ kt := fun σ G R => toT (pt_cmpR op_notN pe_sem pe_sem (nomark _)) (twoT h (fun G v w x y iv iw ⟨h, hk⟩ Q q => by
  subst h
  cases iw
  exact ⟨rfl, by rw [isNon_is iv]; exact q _ hk⟩) σ G R)
theorem we_isN (h : We X H0 a δ (fun x => We X H0 b δ (fun y => NN y (k (.bl (isNon x)))))) : We X H0 (.Compare a [.Is] [b] pos) δ k := fun σ G R => toE (pe_cmpR op_isN pe_sem pe_sem (nomark _)) (two h (fun G v w x y iv iw ⟨h, hk⟩ Q q => by
  subst h
  cases iw
  exact ⟨rfl, by rw [isNon_is iv]; exact q _ G _ (Same.refl _) (.bl _) hk⟩) σ G R)
theorem we_notN (h : We X H0 a δ (fun x => We X H0 b δ (fun y => NN y (k (.bl (!isNon x)))))) : We X H0 (.Compare a [.IsNot] [b] pos) δ k := fun σ G R => toE (pe_cmpR op_notN pe_sem pe_sem (nomark _)) (two h (fun G v w x y iv iw ⟨h, hk⟩ Q q => by
  subst h
  cases iw
  exact ⟨rfl, by rw [isNon_is iv]; exact q _ G _ (Same.refl _) (.bl _) hk⟩) σ G R)
/-! ### subscripts -/
def Ix (x y : D) (P : D → Prop) : Prop := ∃ l ds i d, x = .sq l ds ∧ y = .int i ∧ atI ds i = some d ∧ P d
theorem ixn (j : Nat) {l : Bool} {ds : List D} {i : Int} {d : D} {P : D → Prop} (e : ds[j]? = some d) (h : P d) (hi : i = (j : Int) := by rfl) : Ix (.sq l ds) (.int i) P := ⟨l, ds, i, d, rfl, rfl, by rw [hi]; exact atI_nat e, h⟩
theorem ixa {l : Bool} {ds : List D} {i : Int} {d : D} {P : D → Prop} (e : L2.atI ds i = some d) (h : P d) : Ix (.sq l ds) (.int i) P := ⟨l, ds, i, d, rfl, rfl, e, h⟩
theorem IsL.atI {K : PySem.W.Frag} {G : Hp} {xs : List V} {ds : List D} {i : Int} {d : D} (h : IsL K G xs ds) (e : L2.atI ds i = some d) : ∃ x, L2.atI xs i = some x ∧ Is K G x d := by
  unfold L2.atI at e ⊢
  rw [h.1]
  cases q : ixN ds.length i with
  | none => rw [q] at e; cases e
  | some j => rw [q] at e; exact h.get e
theorem we_ix (h : We X H0 a δ (fun x => We X H0 b δ (fun y => Ix x y k))) (hs : PlainIx b := by exact fun _ _ => rfl) : We X H0 (.Subscript a b pos) δ k := fun σ G R => toE (pe_ix ix_seq pe_sem pe_sem hs) (two h (fun G v w x y iv iw ⟨l, ds, i, d, ex, ey, he, hk⟩ Q q => by
  subst ex ey
  cases iw
  cases l with
  | true =>
    obtain ⟨p, xs, rfl, hq, hl⟩ := iv.lst_inv
    obtain ⟨z, hz, iz⟩ := hl.atI he
    exact .inl ⟨p, xs, i, z, rfl, rfl, .inl hq, hz, q _ G _ (Same.refl _) iz hk⟩
  | false =>
    obtain ⟨p, xs, rfl, hq, hl⟩ := iv.tup_inv
    obtain ⟨z, hz, iz⟩ := hl.atI he
    exact .inr (.inl ⟨p, xs, i, z, rfl, rfl, hq, hz, q _ G _ (Same.refl _) iz hk⟩)) σ G R)
/-- the script: one item, its length -/
theorem we_ixS (h : We X H0 a δ (fun x => We X H0 b δ (fun y => ∃ ns i n, x = .scr ns ∧ y = .int i ∧ atI ns i = some n ∧ k (.int n)))) (hs : PlainIx b := by exact fun _ _ => rfl) : We X H0 (.Subscript a b pos) δ k := fun σ G R => toE (pe_ix ix_seq pe_sem pe_sem hs) (two h (fun G v w x y iv iw ⟨ns, i, n, ex, ey, he, hk⟩ Q q => by
  subst ex ey
  cases iw
  obtain ⟨p, rfl, hq⟩ := iv.scr_inv
  refine .inl ⟨p, _, i, .int n, rfl, rfl, hq, ?_, q _ G _ (Same.refl _) (.int _) hk⟩
  unfold L2.atI at he ⊢
  rw [List.length_map]
  cases e : ixN ns.length i with
  | none => rw [e] at he; cases he
  | some j =>
    rw [e] at he
    show (ns.map V.int)[j]? = some (.int n)
    rw [List.getElem?_map, show ns[j]? = some n from he] <;> rfl) σ G R)
/-! ### and, or, not, if -/
theorem ww_and1 (h : Wt X H0 a δ kt) : Ww X H0 (.BoolOp .And [a] pos) δ kt := fun σ G R => toW (pw_and1 pt_sem) (h σ G R)
theorem ww_or1 (h : Wt X H0 a δ kt) : Ww X H0 (.BoolOp .Or [a] pos) δ kt := fun σ G R => toW (pw_or1 pt_sem) (h σ G R)
theorem ww_and (h : Wt X H0 a δ (fun r => (r = true → Ww X H0 (.BoolOp .And (b :: es) pos) δ kt) ∧ (r = false → kt false))) : Ww X H0 (.BoolOp .And (a :: b :: es) pos) δ kt := fun σ G R => toW (pw_and pt_sem pw_sem) ((h σ G R).mono fun r G1 ⟨e1, h1, h2⟩ => by
  cases r with
  | true =>
    show semW X _ σ G1 _
    exact (h1 rfl σ G1 (R.mono e1)).mono fun _ _ ⟨e2, q⟩ => ⟨e1.trans e2, q⟩
  | false => exact ⟨e1, h2 rfl⟩)
theorem ww_or (h : Wt X H0 a δ (fun r => (r = false → Ww X H0 (.BoolOp .Or (b :: es) pos) δ kt) ∧ (r = true → kt true))) : Ww X H0 (.BoolOp .Or (a :: b :: es) pos) δ kt := fun σ G R => toW (pw_or pt_sem pw_sem) ((h σ G R).mono fun r G1 ⟨e1, h1, h2⟩ => by
  cases r with
  | false =>
    show semW X _ σ G1 _
    exact (h1 rfl σ G1 (R.mono e1)).mono fun _ _ ⟨e2, q⟩ => ⟨e1.trans e2, q⟩
  | true => exact ⟨e1, h2 rfl⟩)
theorem wt_w (h : Ww X H0 e δ kt) : Wt X H0 e δ kt := fun σ G R => toT pw_sem.pt (h σ G R)
theorem wt_not (h : Wt X H0 a δ (fun r => kt (!r))) : Wt X H0 (.UnaryOp .Not a pos) δ kt := fun σ G R => toT (pt_not pt_sem) (h σ G R)
theorem wt_val (h : We X H0 e δ (fun d => B1 d kt)) (he : ∀ whole, isTrue e X.env whole = (do let v ← whole; standAt e.pos; holding [v] (truthy v)) := by exact fun _ => rfl) : Wt X H0 e δ kt := fun σ G R => toT (pt_val pe_sem he) ((h σ G R).mono fun v G1 ⟨e1, d, i, b, ed, q⟩ => by
  subst ed
  cases i
  exact ⟨b, rfl, e1, q⟩)
def truD : D → Option Bool
  | .non => some false
  | .bl b => some b
  | .int i => some (i != 0)
  | .sq _ ds => some (!ds.isEmpty)
  | _ => none
def TR (x : D) (P : Bool → Prop) : Prop := ∃ r, truD x = some r ∧ P r
theorem tr {x : D} {r : Bool} {P : Bool → Prop} (e : truD x = some r) (h : P r) : TR x P := ⟨r, e, h⟩
theorem isEmpty_len {α β : Type} {xs : List α} {ys : List β} (h : xs.length = ys.length) : xs.isEmpty = ys.isEmpty := by
  cases xs <;> cases ys <;> first | rfl | cases h
/-- the truth of any value -/
theorem wt_tru (h : We X H0 e δ (fun d => TR d kt)) (he : ∀ whole, isTrue e X.env whole = (do let v ← whole; standAt e.pos; holding [v] (truthy v)) := by exact fun _ => rfl) : Wt X H0 e δ kt := fun σ G R => toT (pt_truth pe_sem he) ((h σ G R).mono fun v G1 ⟨e1, d, i, r, ed, q⟩ => by
  refine ⟨r, ?_, e1, q⟩
  cases d with
  | non => cases i; cases ed; rfl
  | bl b => cases i; cases ed; rfl
  | int n => cases i; cases ed; rfl
  | sq l ds =>
    cases ed
    cases l with
    | true =>
      obtain ⟨p, xs, rfl, hq, hl⟩ := i.lst_inv
      exact .inl ⟨xs, .inl hq, by rw [isEmpty_len hl.1]⟩
    | false =>
      obtain ⟨p, xs, rfl, hq, hl⟩ := i.tup_inv
      exact .inr (.inl ⟨xs, hq, by rw [isEmpty_len hl.1]⟩)
  | str x => cases ed
  | dic x => cases ed
  | ins C x => cases ed
  | ob x => cases ed
  | exc x y z => cases ed
  | scr x => cases ed)
theorem we_one {op} (h : We X H0 a δ k) : We X H0 (.BoolOp op [a] pos) δ k := fun σ G R => toE (pe_one pe_sem) (h σ G R)
theorem we_and (h : We X H0 a δ (fun d => B1 d fun r => (r = true → We X H0 (.BoolOp .And (b :: es) pos) δ k) ∧ (r = false → k (.bl false)))) : We X H0 (.BoolOp .And (a :: b :: es) pos) δ k := fun σ G R => toE (pe_and pe_sem pe_sem) ((h σ G R).mono fun v G1 ⟨e1, d, i, r, ed, h1, h2⟩ => by
  subst ed
  cases i
  refine ⟨r, rfl, ?_⟩
  cases r with
  | true =>
    show semE X _ σ G1 _
    exact (h1 rfl σ G1 (R.mono e1)).mono fun _ _ ⟨e2, q⟩ => ⟨e1.trans e2, q⟩
  | false => exact ⟨e1, _, .bl false, h2 rfl⟩)
theorem we_or (h : We X H0 a δ (fun d => B1 d fun r => (r = false → We X H0 (.BoolOp .Or (b :: es) pos) δ k) ∧ (r = true → k (.bl true)))) : We X H0 (.BoolOp .Or (a :: b :: es) pos) δ k := fun σ G R => toE (pe_or pe_sem pe_sem) ((h σ G R).mono fun v G1 ⟨e1, d, i, r, ed, h1, h2⟩ => by
  subst ed
  cases i
  refine ⟨r, rfl, ?_⟩
  cases r with
  | false =>
    show semE X _ σ G1 _
    exact (h1 rfl σ G1 (R.mono e1)).mono fun _ _ ⟨e2, q⟩ => ⟨e1.trans e2, q⟩
  | true => exact ⟨e1, _, .bl true, h2 rfl⟩)
theorem we_not (h : We X H0 a δ (fun d => B1 d fun r => k (.bl (!r)))) : We X H0 (.UnaryOp .Not a pos) δ k := fun σ G R => toE (pe_not pe_sem) ((h σ G R).mono fun v G1 ⟨e1, d, i, r, ed, q⟩ => by
  subst ed
  cases i
  exact ⟨r, rfl, e1, _, .bl _, q⟩)
theorem we_if (h : Wt X H0 c δ (fun r => (r = true → We X H0 a δ k) ∧ (r = false → We X H0 b δ k))) : We X H0 (.IfExp c a b pos) δ k := fun σ G R => toE (pe_ifExp pt_sem pe_sem pe_sem) ((h σ G R).mono fun r G1 ⟨e1, h1, h2⟩ => by
  cases r with
  | true =>
    show semE X _ σ G1 _
    exact (h1 rfl σ G1 (R.mono e1)).mono fun _ _ ⟨e2, q⟩ => ⟨e1.trans e2, q⟩
  | false =>
    show semE X _ σ G1 _
    exact (h2 rfl σ G1 (R.mono e1)).mono fun _ _ ⟨e2, q⟩ => ⟨e1.trans e2, q⟩)
/-! ### arguments, displays -/
variable {ka : List D → Prop}
theorem wa_nil (h : ka []) : Wa X H0 [] δ ka := fun σ G R => toA pa_nil ⟨Same.refl _, _, .nil, h⟩
theorem wa_cons (h : We X H0 e δ (fun d => Wa X H0 es δ (fun ds => ka (d :: ds)))) (hs : notStar e = true := by rfl) : Wa X H0 (e :: es) δ ka := fun σ G R => toA (pa_cons pe_sem pa_sem (star_of hs)) ((h σ G R).mono fun v G1 ⟨e1, d, i, q1⟩ =>
  (q1 σ G1 (R.mono e1)).mono fun vs G2 ⟨e2, ds, is, q2⟩ => ⟨e1.trans e2, _, .cons (i.mono e2) is, q2⟩)
theorem we_tup {x1} (h : Wa X H0 es δ (fun ds => ds.length ≤ 100000 ∧ k (.sq false ds))) : We X H0 (.Tuple es x1 pos) δ k := fun σ G R => toE (pe_tup pa_sem) ((h σ G R).mono fun vs G1 ⟨e1, ds, is, hl, q⟩ =>
  ⟨Nat.le_trans (by rw [is.1]; exact hl) (by decide), fun p hp => ⟨e1.trans (Ex.new hp), _, .mkT (SqT.of upd_same) (is.mono (Ex.new hp)), q⟩⟩)
variable {ko : Ow → Prop}
theorem wo_lst (h : Wa X H0 es δ (fun ds => ds.length ≤ 100000 ∧ ko (.lst ds))) : Wo X H0 (.List es pos) δ ko := fun σ G R => toE (pe_lst pa_sem) ((h σ G R).mono fun vs G1 ⟨e1, ds, is, hl, q⟩ =>
  ⟨Nat.le_trans (by rw [is.1]; exact hl) (by decide), fun p hp => ⟨_, (NewIs.lst hp is).back e1, q⟩⟩)
/-! ### built-in functions -/
/-- a built-in by its name: what its rule asks, by data -/
theorem call1 {r : List V → Hp → VK → Prop} {P : List D → Prop} {ta : TA} (h : Wa X H0 es δ P) (hr : ∀ G vs ds, IsL X.K G vs ds → P ds → ∀ Q : VK, (∀ z G' d, Ex G G' → Is X.K G' z d → k d → Q z G') → r vs G Q) :
    ∀ σ G, RelS X.K H0 σ G δ → tCB r (semA X es) σ G (fun v G' => Ex G G' ∧ ∃ d, Is X.K G' v d ∧ k d) := fun σ G R =>
  (h σ G R).mono fun vs G1 ⟨e1, ds, is, q⟩ => hr G1 vs ds is q _ fun z G' d e3 iz kz => ⟨e1.trans e3, d, iz, kz⟩
variable {p : Pos}
theorem we_callB {x : Str} {id : String} {r : List V → Hp → VK → Prop} {P : List D → Prop} (hc : CallR X (.builtin id) r) (hv : bootBuiltins x = some (.builtin id)) (hn : x ≠ "__name__") (hdb : (x == ("__debug__" : Str)) = false)
    (hr : ∀ G vs ds, IsL X.K G vs ds → P ds → ∀ Q : VK, (∀ z G' d, Ex G G' → Is X.K G' z d → k d → Q z G') → r vs G Q) (hm : X.mg x = none) (h : Wa X H0 (e :: es) δ P) (hg : Gl X x)
    (he : notStar e = true) (hpl : es.all notStar = true) : We X H0 (.Call (.Name x p) (e :: es) [] pos) δ k :=
  fun σ G R => toE (pe_callB hc hg hm hv pa_sem hn hdb (star_of he) (star_any hpl)) (call1 (ta := semA X (e :: es)) h hr σ G R)
theorem we_callTy {x : Str} {T : String} {r : List V → Hp → VK → Prop} {P : List D → Prop} (hc : CallR X (.type T) r) (hv : bootBuiltins x = some (.type T)) (hn : x ≠ "__name__") (hdb : (x == ("__debug__" : Str)) = false)
    (hr : ∀ G vs ds, IsL X.K G vs ds → P ds → ∀ Q : VK, (∀ z G' d, Ex G G' → Is X.K G' z d → k d → Q z G') → r vs G Q) (hm : X.mg x = none) (h : Wa X H0 (e :: es) δ P) (hg : Gl X x)
    (he : notStar e = true) (hpl : es.all notStar = true) : We X H0 (.Call (.Name x p) (e :: es) [] pos) δ k :=
  fun σ G R => toE (pe_callTy hc hg hm hv pa_sem hn hdb (star_of he) (star_any hpl)) (call1 (ta := semA X (e :: es)) h hr σ G R)
def SQ (x : D) (P : Bool → List D → Prop) : Prop := ∃ l xs, x = .sq l xs ∧ P l xs
theorem sqk {l : Bool} {xs : List D} {P : Bool → List D → Prop} (h : P l xs) : SQ (.sq l xs) P := ⟨l, xs, rfl, h⟩
def CI (x : D) (P : Int → Prop) : Prop := (∃ i, x = .int i ∧ P i) ∨ ∃ b, x = .bl b ∧ P (if b then 1 else 0)
theorem ci {i : Int} {P : Int → Prop} (h : P i) : CI (.int i) P := .inl ⟨i, rfl, h⟩
theorem cb {b : Bool} {P : Int → Prop} (h : P (if b then 1 else 0)) : CI (.bl b) P := .inr ⟨b, rfl, h⟩
def A1 (ds : List D) (P : D → Prop) : Prop := ∃ x, ds = [x] ∧ P x
theorem a1 {x : D} {P : D → Prop} (h : P x) : A1 [x] P := ⟨x, rfl, h⟩
def A2 (ds : List D) (P : D → D → Prop) : Prop := ∃ x y, ds = [x, y] ∧ P x y
theorem a2 {x y : D} {P : D → D → Prop} (h : P x y) : A2 [x, y] P := ⟨x, y, rfl, h⟩
theorem IsL.one {K : PySem.W.Frag} {G : Hp} {vs : List V} {x : D} (h : IsL K G vs [x]) : ∃ v, vs = [v] ∧ Is K G v x := by
  obtain ⟨v, r, rfl, i, h⟩ := h.inv_cons
  rw [h.inv_nil]
  exact ⟨v, rfl, i⟩
theorem IsL.two {K : PySem.W.Frag} {G : Hp} {vs : List V} {x y : D} (h : IsL K G vs [x, y]) : ∃ v w, vs = [v, w] ∧ Is K G v x ∧ Is K G w y := by
  obtain ⟨v, r, rfl, i, h⟩ := h.inv_cons
  obtain ⟨w, rfl, j⟩ := h.one
  exact ⟨v, w, rfl, i, j⟩
theorem we_len (hm : X.mg "len" = none) (h : Wa X H0 [e] δ (fun ds => A1 ds fun x => SQ x fun l xs => k (.int xs.length))) (hg : Gl X "len" := by rfl) (he : notStar e = true := by rfl) :
    We X H0 (.Call (.Name "len" p) [e] [] pos) δ k := we_callB call_len_seq boot_len (by decide) (by decide) (fun G vs ds is ⟨x, ed, l, xs, ex, hk⟩ Q q => by
  subst ed ex
  obtain ⟨v, rfl, i⟩ := is.one
  cases l with
  | true =>
    obtain ⟨a, ys, rfl, hq, hl⟩ := i.lst_inv
    exact ⟨a, ys, rfl, .inl (.inl hq), q _ G _ (Same.refl _) (by rw [hl.1]; exact .int _) hk⟩
  | false =>
    obtain ⟨a, ys, rfl, hq, hl⟩ := i.tup_inv
    exact ⟨a, ys, rfl, .inr hq, q _ G _ (Same.refl _) (by rw [hl.1]; exact .int _) hk⟩) hm h hg he rfl
theorem we_lenS (hm : X.mg "len" = none) (h : Wa X H0 [e] δ (fun ds => A1 ds fun x => ∃ ns, x = .scr ns ∧ k (.int (ns.length : Int)))) (hg : Gl X "len" := by rfl) (he : notStar e = true := by rfl) :
    We X H0 (.Call (.Name "len" p) [e] [] pos) δ k := we_callB call_len_seq boot_len (by decide) (by decide) (fun G vs ds is ⟨x, ed, ns, ex, hk⟩ Q q => by
  subst ed ex
  obtain ⟨v, rfl, i⟩ := is.one
  obtain ⟨a, rfl, hq⟩ := i.scr_inv
  exact ⟨a, _, rfl, .inl hq, q _ G _ (Same.refl _) (by rw [List.length_map]; exact .int _) hk⟩) hm h hg he rfl
theorem we_cint (hm : X.mg "int" = none) (h : Wa X H0 [e] δ (fun ds => A1 ds fun x => CI x fun i => k (.int i))) (hg : Gl X "int" := by rfl) (he : notStar e = true := by rfl) :
    We X H0 (.Call (.Name "int" p) [e] [] pos) δ k := we_callTy call_int1 (by decide +kernel) (by decide) (by decide) (fun G vs ds is ⟨x, ed, hx⟩ Q q => by
  subst ed
  obtain ⟨v, rfl, i⟩ := is.one
  rcases hx with ⟨n, ex, hk⟩ | ⟨n, ex, hk⟩
  · subst ex
    cases i
    exact .inl ⟨n, rfl, q _ G _ (Same.refl _) (.int _) hk⟩
  · subst ex
    cases i
    exact .inr ⟨n, rfl, q _ G _ (Same.refl _) (.int _) hk⟩) hm h hg he rfl
theorem we_abs (hm : X.mg "abs" = none) (h : Wa X H0 [e] δ (fun ds => A1 ds fun x => I1 x fun i => k (.int (i.natAbs : Int)))) (hg : Gl X "abs" := by rfl) (he : notStar e = true := by rfl) :
    We X H0 (.Call (.Name "abs" p) [e] [] pos) δ k := we_callB call_abs (by decide +kernel) (by decide) (by decide) (fun G vs ds is ⟨x, ed, n, ex, hk⟩ Q q => by
  subst ed ex
  obtain ⟨v, rfl, i⟩ := is.one
  cases i
  refine ⟨n, rfl, q _ G _ (Same.refl _) ?_ hk⟩
  rw [show (if n < 0 then -n else n) = (n.natAbs : Int) by split <;> omega]
  exact .int _) hm h hg he rfl
theorem wo_list (hm : X.mg "list" = none) (h : Wa X H0 [e] δ (fun ds => A1 ds fun x => SQ x fun l xs => ko (.lst xs))) (hg : Gl X "list" := by rfl) (he : notStar e = true := by rfl) :
    Wo X H0 (.Call (.Name "list" p) [e] [] pos) δ ko := fun σ G R => toE (pe_callTy call_list_of hg hm (by decide +kernel) pa_sem (by decide) (by decide) (star_of he) rfl) ((h σ G R).mono fun vs G1 ⟨e1, ds, is, x, ed, l, xs, ex, hk⟩ => by
  subst ed ex
  obtain ⟨v, rfl, i⟩ := is.one
  cases l with
  | true =>
    obtain ⟨a, ys, rfl, hq, hl⟩ := i.lst_inv
    exact ⟨a, ys, rfl, .inl (.inl hq), fun t ht => ⟨_, (NewIs.lst ht hl).back e1, hk⟩⟩
  | false =>
    obtain ⟨a, ys, rfl, hq, hl⟩ := i.tup_inv
    exact ⟨a, ys, rfl, .inr hq, fun t ht => ⟨_, (NewIs.lst ht hl).back e1, hk⟩⟩)
theorem we_tuple (hm : X.mg "tuple" = none) (h : Wa X H0 [e] δ (fun ds => A1 ds fun x => SQ x fun l xs => k (.sq false xs))) (hg : Gl X "tuple" := by rfl) (he : notStar e = true := by rfl) :
    We X H0 (.Call (.Name "tuple" p) [e] [] pos) δ k := we_callTy call_tuple_of (by decide +kernel) (by decide) (by decide) (fun G vs ds is ⟨x, ed, l, xs, ex, hk⟩ Q q => by
  subst ed ex
  obtain ⟨v, rfl, i⟩ := is.one
  cases l with
  | true =>
    obtain ⟨a, ys, rfl, hq, hl⟩ := i.lst_inv
    exact ⟨a, ys, rfl, .inl ⟨.inl hq, fun t ht => q _ _ _ (Ex.new ht) (.mkT (SqT.of upd_same) (hl.mono (Ex.new ht))) hk⟩⟩
  | false =>
    obtain ⟨a, ys, rfl, hq, hl⟩ := i.tup_inv
    exact ⟨a, ys, rfl, .inr ⟨hq, q _ G _ (Same.refl _) i hk⟩⟩) hm h hg he rfl
/-! ### isinstance with a built-in class -/
def tyD : D → Option String
  | .non => some "NoneType" | .bl _ => some "bool" | .int _ => some "int" | .str _ => some "str"
  | .sq true _ => some "list" | .sq false _ => some "tuple" | .dic _ => some "dict"
  | _ => none
theorem tyD_is {K : PySem.W.Frag} {G : Hp} {v : V} {d : D} {t : String} (i : Is K G v d) (h : tyD d = some t) : TyX K G v (.type t) := by
  cases i with
  | non => cases h; exact .base .non
  | bl b => cases h; exact .base (.bl b)
  | int b => cases h; exact .base (.int b)
  | str b => cases h; exact .base (.str b)
  | lst q _ _ =>
    cases h
    rcases q with q | ⟨o, q⟩
    · exact .base (.lst q)
    · exact .base (.frz q)
  | tup q _ _ =>
    cases h
    rcases q with (q | ⟨o, q⟩) | ⟨o, its, n, q, c, _⟩
    · exact .base (.tup q)
    · exact .fTuple q
    · exact .kTuple q c
  | dic q _ _ =>
    cases h
    rcases q with q | ⟨o, q⟩
    · exact .base (.dK q)
    · exact .fDict q
  | ins q _ _ => cases h
  | ob a => cases h
  | exc _ _ _ => cases h
  | scr _ => cases h
def II (d : D) (T : String) (P : Bool → Prop) : Prop := ∃ t b, tyD d = some t ∧ kitB t T = some b ∧ P b
theorem ii_ {d : D} {T t : String} {b : Bool} {P : Bool → Prop} (e : tyD d = some t) (e2 : kitB t T = some b) (h : P b) : II d T P := ⟨t, b, e, e2, h⟩
/-- a built-in class as a value -/
theorem isi_arg {x : Str} {T : String} (hm : X.mg x = none) (hv : bootBuiltins x = some (.type T)) (hg : Gl X x) (hn : x ≠ "__name__") (hd : (x == ("__debug__" : Str)) = false) : PE X (.Name x pos) (tC (.ty T)) := pe_bltn hg hm hv rfl hn hd
theorem we_isi {p2 : Pos} {x : Str} {T : String} (hm : X.mg "isinstance" = none) (hc : PE X (.Name x p2) (tC (.ty T))) (h : We X H0 e δ (fun d => II d T fun b => k (.bl b))) (hg : Gl X "isinstance" := by rfl)
    (he : notStar e = true := by rfl) :
    We X H0 (.Call (.Name "isinstance" p) [e, .Name x p2] [] pos) δ k := fun σ G R => toE (pe_callB call_isi hg hm (by decide +kernel) (pa_cons pe_sem (pa_cons hc pa_nil (star_of rfl)) (star_of he)) (by decide) (by decide) (star_of he) (star_any rfl)) ((h σ G R).mono fun v G1 ⟨e1, d, i, t, b, h1, h2, q⟩ =>
  ⟨v, .ty T, .type t, .type T, b, rfl, .ty T, tyD_is i h1, kit_ty h2, e1, _, .bl b, q⟩)
end
end DL
set_option Elab.async false
set_option linter.all false
set_option maxRecDepth 100000
set_option maxHeartbeats 2000000
/-! Part d: statements, loops, calls, defs, by data. -/
namespace DL
open PySem PySem.Spec PyProof.Rows L2
/-! ### what a call hands back, what it lets out -/
def RetIs (K : PySem.W.Frag) (H : Hp) (v : V) (H' : Hp) : S → Prop
  | .no => False
  | .sh d => Ex H H' ∧ Is K H' v d
  | .ow o => NewIs K H v H' o
theorem RetIs.ex {K : PySem.W.Frag} {H H' : Hp} {v : V} {r : S} (h : RetIs K H v H' r) : Ex H H' ∧ Is K H' v r.d := by
  cases r with
  | no => exact h.elim
  | sh d => exact h
  | ow o => exact ⟨NewIs.ex h, NewIs.is h⟩
theorem RetIs.back {K : PySem.W.Frag} {H0 H H' : Hp} {v : V} {r : S} (e : Ex H0 H) (h : RetIs K H v H' r) : RetIs K H0 v H' r := by
  cases r with
  | no => exact h.elim
  | sh d => exact ⟨e.trans h.1, h.2⟩
  | ow o => exact NewIs.back e h
def ExcIs (K : PySem.W.Frag) (H : Hp) : Option Addr → List (Str × D) → Prop
  | none, fs => fs = []
  | some a, fs => ∃ vs, H a = some (.xd vs) ∧ IsF K H vs fs
abbrev XD := Value → List (Str × D) → Prop
/-- what a def does, by data: its arguments, what is wanted of what it hands back, of what it lets out -/
abbrev DSp := List D → (S → Prop) → XD → Prop
def spD (K : PySem.W.Frag) (T : DSp) : Sp := fun vs H Q E => ∃ ds k x, IsL K H vs ds ∧ T ds k x ∧ (∀ v H' r, RetIs K H v H' r → k r → Q v H') ∧ (∀ c d H' fs, Ex H H' → ExcIs K H' d fs → x c fs → E c d H')
/-- what the context takes of exceptions, by data -/
structure Xc (X : Cx) (H0 : Hp) (xw : List S → XD) : Prop where
  ex : ∃ W : WX, Takes X W ∧ ∀ σ G δ c d fs, RelS X.K H0 σ G δ → ExcIs X.K G d fs → xw δ c fs → W c d σ G
theorem xc0 {X : Cx} {H0 : Hp} : Xc X H0 (fun _ _ _ => False) := ⟨⟨fun _ _ _ _ => False, takes0, fun _ _ _ _ _ _ _ _ h => h.elim⟩⟩
/-- a def that is known -/
structure Fn (P : Program) (w : World) (K : PySem.W.Frag) (mg : Str → Option Value) (base : Heap) (lvl : Nat) (x : Str) (ps : List Str) (T : DSp) (dds : List D) : Prop where
  ex : ∃ (f : Addr) (fd : FuncData) (ds : List Value) (dvs : List V), FnOk P w K mg base (L2.CX P w) lvl f fd ps (spD K T) ∧ mg x = some (.ref f) ∧ PySem.W.keepIn K (.ref f) = true ∧ Binds K fd ps ds ∧ Vals dvs ds ∧ ∀ G, IsL K G dvs dds
section
variable {X : Cx} {H0 : Hp} {δ δ' : List S} {a b c e : Expr} {es : List Expr} {k : D → Prop} {pos p : Pos}
theorem we_callX {lvl : Nat} {x : Str} {ps : List Str} {T : DSp} {dds : List D} {xw : List S → XD} (F : Fn X.prog X.w X.K X.mg X.base lvl x ps T dds) (hr : Room lvl X.A) (hx : Xc X H0 xw) (h : Wa X H0 (e :: es) δ (fun as => T (as ++ dds) (fun r => k r.d) (xw δ)))
    (hg : Gl X x := by rfl) (hdb : (x == ("__debug__" : Str)) = false := by decide) (he : notStar e = true := by rfl) (hpl : es.all notStar = true := by rfl) : We X H0 (.Call (.Name x p) (e :: es) [] pos) δ k := by
  intro σ G R
  obtain ⟨f, fd, ds, dvs, Fk, hm, hk, hb, hd, hdd⟩ := F.ex
  obtain ⟨W, tk, hW⟩ := hx.ex
  refine toE (pe_callSD Fk hr hg hm hk hb hd (fun σ => passAt tk σ) pa_sem hdb (star_of he) (star_any hpl)) ((h σ G R).mono fun vs G1 ⟨e1, as, is, hT⟩ => ?_)
  exact ⟨_, _, _, is.app (hdd G1), hT, fun v H' r hr' hk' => ⟨e1.trans hr'.ex.1, _, hr'.ex.2, hk'⟩, fun c d H' fs e2 i q => hW σ H' δ c d fs ((R.mono e1).mono e2) i q⟩
theorem wo_callX {ko : Ow → Prop} {lvl : Nat} {x : Str} {ps : List Str} {T : DSp} {dds : List D} {xw : List S → XD} (F : Fn X.prog X.w X.K X.mg X.base lvl x ps T dds) (hr : Room lvl X.A) (hx : Xc X H0 xw) (h : Wa X H0 (e :: es) δ (fun as => T (as ++ dds) (fun r => ∃ o, r = .ow o ∧ ko o) (xw δ)))
    (hg : Gl X x) (hdb : (x == ("__debug__" : Str)) = false) (he : notStar e = true) (hpl : es.all notStar = true) : Wo X H0 (.Call (.Name x p) (e :: es) [] pos) δ ko := by
  intro σ G R
  obtain ⟨f, fd, ds, dvs, Fk, hm, hk, hb, hd, hdd⟩ := F.ex
  obtain ⟨W, tk, hW⟩ := hx.ex
  refine toE (pe_callSD Fk hr hg hm hk hb hd (fun σ => passAt tk σ) pa_sem hdb (star_of he) (star_any hpl)) ((h σ G R).mono fun vs G1 ⟨e1, as, is, hT⟩ => ?_)
  exact ⟨_, _, _, is.app (hdd G1), hT, fun v H' r hr' ⟨o, ho, hk'⟩ => (by subst ho; exact ⟨o, NewIs.back e1 hr', hk'⟩), fun c d H' fs e2 i q => hW σ H' δ c d fs ((R.mono e1).mono e2) i q⟩
/-- a call where nothing is let out -/
theorem we_call {lvl : Nat} {x : Str} {ps : List Str} {T : DSp} {dds : List D} (F : Fn X.prog X.w X.K X.mg X.base lvl x ps T dds) (hr : Room lvl X.A) (h : Wa X H0 (e :: es) δ (fun as => T (as ++ dds) (fun r => k r.d) (fun _ _ => False)))
    (hg : Gl X x := by rfl) (hdb : (x == ("__debug__" : Str)) = false := by decide) (he : notStar e = true := by rfl) (hpl : es.all notStar = true := by rfl) : We X H0 (.Call (.Name x p) (e :: es) [] pos) δ k :=
  we_callX F hr xc0 h hg hdb he hpl
theorem wo_call {ko : Ow → Prop} {lvl : Nat} {x : Str} {ps : List Str} {T : DSp} {dds : List D} (F : Fn X.prog X.w X.K X.mg X.base lvl x ps T dds) (hr : Room lvl X.A) (h : Wa X H0 (e :: es) δ (fun as => T (as ++ dds) (fun r => ∃ o, r = .ow o ∧ ko o) (fun _ _ => False)))
    (hg : Gl X x := by rfl) (hdb : (x == ("__debug__" : Str)) = false := by decide) (he : notStar e = true := by rfl) (hpl : es.all notStar = true := by rfl) : Wo X H0 (.Call (.Name x p) (e :: es) [] pos) δ ko :=
  wo_callX F hr xc0 h hg hdb he hpl
end
/-! ### statements -/
structure En where
  nx : List S → Prop
  rt : List S → S → Prop
  bk : List S → Prop := fun _ => False
  ct : List S → Prop := fun _ => False
def toEnds (K : PySem.W.Frag) (H0 : Hp) (E : En) : Ends where
  nx σ H := ∃ δ own, Rel K H0 σ H δ own ∧ E.nx δ
  rt v H := ∃ σ δ own r, Rel K H0 σ H δ own ∧ RetIs K H0 v H r ∧ E.rt δ r
  bk σ H := ∃ δ own, Rel K H0 σ H δ own ∧ E.bk δ
  ct σ H := ∃ δ own, Rel K H0 σ H δ own ∧ E.ct δ
section
variable (X : Cx) (H0 : Hp)
def Ws (st : Stmt) (δ : List S) (E : En) : Prop := ∀ B σ H own, Ex H0 B → Rel X.K B σ H δ own → semS X st (toEnds X.K B E) σ H
def Wb (st : List Stmt) (δ : List S) (E : En) : Prop := ∀ B σ H own, Ex H0 B → Rel X.K B σ H δ own → semB X st (toEnds X.K B E) σ H
end
section
variable {K : PySem.W.Frag} {X : Cx} {H0 B H H' : Hp} {σ : L2.St} {δ δ' : List S} {own : List (List Addr)} {a b c e : Expr} {es : List Expr} {k : D → Prop} {ko : Ow → Prop} {kt : Bool → Prop} {pos p : Pos} {E : En} {st : Stmt} {sts rest : List Stmt}
theorem Rel.grow (R : Rel K H0 σ H δ own) (e : Ex H H') : Rel K H0 σ H' δ own :=
  ⟨R.ex.trans (cut_mono e), R.len1, R.len2, fun i s x l h1 h2 h3 => (R.sl i s x l h1 h2 h3).mono (cut_mono e) fun a ha => by
    obtain ⟨o, ho⟩ := (R.owned a (mem_flat h3 ha)).some
    rw [ho, e a o ho], R.nd⟩
theorem Rel.toEx (R : Rel K H0 σ H δ own) : Ex H0 H := R.ex.trans cut_ex
theorem RelS.weak {G : Hp} (hB : Ex H0 B) (R : RelS K B σ G δ) : RelS K H0 σ G δ := ⟨hB.trans R.ex, R.len, R.sh⟩
theorem Rel.weak (hB : Ex H0 B) (R : Rel K B σ H δ own) : Rel K H0 σ H δ own := ⟨hB.trans R.ex, R.len1, R.len2, R.sl, R.nd⟩
theorem We.at (h : We X H0 e δ k) (hB : Ex H0 B) (R : Rel X.K B σ H δ own) : semE X e σ H (fun v H' => ∃ d, Rel X.K B σ H' δ own ∧ Is X.K (cut H' own.flatten) v d ∧ k d) :=
  (semE.frame R.owned (h σ _ (R.toS.weak hB))).mono fun v H' ⟨G, eq, n, e, d, i, q⟩ => by
    subst eq
    exact ⟨d, R.step e n, by rw [cut_mrg n]; exact i, q⟩
theorem Wt.at (h : Wt X H0 e δ kt) (hB : Ex H0 B) (R : Rel X.K B σ H δ own) : semT X e σ H (fun v H' => Rel X.K B σ H' δ own ∧ kt v) :=
  (semT.frame R.owned (h σ _ (R.toS.weak hB))).mono fun v H' ⟨G, eq, n, e, q⟩ => by
    subst eq
    exact ⟨R.step e n, q⟩
theorem Wa.at {ka : List D → Prop} (h : Wa X H0 es δ ka) (hB : Ex H0 B) (R : Rel X.K B σ H δ own) : semA X es σ H (fun v H' => ∃ ds, Rel X.K B σ H' δ own ∧ IsL X.K (cut H' own.flatten) v ds ∧ ka ds) :=
  (semA.frame R.owned (h σ _ (R.toS.weak hB))).mono fun v H' ⟨G, eq, n, e, d, i, q⟩ => by
    subst eq
    exact ⟨d, R.step e n, by rw [cut_mrg n]; exact i, q⟩
/-- by a view of the state -/
theorem We.atV (hv : Vw δ δ') (h : We X H0 e δ' k) (hB : Ex H0 B) (R : Rel X.K B σ H δ own) : semE X e σ H (fun v H' => ∃ d, Rel X.K B σ H' δ own ∧ Is X.K H' v d ∧ k d) := by
  obtain ⟨R', sub⟩ := R.view hv
  refine (semE.frame R'.owned (h σ _ (R'.toS.weak hB))).mono fun v H' ⟨G, eq, n, e, d, i, q⟩ => ?_
  subst eq
  refine ⟨d, R.grow (mrg_ex e), i.mono fun a o ha => ?_, q⟩
  rw [mrg_out fun z => by rw [n a z] at ha; cases ha]
  exact ha
theorem Wt.atV (hv : Vw δ δ') (h : Wt X H0 e δ' kt) (hB : Ex H0 B) (R : Rel X.K B σ H δ own) : semT X e σ H (fun v H' => Rel X.K B σ H' δ own ∧ kt v) := by
  obtain ⟨R', sub⟩ := R.view hv
  refine (semT.frame R'.owned (h σ _ (R'.toS.weak hB))).mono fun v H' ⟨G, eq, n, e, q⟩ => ?_
  subst eq
  exact ⟨R.grow (mrg_ex e), q⟩
theorem Wa.atV {ka : List D → Prop} (hv : Vw δ δ') (h : Wa X H0 es δ' ka) (hB : Ex H0 B) (R : Rel X.K B σ H δ own) : semA X es σ H (fun v H' => ∃ ds, Rel X.K B σ H' δ own ∧ IsL X.K H' v ds ∧ ka ds) := by
  obtain ⟨R', sub⟩ := R.view hv
  refine (semA.frame R'.owned (h σ _ (R'.toS.weak hB))).mono fun v H' ⟨G, eq, n, e, d, i, q⟩ => ?_
  subst eq
  refine ⟨d, R.grow (mrg_ex e), i.mono fun a o ha => ?_, q⟩
  rw [mrg_out fun z => by rw [n a z] at ha; cases ha]
  exact ha
theorem Wo.at (h : Wo X H0 e δ ko) (hB : Ex H0 B) (R : Rel X.K B σ H δ own) : semE X e σ H (fun v H' => ∃ o, Rel X.K B σ H' δ own ∧ (∀ i, ∃ own', Rel X.K B (σ.set i (some v)) H' (δ.set i (.ow o)) own') ∧ NewIs X.K B v H' o ∧ ko o) :=
  (semE.frame R.owned (h σ _ (R.toS.weak hB))).mono fun v H' ⟨G, eq, n, o, N, q⟩ => by
    subst eq
    obtain ⟨l, hl, fr, ee, nd⟩ := N
    have e1 : Ex (cut H own.flatten) G := NewIs.ex ⟨l, hl, fr, ee, nd⟩
    have R' := R.step e1 n
    have eG : Ex G (mrg H own.flatten G) := fun a u ha => by
      rw [mrg_out fun z => by rw [n a z] at ha; cases ha]
      exact ha
    refine ⟨o, R', fun i => ⟨_, R.setOw ee n nd hl⟩, ?_, q⟩
    have dis : ∀ a ∈ l, mrg H own.flatten G a = G a := fun a ha => by
      obtain ⟨u, hu⟩ := (hl.at (fun a h => h) a ha).some
      rw [hu]
      exact eG a u hu
    have e2 : Ex (cut G l) (cut (mrg H own.flatten G) l) := cut_mono eG
    exact ⟨l, hl.mono e2 dis, fun a ha => R.ex.free (fr a ha), (R.ex.trans ee).trans e2, nd⟩
theorem Wb.mono {E' : En} (h : Wb X H0 sts δ E) (nx : ∀ δ, E.nx δ → E'.nx δ) (rt : ∀ δ r, E.rt δ r → E'.rt δ r) (bk : ∀ δ, E.bk δ → E'.bk δ) (ct : ∀ δ, E.ct δ → E'.ct δ) : Wb X H0 sts δ E' := fun B σ H own hB R =>
  (h B σ H own hB R).mono (fun σ H ⟨δ, own, R, q⟩ => ⟨δ, own, R, nx _ q⟩) (fun v H ⟨σ, δ, own, r, R, i, q⟩ => ⟨σ, δ, own, r, R, i, rt _ _ q⟩) (fun σ H ⟨δ, own, R, q⟩ => ⟨δ, own, R, bk _ q⟩) (fun σ H ⟨δ, own, R, q⟩ => ⟨δ, own, R, ct _ q⟩)
theorem wb_nil (h : E.nx δ) : Wb X H0 [] δ E := fun B σ H own hB R => toB pss_nil ⟨δ, own, R, h⟩
theorem wb_cons (h : Ws X H0 st δ { E with nx := fun δ' => Wb X H0 rest δ' E }) : Wb X H0 (st :: rest) δ E := fun B σ H own hB R => toB (pss_cons ps_sem pb_sem) ((h B σ H own hB R).mono (fun σ H ⟨δ, own, R, q⟩ => q B σ H own hB R) (fun _ _ q => q) (fun _ _ q => q) (fun _ _ q => q))
theorem ws_view (hv : Vw δ δ') (h : Ws X H0 st δ' E) : Ws X H0 st δ E := fun B σ H own hB R => h B σ H _ hB (R.view hv).1
theorem wb_view (hv : Vw δ δ') (h : Wb X H0 sts δ' E) : Wb X H0 sts δ E := fun B σ H own hB R => h B σ H _ hB (R.view hv).1
theorem ws_pass (h : E.nx δ) : Ws X H0 (.Pass pos) δ E := fun B σ H own hB R => toS ps_pass ⟨δ, own, R, h⟩
theorem ws_break (h : E.bk δ) : Ws X H0 (.Break pos) δ E := fun B σ H own hB R => toS ps_break ⟨δ, own, R, h⟩
theorem ws_cont (h : E.ct δ) : Ws X H0 (.Continue pos) δ E := fun B σ H own hB R => toS ps_continue ⟨δ, own, R, h⟩
theorem ws_set (i : Nat) {x : Str} {pos' : Pos} (hN : X.N.Nodup) (h : We X H0 e δ (fun d => E.nx (δ.set i (.sh d)))) (hi : X.N[i]? = some x := by rfl) (hx : Loc X.env.scope x := by first | exact .inl rfl | exact .inr rfl) (hs : swapsWith e (some (.Name x pos')) pos.line X.env = pure false := by rfl) (hf : X.fn x = true ∨ X.env.scope.names.lookup x = some .local := by exact .inl rfl) :
    Ws X H0 (.Assign [.Name x pos'] e pos) δ E := fun B σ H own hB R => toS (ps_set hN hi hx pe_sem hs hf) ((h.at hB R).mono fun v H' ⟨d, R', i, q⟩ => ⟨_, _, R'.setSh i, q⟩)
theorem ws_setV (i : Nat) {x : Str} {pos' : Pos} (hN : X.N.Nodup) (hv : Vw δ δ') (h : We X H0 e δ' (fun d => Flat d ∧ E.nx (δ.set i (.sh d)))) (hi : X.N[i]? = some x := by rfl) (hx : Loc X.env.scope x := by first | exact .inl rfl | exact .inr rfl) (hs : swapsWith e (some (.Name x pos')) pos.line X.env = pure false := by rfl) (hf : X.fn x = true ∨ X.env.scope.names.lookup x = some .local := by exact .inl rfl) :
    Ws X H0 (.Assign [.Name x pos'] e pos) δ E := fun B σ H own hB R => toS (ps_set hN hi hx pe_sem hs hf) ((h.atV hv hB R).mono fun v H' ⟨d, R', i, f, q⟩ => ⟨_, _, R'.setSh (i.flat f), q⟩)
theorem ws_setO (i : Nat) {x : Str} {pos' : Pos} (hN : X.N.Nodup) (h : Wo X H0 e δ (fun o => E.nx (δ.set i (.ow o)))) (hi : X.N[i]? = some x := by rfl) (hx : Loc X.env.scope x := by first | exact .inl rfl | exact .inr rfl) (hs : swapsWith e (some (.Name x pos')) pos.line X.env = pure false := by rfl) (hf : X.fn x = true ∨ X.env.scope.names.lookup x = some .local := by exact .inl rfl) :
    Ws X H0 (.Assign [.Name x pos'] e pos) δ E := fun B σ H own hB R => toS (ps_set hN hi hx pe_sem hs hf) ((h.at hB R).mono fun v H' ⟨o, R', so, N, q⟩ => let ⟨own', Ro⟩ := so i; ⟨_, own', Ro, q⟩)
theorem ws_if (hv : Vw δ δ') (h : Wt X H0 c δ' (fun r => (r = true → Wb X H0 sts δ E) ∧ (r = false → Wb X H0 rest δ E))) : Ws X H0 (.If c sts rest pos) δ E := fun B σ H own hB R => toS (ps_if pt_sem pb_sem pb_sem) ((h.atV hv hB R).mono fun r H' ⟨R', h1, h2⟩ => by
  cases r with
  | true => exact h1 rfl B σ H' _ hB R'
  | false => exact h2 rfl B σ H' _ hB R')
theorem ws_ret (hv : Vw δ δ') (h : We X H0 e δ' (fun d => E.rt δ (.sh d))) : Ws X H0 (.Return (some e) pos) δ E := fun B σ H own hB R => toS (ps_ret pe_sem) ((h.atV hv hB R).mono fun v H' ⟨d, R', i, q⟩ => ⟨σ, δ, own, .sh d, R', ⟨R'.toEx, i⟩, q⟩)
theorem ws_retO (h : Wo X H0 e δ (fun o => E.rt δ (.ow o))) : Ws X H0 (.Return (some e) pos) δ E := fun B σ H own hB R => toS (ps_ret pe_sem) ((h.at hB R).mono fun v H' ⟨o, R', so, N, q⟩ => ⟨σ, δ, own, .ow o, R', N, q⟩)
theorem ws_retN (h : E.rt δ (.sh .non)) : Ws X H0 (.Return none pos) δ E := fun B σ H own hB R => toS ps_retN ⟨σ, δ, own, .sh .non, R, ⟨R.toEx, .non⟩, h⟩
theorem nd_part : ∀ {own : List (List Addr)} {i : Nat} {l : List Addr}, own.flatten.Nodup → own[i]? = some l → l.Nodup
  | [], _, _, _, h => by cases h
  | l0 :: r, 0, l, nd, h => by
    rw [List.flatten_cons, List.nodup_append] at nd
    cases h
    exact nd.1
  | l0 :: r, i + 1, l, nd, h => by
    rw [List.flatten_cons, List.nodup_append] at nd
    exact nd_part (i := i) nd.2.1 h
theorem Rel.newIs {i : Nat} {o : Ow} (R : Rel K H0 σ H δ own) (hi : δ[i]? = some (.ow o)) : ∃ v, σ[i]? = some (some v) ∧ NewIs K H0 v H o := by
  obtain ⟨x, l, h1, h2, v, rfl, q⟩ := R.idx hi
  have sub : ∀ a ∈ l, a ∈ own.flatten := fun a ha => mem_flat h2 ha
  refine ⟨v, h1, l, q.mono (cut_sub sub) fun _ _ => rfl, fun a ha => R.ex.free (cut_in (sub a ha)), R.ex.trans (cut_sub sub), ?_⟩
  exact nd_part R.nd h2
/-- an owned object is handed back -/
theorem ws_retOwn (i : Nat) {x : Str} {px : Pos} {o : Ow} (hi : δ[i]? = some (.ow o)) (h : E.rt δ (.ow o)) (hp : PE X (.Name x px) (tVar i) := by exact pv _) : Ws X H0 (.Return (some (.Name x px)) pos) δ E := fun B σ H own hB R => toS (ps_ret hp) (by
  obtain ⟨v, h1, N⟩ := R.newIs hi
  exact ⟨v, h1, σ, δ, own, .ow o, R, N, h⟩)
theorem ws_expr (hv : Vw δ δ') (h : We X H0 e δ' (fun _ => E.nx δ)) (hs : swapsWith e none pos.line X.env = pure false := by rfl) : Ws X H0 (.Expr e pos) δ E := fun B σ H own hB R => toS (ps_expr pe_sem hs) ((h.atV hv hB R).mono fun v H' ⟨d, R', i, q⟩ => ⟨δ, own, R', q⟩)
theorem few_of {env : Env} {cpos : Pos} (h : notStar e = true) : ((backTo cpos (starEach [e] env)).all (fun x => !x.1) && (backToKw cpos (keywordEach [] env)).all (fun x => x.1.isSome) && decide ([e].length + ([] : List Keyword).length + (if ([] : List Keyword).isEmpty then 0 else 1) < 30)) = true := by
  rw [star_of h]
  rfl
/-- xs.append(e), xs a list that the frame alone holds -/
theorem ws_append (i : Nat) {x : Str} {px apos cpos : Pos} {ds : List D} (hi : δ[i]? = some (.ow (.lst ds))) (hl : ds.length < 100000) (h : We X H0 e δ (fun d => E.nx (δ.set i (.ow (.lst (ds ++ [d])))))) (hp : PE X (.Name x px) (tVar i) := by exact pv _)
    (hbase : attributeBase (.Name x px) "append" X.env (eval (.Name x px) X.env) = eval (.Name x px) X.env := by rfl)
    (hline : (apos.endLine == cpos.line) = true := by rfl) (hs : notStar e = true := by rfl)
    (hw : swapsWith (.Call (.Attribute (.Name x px) "append" apos) [e] [] cpos) none pos.line X.env = pure false := by rfl) : Ws X H0 (.Expr (.Call (.Attribute (.Name x px) "append" apos) [e] [] cpos) pos) δ E := fun B σ H own hB R =>
  toS (ps_expr (pe_bm PySem.F.plainAttrs_list PySem.F.slot_list_append PySem.F.type_list_append mt_append hp (pa_cons pe_sem pa_nil (star_of hs)) hbase (few_of hs) hline (star_of hs) rfl) hw) (by
    obtain ⟨x0, l, h1, h2, v, rfl, p, xs, rfl, rfl, h3, h4⟩ := R.idx hi
    refine ⟨_, h1, .inl ⟨rfl, xs, SqL.of h3⟩, (h.at hB R).mono fun w H' ⟨d, R', id, q⟩ => ?_⟩
    obtain ⟨x0, l, g1, g2, v', rfl, p', xs', ev, rfl, g3, g4⟩ := R'.idx hi
    rw [h1] at g1; cases g1
    rw [h2] at g2; cases g2
    have e1 : xs'.length = ds.length := g4.1
    refine ⟨p, xs', w, rfl, rfl, g3, Nat.lt_trans (by rw [e1]; exact hl) (by decide), _, _, R'.write (o' := .lst _) h2 (by simp) h1 ⟨p, xs' ++ [w], rfl, rfl, upd_same, g4.snoc id⟩, q⟩)
/-- xs[i] = e, xs a list that the frame alone holds -/
theorem ws_setitem (i : Nat) {x : Str} {px spos : Pos} {ix : Expr} {ds : List D} (hi : δ[i]? = some (.ow (.lst ds))) (h : We X H0 e δ (fun d => We X H0 ix δ (fun n => ∃ j : Nat, n = .int j ∧ j < ds.length ∧ E.nx (δ.set i (.ow (.lst (ds.set j d)))))))
    (hp : PE X (.Name x px) (tVar i) := by exact pv _) (ha : PG X (.Subscript (.Name x px) ix spos) (gSub (tVar i) (semE X ix) rSetL) := by exact pg_sub (pv _) pe_sem set_list)
    (hs : swapsWithSole [.Subscript (.Name x px) ix spos] e pos.line X.env = pure false := by rfl) (hw : swappedStores [.Subscript (.Name x px) ix spos] e X.env = pure none := by rfl)
    (h1 : (assignEach [.Subscript (.Name x px) ix spos] X.env).map (·.2) = [assign (.Subscript (.Name x px) ix spos) X.env] := by rfl) : Ws X H0 (.Assign [.Subscript (.Name x px) ix spos] e pos) δ E := fun B σ H own hB R =>
  toS (ps_asg pe_sem ha hs hw h1) ((h.at hB R).mono fun w H1 ⟨d, R1, id, q⟩ => by
    obtain ⟨x0, l, h1, h2, v, rfl, p, xs, rfl, rfl, h3, h4⟩ := R1.idx hi
    refine ⟨_, h1, (semE.frame R1.owned (q σ _ (R1.toS.weak hB))).mono fun n H2 ⟨G, eq, nn, e2, dn, inn, j, ej, hj, q2⟩ => ?_⟩
    have R2 := R1.step e2 nn
    rw [← eq] at R2
    have cH : cut H2 own.flatten = G := by rw [eq]; exact cut_mrg nn
    obtain ⟨x0, l, g1, g2, v', rfl, p', xs', ev, rfl, g3, g4⟩ := R2.idx hi
    rw [h1] at g1; cases g1
    rw [h2] at g2; cases g2
    subst ej
    cases inn
    refine ⟨p, xs', (j : Int), j, rfl, rfl, g3, ?_, _, _, R2.write (o' := .lst _) h2 (by simp) h1 ⟨p, xs'.set j w, rfl, rfl, upd_same, g4.set (by rw [cH]; exact id.mono e2)⟩, q2⟩
    unfold ixN
    have e1 : xs'.length = ds.length := g4.1
    rw [if_pos (by omega), if_pos (by omega)]
    simp)
/-! ### targets -/
def semG (X : Cx) (tg : Expr) : TG := fun v σ H Q => ∀ pins s u, Inv X pins σ H s → RelV v u → wpAny (model X.prog X.w) X.A (assign tg X.env u) (fun _ s' => ∃ σ' H', Inv X pins σ' H' s' ∧ Q σ' H') X.xe s
theorem pg_sem {tg : Expr} : PG X tg (semG X tg) := ⟨fun pins s σ H v u Q I r h => h pins s u I r⟩
theorem toG {tg : Expr} {t : TG} {v : V} {Q : L2.St → Hp → Prop} (h : PG X tg t) (q : t v σ H Q) : semG X tg v σ H Q := fun pins s u I r => h.run pins s σ H v u Q I r q
def semGs (X : Cx) (ts : List Expr) : TGs := fun vs σ H Q => ∀ pins s us, Inv X pins σ H s → Vals vs us → wpAny (model X.prog X.w) X.A (assignInOrder ((assignEach ts X.env).map (·.2)) us) (fun _ s' => ∃ σ' H', Inv X pins σ' H' s' ∧ Q σ' H') X.xe s
theorem pgs_sem {ts : List Expr} : PGs X ts (semGs X ts) := ⟨fun pins s σ H v u Q I r h => h pins s u I r⟩
theorem toGs {ts : List Expr} {t : TGs} {vs : List V} {Q : L2.St → Hp → Prop} (h : PGs X ts t) (q : t vs σ H Q) : semGs X ts vs σ H Q := fun pins s u I r => h.run pins s σ H vs u Q I r q
def Wg (X : Cx) (H0 : Hp) (tg : Expr) (d : D) (δ : List S) (kn : List S → Prop) : Prop := ∀ B σ H own v, Ex H0 B → Rel X.K B σ H δ own → Is X.K (cut H own.flatten) v d → semG X tg v σ H (fun σ' H' => ∃ δ' own', Rel X.K B σ' H' δ' own' ∧ kn δ')
def Wgs (X : Cx) (H0 : Hp) (ts : List Expr) (ds : List D) (δ : List S) (kn : List S → Prop) : Prop := ∀ B σ H own vs, Ex H0 B → Rel X.K B σ H δ own → IsL X.K (cut H own.flatten) vs ds → semGs X ts vs σ H (fun σ' H' => ∃ δ' own', Rel X.K B σ' H' δ' own' ∧ kn δ')
variable {kn : List S → Prop}
theorem wg_name (i : Nat) {x : Str} {d : D} (hN : X.N.Nodup) (h : kn (δ.set i (.sh d))) (hi : X.N[i]? = some x := by rfl) (hx : Loc X.env.scope x := by first | exact .inl rfl | exact .inr rfl) (hf : X.fn x = true ∨ X.env.scope.names.lookup x = some .local := by exact .inl rfl) : Wg X H0 (.Name x pos) d δ kn :=
  fun B σ H own v hB R iv => toG (pg_name hN hi hx hf) ⟨_, _, R.setSh iv, h⟩
theorem wgs_nil (h : kn δ) : Wgs X H0 [] [] δ kn := fun B σ H own vs hB R iv => toGs pgs_nil (by
  rw [iv.inv_nil]
  exact ⟨rfl, δ, own, R, h⟩)
theorem semG.mono {tg : Expr} {v : V} {Q Q' : L2.St → Hp → Prop} (h : semG X tg v σ H Q) (m : ∀ σ H, Q σ H → Q' σ H) : semG X tg v σ H Q' := fun pins s u I r => thn (h pins s u I r) fun _ s' ⟨σ', H', J, q⟩ => ⟨σ', H', J, m _ _ q⟩
theorem semGs.mono {tg : List Expr} {v : List V} {Q Q' : L2.St → Hp → Prop} (h : semGs X tg v σ H Q) (m : ∀ σ H, Q σ H → Q' σ H) : semGs X tg v σ H Q' := fun pins s u I r => thn (h pins s u I r) fun _ s' ⟨σ', H', J, q⟩ => ⟨σ', H', J, m _ _ q⟩
theorem ws_asg {tg : Expr} (h : We X H0 e δ (fun d => Wg X H0 tg d δ E.nx)) (hs : swapsWithSole [tg] e pos.line X.env = pure false := by rfl) (hw : swappedStores [tg] e X.env = pure none := by rfl)
    (h1 : (assignEach [tg] X.env).map (·.2) = [assign tg X.env] := by rfl) : Ws X H0 (.Assign [tg] e pos) δ E := fun B σ H own hB R => toS (ps_asg pe_sem pg_sem hs hw h1) ((h.at hB R).mono fun v H1 ⟨d, R1, id, q⟩ => q B σ H1 own v hB R1 id)
/-! ### loops -/
/-- what holds ahead of a turn, up to a view -/
def Upto (P : List S → Prop) (δ : List S) : Prop := ∃ δ', Vw δ δ' ∧ P δ'
theorem upto {P : List S → Prop} (h : P δ) : Upto P δ := ⟨δ, Vw.refl δ, h⟩
abbrev turnE (E : En) (P : List S → Prop) : En := { nx := Upto P, rt := E.rt, bk := E.nx, ct := Upto P }
theorem ws_forR (hm : X.mg "range" = none) (hp : PassesOwn (model X.prog X.w) X.A X.env X.xe) (hc : X.calm = true) {tg : Expr} {pr pc : Pos} (hv : Vw δ δ') (Iv : Nat → List S → Prop)
    (h : Wa X H0 [e] δ' (fun ds => A1 ds fun x => I1 x fun n => (-(2 ^ 62) ≤ n ∧ n < 2 ^ 62) ∧ Upto (Iv 0) δ ∧ (∀ (i : Nat) δ1, (i : Int) < n → Iv i δ1 → Wg X H0 tg (.int (i : Int)) δ1 fun δ2 => Wb X H0 sts δ2 (turnE E (Iv (i + 1)))) ∧ (∀ δ1, Iv n.toNat δ1 → E.nx δ1)))
    (hg : Gl X "range" := by rfl) (hs1 : notStar e = true := by rfl) (hs : ∀ x, foldedSetIterable (.Call (.Name "range" pr) [e] [] pc) X.env x = pure x := by intro _; rfl) : Ws X H0 (.For tg (.Call (.Name "range" pr) [e] [] pc) sts [] pos) δ E := fun B σ H own hB R =>
  toS (ps_for hp hc (pi_range1 hg hm pa_sem (star_of hs1)) pg_sem pb_sem hs) ((h.atV hv hB R).mono fun vs H1 ⟨ds, R1, is, x, ed, n, ex, ⟨b1, b2⟩, h0, ht, he⟩ => by
    subst ed ex
    obtain ⟨v, rfl, i⟩ := is.one
    cases i
    refine ⟨n, rfl, b1, b2, for_range (lo := 0) (n := n.toNat) (fun i σ H => ∃ δ own, Rel X.K B σ H δ own ∧ Upto (Iv i) δ) ⟨δ, own, R1, h0⟩ (fun i σ' H' hi ⟨δ1, own1, R', δ2, hv2, q⟩ => ?_) (fun σ' H' ⟨δ1, own1, R', δ2, hv2, q⟩ => ⟨_, _, (R'.view hv2).1, he _ q⟩)⟩
    rw [Int.zero_add]
    exact (ht i δ2 (by omega) q B σ' H' _ _ hB (R'.view hv2).1 (.int _)).mono fun σ3 H3 ⟨δ3, own3, R3, q3⟩ => q3 B σ3 H3 own3 hB R3)
theorem ws_forR2 (hm : X.mg "range" = none) (hp : PassesOwn (model X.prog X.w) X.A X.env X.xe) (hc : X.calm = true) {tg e2 : Expr} {pr pc : Pos} (hv : Vw δ δ') (Iv : Nat → List S → Prop)
    (h : Wa X H0 [e, e2] δ' (fun ds => A2 ds fun x y => I2 x y fun m n => (-(2 ^ 62) ≤ m ∧ m < 2 ^ 62 ∧ -(2 ^ 62) ≤ n ∧ n < 2 ^ 62) ∧ Upto (Iv 0) δ ∧ (∀ (i : Nat) δ1, m + (i : Int) < n → Iv i δ1 → Wg X H0 tg (.int (m + (i : Int))) δ1 fun δ2 => Wb X H0 sts δ2 (turnE E (Iv (i + 1)))) ∧ (∀ δ1, Iv (n - m).toNat δ1 → E.nx δ1)))
    (hg : Gl X "range" := by rfl) (hs1 : notStar e = true := by rfl) (hs2 : notStar e2 = true := by rfl) (hs : ∀ x, foldedSetIterable (.Call (.Name "range" pr) [e, e2] [] pc) X.env x = pure x := by intro _; rfl) : Ws X H0 (.For tg (.Call (.Name "range" pr) [e, e2] [] pc) sts [] pos) δ E := fun B σ H own hB R =>
  toS (ps_for hp hc (pi_range2 hg hm pa_sem ((star_of hs1).trans (congrArg _ (star_of hs2))) (star_of hs2)) pg_sem pb_sem hs) ((h.atV hv hB R).mono fun vs H1 ⟨ds, R1, is, x, y, ed, m, n, ex, ey, bb, h0, ht, he⟩ => by
    subst ed ex ey
    obtain ⟨v, w, rfl, i, j⟩ := is.two
    cases i
    cases j
    refine ⟨m, n, rfl, bb, for_range (lo := m) (n := (n - m).toNat) (fun i σ H => ∃ δ own, Rel X.K B σ H δ own ∧ Upto (Iv i) δ) ⟨δ, own, R1, h0⟩ (fun i σ' H' hi ⟨δ1, own1, R', δ2, hv2, q⟩ => ?_) (fun σ' H' ⟨δ1, own1, R', δ2, hv2, q⟩ => ⟨_, _, (R'.view hv2).1, he _ q⟩)⟩
    exact (ht i δ2 (by omega) q B σ' H' _ _ hB (R'.view hv2).1 (.int _)).mono fun σ3 H3 ⟨δ3, own3, R3, q3⟩ => q3 B σ3 H3 own3 hB R3)
def loopOf (X : Cx) (l : Bool) (tg : Expr) (sts : List Stmt) (D : Ends) (x : V) (σ : L2.St) (H : Hp) : Prop := match l with
  | true => ∃ a, x = .ref a ∧ (∃ xs, SqL X.K H a xs) ∧ ∃ W : Nat → Nat → L2.St → Hp → Prop, (∃ m, W 0 m σ H) ∧ ∀ i m σ H, W i m σ H →
    ((Itl X.K a).stop i H ∧ D.nx σ H) ∨ ((Itl X.K a).go i H ∧ ∃ N : L2.St → Hp → Prop, (∀ σ' H', N σ' H' → ∃ m', m' < m ∧ W (i + 1) m' σ' H') ∧ ∀ x H', (Itl X.K a).yld i H x H' → semG X tg x σ H' fun σ2 H2 => semB X sts { D with nx := N, ct := N, bk := D.nx } σ2 H2)
  | false => ∃ a, x = .ref a ∧ (∃ xs, SqT X.K H a xs) ∧ ∃ W : Nat → Nat → L2.St → Hp → Prop, (∃ m, W 0 m σ H) ∧ ∀ i m σ H, W i m σ H →
    ((Itt X.K a).stop i H ∧ D.nx σ H) ∨ ((Itt X.K a).go i H ∧ ∃ N : L2.St → Hp → Prop, (∀ σ' H', N σ' H' → ∃ m', m' < m ∧ W (i + 1) m' σ' H') ∧ ∀ x H', (Itt X.K a).yld i H x H' → semG X tg x σ H' fun σ2 H2 => semB X sts { D with nx := N, ct := N, bk := D.nx } σ2 H2)
/-- over a list or a tuple of the shared heap -/
theorem ws_forS (hp : PassesOwn (model X.prog X.w) X.A X.env X.xe) (hc : X.calm = true) {tg it : Expr} (Iv : Nat → List S → Prop) (l : Bool)
    (h : We X H0 it δ (fun x => ∃ ds, x = .sq l ds ∧ Upto (Iv 0) δ ∧ (∀ (i : Nat) d δ1, ds[i]? = some d → Iv i δ1 → Wg X H0 tg d δ1 fun δ2 => Wb X H0 sts δ2 (turnE E (Iv (i + 1)))) ∧ (∀ δ1, Iv ds.length δ1 → E.nx δ1)))
    (hs : ∀ x, foldedSetIterable it X.env x = pure x := by intro _; rfl) : Ws X H0 (.For tg it sts [] pos) δ E := fun B σ H own hB R => by
  suffices step : ∀ H1 v, (∃ d, Rel X.K B σ H1 δ own ∧ Is X.K (cut H1 own.flatten) v d ∧ ∃ ds, d = .sq l ds ∧ Upto (Iv 0) δ ∧ (∀ (i : Nat) d δ1, ds[i]? = some d → Iv i δ1 → Wg X H0 tg d δ1 fun δ2 => Wb X H0 sts δ2 (turnE E (Iv (i + 1)))) ∧ (∀ δ1, Iv ds.length δ1 → E.nx δ1)) → loopOf X l tg sts (toEnds X.K B E) v σ H1 by
    cases l with
    | true => exact toS (ps_for hp hc (pi_list pe_sem) pg_sem pb_sem hs) ((h.at hB R).mono fun v H1 => step H1 v)
    | false => exact toS (ps_for hp hc (pi_tup pe_sem) pg_sem pb_sem hs) ((h.at hB R).mono fun v H1 => step H1 v)
  intro H1 v ⟨d, R1, iv, ds, ed, h0, ht, he⟩
  subst ed
  have hB1 : Ex B (cut H1 own.flatten) := R1.ex
  have R0 : Rel X.K (cut H1 own.flatten) σ H1 δ own := ⟨Same.refl _, R1.len1, R1.len2, R1.sl, R1.nd⟩
  obtain ⟨a, xs, rfl, hq, hl⟩ := iv.sq_inv
  have turn : ∀ i x σ' H', xs[i]? = some x → (∃ δ own', Rel X.K (cut H1 own.flatten) σ' H' δ own' ∧ Upto (Iv i) δ) → semG X tg x σ' H' fun σ2 H2 => semB X sts { toEnds X.K B E with nx := fun σ' H' => ∃ δ own', Rel X.K (cut H1 own.flatten) σ' H' δ own' ∧ Upto (Iv (i + 1)) δ, ct := fun σ' H' => ∃ δ own', Rel X.K (cut H1 own.flatten) σ' H' δ own' ∧ Upto (Iv (i + 1)) δ, bk := (toEnds X.K B E).nx } σ2 H2 := fun i x σ' H' hx ⟨δ1, own1, Ra, δ2, hv2, q⟩ => by
    obtain ⟨d, hd, id⟩ := hl.getV hx
    have Rw := (Ra.view hv2).1
    refine (ht i d δ2 hd q (cut H1 own.flatten) σ' H' _ _ (hB.trans hB1) Rw (id.mono Rw.ex)).mono fun σ3 H3 ⟨δ3, own3, R3, q3⟩ => ?_
    refine (q3 _ σ3 H3 own3 (hB.trans hB1) R3).mono (fun _ _ z => z) (fun v H ⟨σ, δ, own, r, Rr, ri, qq⟩ => ⟨σ, δ, own, r, Rr.weak hB1, ri.back hB1, qq⟩) (fun σ H ⟨δ, own, Rr, qq⟩ => ⟨δ, own, Rr.weak hB1, qq⟩) (fun _ _ z => z)
  have done : ∀ σ' H', (∃ δ own', Rel X.K (cut H1 own.flatten) σ' H' δ own' ∧ Upto (Iv xs.length) δ) → (toEnds X.K B E).nx σ' H' := fun σ' H' ⟨δ1, own1, Ra, δ2, hv2, q⟩ => by
    rw [hl.1] at q
    exact ⟨_, _, ((Ra.view hv2).1).weak hB1, he _ q⟩
  cases l with
  | true =>
    have hq : SqL X.K (cut H1 own.flatten) a xs := .inl hq
    exact ⟨a, rfl, ⟨xs, Ex.sqL cut_ex hq⟩, for_list (K := X.K) (xs := xs) (fun i σ H => ∃ δ own', Rel X.K (cut H1 own.flatten) σ H δ own' ∧ Upto (Iv i) δ) ⟨δ, own, R0, h0⟩ (fun i σ H _ ⟨δ1, own1, Ra, _⟩ => Ex.sqL Ra.toEx hq) (fun i x σ H hx hI => turn i x σ H hx hI) done⟩
  | false =>
    have hq : SqT X.K (cut H1 own.flatten) a xs := hq
    exact ⟨a, rfl, ⟨xs, Ex.sqT cut_ex hq⟩, for_tup (K := X.K) (xs := xs) (fun i σ H => ∃ δ own', Rel X.K (cut H1 own.flatten) σ H δ own' ∧ Upto (Iv i) δ) ⟨δ, own, R0, h0⟩ (fun i σ H _ ⟨δ1, own1, Ra, _⟩ => Ex.sqT Ra.toEx hq) (fun i x σ H hx hI => turn i x σ H hx hI) done⟩

/-- over the script -/
theorem ws_forSS (hp : PassesOwn (model X.prog X.w) X.A X.env X.xe) (hc : X.calm = true) {tg it : Expr} (Iv : Nat → List S → Prop)
    (h : We X H0 it δ (fun x => ∃ ns : List Int, x = .scr ns ∧ Upto (Iv 0) δ ∧ (∀ (i : Nat) n δ1, ns[i]? = some n → Iv i δ1 → Wg X H0 tg (.int n) δ1 fun δ2 => Wb X H0 sts δ2 (turnE E (Iv (i + 1)))) ∧ (∀ δ1, Iv ns.length δ1 → E.nx δ1)))
    (hs : ∀ x, foldedSetIterable it X.env x = pure x := by intro _; rfl) : Ws X H0 (.For tg it sts [] pos) δ E := fun B σ H own hB R =>
  toS (ps_for hp hc (pi_list pe_sem) pg_sem pb_sem hs) ((h.at hB R).mono fun v H1 ⟨d, R1, iv, ns, ed, h0, ht, he⟩ => by
    subst ed
    obtain ⟨a, rfl, hq⟩ := iv.scr_inv
    have hB1 : Ex B (cut H1 own.flatten) := R1.ex
    have R0 : Rel X.K (cut H1 own.flatten) σ H1 δ own := ⟨Same.refl _, R1.len1, R1.len2, R1.sl, R1.nd⟩
    refine ⟨a, rfl, ⟨_, Ex.sqL cut_ex hq⟩, for_list (K := X.K) (xs := ns.map V.int) (fun i σ H => ∃ δ own', Rel X.K (cut H1 own.flatten) σ H δ own' ∧ Upto (Iv i) δ) ⟨δ, own, R0, h0⟩ (fun i σ H _ ⟨δ1, own1, Ra, _⟩ => Ex.sqL Ra.toEx hq) (fun i x σ' H' hx ⟨δ1, own1, Ra, δ2, hv2, q⟩ => ?_) fun σ' H' ⟨δ1, own1, Ra, δ2, hv2, q⟩ => ?_⟩
    · rw [List.getElem?_map] at hx
      cases en : ns[i]? with
      | none => rw [en] at hx; cases hx
      | some n =>
        rw [en] at hx
        cases hx
        have Rw := (Ra.view hv2).1
        refine (ht i n δ2 en q (cut H1 own.flatten) σ' H' _ _ (hB.trans hB1) Rw (.int n)).mono fun σ3 H3 ⟨δ3, own3, R3, q3⟩ => ?_
        exact (q3 _ σ3 H3 own3 (hB.trans hB1) R3).mono (fun _ _ z => z) (fun v H ⟨σ, δ, own, r, Rr, ri, qq⟩ => ⟨σ, δ, own, r, Rr.weak hB1, ri.back hB1, qq⟩) (fun σ H ⟨δ, own, Rr, qq⟩ => ⟨δ, own, Rr.weak hB1, qq⟩) (fun _ _ z => z)
    · rw [List.length_map] at q
      exact ⟨_, _, ((Ra.view hv2).1).weak hB1, he _ q⟩)
theorem semT.mono' {Q Q' : Bool → Hp → Prop} (h : semT X c σ H Q) (m : ∀ b H1, Q b H1 → Q' b H1) : semT X c σ H Q' := h.mono m
/-- while c: body; m: a measure that falls -/
theorem ws_while (hp : PassesOwn (model X.prog X.w) X.A X.env X.xe) (Iv : Nat → List S → Prop) (m0 : Nat) (h0 : Upto (Iv m0) δ)
    (ht : ∀ m δ1, Iv m δ1 → ∃ δ2, Vw δ1 δ2 ∧ Wt X H0 c δ2 (fun r => (r = true → Wb X H0 sts δ1 { nx := fun δ' => ∃ m', m' < m ∧ Upto (Iv m') δ', rt := E.rt, bk := E.nx, ct := fun δ' => ∃ m', m' < m ∧ Upto (Iv m') δ' }) ∧ (r = false → E.nx δ1))) : Ws X H0 (.While c sts [] pos) δ E := fun B σ H own hB R => by
  refine toS (ps_while hp pt_sem pb_sem) ⟨fun m σ H => ∃ δ own, Rel X.K B σ H δ own ∧ Upto (Iv m) δ, ⟨m0, δ, own, R, h0⟩, fun m σ H ⟨δ1, own1, R1, δ2, hv, q⟩ => ?_⟩
  have R2 := (R1.view hv).1
  obtain ⟨δ3, hv3, w⟩ := ht m δ2 q
  refine (w.atV hv3 hB R2).mono fun r H1 ⟨R3, w1, w2⟩ => ?_
  cases r with
  | true =>
    rw [if_pos rfl]
    refine ⟨fun σ' H' => ∃ m', m' < m ∧ ∃ δ own, Rel X.K B σ' H' δ own ∧ Upto (Iv m') δ, fun σ' H' ⟨m', l, z⟩ => ⟨m', l, z⟩, ?_⟩
    refine (w1 rfl B σ H1 _ hB R3).mono (fun σ H ⟨δ, own, Rr, m', l, z⟩ => ⟨m', l, δ, own, Rr, z⟩) (fun _ _ z => z) (fun _ _ z => z) (fun σ H ⟨δ, own, Rr, m', l, z⟩ => ⟨m', l, δ, own, Rr, z⟩)
  | false =>
    rw [if_neg Bool.false_ne_true]
    exact ⟨_, _, R3, w2 rfl⟩
/-! ### several targets -/
theorem wgs_cons {tg : Expr} {ts : List Expr} {d : D} {ds : List D} (h : Wg X H0 tg d δ fun δ1 => Wgs X H0 ts ds δ1 kn)
    (hp : ∀ {t : TG} {u : TGs}, PG X tg t → PGs X ts u → PGs X (tg :: ts) (gCons t u)) : Wgs X H0 (tg :: ts) (d :: ds) δ kn := fun B σ H own vs hB R iv => by
  obtain ⟨v, r, rfl, i, il⟩ := iv.inv_cons
  have R0 : Rel X.K (cut H own.flatten) σ H δ own := ⟨Same.refl _, R.len1, R.len2, R.sl, R.nd⟩
  refine toGs (hp pg_sem pgs_sem) ⟨v, r, rfl, (h _ σ H own v (hB.trans R.ex) R0 i).mono fun σ1 H1 ⟨δ1, own1, R1, q⟩ => ?_⟩
  exact (q _ σ1 H1 own1 r (hB.trans R.ex) R1 (il.mono R1.ex)).mono fun σ2 H2 ⟨δ2, own2, R2, q2⟩ => ⟨δ2, own2, R2.weak R.ex, q2⟩
theorem wg_tup {ts : List Expr} {x1 : Nat} {ds : List D} (hc : X.calm = true) (h : Wgs X H0 ts ds δ kn) (hn : (assignEach ts X.env).length = ds.length := by rfl) (hst : (assignEach ts X.env).findIdx? (·.1) = none := by rfl) : Wg X H0 (.Tuple ts x1 pos) (.sq false ds) δ kn := fun B σ H own v hB R iv => by
  obtain ⟨a, xs, rfl, hq, il⟩ := iv.tup_inv
  exact toG (pg_tup hc pgs_sem hn hst) ⟨a, xs, rfl, Ex.sqT cut_ex hq, il.1, h B σ H own xs hB R il⟩
end
/-! ### a def -/
def startD (N : List Str) (ds : List D) : List S := ds.map .sh ++ List.replicate (N.length - ds.length) .no
theorem flat_rep : ∀ n : Nat, (List.replicate n ([] : List Addr)).flatten = []
  | 0 => rfl
  | n + 1 => by rw [List.replicate_succ, List.flatten_cons, flat_rep n] <;> rfl
theorem rel_start {K : PySem.W.Frag} {H : Hp} {N : List Str} {vs : List V} {ds : List D} (h : IsL K H vs ds) (hl : ds.length ≤ N.length) : Rel K H (start N vs) H (startD N ds) (List.replicate N.length []) := by
  have e0 : (List.replicate N.length ([] : List Addr)).flatten = [] := flat_rep _
  have e1 : (startD N ds).length = N.length := by simp [startD]; omega
  have hv := h.1
  refine ⟨by rw [e0, cut_nil]; exact Same.refl _, by simp [L2.start, startD, hv], by simp [e1], fun i s x l h1 h2 h3 => ?_, by rw [e0]; exact List.nodup_nil⟩
  have el : l = [] := by
    rw [List.getElem?_replicate] at h3
    split at h3 <;> cases h3
    rfl
  subst el
  rw [e0, cut_nil]
  unfold startD at h1
  unfold L2.start at h2
  by_cases hi : i < ds.length
  · rw [List.getElem?_append_left (by simpa using hi), List.getElem?_map] at h1
    rw [List.getElem?_append_left (by simpa [hv] using hi), List.getElem?_map] at h2
    cases ed : ds[i]? with
    | none => rw [ed] at h1; cases h1
    | some d =>
      rw [ed] at h1; cases h1
      obtain ⟨v, ev, iv⟩ := h.get ed
      rw [ev] at h2; cases h2
      exact ⟨rfl, v, rfl, iv⟩
  · rw [List.getElem?_append_right (by simpa using hi), List.getElem?_replicate] at h1
    split at h1 <;> cases h1
    exact rfl
section
variable {P : Program} {w : World} {K : PySem.W.Frag} {mg : Str → Option Value} {base : Heap} {x qual : Str} {params : Arguments} {body : List Stmt} {scope : Scope} {dvs : List V} {kws : List (Str × V)} {f : Addr} {fd : FuncData}
/-- THE RULE for a def, by data -/
theorem fn_ok {N ps : List Str} {k : Nat} {T : DSp} (F : FunD K x qual params body scope dvs kws f fd) (S : FnScope N ps scope) (hN : ps.length ≤ N.length) (hlen : ∀ ds k x, T ds k x → ds.length = ps.length)
    (hbody : ∀ (cdv : Value) (A : Around) (outer : List Env) (s : Shared) (H : Hp) (E : XK) (ds : List D) (kk : DL.S → Prop) (xx : XD), Room k (A.deeper (envOfC qual scope s.heap.objs.size f cdv)) → T ds kk xx →
      Xc (cxOf (L2.CX P w) P w K mg base N qual scope f cdv A outer s H E) H (fun _ => xx) →
      Wb (cxOf (L2.CX P w) P w K mg base N qual scope f cdv A outer s H E) H body (startD N ds) { nx := fun _ => kk (.sh .non), rt := fun _ r => kk r }) : FnOk P w K mg base (L2.CX P w) (k + 1) f fd ps (spD K T) := by
  refine F.ok S (fun vs H Q E ⟨ds, kk, xx, is, hT, _⟩ => by rw [is.1]; exact hlen _ _ _ hT) (fun cdv A outer s H vs Q E hr h => ?_)
  obtain ⟨ds, kk, xx, is, hT, hQ, hE⟩ := h
  have tk : Takes (cxOf (L2.CX P w) P w K mg base N qual scope f cdv A outer s H E) (fun cls d _ H' => E cls d H') := takes_of rfl rfl rfl rfl
  have xc : Xc (cxOf (L2.CX P w) P w K mg base N qual scope f cdv A outer s H E) H (fun _ => xx) := ⟨⟨_, tk, fun σ G δ c d fs R i q => hE c d G fs R.ex i q⟩⟩
  refine ⟨_, pb_sem, (hbody cdv A outer s H E ds kk xx hr hT xc H _ H _ (Same.refl H) (rel_start is (by rw [hlen _ _ _ hT]; exact hN))).mono (fun σ' H' ⟨δ, own, R, q⟩ => hQ _ _ _ (show RetIs K H .non H' (.sh .non) from ⟨R.toEx, .non⟩) q) (fun v H' ⟨σ', δ, own, r, R, i, q⟩ => hQ _ _ _ i q) (fun _ _ ⟨_, _, _, z⟩ => z) (fun _ _ ⟨_, _, _, z⟩ => z)⟩
end
end DL
set_option Elab.async false
set_option linter.all false
set_option maxRecDepth 100000
set_option maxHeartbeats 2000000
/-! Part e: closers, numbers, names of built-ins. -/
namespace DL
open PySem PySem.Spec PyProof.Rows L2
/-- the built-in names that the top leaves alone -/
structure Bi (mg : Str → Option Value) : Prop where
  len : mg "len" = none
  range : mg "range" = none
  int : mg "int" = none
  abs : mg "abs" = none
  tuple : mg "tuple" = none
  list : mg "list" = none
  isinstance : mg "isinstance" = none
  bool : mg "bool" = none
  sum : mg "sum" = none
theorem mul64 {i j : Int} (hi : -18446744073709551616 < i ∧ i < 18446744073709551616) (hj : -18446744073709551616 < j ∧ j < 18446744073709551616) : CMulW i j :=
  wide_mul (a := 64) (b := 64) (show i.natAbs < 18446744073709551616 by omega) (show j.natAbs < 18446744073709551616 by omega) (by decide) (by decide) (by decide)
theorem div64 {i j : Int} (h : 0 < j) (hj : j < 18446744073709551616) : CDivW i j := wide_div (b := 64) h (show j.natAbs < 18446744073709551616 by omega) (by decide) (by decide)
theorem lok {n : Nat} (h : Nat.ble n 100000 = true := by rfl) : n ≤ 100000 := Nat.le_of_ble_eq_true h
/-- of fewer than n bits -/
def Bd (n : Nat) (x : Int) : Prop := x.natAbs < 2 ^ n
theorem Bd.le {m n : Nat} {x : Int} (h : Bd m x) (l : m ≤ n) : Bd n x := Nat.lt_of_lt_of_le h (Nat.pow_le_pow_right (by decide) l)
theorem Bd.mulW {a b : Nat} {x y : Int} (h : Bd a x) (h' : Bd b y) (l : a + b ≤ 900000) : CMulW x y :=
  wide_mul (h.le (Nat.le_add_right a 1)) (h'.le (Nat.le_add_right b 1)) (by omega) (by omega) (by omega)
theorem Bd.mul {a b : Nat} {x y : Int} (h : Bd a x) (h' : Bd b y) : Bd (a + b) (x * y) := wide_lt h h'
theorem Bd.neg {a : Nat} {x : Int} (h : Bd a x) : Bd a (-x) := by
  unfold Bd at *
  rw [Int.natAbs_neg]
  exact h
theorem Bd.add {a b n : Nat} {x y : Int} (h : Bd a x) (h' : Bd b y) (l : a < n) (l' : b < n) : Bd n (x + y) := by
  unfold Bd at *
  have h1 : (x + y).natAbs ≤ x.natAbs + y.natAbs := Int.natAbs_add_le x y
  have h2 : 2 ^ a * 2 ≤ 2 ^ n := by rw [← Nat.pow_succ]; exact Nat.pow_le_pow_right (by decide) l
  have h3 : 2 ^ b * 2 ≤ 2 ^ n := by rw [← Nat.pow_succ]; exact Nat.pow_le_pow_right (by decide) l'
  omega
theorem Bd.sub {a b n : Nat} {x y : Int} (h : Bd a x) (h' : Bd b y) (l : a < n) (l' : b < n) : Bd n (x - y) := by
  rw [Int.sub_eq_add_neg]
  exact h.add h'.neg l l'
theorem Bd.div {b : Nat} {x y : Int} (h : 0 < y) (hy : Bd b y) (l : b ≤ 8999) : CDivW x y := wide_div h (hy.le (Nat.le_add_right b 1)) (by omega) (by omega)
/-- lookup in a list of ints told as data -/
theorem get_ints {ns : List Int} {i : Nat} {n : Int} (h : ns[i]? = some n) : (ns.map D.int)[i]? = some (.int n) := by
  rw [List.getElem?_map, h] <;> rfl
theorem of_get_ints {ns : List Int} {i : Nat} {d : D} (h : (ns.map D.int)[i]? = some d) : ∃ n, ns[i]? = some n ∧ d = .int n := by
  rw [List.getElem?_map] at h
  cases e : ns[i]? with
  | none => rw [e] at h; cases h
  | some n => rw [e] at h; exact ⟨n, rfl, (Option.some.inj h).symm⟩
theorem snoc_ints {ns : List Int} {n : Int} : ns.map D.int ++ [D.int n] = (ns ++ [n]).map D.int := by rw [List.map_append] <;> rfl
section
variable {X : Cx} {H0 : Hp} {δ : List S} {e e2 : Expr} {es : List Expr} {k : D → Prop} {pos p : Pos}
/-- gcd of the module math, by its name -/
theorem we_gcd (hm : X.mg "gcd" = some (.builtin "math.gcd")) (h : Wa X H0 [e, e2] δ (fun ds => A2 ds fun x y => I2 x y fun i j => k (.int ((Nat.gcd i.natAbs j.natAbs : Nat) : Int)))) (hg : Gl X "gcd" := by rfl)
    (he : notStar e = true := by rfl) (hpl : notStar e2 = true := by rfl) : We X H0 (.Call (.Name "gcd" p) [e, e2] [] pos) δ k := fun σ G R =>
  toE (pe_callBfun cr_gcd hg hm pa_sem (by decide) (star_of he) (star_any (by rw [List.all_cons, hpl]; rfl))) (call1 (ta := semA X [e, e2]) h (fun G vs ds is ⟨x, y, ed, i, j, ex, ey, hk⟩ Q q => by
    subst ed ex ey
    obtain ⟨v, w, rfl, a, b⟩ := is.two
    cases a
    cases b
    exact ⟨i, j, rfl, q _ G _ (Same.refl _) (.int _) hk⟩) σ G R)
end
end DL
set_option Elab.async false
set_option linter.all false
set_option maxRecDepth 100000
set_option maxHeartbeats 2000000
set_option pp.maxSteps 1200
/-! Part f: own errors: made, raised, caught, asked. -/
namespace DL
open PySem PySem.Spec PyProof.Rows L2
/-! ### an error class whose __init__ stores its one argument -/
/-- __init__(self, v): self.f = v -/
def spI1 (K : PySem.W.Frag) (f : Str) : Sp := fun vs H Q _ => ∃ (a C : Addr) (v : V), vs = [.ref a, v] ∧ H a = some (exo a C none) ∧ OexC K C ∧ PySem.W.findIn K (.ref C) f = some none ∧ ∀ dx, H dx = none → dx ≠ a → Q .non (upd (upd H dx (exd dx [(f, v)])) a (exo a C (some dx)))
structure Exc1 (P : Program) (w : World) (K : PySem.W.Frag) (mg : Str → Option Value) (base : Heap) (lvl : Nat) (x f : Str) (C : Addr) : Prop where
  ox : OexC K C
  no : PySem.W.findIn K (.ref C) f = some none
  gC : mg x = some (.ref C)
  ex : ∃ (fI : Addr) (fd : FuncData) (ps : List Str), PySem.W.findIn K (.ref C) "__init__" = some (some (.ref fI)) ∧ PySem.W.typeIn K (.ref fI) = some (.type "function") ∧ FnOk P w K mg base (L2.CX P w) lvl fI fd ps (spI1 K f) ∧ Binds K fd ps []
section
variable {P : Program} {w : World} {K : PySem.W.Frag} {mg : Str → Option Value} {base : Heap} {x qual : Str} {params : Arguments} {body : List Stmt} {scope : Scope} {dvs : List V} {kws : List (Str × V)} {f : Addr} {fd : FuncData}
/-- such an __init__ keeps its promise -/
theorem init1_ok {p fld : Str} {a1 a2 a3 : Pos} {pos : Pos} (F : FunD K x qual params [.Assign [.Attribute (.Name "self" a1) fld a2] (.Name p a3) pos] scope dvs kws f fd) (S : FnScope ["self", p] ["self", p] scope)
    (h0 : ∀ (cdv : Value) (A : Around) (outer : List Env) (s : Shared) (H : Hp) (E : XK), PE (cxOf (L2.CX P w) P w K mg base ["self", p] qual scope f cdv A outer s H E) (.Name "self" a1) (tVar 0))
    (h1 : ∀ (cdv : Value) (A : Around) (outer : List Env) (s : Shared) (H : Hp) (E : XK), PE (cxOf (L2.CX P w) P w K mg base ["self", p] qual scope f cdv A outer s H E) (.Name p a3) (tVar 1))
    (h2 : ∀ (cdv : Value) (A : Around) (outer : List Env) (s : Shared) (H : Hp) (E : XK), swapsWith (.Name p a3) (some (.Attribute (.Name "self" a1) fld a2)) pos.line (cxOf (L2.CX P w) P w K mg base ["self", p] qual scope f cdv A outer s H E).env = pure false) :
    FnOk P w K mg base (L2.CX P w) 1 f fd ["self", p] (spI1 K fld) := by
  refine F.ok S (fun vs H Q E h => by obtain ⟨_, _, _, rfl, _⟩ := h; rfl) (fun cdv A outer s H vs Q E hr h => ?_)
  obtain ⟨a, C, v, rfl, ha, T, no, q⟩ := h
  refine ⟨_, pss_one (ps_ost (h0 cdv A outer s H E) (h1 cdv A outer s H E) (h2 cdv A outer s H E)), ?_⟩
  exact ⟨v, rfl, .ref a, rfl, a, C, rfl, T, no, .inl ⟨ha, fun dx n ne => q dx n ne⟩⟩
end
section
variable {K : PySem.W.Frag} {X : Cx} {H0 B H H' : Hp} {σ : L2.St} {δ δ' : List S} {own : List (List Addr)} {a b c e : Expr} {es : List Expr} {k : D → Prop} {pos p : Pos} {E : En}
/-- raise x(e) -/
theorem ws_raise1 {lvl : Nat} {x f : Str} {C : Addr} {p1 : Pos} {xw : List S → XD} (T : Exc1 X.prog X.w X.K X.mg X.base lvl x f C) (hr : Room (lvl + 1) X.A) (hc : X.calm = true) (hx : Xc X H0 xw) (hv : Vw δ δ') (h : Wa X H0 [e] δ' (fun ds => A1 ds fun d => xw δ (.ref C) [(f, d)]))
    (hg : Gl X x := by rfl) (hdb : (x == ("__debug__" : Str)) = false := by decide) (he : notStar e = true := by rfl) :
    Ws X H0 (.Raise (some (.Call (.Name x p1) [e] [] pos)) none p) δ E := fun B σ H own hB R => by
  obtain ⟨fI, fd, ps, iC, tI, F, hb⟩ := T.ex
  obtain ⟨W, tk, hW⟩ := hx.ex
  refine toS (L2.ps_raise hc tk (pmk_oex T.ox iC tI F hr hb .nil passL hg T.gC pa_sem hdb (star_of he) rfl)) ((h.atV hv hB R).mono fun vs H1 ⟨ds, R1, is, d, ed, hq⟩ => ?_)
  subst ed
  obtain ⟨v, rfl, iv⟩ := is.one
  refine ⟨by show 1 ≤ 1000; decide, fun a na => ⟨a, C, v, rfl, upd_same, T.ox, T.no, fun dx ndx nea => ⟨rfl, dx, [(f, v)], upd_same, ?_, ?_, ?_⟩⟩⟩
  · rw [upd_ne nea, upd_same]
  · rw [upd_ne nea] at ndx; exact ndx
  · have e1 : Ex H1 (upd (del (upd (upd (upd H1 a (exo a C none)) dx (exd dx [(f, v)])) a (exo a C (some dx))) a) dx (.xd [(f, v)])) := fun b u hb => by
      have n1 : b ≠ a := ne_of_none hb na
      have n2 : b ≠ dx := by
        intro z
        subst z
        rw [upd_ne n1, hb] at ndx
        cases ndx
      rw [upd_ne n2, del_ne n1, upd_ne n1, upd_ne n2, upd_ne n1]
      exact hb
    have R2 : RelS X.K H0 σ H1 δ := (R1.weak hB).toS.mono cut_ex
    exact hW σ _ δ _ _ _ (R2.mono e1) ⟨[(f, v)], upd_same, rfl, fun i x d' q1 q2 => by
      cases i with
      | zero => cases q1; cases q2; exact iv.mono e1
      | succ i => cases q1⟩ hq
/-! ### caught -/
def noOw : List S → List S
  | [] => []
  | .ow _ :: r => .no :: noOw r
  | s :: r => s :: noOw r
theorem noOw_len : ∀ δ : List S, (noOw δ).length = δ.length
  | [] => rfl
  | .ow _ :: r => congrArg (· + 1) (noOw_len r)
  | .no :: r => congrArg (· + 1) (noOw_len r)
  | .sh _ :: r => congrArg (· + 1) (noOw_len r)
theorem noOw_get : ∀ (δ : List S) (i : Nat) (s : S), (noOw δ)[i]? = some s → s = .no ∨ ∃ d, s = .sh d ∧ δ[i]? = some (.sh d)
  | [], i, s, h => by cases h
  | .ow _ :: r, 0, s, h => by cases h; exact .inl rfl
  | .no :: r, 0, s, h => by cases h; exact .inl rfl
  | .sh d :: r, 0, s, h => by cases h; exact .inr ⟨d, rfl, rfl⟩
  | .ow _ :: r, i + 1, s, h => noOw_get r i s h
  | .no :: r, i + 1, s, h => noOw_get r i s h
  | .sh _ :: r, i + 1, s, h => noOw_get r i s h
theorem RelS.toRel {G : Hp} (R : RelS K H0 σ G δ) : Rel K H0 σ G (noOw δ) (List.replicate δ.length []) := by
  have e0 : (List.replicate δ.length ([] : List Addr)).flatten = [] := flat_rep _
  refine ⟨by rw [e0, cut_nil]; exact R.ex, by rw [noOw_len, R.len], by rw [noOw_len]; simp, fun i s x l h1 h2 h3 => ?_, by rw [e0]; exact List.nodup_nil⟩
  have el : l = [] := by
    rw [List.getElem?_replicate] at h3
    split at h3 <;> cases h3
    rfl
  subst el
  rw [e0, cut_nil]
  rcases noOw_get δ i s h1 with rfl | ⟨d, rfl, hd⟩
  · exact rfl
  · obtain ⟨v, hv, iv⟩ := R.sh i d hd
    rw [h2] at hv; cases hv
    exact ⟨rfl, v, rfl, iv⟩
/-- a name's slot is emptied -/
theorem Rel.setNo {i : Nat} (R : Rel K H0 σ H δ own) : Rel K H0 (σ.set i none) H (δ.set i .no) (own.set i []) := by
  have sub : ∀ a ∈ (own.set i []).flatten, a ∈ own.flatten := fun a ha => by
    rcases flat_set_sub ha with z | z
    · exact z
    · cases z
  have e : Ex (cut H own.flatten) (cut H (own.set i []).flatten) := cut_sub sub
  refine ⟨R.ex.trans e, by simp [R.len1], by simp [R.len2], fun j s x l h1 h2 h3 => ?_, flat_set_nd R.nd List.nodup_nil fun a ha => by cases ha⟩
  rcases set_get h1 with ⟨e1, rfl⟩ | ⟨n1, g1⟩
  · rcases set_get h3 with ⟨_, rfl⟩ | ⟨n3, _⟩
    · exact rfl
    · exact absurd e1 n3
  · rcases set_get h2 with ⟨e2, _⟩ | ⟨_, g2⟩
    · exact absurd e2 n1
    · rcases set_get h3 with ⟨e3, _⟩ | ⟨_, g3⟩
      · exact absurd e3 n1
      · exact (R.sl j s x l g1 g2 g3).mono e fun _ _ => rfl
theorem IsF.lookup {G : Hp} {n : Str} {u : D} : ∀ {vs : List (Str × V)} {fs : List (Str × D)}, IsF K G vs fs → fs.lookup n = some u → ∃ v, vs.lookup n = some v ∧ Is K G v u
  | [], [], _, h => by cases h
  | [], _ :: _, h, _ => by cases h.1
  | _ :: _, [], h, _ => by cases h.1
  | (a, v) :: vs, (b, d) :: fs, h, hl => by
    have h1 := h.1
    simp only [List.map_cons, List.cons.injEq] at h1
    obtain ⟨rfl, h2⟩ := h1
    have i0 : Is K G v d := h.2 0 (a, v) (a, d) rfl rfl
    have ir : IsF K G vs fs := ⟨h2, fun i x d q1 q2 => h.2 (i + 1) x d q1 q2⟩
    rw [List.lookup_cons] at hl ⊢
    by_cases e : n = a
    · subst e
      simp only [beq_self_eq_true] at hl ⊢
      cases hl
      exact ⟨v, rfl, i0⟩
    · have e' : (n == a) = false := beq_eq_false_iff_ne.mpr e
      simp only [e'] at hl ⊢
      exact IsF.lookup ir hl
/-- the caught error as data -/
def excD (a : Addr) : Option Addr → List (Str × D) → D
  | none, _ => .ob a
  | some dd, fs => .exc a dd fs
theorem excD_is {G : Hp} {a : Addr} {d : Option Addr} {fs : List (Str × D)} (h : ExcIs K G d fs) : Is K G (.ref a) (excD a d fs) := by
  cases d with
  | none => exact .ob a
  | some dd =>
    obtain ⟨vs, h1, h2⟩ := h
    exact .exc h1 h2.1 h2.2
/-- try: body / except x as n: suite; xb: what the body may let out, by data -/
theorem ws_try_as (i : Nat) {x n : Str} {cv : Value} {body suite : List Stmt} {b₀ : Stmt} {np pos' : Pos} (hs : X.stack = X.env :: X.outer) (hf : X.env.frame = some X.env.locals) (hN : X.N.Nodup) (hi : X.N[i]? = some n) (hln : X.env.kindOf n = some .local) (hcn : Names X x cv)
    (xb : List S → XD) (hx : Xc X H0 (fun _ _ _ => False))
    (hb : ∀ (pn : List (Addr × Obj)) (xe : Value → Shared → Prop) (B : Hp), Ex H0 B → PassesOwn (model X.prog X.w) X.A X.env xe → Xc (X.tr pn xe) B xb → Wb (X.tr pn xe) B body δ E)
    (hsu : ∀ (a : Addr) (oe : Obj) (pn : List (Addr × Obj)) (cls : Value) (d : Option Addr) (fs : List (Str × D)) δ1, xb δ1 cls fs → PySem.W.exmOne X.K cls cv = some true ∧
      (Zc cls d oe → (∃ vs, oe.data = .fields vs) → (fs ≠ [] → ∃ dd, d = some dd) → Wb (X.suite a ((a, oe) :: pn)) H0 (b₀ :: suite) ((noOw δ1).set i (.sh (excD a d fs))) { nx := fun δ => E.nx (δ.set i .no), rt := E.rt, bk := fun δ => E.bk (δ.set i .no), ct := fun δ => E.ct (δ.set i .no) })) :
    Ws X H0 (.Try body [.ExceptHandler (some (.Name x np)) (some n) (b₀ :: suite) pos'] [] [] pos) δ E := fun B σ H own hB R => by
  refine toS (ps_try_as (tb := fun W D σ H => ∀ pn xe, Takes (X.tr pn xe) W → PassesOwn (model X.prog X.w) X.A X.env xe → semB (X.tr pn xe) body D σ H)
    (ts := fun a cls d D σ H => ∀ oe pn, Zc cls d oe → (∃ vs, oe.data = .fields vs) → semB (X.suite a ((a, oe) :: pn)) (b₀ :: suite) D σ H) (Wout := fun _ _ _ _ => False) hs hf hN hi hln hcn takes0
    (fun W pn xe tk hp => ⟨fun pins s σ H D I h => h pn xe tk hp pins s I⟩) (fun a oe cls d pn hz hv => ⟨fun pins s σ H D I h => h oe pn hz hv pins s I⟩)) fun pn xe tk hp => ?_
  refine hb pn xe B hB hp ⟨⟨_, tk, fun σ1 G δ1 c d fs R1 ie hq => ?_⟩⟩ B σ H own (Same.refl B) R
  refine ⟨true, (hsu 0 ⟨.none, none, .fields #[], #[]⟩ [] c d fs δ1 hq).1, fun _ a na oe pn' hz hv => ?_, fun z => nomatch z⟩
  exact ((hsu a oe pn' c d fs δ1 hq).2 hz hv (fun hne => by cases d with | none => exact absurd ie hne | some dd => exact ⟨dd, rfl⟩) B _ G _ hB (R1.toRel.setSh (i := i) (by rw [flat_rep, cut_nil]; exact excD_is ie))).mono (fun σ2 H2 ⟨δ2, own2, R2, q2⟩ => ⟨_, _, R2.setNo, q2⟩) (fun _ _ z => z) (fun σ2 H2 ⟨δ2, own2, R2, q2⟩ => ⟨_, _, R2.setNo, q2⟩) (fun σ2 H2 ⟨δ2, own2, R2, q2⟩ => ⟨_, _, R2.setNo, q2⟩)
/-- e.f, e the error that the suite holds -/
theorem we_xf {C a : Addr} {oe : Obj} {d : Option Addr} {pn : List (Addr × Obj)} {n : Str} {x : Expr} {k : D → Prop} (T : XfC X.K C) (hno : PySem.W.findIn X.K (.ref C) n = some none) (hz : Zc (.ref C) d oe) (hf : ∃ vs, oe.data = .fields vs)
    (h : We (X.suite a ((a, oe) :: pn)) H0 x δ (fun y => ∃ dd fs v, d = some dd ∧ y = .exc a dd fs ∧ fs.lookup n = some v ∧ k v)) (hb : attributeBase x n X.env (eval x X.env) = eval x X.env := by rfl) : We (X.suite a ((a, oe) :: pn)) H0 (.Attribute x n pos) δ k := fun σ G R =>
  toE (pe_xf T hno hz hf pe_sem hb) ((h σ G R).mono fun v G1 ⟨e1, y, iy, dd, fs, u, ed, ey, hl, hk⟩ => by
    subst ed ey
    obtain ⟨vs, rfl, h1, hv⟩ : ∃ vs, v = .ref a ∧ G1 dd = some (.xd vs) ∧ IsF X.K G1 vs fs := by
      cases iy with
      | exc h1 h2 h3 => exact ⟨_, rfl, h1, h2, h3⟩
    obtain ⟨u', hu, iu⟩ := hv.lookup hl
    exact ⟨rfl, rfl, dd, vs, u', rfl, h1, hu, e1, u, iu, hk⟩)
end
end DL
/-! ### isinstance of a caught error that has a dict -/
namespace DL
open PySem PySem.W PySem.Calls PySem.Spec PyProof.Rows
section
variable {prog : Program} {w : World} {A : Around} {E : Value → Shared → Prop} {s : Shared} {K : Frag} {x C : Addr} {ox : Obj} {od : Option Obj}
/-- what the class must say -/
structure ExcQ (K : Frag) (C : Addr) : Prop where
  ga : findIn K (.ref C) "__getattribute__" = some (some (.builtin "BaseException.__getattribute__"))
  gg : findIn K (.ref C) "__getattr__" = some none
  sb : subIn K (.ref C) (.type "BaseException") = some true
  hd : hasDictIn K C = true
  cl : findIn K (.ref C) "__class__" = some (some (.builtin "object.__class__"))
  gt : specialIn K (.builtin "object.__class__") "__get__" = some (some (.builtin "getset_descriptor.__get__"))
  tk : takesIn K (.builtin "object.__class__") = some true
  mr : mroIn K C (.type "object") = some true
theorem excq_find (T : ExcQ K C) (od : Option Obj) : findObj K C od "__class__" = some (.bind (.builtin "getset_descriptor.__get__") (.builtin "object.__class__")) := by
  obtain ⟨cd, hc⟩ : ∃ cd, clsIn K C = some cd := by
    obtain ⟨cd, hc, _⟩ := any_some T.hd
    exact ⟨cd, hc⟩
  unfold findObj
  rw [hc, Option.bind_some, T.cl, Option.bind_some]
  simp [T.gt, T.tk]
theorem excq_cls {Q : Option Value → Shared → Prop} (T : ExcQ K C) (kin : K.In s.heap) (ia : InstAt s.heap x ox C od) (hq : Q (some (.ref C)) { s with toks := s.toks + 1 }) : wpAny (model prog w) A (getAttr? (.ref x) "__class__") Q E s := by
  obtain ⟨h0, gs, dr, tt, os⟩ := s
  have ty := ia.type (M := model prog w)
  have lg := looks_findIn (M := model prog w) kin T.ga
  have lh := looks_findIn (M := model prog w) kin T.gg
  have lf := looks_find (M := model prog w) kin ia (excq_find T od)
  have inst : Looks (model prog w) h0 (isInstance (.ref x) (.type "BaseException")) true := ty.andThen (looks_subIn kin T.sb)
  have neq : (Value.builtin "BaseException.__getattribute__" == Value.builtin "object.__getattribute__") = false := by decide +kernel
  have c1 : (onTheHeap (Value.ref C) && Value.builtin "BaseException.__getattribute__" == Value.builtin "object.__getattribute__") = false := by rw [neq, Bool.and_false]
  have c2 : (false && onTheHeap (Value.builtin "BaseException.__getattribute__")) = false := Bool.false_and _
  unfold getAttr? getAttrBy? getAttrBy
  refine wpAny_bind (wpAny_mkText (wpAny_bind (wpAny_attempt (wpAny_holding (wpAny_bind (ty.at (wpAny_bind (lg.at ?_))))))))
  show wpAny _ _ (if (onTheHeap (Value.ref C) && Value.builtin "BaseException.__getattribute__" == Value.builtin "object.__getattribute__") = true then _ else _) _ _ _
  rw [c1, if_neg Bool.false_ne_true]; unfold getAttrByItsOwn hookBefore; refine wpAny_bind ?_
  rw [if_pos (show onTheHeap (Value.ref C) = true by rfl)]; refine lh.at ?_
  refine wpAny_bind (wpAny_attempt (wpAny_holding ?_)); unfold callGetattribute
  rw [c2, if_neg Bool.false_ne_true]; unfold boundAndCalled
  rw [PySem.F.excAttr_ValueError.ga.bind (.ref x)]; refine wpAny_bind (wpAny_pure ?_)
  show wpAny _ _ (call (.builtin "BaseException.__getattribute__") [.ref x, .str "__class__" tt]) _ _ _
  refine wpAny_call (codeAny_call_builtin PySem.F.excAttr_ValueError.ga.plain PySem.F.entry_bexc_ga ?_)
  refine @check_slot (model prog w) _ _ ⟨h0, gs, dr, tt + 1, os⟩ "BaseException.__getattribute__" "BaseException" "__getattribute__" (.ref x) [.str "__class__" tt] [] _ (by decide +kernel) (by decide +kernel) inst (PySem.F.args_bexc_ga (.ref x) (.str "__class__" tt)) ?_
  unfold Builtin.«object.__getattribute__»
  refine wpAny_bind (wpAny_of_eq (a := ((Value.ref x : Value), [Value.str "__class__" tt])) (by first | rfl | (simp only [slotArgs]; rfl)) ?_)
  refine wpAny_bind (wpAny_pure (wpAny_bind (ty.at (wpAny_bind (lf.at ?_)))))
  show wpAny _ _ (holding [Value.builtin "object.__class__"] (call (.builtin "getset_descriptor.__get__") [.builtin "object.__class__", .ref x, .ref C]) >>= ret) _ _ _
  refine wpAny_bind (wpAny_holding (wpAny_call (class_get (s := ⟨h0, gs, dr, tt + 1, os⟩) (ox := ox) (od := od) kin ia T.mr (wpAny_pure ?_))))
  show wpAny _ _ (handedOut (.ref C)) _ _ _
  rw [handedOut_of (v := .ref C) rfl]
  first
    | exact wpAny_pure (wpAny_bind (wpAny_pure (wpAny_pure hq)))
    | exact wpAny_pure (wpAny_pure hq)
    | exact wpAny_pure hq
theorem excq_kit (T : ExcQ K C) : KitX K (.ref x) (.ref C) (fun h => ∃ od, InstAt h x ox C od) where
  ty := fun _ _ _ ⟨_, i⟩ => i.type
  it := fun _ _ kin _ => by
    obtain ⟨cd, hc, _⟩ := any_some T.hd
    unfold clsIn at hc
    split at hc
    · rename_i ho
      intro A' Q' E' s' kp q
      unfold isType loadHead
      exact wpAny_bind (wpAny_loadPart (kp _ _ (kin _ _ ho)) (wpAny_pure q))
    · cases hc
  ne := fun h tp dd its n sl kin htp => by
    obtain ⟨cd, hc, _⟩ := any_some T.hd
    refine Bool.eq_false_iff.mpr fun q => ?_
    obtain rfl : C = tp := Value.ref.inj (beq_iff_eq.mp q)
    unfold clsIn at hc
    split at hc
    · rename_i ho
      cases (kin _ _ ho).symm.trans htp
    · cases hc
  ca := fun kin ⟨_, i⟩ q => excq_cls T kin i q
end
end DL
namespace DL
open PySem PySem.Spec PyProof.Rows L2
section
variable {X : Cx} {H0 : Hp} {δ : List S} {k : D → Prop} {pos p : Pos} {a C : Addr} {oe : Obj} {d : Option Addr} {pn : List (Addr × Obj)}
theorem inst_of {H : Hp} {h : Heap} {P : Program} {w : World} (hz : Zc (.ref C) d oe) (hv : ∃ vs, oe.data = .fields vs) (ho : h.get? a = some oe) (hd : ∀ dd, d = some dd → ∃ o, h.get? dd = some o) : ∃ od, PySem.W.InstAt h a oe C od := by
  obtain ⟨oc, odt, oda, osl⟩ := oe
  obtain ⟨z1, z2⟩ := hz
  obtain ⟨vs, hv⟩ := hv
  dsimp only at z1 z2 hv
  subst z1 z2 hv
  cases odt with
  | none => exact ⟨none, ho, rfl, rfl, trivial⟩
  | some dd =>
    obtain ⟨o, hdo⟩ := hd dd rfl
    exact ⟨some o, ho, rfl, rfl, hdo⟩
/-- isinstance(e, c), e the error that the suite holds; its dict stands -/
theorem call_isX (T : ExcQ X.K C) (hz : Zc (.ref C) d oe) (hv : ∃ vs, oe.data = .fields vs) : CallR (X.suite a ((a, oe) :: pn)) (.builtin "isinstance") (fun xs H Q => ∃ (c : V) (cv : Value) (b : Bool), xs = [.ref a, c] ∧ ClsV c cv ∧ (∀ dd, d = some dd → ∃ o, H dd = some o) ∧ PySem.W.kitOne X.K (.ref C) cv = some b ∧ Q (.bl b) H) := by
  intro pins s σ H xs us Q I r h
  obtain ⟨c, cv, b, rfl, hc, hd, e, q⟩ := h
  obtain ⟨u1, u2, rfl, r1, r2⟩ := vals2 r
  cases r1
  have e2 := hc.eq r2
  subst e2
  obtain ⟨hget, _⟩ := I.pin (a, oe) (List.mem_append.mpr (.inl List.mem_cons_self))
  obtain ⟨od, ia⟩ := inst_of (H := H) (P := X.prog) (w := X.w) hz hv hget fun dd ed => by
    obtain ⟨o, ho⟩ := hd dd ed
    exact objOk_get (I.hok dd o ho)
  exact PySem.W.kia_one (excq_kit T) I.kIn ⟨od, ia⟩ e (fun z => nomatch z) fun tk => ⟨.bl b, H, I.kept (t' := tk) fun _ _ z => z, rfl, q⟩
/-- isinstance(e, (c1, c2, ..)) -/
theorem call_isXT (T : ExcQ X.K C) (hz : Zc (.ref C) d oe) (hv : ∃ vs, oe.data = .fields vs) : CallR (X.suite a ((a, oe) :: pn)) (.builtin "isinstance") (fun xs H Q => ∃ (tp : Addr) (cs : List V) (us : List Value) (b : Bool), xs = [.ref a, .ref tp] ∧ H tp = some (.tup cs) ∧ Paired ClsV cs us ∧ (∀ dd, d = some dd → ∃ o, H dd = some o) ∧ PySem.W.kitAny X.K (.ref C) us = some b ∧ Q (.bl b) H) := by
  intro pins s σ H xs us Q I r h
  obtain ⟨tp, cs, ws, b, rfl, hT, k, hd, e, q⟩ := h
  obtain ⟨u1, u2, rfl, r1, r2⟩ := vals2 r
  cases r1
  cases (show u2 = Value.ref tp from r2)
  obtain ⟨hget, _⟩ := I.pin (a, oe) (List.mem_append.mpr (.inl List.mem_cons_self))
  obtain ⟨od, ia⟩ := inst_of (H := H) (P := X.prog) (w := X.w) hz hv hget fun dd ed => by
    obtain ⟨o, ho⟩ := hd dd ed
    exact objOk_get (I.hok dd o ho)
  obtain ⟨_, its, rv, o, h1, h2, n, h3⟩ := (show ObjOk X.prog X.w H s.heap tp (.tup cs) from I.hok tp _ hT)
  have e3 := ClsV.all k rv
  subst e3
  obtain ⟨oc, od', dt, sl⟩ := o
  simp only at h2 h3
  subst h2 h3
  exact PySem.W.kia_tup (excq_kit T) I.kIn ⟨od, ia⟩ h1 e (fun z => nomatch z) fun tk => ⟨.bl b, H, I.kept (t' := tk) fun _ _ z => z, rfl, q⟩
theorem exc_there {G : Hp} {y : D} {v : V} {fs : List (Str × D)} (h : Is X.K G v (excD a d fs)) : v = .ref a ∧ ∀ dd, d = some dd → ∃ o, G dd = some o := by
  cases d with
  | none => cases h; exact ⟨rfl, fun dd e => nomatch e⟩
  | some d' =>
    cases h with
    | exc h1 h2 h3 => exact ⟨rfl, fun dd e => by cases e; exact ⟨_, h1⟩⟩
/-- the error's slot i; one class: c reads as cv -/
theorem we_isx {i : Nat} {nm x : Str} {p1 p2 : Pos} {cV : V} {cv : Value} {b : Bool} {fs : List (Str × D)} (T : ExcQ X.K C) (hz : Zc (.ref C) d oe) (hv : ∃ vs, oe.data = .fields vs) (hm : X.mg "isinstance" = none) (hi : δ[i]? = some (.sh (excD a d fs))) (hc : PE (X.suite a ((a, oe) :: pn)) (.Name x p2) (tC cV)) (hcv : ClsV cV cv)
    (hb : PySem.W.kitOne X.K (.ref C) cv = some b) (h : k (.bl b)) (hp : PE (X.suite a ((a, oe) :: pn)) (.Name nm p1) (tVar i) := by exact pv _) (hg : Gl (X.suite a ((a, oe) :: pn)) "isinstance" := by rfl) :
    We (X.suite a ((a, oe) :: pn)) H0 (.Call (.Name "isinstance" p) [.Name nm p1, .Name x p2] [] pos) δ k := fun σ G R => toE (pe_callB (call_isX T hz hv) hg hm (by decide +kernel) (pa_cons hp (pa_cons hc pa_nil (star_of rfl)) (star_of rfl)) (by decide) (by decide) (star_of rfl) (star_any rfl)) (by
  obtain ⟨v, e, iv⟩ := R.sh i _ hi
  obtain ⟨rfl, hd⟩ := exc_there (X := X) (y := .non) iv
  exact ⟨_, e, cV, cv, b, rfl, hcv, hd, hb, Same.refl _, _, .bl b, h⟩)
/-- a tuple of classes -/
inductive Clss (X : Cx) : List Expr → List V → List Value → Prop where
  | nil : Clss X [] [] []
  | cons {e : Expr} {es : List Expr} {v : V} {vs : List V} {u : Value} {us : List Value} : PE X e (tC v) → ClsV v u → (notStar e = true) → Clss X es vs us → Clss X (e :: es) (v :: vs) (u :: us)
theorem Clss.all {es : List Expr} {vs : List V} {us : List Value} (h : Clss X es vs us) : Paired ClsV vs us ∧ PA X es (fun _ H Q => Q vs H) := by
  induction h with
  | nil => exact ⟨.nil, pa_nil⟩
  | cons h1 h2 h3 _ ih => exact ⟨.cons h2 ih.1, pa_cons h1 ih.2 (star_of h3)⟩
theorem we_isxT {i x1 : Nat} {nm : Str} {p1 p2 : Pos} {es : List Expr} {vs : List V} {us : List Value} {b : Bool} {fs : List (Str × D)} (T : ExcQ X.K C) (hz : Zc (.ref C) d oe) (hv : ∃ vs, oe.data = .fields vs) (hm : X.mg "isinstance" = none) (hi : δ[i]? = some (.sh (excD a d fs))) (hc : Clss (X.suite a ((a, oe) :: pn)) es vs us) (hl : vs.length ≤ 1000)
    (hb : PySem.W.kitAny X.K (.ref C) us = some b) (h : k (.bl b)) (hp : PE (X.suite a ((a, oe) :: pn)) (.Name nm p1) (tVar i) := by exact pv _) (hg : Gl (X.suite a ((a, oe) :: pn)) "isinstance" := by rfl) :
    We (X.suite a ((a, oe) :: pn)) H0 (.Call (.Name "isinstance" p) [.Name nm p1, .Tuple es x1 p2] [] pos) δ k := fun σ G R => toE (pe_callB (call_isXT T hz hv) hg hm (by decide +kernel) (pa_cons hp (pa_cons (pe_tup hc.all.2) pa_nil (star_of rfl)) (star_of rfl)) (by decide) (by decide) (star_of rfl) (star_any rfl)) (by
  obtain ⟨v, e, iv⟩ := R.sh i _ hi
  obtain ⟨rfl, hd⟩ := exc_there (X := X) (y := .non) iv
  refine ⟨_, e, Nat.le_trans hl (by decide), fun tp ht => ⟨tp, vs, us, b, rfl, upd_same, hc.all.1, fun dd ed => ?_, hb, Ex.new ht, _, .bl b, h⟩⟩
  obtain ⟨o, ho⟩ := hd dd ed
  exact ⟨o, (Ex.new ht) dd o ho⟩)
end
end DL
set_option Elab.async false
set_option linter.all false
set_option maxRecDepth 100000
set_option maxHeartbeats 2000000
set_option pp.maxSteps 1200
/-! Part g: more operations. -/
namespace DL
open PySem PySem.Spec PyProof.Rows L2
section
variable {X : Cx} {H0 : Hp} {δ δ' : List S} {a b c e e2 : Expr} {es : List Expr} {k : D → Prop} {ko : Ow → Prop} {kt : Bool → Prop} {pos p : Pos} {E : En}
/-- // by any divisor but zero, below 2 ^ 9000 in size -/
def CDivX (_ j : Int) : Prop := j ≠ 0 ∧ j.natAbs.log2 < 9000
theorem op_fdivX : OpR X (binaryOp .FloorDiv) (rI CDivX fun i j => .int (i.fdiv j)) := opI fun _ _ _ _ _ _ _ hc q => floordiv_int hc.1 q (.inl (PyProof.noPylong_of_log2 hc.2))
theorem Bd.divX {n : Nat} {x y : Int} (h : y ≠ 0) (hy : Bd n y) (l : n ≤ 8999) : CDivX x y := ⟨h, Nat.lt_of_lt_of_le (PySem.Flt.log2_lt_of (by omega) (hy.le (Nat.le_add_right n 1))) (by omega)⟩
theorem we_fdiv (h : We X H0 a δ (fun x => We X H0 b δ (fun y => I2 x y (fun i j => CDivX i j ∧ k (.int (i.fdiv j)))))) : We X H0 (.BinOp a .FloorDiv b pos) δ k := fun σ G R => toE (pe_op op_fdivX pe_sem pe_sem) (two h (ii fun G i j => .int _) σ G R)
/-! ### list + list, list * int -/
def CAT (x y : D) (P : List D → Prop) : Prop := ∃ xs ys, x = .sq true xs ∧ y = .sq true ys ∧ xs.length + ys.length ≤ 100000 ∧ P (xs ++ ys)
theorem cat {xs ys : List D} {P : List D → Prop} (h : xs.length + ys.length ≤ 100000) (q : P (xs ++ ys)) : CAT (.sq true xs) (.sq true ys) P := ⟨xs, ys, rfl, rfl, h, q⟩
def REP (o : Ow) (y : D) (P : List D → Prop) : Prop := ∃ xs n, o = .lst xs ∧ y = .int n ∧ -1000000 ≤ n ∧ n ≤ 1000000 ∧ xs.length * n.toNat ≤ 100000 ∧ P (List.replicate n.toNat xs).flatten
theorem rep {xs : List D} {n : Int} {P : List D → Prop} (h : -1000000 ≤ n ∧ n ≤ 1000000 ∧ xs.length * n.toNat ≤ 100000) (q : P (List.replicate n.toNat xs).flatten) : REP (.lst xs) (.int n) P := ⟨xs, n, rfl, rfl, h.1, h.2.1, h.2.2, q⟩
theorem ObjOk.lstR {P : Program} {w : World} {H : Hp} {h : Heap} {l : Addr} {xs : List V} (r : Rd H l (.lst xs)) (ok : HOk P w H h) : xs.length ≤ sizeLine ∧ ∃ (its : List Value) (n : Nat), Vals xs its ∧ h.get? l = some { cls := .type "list", data := .seq its.toArray n } := r.ok ok
def rCatR : R2 := fun x y H Q => ∃ l b xs zs, x = .ref l ∧ y = .ref b ∧ Rd H l (.lst xs) ∧ Rd H b (.lst zs) ∧ xs.length + zs.length ≤ sizeLine ∧ ∀ p, H p = none → Q (.ref p) (upd H p (.lst (xs ++ zs)))
theorem op_catR : OpR X (binaryOp .Add) rCatR := by
  intro pins s σ H x y v u Q I rx ry h
  obtain ⟨l, b, xs, zs, rfl, rfl, hH, hB, hz, q⟩ := h
  cases rx; cases ry
  obtain ⟨z, its, n, r, e⟩ := ObjOk.lstR hH I.hok
  obtain ⟨z2, its2, n2, r2, e2⟩ := ObjOk.lstR hB I.hok
  refine PySem.P.add_list e e2 ?_ (by rw [List.size_toArray, List.size_toArray, ← r.length, ← r2.length]; exact hz)
  rw [show its.toArray ++ its2.toArray = (its ++ its2).toArray by simp]
  exact ⟨.ref _, _, I.lnew (t' := s.toks) (r.append r2) (by rw [List.length_append]; omega), rfl, q _ I.fresh⟩
theorem flat_len {α : Type} (n : Nat) (xs : List α) : (List.replicate n xs).flatten.length = n * xs.length := by
  induction n with
  | zero => simp
  | succ n ih => rw [List.replicate_succ, List.flatten_cons, List.length_append, ih, Nat.succ_mul, Nat.add_comm]
theorem IsL.rep {K : PySem.W.Frag} {G : Hp} {xs : List V} {ds : List D} (h : IsL K G xs ds) : ∀ n : Nat, IsL K G (List.replicate n xs).flatten (List.replicate n ds).flatten
  | 0 => .nil
  | n + 1 => by
    rw [List.replicate_succ, List.replicate_succ, List.flatten_cons, List.flatten_cons]
    exact h.app (IsL.rep h n)
theorem wo_cat (h : We X H0 a δ (fun x => We X H0 b δ (fun y => CAT x y fun zs => ko (.lst zs)))) : Wo X H0 (.BinOp a .Add b pos) δ ko := fun σ G R => toE (pe_op op_catR pe_sem pe_sem) ((h σ G R).mono fun v G1 ⟨e1, x, ix, q1⟩ => (q1 σ G1 (R.mono e1)).mono fun w G2 ⟨e2, y, iy, xs, ys, ex, ey, hl, hk⟩ => by
  subst ex ey
  obtain ⟨l, us, rfl, r1, l1⟩ := (ix.mono e2).lst_inv
  obtain ⟨l', ws, rfl, r2, l2⟩ := iy.lst_inv
  exact ⟨l, l', us, ws, rfl, rfl, r1, r2, Nat.le_trans (by rw [l1.1, l2.1]; exact hl) (by decide), fun t ht => ⟨_, (NewIs.lst ht (l1.app l2)).back (e1.trans e2), hk⟩⟩)
/-- [..] * n, a new list times an int -/
theorem wo_rep (h : Wo X H0 a δ (fun o => We X H0 b δ (fun y => REP o y fun zs => ko (.lst zs)))) : Wo X H0 (.BinOp a .Mult b pos) δ ko := fun σ G R => toE (pe_op op_rep pe_sem pe_sem) ((h σ G R).mono fun v G1 ⟨o, N, q1⟩ => (q1 σ G1 (R.mono N.ex)).mono fun w G2 ⟨e2, y, iy, xs, n, eo, ey, n1, n2, hl, hk⟩ => by
  subst eo ey
  cases iy
  have e1 := N.ex
  obtain ⟨l, ⟨p, us, rfl, rfl, hp, il⟩, fr, ee, nd⟩ := N
  have iG : IsL X.K G2 us xs := il.mono (cut_ex.trans e2)
  have hn : xs.length * n.toNat ≤ sizeLine := Nat.le_trans hl (by decide)
  exact ⟨p, n, us, rfl, rfl, e2 _ _ hp, by omega, by omega, by rw [il.1]; exact hn, fun t ht => ⟨_, (NewIs.lst ht (iG.rep _)).back (e1.trans e2), hk⟩⟩)
/-! ### == of data at any depth -/
inductive Pd : D → PyData → Prop
  | non : Pd .non .none
  | bl (b : Bool) : Pd (.bl b) (.bool b)
  | int (i : Int) : Pd (.int i) (.int i)
  | str (x : Str) : Pd (.str x) (.str x)
  | lst {ds : List D} {ps : List PyData} : ds.length = ps.length → (∀ (i : Nat) d q, ds[i]? = some d → ps[i]? = some q → Pd d q) → Pd (.sq true ds) (.list ps)
  | tup {ds : List D} {ps : List PyData} : ds.length = ps.length → (∀ (i : Nat) d q, ds[i]? = some d → ps[i]? = some q → Pd d q) → Pd (.sq false ds) (.tuple ps)
theorem dpAll {K : PySem.W.Frag} {H : Hp} : ∀ {vs : List V} {ps : List PyData}, vs.length = ps.length → (∀ (i : Nat) v q, vs[i]? = some v → ps[i]? = some q → Dp K H v q) → DpAll K H vs ps
  | [], [], _, _ => .nil
  | [], _ :: _, h, _ => by cases h
  | _ :: _, [], h, _ => by cases h
  | v :: vs, q :: ps, h, g => .cons (g 0 v q rfl rfl) (dpAll (Nat.succ.inj h) fun i v q a b => g (i + 1) v q a b)
theorem Pd.dp {K : PySem.W.Frag} {H : Hp} {d : D} {q : PyData} (h : Pd d q) : ∀ {v : V}, Is K H v d → Dp K H v q := by
  induction h with
  | non => intro v i; cases i; exact .non
  | bl b => intro v i; cases i; exact .bl b
  | int b => intro v i; cases i; exact .int b
  | str b => intro v i; cases i; exact .str b
  | lst hl _ ih =>
    intro v i
    obtain ⟨a, xs, rfl, r, l⟩ := i.lst_inv
    refine .lst (.inl r) (dpAll (l.1.trans hl) fun j v q h1 h2 => ?_)
    obtain ⟨d, hd, id⟩ := l.getV h1
    exact ih j d q hd h2 id
  | tup hl _ ih =>
    intro v i
    obtain ⟨a, xs, rfl, r, l⟩ := i.tup_inv
    refine .tup r (dpAll (l.1.trans hl) fun j v q h1 h2 => ?_)
    obtain ⟨d, hd, id⟩ := l.getV h1
    exact ih j d q hd h2 id
theorem Pd.nilL : Pd (.sq true []) (.list []) := .lst rfl fun i d q h => by cases h
theorem Pd.nilT : Pd (.sq false []) (.tuple []) := .tup rfl fun i d q h => by cases h
theorem Pd.consL {d : D} {q : PyData} {ds : List D} {ps : List PyData} (h : Pd d q) (r : Pd (.sq true ds) (.list ps)) : Pd (.sq true (d :: ds)) (.list (q :: ps)) := by
  cases r with
  | lst hl g =>
    refine .lst (congrArg (· + 1) hl) fun i d' q' h1 h2 => ?_
    cases i with
    | zero => cases h1; cases h2; exact h
    | succ i => exact g i d' q' h1 h2
theorem Pd.consT {d : D} {q : PyData} {ds : List D} {ps : List PyData} (h : Pd d q) (r : Pd (.sq false ds) (.tuple ps)) : Pd (.sq false (d :: ds)) (.tuple (q :: ps)) := by
  cases r with
  | tup hl g =>
    refine .tup (congrArg (· + 1) hl) fun i d' q' h1 h2 => ?_
    cases i with
    | zero => cases h1; cases h2; exact h
    | succ i => exact g i d' q' h1 h2
/-- the data on both sides, and what == says of them -/
def EQ (x y : D) (P : Bool → Prop) : Prop := ∃ p q, Pd x p ∧ Pd y q ∧ SeqAt.shaped p = true ∧ SeqAt.shaped q = true ∧ P (PyData.eqv p q)
theorem wt_eqD (hu : X.A.units + 64 < cLine) (h : We X H0 a δ (fun x => We X H0 b δ (fun y => EQ x y kt))) : Wt X H0 (.Compare a [.Eq] [b] pos) δ kt := fun σ G R => toT (pt_cmpR (op_eqD hu) pe_sem pe_sem (nomark _)) (twoT h (fun G v w x y iv iw ⟨p, q, hp, hq, sp, sq, hk⟩ Q qq => ⟨p, q, hp.dp iv, hq.dp iw, sp, sq, qq _ hk⟩) σ G R)
theorem we_eqD (hu : X.A.units + 64 < cLine) (h : We X H0 a δ (fun x => We X H0 b δ (fun y => EQ x y fun r => k (.bl r)))) : We X H0 (.Compare a [.Eq] [b] pos) δ k := fun σ G R => toE (pe_cmpR (op_eqD hu) pe_sem pe_sem (nomark _)) (two h (fun G v w x y iv iw ⟨p, q, hp, hq, sp, sq, hk⟩ Q qq => ⟨p, q, hp.dp iv, hq.dp iw, sp, sq, qq _ G _ (Same.refl _) (.bl _) hk⟩) σ G R)
theorem wt_neD (hu : X.A.units + 64 < cLine) (h : We X H0 a δ (fun x => We X H0 b δ (fun y => EQ x y fun r => kt (!r)))) : Wt X H0 (.Compare a [.NotEq] [b] pos) δ kt := fun σ G R => toT (pt_cmpR (op_neD hu) pe_sem pe_sem (nomark _)) (twoT h (fun G v w x y iv iw ⟨p, q, hp, hq, sp, sq, hk⟩ Q qq => ⟨p, q, hp.dp iv, hq.dp iw, sp, sq, qq _ hk⟩) σ G R)
/-- x = xs[i], xs a list that the frame alone holds -/
theorem ws_setIx (i j : Nat) {x y : Str} {px p1 ps : Pos} {ix : Expr} {ds : List D} (hN : X.N.Nodup) (hj : δ[j]? = some (.ow (.lst ds))) (hv : Vw δ δ') (h : We X H0 ix δ' (fun n => ∃ m d, n = .int m ∧ atI ds m = some d ∧ E.nx (δ.set i (.sh d)))) (hi : X.N[i]? = some x := by rfl) (hx : Loc X.env.scope x := by first | exact .inl rfl | exact .inr rfl) (hp : PE X (.Name y p1) (tVar j) := by exact pv _) (hpl : PlainIx ix := by exact fun _ _ => rfl)
    (hs : swapsWith (.Subscript (.Name y p1) ix ps) (some (.Name x px)) pos.line X.env = pure false := by rfl) (hf : X.fn x = true ∨ X.env.scope.names.lookup x = some .local := by exact .inl rfl) : Ws X H0 (.Assign [.Name x px] (.Subscript (.Name y p1) ix ps) pos) δ E := fun B σ H own hB R =>
  toS (ps_set hN hi hx (pe_ix ix_list hp pe_sem hpl) hs hf) (by
    obtain ⟨x0, l, h1, h2, v, rfl, p, xs, rfl, rfl, h3, h4⟩ := R.idx hj
    refine ⟨_, h1, (h.atV hv hB R).mono fun n H1 ⟨d, R1, inn, m, d', em, hat, q⟩ => ?_⟩
    subst em
    cases inn
    obtain ⟨x0, l, g1, g2, v', rfl, p', xs', ev, rfl, g3, g4⟩ := R1.idx hj
    rw [h1] at g1; cases g1
    cases ev
    obtain ⟨z, hz, iz⟩ := g4.atI hat
    exact ⟨p, xs', m, z, rfl, rfl, SqL.of g3, hz, _, _, R1.setSh iz, q⟩)
/-- an if whose ways meet -/
theorem wb_ifj {sts els rest : List Stmt} (M : List S → Prop) (hv : Vw δ δ') (hM : ∀ δ1, M δ1 → Wb X H0 rest δ1 E) (h : Wt X H0 c δ' (fun r => (r = true → Wb X H0 sts δ { E with nx := Upto M }) ∧ (r = false → Wb X H0 els δ { E with nx := Upto M }))) : Wb X H0 (.If c sts els pos :: rest) δ E :=
  wb_cons (ws_if hv (h.mono fun r ⟨h1, h2⟩ => ⟨fun hr => (h1 hr).mono (fun δ1 ⟨δ2, v, q⟩ => wb_view v (hM δ2 q)) (fun _ _ q => q) (fun _ q => q) (fun _ q => q), fun hr => (h2 hr).mono (fun δ1 ⟨δ2, v, q⟩ => wb_view v (hM δ2 q)) (fun _ _ q => q) (fun _ q => q) (fun _ q => q)⟩))
end
end DL
set_option Elab.async false
set_option linter.all false
set_option maxRecDepth 100000
set_option maxHeartbeats 2000000
set_option pp.maxSteps 1200
/-! Part h: defs that an except suite calls. -/
namespace DL
open PySem PySem.Spec PyProof.Rows L2
/-- the promise of a def, whatever is handled; p stays pinned -/
structure FnC (P : Program) (w : World) (K : PySem.W.Frag) (mg : Str → Option Value) (base : Heap) (k : Nat) (f : Addr) (fd : FuncData) (ps : List Str) (sp : Sp) : Prop where
  len : ∀ vs H Q E, sp vs H Q E → vs.length = ps.length
  go : ∀ (A : Around) (outer : List Env) (s : Shared) (H : Hp) (as : Args) (us : List Value) (vs : List V) (Q : VK) (E : XK) (q : Addr × Obj), L2H.RoomH k A → L2H.PinOk outer H s q → Env0 P w K mg base A outer s H → BindsTo s fd as (ps.zip us) → Vals vs us → sp vs H Q E → codeAny (model P w) A (.call (.ref f) as) (CR (L2.CX P w) outer P w H s Q E) s
section
variable {P : Program} {w : World} {K : PySem.W.Frag} {mg : Str → Option Value} {base : Heap} {x qual : Str} {params : Arguments} {body : List Stmt} {scope : Scope} {dvs : List V} {kws : List (Str × V)} {f : Addr} {fd : FuncData}
theorem fn_okC {N ps : List Str} {k : Nat} {T : DSp} (F : FunD K x qual params body scope dvs kws f fd) (S : FnScope N ps scope) (hN : ps.length ≤ N.length) (hlen : ∀ ds k x, T ds k x → ds.length = ps.length)
    (hbody : ∀ (cdv : Value) (A : Around) (outer : List Env) (s : Shared) (H : Hp) (E : XK) (q : Addr × Obj) (ds : List D) (kk : DL.S → Prop) (xx : XD), L2H.RoomH k (A.deeper (envOfC qual scope s.heap.objs.size f cdv)) → T ds kk xx →
      Xc (L2H.cxH (L2.CX P w) P w K mg base N qual scope f cdv A outer s H E q) H (fun _ => xx) →
      Wb (L2H.cxH (L2.CX P w) P w K mg base N qual scope f cdv A outer s H E q) H body (startD N ds) { nx := fun _ => kk (.sh .non), rt := fun _ r => kk r }) : FnC P w K mg base (k + 1) f fd ps (spD K T) := by
  obtain ⟨oc, od, dV, kV, doc, pm, an, cdv, ct, osl, rfl, lk, hcd, _, _⟩ := F.ex
  refine ⟨fun vs H Q E ⟨ds, kk, xx, is, hT, _⟩ => by rw [is.1]; exact hlen _ _ _ hT, fun A outer s H as us vs Q E q rm pin e0 bd rv hsp => ?_⟩
  obtain ⟨ds, kk, xx, is, hT, hQ, hE⟩ := hsp
  have nL : vs.length = ps.length := by rw [is.1]; exact hlen _ _ _ hT
  have kin : K.In s.heap := e0.mod.kin.keeps fun b o z => (e0.bs b o z).1
  have nl : s.heap.NoLimit := e0.mod.nolimit.keeps fun b o z => (e0.bs b o z).1
  have par : ∀ y ∈ ps.zip us, scope.names.lookup y.1 = some .local ∨ (scope.names.lookup y.1 = some .cell ∧ ((cellsFrom (s.heap.objs.size + 1) scope.names []).lookup y.1).isSome = true) := fun y hy =>
    (S.par y.1 (List.of_mem_zip (show (y.1, y.2) ∈ ps.zip us from hy)).1).elim .inl fun z => .inr ⟨z, PySem.W.cellsFrom_some _ _ _ (.inl z)⟩
  have tk : Takes (L2H.cxH (L2.CX P w) P w K mg base N qual scope f cdv A outer s H E q) (fun cls d _ H' => E cls d H') := takes_of rfl rfl rfl rfl
  have xc : Xc (L2H.cxH (L2.CX P w) P w K mg base N qual scope f cdv A outer s H E q) H (fun _ => xx) := ⟨⟨_, tk, fun σ G δ c d fs R i z => hE c d G fs R.ex i z⟩⟩
  refine codeAny_call_function rm.depth (kin _ _ lk) rfl S.co S.gen rfl (PySem.W.codeRec_of kin hcd) (bd _ _ _ _ (wpAny_newFunctionEnv_cells S.kind par fun env he s1 z => ?_))
  subst he
  refine ⟨nl.keeps z.toInCall.keep, codeAny_func ?_⟩
  have sb := (hbody cdv A outer s H E q ds kk xx (rm.deeper _) hT xc H _ H _ (Same.refl H) (rel_start is (by rw [hlen _ _ _ hT]; exact hN))).mono (D' := { nx := fun _ H' => Q .non H', rt := Q }) (fun σ' H' ⟨δ, own, R, g⟩ => hQ _ _ _ (show RetIs K H .non H' (.sh .non) from ⟨R.toEx, .non⟩) g) (fun v H' ⟨σ', δ, own, r, R, i, g⟩ => hQ _ _ _ i g) (fun _ _ ⟨_, _, _, z⟩ => z) (fun _ _ ⟨_, _, _, z⟩ => z)
  have I0 := L2H.inv_startH (CX := L2.CX P w) (E := E) S pin e0 nL rv z
  refine wpAny_mono (pb_sem.run [] s1 _ H _ I0 sb) (fun fl s' hs => ?_) fun _ _ hs => hs
  cases fl with
  | ret u =>
    obtain ⟨v, σ', H', J, r, g⟩ := hs
    exact ⟨v, H', J.os, J.bare, J.base, J.hok, r, g⟩
  | next =>
    obtain ⟨σ', H', J, g⟩ := hs
    exact ⟨.non, H', J.os, J.bare, J.base, J.hok, rfl, g⟩
  | brk =>
    obtain ⟨_, _, _, g⟩ := hs
    exact g.elim
  | cont =>
    obtain ⟨_, _, _, g⟩ := hs
    exact g.elim
end
/-- such a def, known -/
structure Fc (P : Program) (w : World) (K : PySem.W.Frag) (mg : Str → Option Value) (base : Heap) (lvl : Nat) (x : Str) (ps : List Str) (T : DSp) : Prop where
  ex : ∃ (f : Addr) (fd : FuncData), FnC P w K mg base lvl f fd ps (spD K T) ∧ mg x = some (.ref f) ∧ PySem.W.keepIn K (.ref f) = true ∧ Binds K fd ps []
theorem roomH_suite {k : Nat} {A : Around} {v : Option Value} (r : Room k A) : L2H.RoomH k (A.mark v) := ⟨r.dp, r.un⟩
section
variable {X : Cx} {H0 : Hp} {δ : List S} {e : Expr} {es : List Expr} {k : D → Prop} {pos p : Pos} {a : Addr} {oe : Obj} {pn : List (Addr × Obj)}
/-- a call in an except suite, where nothing is let out -/
theorem we_callC {lvl : Nat} {x : Str} {ps : List Str} {T : DSp} (F : Fc X.prog X.w X.K X.mg X.base lvl x ps T) (hr : Room lvl X.A) (h : Wa (X.suite a ((a, oe) :: pn)) H0 (e :: es) δ (fun as => T as (fun r => k r.d) (fun _ _ => False)))
    (hg : Gl (X.suite a ((a, oe) :: pn)) x := by rfl) (hdb : (x == ("__debug__" : Str)) = false := by decide) (he : notStar e = true := by rfl) (hpl : es.all notStar = true := by rfl) : We (X.suite a ((a, oe) :: pn)) H0 (.Call (.Name x p) (e :: es) [] pos) δ k := by
  intro σ G R
  obtain ⟨f, fd, Fk, hm, hk, hb⟩ := F.ex
  have h := h σ G R
  intro pins s I
  refine wpAny_Call_Name_kw (ld_glob I hg hm ?_ hdb)
  refine PySem.W.callWith_K I.ok.mod.kin hk (thn (h pos pins s I) fun us s1 ⟨vs, G1, I1, rv, e1, as, is, hT⟩ => ⟨I1.kIn, ?_⟩) (star_of he) (star_any hpl)
  have nl : vs.length = ps.length := Fk.len vs G1 (fun _ _ => True) (fun _ _ _ => True) ⟨as, _, _, is, hT, fun _ _ _ _ _ => trivial, fun _ _ _ _ _ _ _ => trivial⟩
  have bd := hb s1 us I1.kIn (by rw [List.append_nil, ← rv.length]; exact nl)
  rw [List.append_nil] at bd
  have pn1 := I1.pin (a, oe) (List.mem_append_left _ List.mem_cons_self)
  have pin : L2H.PinOk X.stack G1 s1 (a, oe) := ⟨pn1.1, pn1.2.1, fun hm => (List.mem_cons.mp (I1.stkSub a hm)).elim pn1.2.2.1 pn1.2.2.2.1, pn1.2.2.2.2⟩
  refine wpAny_call (codeAny_mono (Fk.go _ X.stack s1 G1 ⟨us, []⟩ us vs (fun v G2 => Ex G G2 ∧ ∃ d, Is X.K G2 v d ∧ k d) (fun _ _ _ => False) (a, oe) (roomH_suite hr) pin I1.env0 bd rv ⟨as, _, _, is, hT, fun v G2 r ir kr => ⟨e1.trans ir.ex.1, _, ir.ex.2, kr⟩, fun _ _ _ _ _ _ z => z⟩) fun r s2 hq => ?_)
  cases r with
  | error z => exact (passAt (X := X.suite a ((a, oe) :: pn)) takes0 σ pins G1 s1 z s2 I1 hq : False).elim
  | ok fl =>
    cases fl with
    | ret u => exact I1.after hq
    | next => exact False.elim hq
    | brk => exact False.elim hq
    | cont => exact False.elim hq
end
/-! ### a call's tuple, kept beside an object that was lent -/
def FlatT : D → Prop
  | .sq false ds => ∀ (i : Nat) d, ds[i]? = some d → Flat d
  | d => Flat d
theorem FlatT.two {a b : D} (h : Flat a) (h' : Flat b) : FlatT (.sq false [a, b]) := fun i d e => by
  match i, e with
  | 0, e => cases e; exact h
  | 1, e => cases e; exact h'
theorem FlatT.is {K : PySem.W.Frag} {H0 H : Hp} {σ : L2.St} {δ : List S} {own : List (List Addr)} {v : V} {d : D} (R : Rel K H0 σ H δ own) (f : FlatT d) (h : Is K H v d) : Is K (cut H own.flatten) v d := by
  cases h with
  | non => exact .non
  | bl b => exact .bl b
  | int i => exact .int i
  | str x => exact .str x
  | tup h1 h2 h3 =>
    refine .tup ?_ h2 fun i x d hx hd => (h3 i x d hx hd).flat (f i d hd)
    rcases h1 with z | z
    · refine .inl ?_
      have no : ∀ (p : Addr) (xs : List V), p ∈ own.flatten → ¬ Rd H p (.tup xs) := fun p xs hp r => by
        rcases R.owned p hp with ⟨_, e⟩ | ⟨_, e⟩ | ⟨_, _, _, e, _⟩ | ⟨_, _, _, e, _⟩
        all_goals (rcases r with r | ⟨_, r⟩ <;> rw [e] at r <;> cases r)
      have na := fun hp => no _ _ hp z
      rcases z with z | ⟨ob, z⟩
      · exact .inl (by rw [cut_out na]; exact z)
      · exact .inr ⟨ob, by rw [cut_out na]; exact z⟩
    · exact .inr z
  | _ => exact f.elim
theorem ws_setT {X : Cx} {H0 : Hp} {δ δ' : List S} {e : Expr} {pos : Pos} {E : En} (i : Nat) {x : Str} {pos' : Pos} (hN : X.N.Nodup) (hv : Vw δ δ') (h : We X H0 e δ' (fun d => FlatT d ∧ E.nx (δ.set i (.sh d)))) (hi : X.N[i]? = some x := by rfl) (hx : Loc X.env.scope x := by first | exact .inl rfl | exact .inr rfl) (hs : swapsWith e (some (.Name x pos')) pos.line X.env = pure false := by rfl) (hf : X.fn x = true ∨ X.env.scope.names.lookup x = some .local := by exact .inl rfl) :
    Ws X H0 (.Assign [.Name x pos'] e pos) δ E := fun B σ H own hB R => toS (ps_set hN hi hx pe_sem hs hf) ((h.atV hv hB R).mono fun v H' ⟨d, R', i, f, q⟩ => ⟨_, _, R'.setSh (f.is R' i), q⟩)
/-- a block of one statement (elif) -/
theorem Ws.mono {X : Cx} {H0 : Hp} {st : Stmt} {δ : List S} {E E' : En} (h : Ws X H0 st δ E) (nx : ∀ δ, E.nx δ → E'.nx δ) (rt : ∀ δ r, E.rt δ r → E'.rt δ r) (bk : ∀ δ, E.bk δ → E'.bk δ) (ct : ∀ δ, E.ct δ → E'.ct δ) : Ws X H0 st δ E' := fun B σ H own hB R =>
  semS.mono (h B σ H own hB R) (fun σ H ⟨δ, own, R, q⟩ => ⟨δ, own, R, nx _ q⟩) (fun v H ⟨σ, δ, own, r, R, i, q⟩ => ⟨σ, δ, own, r, R, i, rt _ _ q⟩) (fun σ H ⟨δ, own, R, q⟩ => ⟨δ, own, R, bk _ q⟩) (fun σ H ⟨δ, own, R, q⟩ => ⟨δ, own, R, ct _ q⟩)
theorem wb_one {X : Cx} {H0 : Hp} {st : Stmt} {δ : List S} {E : En} (h : Ws X H0 st δ E) : Wb X H0 [st] δ E := wb_cons (h.mono (fun _ q => wb_nil q) (fun _ _ q => q) (fun _ q => q) (fun _ q => q))
end DL
set_option Elab.async false
set_option linter.all false
set_option maxRecDepth 100000
set_option maxHeartbeats 2000000
/-! Part i: a law's head by facts; the end. -/
namespace DL
open PySem PySem.Spec PyProof.Rows L2 He
/-! ### the hook: names, any other facts, defs -/
def obsM (fa : List Fa) (ex : List (PySem.W.Frag → Bool)) (fn : List DefD) (K : PySem.W.Frag) : AlD := (((fa.all fun f => f.ok K) && ex.all fun e => e K) && fn.all fun d => d.ok K, fn.map fun d => fnW K d.at_)
def SaysM (fa : List Fa) (ex : List (PySem.W.Frag → Bool)) (fn : List DefD) (K : PySem.W.Frag) : Prop := obsM fa ex fn K = valD fn
def obsMG (n : Nat) (fa : List Fa) (ex : List (PySem.W.Frag → Bool)) (fn : List DefD) (g : Addr → Option Obj) : AlD := obsM fa ex fn (frG g (asD g n))
def hookM (n : Nat) (fa : List Fa) (ex : List (PySem.W.Frag → Bool)) (fn : List DefD) : PySem.W.Hook :=
  { α := AlD, obs := fun s => obsMG n fa ex fn s.heap.get?, val := fun _ => valD fn, says := fun _ h => ∃ K : PySem.W.Frag, K.In h ∧ SaysM fa ex fn K, of := fun _ _ e => ⟨_, frG_in, e⟩, keeps := fun _ _ _ ⟨K, a, c⟩ k => ⟨K, PySem.W.Frag.In.keeps a k, c⟩ }
theorem obsMG_eq {n : Nat} {fa : List Fa} {ex : List (PySem.W.Frag → Bool)} {fn : List DefD} {g : Addr → Option Obj} {s : Shared} (h : ∀ a, g a = s.heap.get? a) : obsMG n fa ex fn g = (hookM n fa ex fn).obs s := by
  obtain rfl : g = s.heap.get? := funext h
  rfl
section
variable {fa : List Fa} {ex : List (PySem.W.Frag → Bool)} {fn : List DefD} {K : PySem.W.Frag}
theorem SaysM.b (c : SaysM fa ex fn K) : (((fa.all fun f => f.ok K) && ex.all fun e => e K) && fn.all fun d => d.ok K) = true := congrArg Prod.fst c
theorem SaysM.fact (c : SaysM fa ex fn K) (i : Nat) {f : Fa} (h : fa[i]? = some f := by rfl) : f.ok K = true :=
  List.all_eq_true.mp (ba (ba c.b).1).1 f (List.mem_of_getElem? h)
theorem SaysM.glo (c : SaysM fa ex fn K) {f : Fa} (h : f ∈ fa) : f.ok K = true := List.all_eq_true.mp (ba (ba c.b).1).1 f h
theorem SaysM.xt (c : SaysM fa ex fn K) (i : Nat) {f : PySem.W.Frag → Bool} (h : ex[i]? = some f := by rfl) : f K = true :=
  List.all_eq_true.mp (ba (ba c.b).1).2 f (List.mem_of_getElem? h)
theorem SaysM.def_ (c : SaysM fa ex fn K) (i : Nat) {d : DefD} (h : fn[i]? = some d := by rfl) : ∃ fd, FunD K d.name d.qual d.params d.body d.scope (d.dvs K) (d.kws K) (fAd K d.at_) fd := by
  have e : (fn.map fun d => fnW K d.at_) = fn.map DefD.val := congrArg Prod.snd c
  have q : (fn.map fun d => fnW K d.at_)[i]? = (fn.map DefD.val)[i]? := congrArg (·[i]?) e
  rw [List.getElem?_map, List.getElem?_map, h] at q
  exact DefD.funD (Option.some.inj q) (List.all_eq_true.mp (ba c.b).2 d (List.mem_of_getElem? h))
end
/-! ### class facts that can be reckoned -/
/-- C is an exception class with a dict, above it classes of its own and then ValueError -/
def oexB (K : PySem.W.Frag) (C : Addr) : Bool := (match K.lookup C with
  | some ⟨.type ty, _, .cls z, zs⟩ => (match z.mro, zs.toList with
    | .ref B :: up, [_, _, _, _, some (.builtin nw), _] => decide (ty = "type") && (decide (B = C) && (decide (nw = "ValueError.__new__") && (!z.hasDel && (z.hasDict && PySem.HandSPX.refsVE up))))
    | _, _ => false)
  | _ => false) && (eqO (PySem.W.findIn K (.ref C) "__setattr__") (some (some (.builtin "object.__setattr__"))) && (decide (PySem.W.subIn K (.ref C) (.type "BaseException") = some true) && (decide (PySem.W.typeIn K (.ref C) = some (.type "type")) && PySem.W.keepIn K (.ref C))))
theorem oexB_ok {K : PySem.W.Frag} {C : Addr} (h : oexB K C = true) : OexC K C := by
  obtain ⟨h0, h⟩ := ba h
  obtain ⟨h1, h⟩ := ba h
  obtain ⟨h2, h⟩ := ba h
  obtain ⟨h3, h4⟩ := ba h
  refine ⟨?_, eqO_ok h1, of_decide_eq_true h2, of_decide_eq_true h3, h4⟩
  split at h0
  · rename_i ty dd z zs lk
    split at h0
    · rename_i B up k0 k1 k2 k3 nw k5 e1 e2
      obtain ⟨t0, h0⟩ := ba h0
      obtain ⟨t1, h0⟩ := ba h0
      obtain ⟨t2, h0⟩ := ba h0
      obtain ⟨t3, h0⟩ := ba h0
      obtain ⟨t4, t5⟩ := ba h0
      have t0 := of_decide_eq_true t0
      have t1 := of_decide_eq_true t1
      have t2 := of_decide_eq_true t2
      obtain ⟨nm, bs, mro, ns, qn, hd, sn, sub, ab, col, del⟩ := z
      obtain ⟨zs⟩ := zs
      dsimp only at e1 e2 t3 t4
      cases del with
      | true => cases t3
      | false =>
        subst t0 t1 t2 e1 e2 t4
        exact ⟨nm, qn, ns, bs, up, sn, sub, ab, col, dd, k0, k1, k2, k3, k5, lk, t5⟩
    · cases h0
  · cases h0
def excqB (K : PySem.W.Frag) (C : Addr) : Bool := eqO (PySem.W.findIn K (.ref C) "__getattribute__") (some (some (.builtin "BaseException.__getattribute__"))) && (eqO (PySem.W.findIn K (.ref C) "__getattr__") (some none) && (decide (PySem.W.subIn K (.ref C) (.type "BaseException") = some true) && (PySem.W.hasDictIn K C &&
  (eqO (PySem.W.findIn K (.ref C) "__class__") (some (some (.builtin "object.__class__"))) && (eqO (PySem.W.specialIn K (.builtin "object.__class__") "__get__") (some (some (.builtin "getset_descriptor.__get__"))) && (decide (PySem.W.takesIn K (.builtin "object.__class__") = some true) && decide (PySem.W.mroIn K C (.type "object") = some true)))))))
theorem excqB_ok {K : PySem.W.Frag} {C : Addr} (h : excqB K C = true) : ExcQ K C := by
  obtain ⟨h1, h⟩ := ba h
  obtain ⟨h2, h⟩ := ba h
  obtain ⟨h3, h⟩ := ba h
  obtain ⟨h4, h⟩ := ba h
  obtain ⟨h5, h⟩ := ba h
  obtain ⟨h6, h⟩ := ba h
  obtain ⟨h7, h8⟩ := ba h
  exact ⟨eqO_ok h1, eqO_ok h2, of_decide_eq_true h3, h4, eqO_ok h5, eqO_ok h6, of_decide_eq_true h7, of_decide_eq_true h8⟩
/-! ### a def, known -/
section
variable {P : Program} {w : World} {K : PySem.W.Frag} {mg : Str → Option Value} {base : Heap} {lvl : Nat} {f : Addr} {fd : FuncData} {x qual : Str} {params : Arguments} {body : List Stmt} {scope : Scope} {dvs : List V} {kws : List (Str × V)} {ps : List Str} {T : DSp}
theorem mk_fn (F : FunD K x qual params body scope [] kws f fd) (ok : FnOk P w K mg base (L2.CX P w) lvl f fd ps (spD K T)) (g : mg x = some (.ref f))
    (h : ∀ (kV doc pm : Value) (an : Option Addr) (cdv ct : Value) (us : List Value), us.length = ps.length → bindArgs (PySem.W.fnOf x qual params body scope .none kV doc pm an cdv ct) ⟨us, []⟩ = pure (ps.zip us)) : Fn P w K mg base lvl x ps T [] :=
  ⟨f, fd, [], [], ok, g, F.kp, F.bindsN h, .nil, fun _ => .nil⟩
theorem mk_fc (F : FunD K x qual params body scope [] kws f fd) (ok : FnC P w K mg base lvl f fd ps (spD K T)) (g : mg x = some (.ref f))
    (h : ∀ (kV doc pm : Value) (an : Option Addr) (cdv ct : Value) (us : List Value), us.length = ps.length → bindArgs (PySem.W.fnOf x qual params body scope .none kV doc pm an cdv ct) ⟨us, []⟩ = pure (ps.zip us)) : Fc P w K mg base lvl x ps T :=
  ⟨f, fd, ok, g, F.kp, F.bindsN h⟩
/-- from the j-th default on they fill up -/
theorem mk_fnD {dds : List D} (F : FunD K x qual params body scope dvs kws f fd) (ok : FnOk P w K mg base (L2.CX P w) lvl f fd ps (spD K T)) (g : mg x = some (.ref f)) (n j : Nat) (hd : dvs ≠ []) (hn : n + (dvs.length - j) = ps.length) (hdd : ∀ G, IsL K G (dvs.drop j) dds)
    (h : ∀ (D : Addr) (kV doc pm : Value) (an : Option Addr) (cdv ct : Value) (us its : List Value), us.length = n → its.length = dvs.length →
      ∃ k, bindArgs (PySem.W.fnOf x qual params body scope (.ref D) kV doc pm an cdv ct) ⟨us, []⟩ = seqItems? (.ref D) >>= k ∧ k (some its.toArray) = pure (ps.zip (us ++ its.drop j))) : Fn P w K mg base lvl x ps T dds := by
  obtain ⟨ds, hv, hb⟩ := F.binds1 (ps := ps) n j hd hn h
  exact ⟨f, fd, ds, dvs.drop j, ok, g, F.kp, hb, hv, hdd⟩
end
/-! ### the law's end -/
theorem cx_none {P : Program} {w : World} {H : Hp} {s : Shared} {e : Value} {s' : Shared} (h : L2.CX P w [] H s (fun _ _ _ => False) e s') : False := by
  obtain ⟨_, _, _, _, _, _, _, _, _, _, _, _, z⟩ := h
  exact z
theorem law_sp {K : PySem.W.Frag} {T : DSp} {H : Hp} {a : Addr} {ns : List Int} (hT : ∀ kk xx, kk (.sh (.bl true)) → T [.scr ns] kk xx) (hS : SqL K H a (ns.map V.int)) : spD K T [.ref a] H (fun v _ => v = .bl true) fun _ _ _ => False :=
  ⟨[.scr ns], fun r => r = .sh (.bl true), fun _ _ => False, .cons (.scr hS) .nil, hT _ _ rfl, fun v H' r ir er => by subst er; exact ir.2.bl_inv, fun _ _ _ _ _ _ z => z⟩
theorem walk_ofM {l : PySem.W.OpenLaw} {n k : Nat} {q : Program} {loose : List Str} {XP : (Str → Option Value) → Heap → Prop} {YP : World → Heap → Prop} {d : DefRec} {x : Str} {T : DSp} (hn : l.most = some n) (hn2 : n ≤ sizeLine) (hdf : d.params.defaults = []) (hr : Room k callerA) (hT : ∀ ns kk xx, kk (.sh (.bl true)) → T [.scr ns] kk xx)
    (F : ∀ (w : World) (mg : Str → Option Value) (fa : Addr) (h : Heap), YP w h → h.Ns mainGlobals mg → mg d.name = some (.ref fa) → ∃ (K : PySem.W.Frag) (fd : FuncData), K.In h ∧ (∀ (s : Shared) (u : Value), BindsTo s fd ⟨[u], []⟩ [(x, u)]) ∧ ∀ base : Heap, K.In base → base.Ns mainGlobals mg → FnOk l.prog w K mg base (L2.CX l.prog w) k fa fd [x] (spD K T)) :
    PySem.W.WalkO q loose XP YP l.row.toRowW d [] (fun f vs => PySem.call f vs) := by
  refine Att.attach_call hn hdf fun w s₀ s₁ mg mb fa o pm cd doc a vs ns G Y _ _ _ hmg hobj hi hl hg => ?_
  obtain ⟨K, fd, inK, bd, ok⟩ := F w mg fa _ Y G.T.g hmg
  exact law_call inK G.T.g G.T.b G.T.builtins G.T.nolimit hg hobj hi (Nat.le_trans hl hn2) hr ok bd (fun H _ hS => law_sp (hT ns) hS) fun H e s' z => cx_none z
end DL
set_option Elab.async false
set_option linter.all false
set_option maxHeartbeats 4000000
/-! The mathematics of k00: Euclid's steps, lowest terms. -/
namespace K00
open DL
theorem euclid_step {l r i M : Nat} (hr : 0 < r) (h1 : l * r * 2 ^ i ≤ M) (h0 : i = 0 → 2 * (l * r) ≤ M) (hl : 0 < i → r < l) : r * (l % r) * 2 ^ (i + 1) ≤ M ∧ l % r < r := by
  refine ⟨?_, Nat.mod_lt _ hr⟩
  by_cases h : r ≤ l
  · have e : 2 * (l % r) ≤ l := by
      have a := Nat.mod_lt l hr
      have b := Nat.div_add_mod l r
      have c : 1 ≤ l / r := Nat.div_pos h hr
      have d : r * 1 ≤ r * (l / r) := Nat.mul_le_mul_left r c
      omega
    calc r * (l % r) * 2 ^ (i + 1) = r * 2 ^ i * (2 * (l % r)) := by
          rw [Nat.pow_succ, Nat.mul_assoc, Nat.mul_assoc, Nat.mul_left_comm (l % r), Nat.mul_comm (l % r)]
      _ ≤ r * 2 ^ i * l := Nat.mul_le_mul_left _ e
      _ = l * r * 2 ^ i := by rw [Nat.mul_comm, Nat.mul_assoc]
      _ ≤ M := h1
  · have e : i = 0 := by
      rcases Nat.eq_zero_or_pos i with z | z
      · exact z
      · exact absurd (Nat.le_of_lt (hl z)) h
    subst e
    rw [Nat.mod_eq_of_lt (Nat.lt_of_not_le h)]
    have := h0 rfl
    rw [Nat.pow_one, Nat.mul_comm r l, Nat.mul_comm]
    exact this
theorem euclid_end {l r i n : Nat} (h : l * r * 2 ^ i ≤ 2 ^ n) (hn : n < i) (hl : r < l) : r = 0 := by
  rcases Nat.eq_zero_or_pos r with z | z
  · exact z
  · exfalso
    have a : 1 ≤ l * r := Nat.mul_pos (Nat.lt_of_le_of_lt (Nat.zero_le _) hl) z
    have b : 2 ^ i ≤ l * r * 2 ^ i := Nat.le_mul_of_pos_left _ a
    have c : 2 ^ n < 2 ^ i := Nat.pow_lt_pow_right (by decide) hn
    omega
/-- p / q is u / v in its one form -/
structure RatIs (p q u v : Int) : Prop where
  pos : 1 ≤ q
  gcd : Nat.gcd p.natAbs q.natAbs = 1
  eq : p * v = u * q
  lp : p.natAbs ≤ u.natAbs
  lq : q.natAbs ≤ v.natAbs
theorem fdiv_pos {a g : Int} (hg : 0 < g) : a.fdiv g = a / g := Int.fdiv_eq_ediv_of_nonneg a (by omega)
theorem rat_of {u v : Int} (hv : 0 < v) : RatIs (u / ((Nat.gcd u.natAbs v.natAbs : Nat) : Int)) (v / ((Nat.gcd u.natAbs v.natAbs : Nat) : Int)) u v := by
  have hg : 0 < Nat.gcd u.natAbs v.natAbs := Nat.gcd_pos_of_pos_right _ (by omega)
  obtain ⟨a, ha⟩ : ((Nat.gcd u.natAbs v.natAbs : Nat) : Int) ∣ u := Int.ofNat_dvd_left.mpr (Nat.gcd_dvd_left _ _)
  obtain ⟨b, hb⟩ : ((Nat.gcd u.natAbs v.natAbs : Nat) : Int) ∣ v := Int.ofNat_dvd_left.mpr (Nat.gcd_dvd_right _ _)
  generalize hG : Nat.gcd u.natAbs v.natAbs = g at *
  have hg' : (g : Int) ≠ 0 := by omega
  have e1 : u / (g : Int) = a := by rw [ha]; exact Int.mul_ediv_cancel_left _ hg'
  have e2 : v / (g : Int) = b := by rw [hb]; exact Int.mul_ediv_cancel_left _ hg'
  rw [e1, e2]
  have na : u.natAbs = g * a.natAbs := by rw [ha, Int.natAbs_mul]; rfl
  have nb : v.natAbs = g * b.natAbs := by rw [hb, Int.natAbs_mul]; rfl
  have bp : 0 < b := by
    rw [hb] at hv
    rcases Int.lt_or_le 0 b with z | z
    · exact z
    · have := Int.mul_le_mul_of_nonneg_left z (show (0 : Int) ≤ (g : Int) by omega)
      rw [Int.mul_zero] at this
      omega
  refine ⟨by omega, ?_, ?_, ?_, ?_⟩
  · rw [na, nb, Nat.gcd_mul_left] at hG
    exact Nat.eq_of_mul_eq_mul_left hg (by rw [hG]; simp)
  · rw [ha, hb]
    rw [Int.mul_left_comm, Int.mul_assoc]
  · rw [na]; exact Nat.le_mul_of_pos_left _ hg
  · rw [nb]; exact Nat.le_mul_of_pos_left _ hg
theorem RatIs.negs {p q u v : Int} (h : RatIs p q (-u) (-v)) : RatIs p q u v := by
  refine ⟨h.pos, h.gcd, ?_, by have := h.lp; rwa [Int.natAbs_neg] at this, by have := h.lq; rwa [Int.natAbs_neg] at this⟩
  have := h.eq
  rw [Int.mul_neg, Int.neg_mul] at this
  omega
theorem Bd.of_le {n : Nat} {x y : Int} (h : Bd n y) (l : x.natAbs ≤ y.natAbs) : Bd n x := Nat.lt_of_le_of_lt l h
end K00
set_option Elab.async false
set_option linter.all false
set_option maxRecDepth 100000
set_option maxHeartbeats 4000000
set_option pp.maxSteps 1500
namespace K00
open PySem PySem.Spec PyProof.Rows L2 DL
def top (i : Nat) : Stmt := PySem.Challenge.pw_ledbymarks_k00_ratios.main.body.getD i (.Pass ⟨0, 0, 0, 0⟩)
abbrev FD (K : PySem.W.Frag) (x : Str) (st : Stmt) (dv : List V) (f : Addr) (fd : FuncData) : Prop := FunD K x x (defArgs st) (defBody st) (defScope st) dv [] f fd
section
variable {P : Program} {w : World} {K : PySem.W.Frag} {mg : Str → Option Value} {base : Heap} {f : Addr} {fd : FuncData}
/-! ### _law_cell -/
abbrev s__law_cell : Stmt := top 23
theorem sc__law_cell : FnScope ["script", "k", "seed", "cell"] ["script", "k"] (defScope s__law_cell) := ⟨rfl, rfl, rfl, by decide +kernel, rfl, by decide +kernel, by decide +kernel⟩
def T_cell : DSp := fun ds kk _ => ∃ (ns : List Int) (k : Int), ds = [.scr ns, .int k] ∧ 0 ≤ k ∧ k ≤ 1000000 ∧ ∀ v : Int, kk (.sh (.int v))
theorem ok_cell (F : FD K "_law_cell" s__law_cell [] f fd) (M : Bi mg) : FnOk P w K mg base (L2.CX P w) 1 f fd ["script", "k"] (spD K T_cell) := by
  have sc := sc__law_cell
  refine fn_ok F sc (by decide) (fun ds kk xx h => by obtain ⟨_, _, rfl, _⟩ := h; rfl) fun cdv A outer s H E ds kk xx hr hT hx => ?_
  obtain ⟨ns, k, rfl, h0, h1, hk⟩ := hT
  refine wb_cons <| ws_if (Vw.refl _) <| wt_lt <| we_var 1 rfl <| we_lenS M.len <| wa_cons <| we_var 0 rfl <| wa_nil <| a1 <| ⟨_, rfl, i2 ⟨fun hb => ?_, fun hb => ?_⟩⟩
  · have hb := of_decide_eq_true hb
    obtain ⟨j, rfl⟩ : ∃ j : Nat, k = j := ⟨k.toNat, by omega⟩
    have hj : j < ns.length := by omega
    exact wb_cons <| ws_ret (Vw.refl _) <| we_ixS <| we_var 0 rfl <| we_var 1 rfl <| ⟨_, _, _, rfl, rfl, atI_nat (List.getElem?_eq_getElem hj), hk _⟩
  refine wb_nil ?_
  refine wb_cons <| ws_set 2 sc.nd <| we_int <| ?_
  refine wb_cons <| ws_forSS (passes_of rfl) rfl (fun i δ => ∃ q : Int, 0 ≤ q ∧ q < 1000003 ∧ δ = [.sh (.scr ns), .sh (.int k), .sh (.int q), .no]) <| we_var 0 rfl <| ⟨_, rfl, ⟨_, .keep <| .keep <| .keep <| .keep <| .nil, 17, by decide, by decide, rfl⟩, fun i n δ1 hd hI => wg_name 3 sc.nd ?_, fun δ1 hI => ?_⟩
  · obtain ⟨q, q0, q1, rfl⟩ := hI
    refine wb_cons <| ws_set 2 sc.nd <| we_mod <| we_cint M.int <| wa_cons <| we_add <| we_mul <| we_var 2 rfl <| we_int <| i2 <| And.intro (mul64 (by omega) (by omega)) <| we_mod <| we_cint M.int <| wa_cons <| we_var 3 rfl <| wa_nil <| a1 <| ci <| we_int <| i2 <| And.intro (by decide) <| i2 <| wa_nil <| a1 <| ci <| we_int <| i2 <| And.intro (by decide) <| ?_
    refine wb_nil ⟨_, .keep <| .keep <| .keep <| .drop <| .nil, _, ?_, ?_, rfl⟩ <;> omega
  obtain ⟨q, q0, q1, rfl⟩ := hI
  have e1 : (q + 7) * (k + 3) < 1000010 * 1000004 := Int.mul_lt_mul (by omega) (by omega) (by omega) (by omega)
  have e2 : 0 ≤ (q + 7) * (k + 3) := Int.mul_nonneg (by omega) (by omega)
  exact wb_cons <| ws_ret (Vw.refl _) <| we_mod <| we_cint M.int <| wa_cons <| we_mul <| we_mul <| we_add <| we_var 2 rfl <| we_int <| i2 <| we_add <| we_var 1 rfl <| we_int <| i2 <| i2 <| And.intro (mul64 (by omega) (by omega)) <| we_int <| i2 <| And.intro (mul64 (by omega) (by omega)) <| wa_nil <| a1 <| ci <| we_int <| i2 <| And.intro (by decide) <| hk _
/-! ### _law_digits -/
abbrev s__law_digits : Stmt := top 24
theorem sc__law_digits : FnScope ["cell", "sizes", "found", "rest", "size", "seed", "k", "twice"] ["cell", "sizes"] (defScope s__law_digits) := ⟨rfl, rfl, rfl, by decide +kernel, rfl, by decide +kernel, by decide +kernel⟩
/-- digits below their sizes -/
def Digs (r sizes : List Int) : Prop := r.length = sizes.length ∧ ∀ (i : Nat) x s, r[i]? = some x → sizes[i]? = some s → 0 ≤ x ∧ x < s
theorem Digs.nil {sizes : List Int} : Digs [] (sizes.take 0) := ⟨by simp, fun i x s h => by cases h⟩
theorem Digs.snoc {r sizes : List Int} {i : Nat} {s x : Int} (h : Digs r (sizes.take i)) (hs : sizes[i]? = some s) (h0 : 0 ≤ x) (h1 : x < s) : Digs (r ++ [x]) (sizes.take (i + 1)) := by
  have hi : i < sizes.length := (List.getElem?_eq_some_iff.mp hs).1
  have hl : r.length = i := by rw [h.1, List.length_take]; omega
  refine ⟨by simp [hl]; omega, fun j y t h2 h3 => ?_⟩
  by_cases hj : j < i
  · rw [List.getElem?_append_left (by omega)] at h2
    rw [List.getElem?_take_of_lt (by omega)] at h3
    exact h.2 j y t h2 (by rw [List.getElem?_take_of_lt hj]; exact h3)
  · have hj2 : j < i + 1 := by
      have := (List.getElem?_eq_some_iff.mp h2).1
      simp [hl] at this
      omega
    have e : j = i := by omega
    subst e
    rw [List.getElem?_take_of_lt (by omega), hs] at h3
    rw [List.getElem?_append_right (by omega), hl, Nat.sub_self] at h2
    cases h2; cases h3
    exact ⟨h0, h1⟩
theorem Digs.all {r sizes : List Int} {i : Nat} (h : Digs r (sizes.take i)) (hi : sizes.length ≤ i) : Digs r sizes := by rwa [List.take_of_length_le hi] at h
def DigD (ds : List D) (sizes : List Int) : Prop := ∃ r, Digs r sizes ∧ ds = r.map .int
theorem DigD.nil {sizes : List Int} : DigD [] (sizes.take 0) := ⟨[], .nil, rfl⟩
theorem DigD.len {ds : List D} {sizes : List Int} (h : DigD ds sizes) : ds.length = sizes.length := by
  obtain ⟨r, h, rfl⟩ := h
  rw [List.length_map, h.1]
theorem DigD.snoc {ds : List D} {sizes : List Int} {i : Nat} {s x : Int} (h : DigD ds (sizes.take i)) (hs : sizes[i]? = some s) (h0 : 0 ≤ x) (h1 : x < s) : DigD (ds ++ [.int x]) (sizes.take (i + 1)) := by
  obtain ⟨r, h, rfl⟩ := h
  exact ⟨_, h.snoc hs h0 h1, snoc_ints⟩
def T_digits : DSp := fun ds kk _ => ∃ (c : Int) (l : Bool) (sizes : List Int), ds = [.int c, .sq l (sizes.map .int)] ∧ sizes.length ≤ 10000 ∧ (∀ s ∈ sizes, 0 < s ∧ s < 18446744073709551616) ∧ ∀ r, Digs r sizes → kk (.ow (.lst (r.map .int)))
theorem ok_digits (F : FD K "_law_digits" s__law_digits [] f fd) (M : Bi mg) : FnOk P w K mg base (L2.CX P w) 1 f fd ["cell", "sizes"] (spD K T_digits) := by
  have sc := sc__law_digits
  refine fn_ok F sc (by decide) (fun ds kk xx h => by obtain ⟨_, _, _, rfl, _⟩ := h; rfl) fun cdv A outer s H E ds kk xx hr hT hx => ?_
  obtain ⟨c, l, sizes, rfl, hl, hs, hk⟩ := hT
  have szAt : ∀ {i : Nat} {s : Int}, sizes[i]? = some s → 0 < s ∧ s < 18446744073709551616 := fun h => hs _ (List.mem_of_getElem? h)
  refine wb_cons <| ws_setO 2 sc.nd <| wo_lst <| wa_nil <| And.intro (by decide) <| ?_
  refine wb_cons <| ws_set 3 sc.nd <| we_cint M.int <| wa_cons <| we_var 0 rfl <| wa_nil <| a1 <| ci <| ?_
  refine wb_cons <| ws_if (Vw.refl _) <| wt_ge <| we_var 3 rfl <| we_pow <| we_int <| we_int <| i2 <| And.intro (by decide) <| i2 <| ⟨fun hb => ?_, fun hb => ?_⟩
  · refine wb_cons <| ws_set 3 sc.nd <| we_sub <| we_var 3 rfl <| we_pow <| we_int <| we_int <| i2 <| And.intro (by decide) <| i2 <| ?_
    refine wb_cons <| ws_forS (passes_of rfl) rfl (fun i δ => ∃ (r : List D) (q : Int), DigD r (sizes.take i) ∧ δ = [.sh (.int c), .sh (.sq l (sizes.map .int)), .ow (.lst r), .sh (.int q), .no, .no, .no, .no]) l <| we_var 1 rfl <| ⟨_, rfl, ⟨_, .keep <| .keep <| .keep <| .keep <| .keep <| .keep <| .keep <| .keep <| .nil, [], _, .nil, rfl⟩, fun i d δ1 hd hI => wg_name 4 sc.nd ?_, fun δ1 hI => ?_⟩
    · obtain ⟨r, q, hr', rfl⟩ := hI
      obtain ⟨n, hn, rfl⟩ := of_get_ints hd
      have hn' := szAt hn
      refine wb_cons <| ws_append 2 rfl (by rw [hr'.len, List.length_take]; omega) <| we_mod <| we_cint M.int <| wa_cons <| we_var 3 rfl <| wa_nil <| a1 <| ci <| we_var 4 rfl <| i2 <| And.intro hn'.1 <| ?_
      refine wb_cons <| ws_set 3 sc.nd <| we_div <| we_cint M.int <| wa_cons <| we_var 3 rfl <| wa_nil <| a1 <| ci <| we_var 4 rfl <| i2 <| And.intro (div64 hn'.1 hn'.2) <| ?_
      refine wb_nil ⟨_, .keep <| .keep <| .keep <| .keep <| .drop <| .keep <| .keep <| .keep <| .nil, _, _, hr'.snoc hn (Int.emod_nonneg _ (by omega)) (Int.emod_lt_of_pos _ hn'.1), rfl⟩
    obtain ⟨r, q, ⟨r, hr', rfl⟩, rfl⟩ := hI
    exact wb_cons <| ws_retOwn 2 rfl <| hk _ (hr'.all (by simp))
  refine wb_nil ?_
  refine wb_cons <| ws_set 5 sc.nd <| we_mod <| we_cint M.int <| wa_cons <| we_var 3 rfl <| wa_nil <| a1 <| ci <| we_int <| i2 <| And.intro (by decide) <| ?_
  refine wb_cons <| ws_forR M.range (passes_of rfl) rfl (Vw.refl _) (fun i δ => ∃ (r : List D) (q : Int), 0 ≤ q ∧ q < 2147483647 ∧ DigD r (sizes.take i) ∧ δ = [.sh (.int c), .sh (.sq l (sizes.map .int)), .ow (.lst r), .sh (.int c), .no, .sh (.int q), .no, .no]) <| wa_cons <| we_len M.len <| wa_cons <| we_var 1 rfl <| wa_nil <| a1 <| sqk <| wa_nil <| a1 <| i1 <| ⟨by rw [List.length_map]; omega, ⟨_, .keep <| .keep <| .keep <| .keep <| .keep <| .keep <| .keep <| .keep <| .nil, [], c % 2147483629, by omega, by omega, .nil, rfl⟩, fun i δ1 hi hI => wg_name 6 sc.nd ?_, fun δ1 hI => ?_⟩
  · obtain ⟨r, q, q0, q1, hr', rfl⟩ := hI
    rw [List.length_map] at hi
    have hi' : i < sizes.length := by omega
    have hn := List.getElem?_eq_getElem hi'
    have hn' := szAt hn
    refine wb_cons <| ws_set 5 sc.nd <| we_mod <| we_cint M.int <| wa_cons <| we_add <| we_add <| we_mul <| we_var 5 rfl <| we_int <| i2 <| And.intro (mul64 (by omega) (by omega)) <| we_mul <| we_int <| we_var 6 rfl <| i2 <| And.intro (mul64 (by omega) (by omega)) <| i2 <| we_int <| i2 <| wa_nil <| a1 <| ci <| we_int <| i2 <| And.intro (by decide) <| ?_
    generalize hq2 : (q * 48271 + 974711 * (i : Int) + 12345) % 2147483647 = q2
    have b2 : 0 ≤ q2 ∧ q2 < 2147483647 := by omega
    refine wb_cons <| ws_set 7 sc.nd <| we_mod <| we_cint M.int <| wa_cons <| we_mul <| we_var 5 rfl <| we_add <| we_div <| we_var 5 rfl <| we_int <| i2 <| And.intro (div64 (by decide) (by decide)) <| we_int <| i2 <| i2 <| And.intro (mul64 (by omega) (by omega)) <| wa_nil <| a1 <| ci <| we_int <| i2 <| And.intro (by decide) <| ?_
    refine wb_cons <| ws_append 2 rfl (by rw [hr'.len, List.length_take]; omega) <| we_mod <| we_div <| we_var 7 rfl <| we_int <| i2 <| And.intro (div64 (by decide) (by decide)) <| we_ix <| we_var 1 rfl <| we_var 6 rfl <| ixn _ (get_ints hn) <| i2 <| And.intro hn'.1 <| ?_
    refine wb_nil ⟨_, .keep <| .keep <| .keep <| .keep <| .keep <| .keep <| .drop <| .drop <| .nil, _, _, b2.1, b2.2, hr'.snoc hn (Int.emod_nonneg _ (by omega)) (Int.emod_lt_of_pos _ hn'.1), rfl⟩
  obtain ⟨r, q, q0, q1, ⟨r, hr', rfl⟩, rfl⟩ := hI
  exact wb_cons <| ws_retOwn 2 rfl <| hk _ (hr'.all (by simp))
/-! ### _law_gcd -/
abbrev s__law_gcd : Stmt := top 25
theorem sc__law_gcd : FnScope ["one", "two", "left", "right", "turn", "held"] ["one", "two"] (defScope s__law_gcd) := ⟨rfl, rfl, rfl, by decide +kernel, rfl, by decide +kernel, by decide +kernel⟩
def T_gcd : DSp := fun ds kk _ => ∃ (a b : Int), ds = [.int a, .int b] ∧ Bd 40000 a ∧ Bd 40000 b ∧ kk (.sh (.int ((Nat.gcd a.natAbs b.natAbs : Nat) : Int)))
theorem ok_gcd (F : FD K "_law_gcd" s__law_gcd [] f fd) (M : Bi mg) : FnOk P w K mg base (L2.CX P w) 1 f fd ["one", "two"] (spD K T_gcd) := by
  have sc := sc__law_gcd
  refine fn_ok F sc (by decide) (fun ds kk xx h => by obtain ⟨_, _, rfl, _⟩ := h; rfl) fun cdv A outer s H E ds kk xx hr hT hx => ?_
  obtain ⟨a, b, rfl, ha, hb, hk⟩ := hT
  obtain ⟨n, hn, hab⟩ : ∃ n, n < 100000 ∧ 2 * (a.natAbs * b.natAbs) ≤ 2 ^ n := ⟨80001, by decide, by
    have e1 : a.natAbs * b.natAbs ≤ 2 ^ 40000 * 2 ^ 40000 := Nat.mul_le_mul (Nat.le_of_lt ha) (Nat.le_of_lt hb)
    have e2 : ∀ m k : Nat, k = m + m + 1 → (2 : Nat) ^ k = 2 * (2 ^ m * 2 ^ m) := fun m k e => by rw [e, ← Nat.pow_add, Nat.mul_comm, ← Nat.pow_succ]
    rw [e2 40000 80001 rfl]
    exact Nat.mul_le_mul_left 2 e1⟩
  have fin : ∀ (l : Nat) (x4 x5 : S), l = Nat.gcd a.natAbs b.natAbs → kk (.sh (.int (l : Int))) := fun l _ _ e => by rw [e]; exact hk
  refine wb_cons <| ws_set 2 sc.nd <| we_abs M.abs <| wa_cons <| we_var 0 rfl <| wa_nil <| a1 <| i1 <| ?_
  refine wb_cons <| ws_set 3 sc.nd <| we_abs M.abs <| wa_cons <| we_var 1 rfl <| wa_nil <| a1 <| i1 <| ?_
  refine wb_cons <| ws_forR M.range (passes_of rfl) rfl (Vw.refl _) (fun i δ => ∃ l r : Nat, l * r * 2 ^ i ≤ 2 ^ n ∧ (i = 0 → 2 * (l * r) ≤ 2 ^ n) ∧ (0 < i → r < l) ∧ Nat.gcd l r = Nat.gcd a.natAbs b.natAbs ∧ δ = [.sh (.int a), .sh (.int b), .sh (.int (l : Int)), .sh (.int (r : Int)), .no, .no]) <| wa_cons <| we_int <| wa_nil <| a1 <| i1 <| ⟨by omega, ⟨_, .keep <| .keep <| .keep <| .keep <| .keep <| .keep <| .nil, a.natAbs, b.natAbs, by rw [Nat.pow_zero, Nat.mul_one]; omega, fun _ => hab, fun z => absurd z (by decide), rfl, rfl⟩, fun i δ1 hi hI => wg_name 4 sc.nd ?_, fun δ1 hI => ?_⟩
  · obtain ⟨l, r, h1, h0, hl, hg, rfl⟩ := hI
    refine wb_cons <| ws_if (Vw.refl _) <| wt_eq <| we_var 3 rfl <| we_int <| fe rfl <| ⟨fun hb => ?_, fun hb => ?_⟩
    · have hb := of_decide_eq_true hb
      refine wb_cons <| ws_break ?_
      refine wb_cons <| ws_ret (Vw.refl _) <| we_var 2 rfl <| fin l .no .no ?_
      rw [← hg, show r = 0 by omega, Nat.gcd_zero_right]
    refine wb_nil ?_
    have hb := of_decide_eq_false hb
    obtain ⟨g1, g2⟩ := euclid_step (show 0 < r by omega) h1 h0 hl
    refine wb_cons <| ws_set 5 sc.nd <| we_mod <| we_cint M.int <| wa_cons <| we_var 2 rfl <| wa_nil <| a1 <| ci <| we_var 3 rfl <| i2 <| And.intro (show (0 : Int) < (r : Int) by omega) <| ?_
    refine wb_cons <| ws_set 2 sc.nd <| we_var 3 rfl <| ?_
    refine wb_cons <| ws_set 3 sc.nd <| we_var 5 rfl <| ?_
    refine wb_nil ⟨_, .keep <| .keep <| .keep <| .keep <| .drop <| .drop <| .nil, r, l % r, g1, fun z => absurd z (Nat.succ_ne_zero i), fun _ => g2, ?_, rfl⟩
    rw [Nat.gcd_comm, ← Nat.gcd_rec, Nat.gcd_comm]
    exact hg
  obtain ⟨l, r, h1, h0, hl, hg, rfl⟩ := hI
  have hz := euclid_end h1 hn (hl (by decide))
  subst hz
  refine wb_cons <| ws_ret (Vw.refl _) <| we_var 2 rfl <| fin l .no .no ?_
  rw [← hg, Nat.gcd_zero_right]
end
end K00
set_option Elab.async false
set_option linter.all false
set_option maxRecDepth 100000
set_option maxHeartbeats 4000000
set_option pp.maxSteps 1500
namespace K00
open PySem PySem.Spec PyProof.Rows L2 DL
section
variable {P : Program} {w : World} {K : PySem.W.Frag} {mg : Str → Option Value} {base : Heap} {f CZ : Addr} {fd : FuncData}
abbrev pr (l : Bool) (a b : Int) : D := .sq l [.int a, .int b]
/-! ### ratio -/
abbrev s_ratio : Stmt := top 15
theorem sc_ratio : FnScope ["top", "bottom", "common"] ["top", "bottom"] (defScope s_ratio) := ⟨rfl, rfl, rfl, by decide +kernel, rfl, by decide +kernel, by decide +kernel⟩
def T_ratio (CZ : Addr) : DSp := fun ds kk xx => ∃ (t b : Int), ds = [.int t, .int b] ∧ Bd 6000 t ∧ Bd 6000 b ∧ (b = 0 → xx (.ref CZ) [("top", .int t)]) ∧ (b ≠ 0 → ∀ p q, RatIs p q t b → kk (.sh (pr false p q)))
theorem ok_ratio (F : FD K "ratio" s_ratio [.int 1] f fd) (mgcd : mg "gcd" = some (.builtin "math.gcd")) (Z : Exc1 P w K mg base 1 "ZeroBottom" "top" CZ) : FnOk P w K mg base (L2.CX P w) 3 f fd ["top", "bottom"] (spD K (T_ratio CZ)) := by
  have sc := sc_ratio
  refine fn_ok F sc (by decide) (fun ds kk xx h => by obtain ⟨_, _, rfl, _⟩ := h; rfl) fun cdv A outer s H E ds kk xx hr hT hx => ?_
  obtain ⟨t, b, rfl, ht, hb', h0, h1⟩ := hT
  refine wb_cons <| ws_if (Vw.refl _) <| wt_eq <| we_var 1 rfl <| we_int <| fe rfl <| ⟨fun hb => ?_, fun hb => ?_⟩
  · refine wb_cons <| ws_raise1 Z (hr.mono (by decide)) rfl hx (Vw.refl _) <| wa_cons <| we_var 0 rfl <| wa_nil <| a1 <| h0 (of_decide_eq_true hb)
  refine wb_nil ?_
  have hz : b ≠ 0 := of_decide_eq_false hb
  refine wb_ifj (fun δ => ∃ u v : Int, 0 < v ∧ Bd 6000 u ∧ Bd 6000 v ∧ (∀ p q, RatIs p q u v → kk (.sh (pr false p q))) ∧ δ = [.sh (.int u), .sh (.int v), .no]) (Vw.refl _) (fun δ1 hM => ?_) <| wt_lt <| we_var 1 rfl <| we_int <| i2 <| ⟨fun hb => ?_, fun hb => ?_⟩
  · obtain ⟨u, v, hv, hu, hv', hk, rfl⟩ := hM
    have hg : 0 < Nat.gcd u.natAbs v.natAbs := Nat.gcd_pos_of_pos_right _ (by omega)
    have hgb : Bd 6000 ((Nat.gcd u.natAbs v.natAbs : Nat) : Int) := Bd.of_le hv' (Nat.le_of_dvd (by omega) (Nat.gcd_dvd_right _ _))
    refine wb_cons <| ws_set 2 sc.nd <| we_gcd mgcd <| wa_cons <| we_var 0 rfl <| wa_cons <| we_var 1 rfl <| wa_nil <| a2 <| i2 <| ?_
    exact wb_cons <| ws_ret (Vw.refl _) <| we_tup <| wa_cons <| we_div <| we_var 0 rfl <| we_var 2 rfl <| i2 <| And.intro (Bd.div (by omega) hgb (by decide)) <| wa_cons <| we_div <| we_var 1 rfl <| we_var 2 rfl <| i2 <| And.intro (Bd.div (by omega) hgb (by decide)) <| wa_nil <| And.intro lok <| hk _ _ (rat_of hv)
  · have hb := of_decide_eq_true hb
    refine wb_cons <| ws_set 0 sc.nd <| we_neg <| we_var 0 rfl <| i1 <| ?_
    refine wb_cons <| ws_set 1 sc.nd <| we_neg <| we_var 1 rfl <| i1 <| ?_
    exact wb_nil <| upto ⟨-t, -b, by omega, ht.neg, hb'.neg, fun p q h => h1 hz p q h.negs, rfl⟩
  · have hb := of_decide_eq_false hb
    exact wb_nil <| upto ⟨t, b, by omega, ht, hb', h1 hz, rfl⟩
/-! ### plus, minus, times, over, order -/
abbrev s_plus : Stmt := top 16
theorem sc_plus : FnScope ["one", "two"] ["one", "two"] (defScope s_plus) := ⟨rfl, rfl, rfl, by decide +kernel, rfl, by decide +kernel, by decide +kernel⟩
abbrev s_minus : Stmt := top 17
theorem sc_minus : FnScope ["one", "two"] ["one", "two"] (defScope s_minus) := ⟨rfl, rfl, rfl, by decide +kernel, rfl, by decide +kernel, by decide +kernel⟩
abbrev s_times : Stmt := top 18
theorem sc_times : FnScope ["one", "two"] ["one", "two"] (defScope s_times) := ⟨rfl, rfl, rfl, by decide +kernel, rfl, by decide +kernel, by decide +kernel⟩
abbrev s_over : Stmt := top 19
theorem sc_over : FnScope ["one", "two"] ["one", "two"] (defScope s_over) := ⟨rfl, rfl, rfl, by decide +kernel, rfl, by decide +kernel, by decide +kernel⟩
abbrev s_order : Stmt := top 20
theorem sc_order : FnScope ["one", "two", "left", "right"] ["one", "two"] (defScope s_order) := ⟨rfl, rfl, rfl, by decide +kernel, rfl, by decide +kernel, by decide +kernel⟩
/-- two ratios handed in, whatever they are held in -/
def Two (ds : List D) (R : Int → Int → Int → Int → Prop) : Prop := ∃ (l l' : Bool) (a b c d : Int), ds = [pr l a b, pr l' c d] ∧ (1 ≤ b ∧ 1 ≤ d) ∧ (Bd 2900 a ∧ Bd 2900 b ∧ Bd 2900 c ∧ Bd 2900 d) ∧ R a b c d
theorem Two.len {ds : List D} {R : Int → Int → Int → Int → Prop} (h : Two ds R) : ds.length = 2 := by
  obtain ⟨_, _, _, _, _, _, rfl, _⟩ := h
  rfl
def T_plus : DSp := fun ds kk _ => Two ds fun a b c d => ∀ p q, RatIs p q (a * d + c * b) (b * d) → kk (.sh (pr false p q))
def T_minus : DSp := fun ds kk _ => Two ds fun a b c d => ∀ p q, RatIs p q (a * d - c * b) (b * d) → kk (.sh (pr false p q))
def T_times : DSp := fun ds kk _ => Two ds fun a b c d => ∀ p q, RatIs p q (a * c) (b * d) → kk (.sh (pr false p q))
def T_over (CZ : Addr) : DSp := fun ds kk xx => Two ds fun a b c d => (c = 0 → xx (.ref CZ) [("top", .int a)]) ∧ (c ≠ 0 → ∀ p q, RatIs p q (a * d) (b * c) → kk (.sh (pr false p q)))
def T_order : DSp := fun ds kk _ => Two ds fun a b c d => kk (.sh (.int (if a * d < c * b then -1 else if c * b < a * d then 1 else 0)))
theorem mul_ne {b d : Int} (h : 1 ≤ b) (h' : 1 ≤ d) : b * d ≠ 0 := by
  have := Int.mul_pos (show 0 < b by omega) (show 0 < d by omega)
  omega
theorem ok_plus (F : FD K "plus" s_plus [] f fd) (R : Fn P w K mg base 3 "ratio" ["top", "bottom"] (T_ratio CZ) []) : FnOk P w K mg base (L2.CX P w) 4 f fd ["one", "two"] (spD K T_plus) := by
  have sc := sc_plus
  refine fn_ok F sc (by decide) (fun ds kk xx h => Two.len h) fun cdv A outer s H E ds kk xx hr hT hx => ?_
  obtain ⟨l, l', a, b, c, d, rfl, ⟨pb, pd⟩, ⟨ha, hb, hc, hd⟩, hk⟩ := hT
  refine wb_cons <| ws_ret (Vw.refl _) <| we_call R (hr.mono (by decide)) <| wa_cons <| we_add <| we_mul <| we_ix <| we_var 0 rfl <| we_int <| ixn 0 rfl <| we_ix <| we_var 1 rfl <| we_int <| ixn 1 rfl <| i2 <| And.intro (ha.mulW hd (by decide)) <| we_mul <| we_ix <| we_var 1 rfl <| we_int <| ixn 0 rfl <| we_ix <| we_var 0 rfl <| we_int <| ixn 1 rfl <| i2 <| And.intro (hc.mulW hb (by decide)) <| i2 <| wa_cons <| we_mul <| we_ix <| we_var 0 rfl <| we_int <| ixn 1 rfl <| we_ix <| we_var 1 rfl <| we_int <| ixn 1 rfl <| i2 <| And.intro (hb.mulW hd (by decide)) <| wa_nil <| ?_
  exact ⟨_, _, rfl, (ha.mul hd).add (hc.mul hb) (by decide) (by decide), (hb.mul hd).le (by decide), fun z => absurd z (mul_ne pb pd), fun _ => hk⟩
theorem ok_minus (F : FD K "minus" s_minus [] f fd) (R : Fn P w K mg base 3 "ratio" ["top", "bottom"] (T_ratio CZ) []) : FnOk P w K mg base (L2.CX P w) 4 f fd ["one", "two"] (spD K T_minus) := by
  have sc := sc_minus
  refine fn_ok F sc (by decide) (fun ds kk xx h => Two.len h) fun cdv A outer s H E ds kk xx hr hT hx => ?_
  obtain ⟨l, l', a, b, c, d, rfl, ⟨pb, pd⟩, ⟨ha, hb, hc, hd⟩, hk⟩ := hT
  refine wb_cons <| ws_ret (Vw.refl _) <| we_call R (hr.mono (by decide)) <| wa_cons <| we_sub <| we_mul <| we_ix <| we_var 0 rfl <| we_int <| ixn 0 rfl <| we_ix <| we_var 1 rfl <| we_int <| ixn 1 rfl <| i2 <| And.intro (ha.mulW hd (by decide)) <| we_mul <| we_ix <| we_var 1 rfl <| we_int <| ixn 0 rfl <| we_ix <| we_var 0 rfl <| we_int <| ixn 1 rfl <| i2 <| And.intro (hc.mulW hb (by decide)) <| i2 <| wa_cons <| we_mul <| we_ix <| we_var 0 rfl <| we_int <| ixn 1 rfl <| we_ix <| we_var 1 rfl <| we_int <| ixn 1 rfl <| i2 <| And.intro (hb.mulW hd (by decide)) <| wa_nil <| ?_
  exact ⟨_, _, rfl, (ha.mul hd).sub (hc.mul hb) (by decide) (by decide), (hb.mul hd).le (by decide), fun z => absurd z (mul_ne pb pd), fun _ => hk⟩
theorem ok_times (F : FD K "times" s_times [] f fd) (R : Fn P w K mg base 3 "ratio" ["top", "bottom"] (T_ratio CZ) []) : FnOk P w K mg base (L2.CX P w) 4 f fd ["one", "two"] (spD K T_times) := by
  have sc := sc_times
  refine fn_ok F sc (by decide) (fun ds kk xx h => Two.len h) fun cdv A outer s H E ds kk xx hr hT hx => ?_
  obtain ⟨l, l', a, b, c, d, rfl, ⟨pb, pd⟩, ⟨ha, hb, hc, hd⟩, hk⟩ := hT
  refine wb_cons <| ws_ret (Vw.refl _) <| we_call R (hr.mono (by decide)) <| wa_cons <| we_mul <| we_ix <| we_var 0 rfl <| we_int <| ixn 0 rfl <| we_ix <| we_var 1 rfl <| we_int <| ixn 0 rfl <| i2 <| And.intro (ha.mulW hc (by decide)) <| wa_cons <| we_mul <| we_ix <| we_var 0 rfl <| we_int <| ixn 1 rfl <| we_ix <| we_var 1 rfl <| we_int <| ixn 1 rfl <| i2 <| And.intro (hb.mulW hd (by decide)) <| wa_nil <| ?_
  exact ⟨_, _, rfl, (ha.mul hc).le (by decide), (hb.mul hd).le (by decide), fun z => absurd z (mul_ne pb pd), fun _ => hk⟩
theorem ok_over (F : FD K "over" s_over [] f fd) (R : Fn P w K mg base 3 "ratio" ["top", "bottom"] (T_ratio CZ) []) (Z : Exc1 P w K mg base 1 "ZeroBottom" "top" CZ) : FnOk P w K mg base (L2.CX P w) 4 f fd ["one", "two"] (spD K (T_over CZ)) := by
  have sc := sc_over
  refine fn_ok F sc (by decide) (fun ds kk xx h => Two.len h) fun cdv A outer s H E ds kk xx hr hT hx => ?_
  obtain ⟨l, l', a, b, c, d, rfl, ⟨pb, pd⟩, ⟨ha, hb, hc, hd⟩, h0, h1⟩ := hT
  refine wb_cons <| ws_if (Vw.refl _) <| wt_eq <| we_ix <| we_var 1 rfl <| we_int <| ixn 0 rfl <| we_int <| fe rfl <| ⟨fun hb => ?_, fun hb => ?_⟩
  · refine wb_cons <| ws_raise1 Z (hr.mono (by decide)) rfl hx (Vw.refl _) <| wa_cons <| we_ix <| we_var 0 rfl <| we_int <| ixn 0 rfl <| wa_nil <| a1 <| h0 (of_decide_eq_true hb)
  refine wb_nil ?_
  have hz : c ≠ 0 := of_decide_eq_false hb
  refine wb_cons <| ws_ret (Vw.refl _) <| we_call R (hr.mono (by decide)) <| wa_cons <| we_mul <| we_ix <| we_var 0 rfl <| we_int <| ixn 0 rfl <| we_ix <| we_var 1 rfl <| we_int <| ixn 1 rfl <| i2 <| And.intro (ha.mulW hd (by decide)) <| wa_cons <| we_mul <| we_ix <| we_var 0 rfl <| we_int <| ixn 1 rfl <| we_ix <| we_var 1 rfl <| we_int <| ixn 0 rfl <| i2 <| And.intro (Bd.mulW (by assumption) hc (by decide)) <| wa_nil <| ?_
  exact ⟨_, _, rfl, (ha.mul hd).le (by decide), (Bd.mul (by assumption) hc).le (by decide), fun z => absurd z (Int.mul_ne_zero (by omega) hz), fun _ => h1 hz⟩
theorem ok_order (F : FD K "order" s_order [] f fd) : FnOk P w K mg base (L2.CX P w) 1 f fd ["one", "two"] (spD K T_order) := by
  have sc := sc_order
  refine fn_ok F sc (by decide) (fun ds kk xx h => Two.len h) fun cdv A outer s H E ds kk xx hr hT hx => ?_
  obtain ⟨l, l', a, b, c, d, rfl, ⟨pb, pd⟩, ⟨ha, hb, hc, hd⟩, hk⟩ := hT
  refine wb_cons <| ws_set 2 sc.nd <| we_mul <| we_ix <| we_var 0 rfl <| we_int <| ixn 0 rfl <| we_ix <| we_var 1 rfl <| we_int <| ixn 1 rfl <| i2 <| And.intro (ha.mulW hd (by decide)) <| ?_
  refine wb_cons <| ws_set 3 sc.nd <| we_mul <| we_ix <| we_var 1 rfl <| we_int <| ixn 0 rfl <| we_ix <| we_var 0 rfl <| we_int <| ixn 1 rfl <| i2 <| And.intro (hc.mulW hb (by decide)) <| ?_
  refine wb_cons <| ws_if (Vw.refl _) <| wt_lt <| we_var 2 rfl <| we_var 3 rfl <| i2 <| ⟨fun h1 => ?_, fun h1 => ?_⟩
  · rw [if_pos (of_decide_eq_true h1)] at hk
    exact wb_cons <| ws_ret (Vw.refl _) <| we_neg <| we_int <| i1 <| hk
  refine wb_nil ?_
  rw [if_neg (of_decide_eq_false h1)] at hk
  refine wb_cons <| ws_if (Vw.refl _) <| wt_gt <| we_var 2 rfl <| we_var 3 rfl <| i2 <| ⟨fun h2 => ?_, fun h2 => ?_⟩
  · rw [if_pos (of_decide_eq_true h2)] at hk
    exact wb_cons <| ws_ret (Vw.refl _) <| we_int <| hk
  refine wb_nil ?_
  rw [if_neg (of_decide_eq_false h2)] at hk
  exact wb_cons <| ws_ret (Vw.refl _) <| we_int <| hk
/-! ### _law_whole, _law_is_ratio, _law_limit -/
abbrev s__law_whole : Stmt := top 22
theorem sc__law_whole : FnScope ["value"] ["value"] (defScope s__law_whole) := ⟨rfl, rfl, rfl, by decide +kernel, rfl, by decide +kernel, by decide +kernel⟩
def T_whole : DSp := fun ds kk _ => ∃ i : Int, ds = [.int i] ∧ kk (.sh (.bl true))
theorem ok_whole (F : FD K "_law_whole" s__law_whole [] f fd) (M : Bi mg) : FnOk P w K mg base (L2.CX P w) 1 f fd ["value"] (spD K T_whole) := by
  have sc := sc__law_whole
  refine fn_ok F sc (by decide) (fun ds kk xx h => by obtain ⟨_, rfl, _⟩ := h; rfl) fun cdv A outer s H E ds kk xx hr hT hx => ?_
  obtain ⟨i, rfl, hk⟩ := hT
  refine wb_cons <| ws_ret (Vw.refl _) <| we_and <| we_isi M.isinstance (isi_arg (T := "int") M.int (by decide +kernel) rfl (by decide) (by decide)) <| we_var 0 rfl <| ii_ (b := true) rfl (by decide +kernel) <| b1 <| ⟨fun hb => ?_, fun hb => nomatch hb⟩
  exact we_one <| we_not <| we_isi M.isinstance (isi_arg (T := "bool") M.bool (by decide +kernel) rfl (by decide) (by decide)) <| we_var 0 rfl <| ii_ (b := false) rfl (by decide +kernel) <| b1 <| hk
abbrev s__law_is_ratio : Stmt := top 26
theorem sc__law_is_ratio : FnScope ["value"] ["value"] (defScope s__law_is_ratio) := ⟨rfl, rfl, rfl, by decide +kernel, rfl, by decide +kernel, by decide +kernel⟩
def T_isr : DSp := fun ds kk _ => ∃ p q : Int, ds = [pr false p q] ∧ 1 ≤ q ∧ Nat.gcd p.natAbs q.natAbs = 1 ∧ Bd 40000 p ∧ Bd 40000 q ∧ kk (.sh (.bl true))
theorem ok_isr (F : FD K "_law_is_ratio" s__law_is_ratio [] f fd) (M : Bi mg) (FW : Fn P w K mg base 1 "_law_whole" ["value"] T_whole []) (FG : Fn P w K mg base 1 "_law_gcd" ["one", "two"] T_gcd []) : FnOk P w K mg base (L2.CX P w) 2 f fd ["value"] (spD K T_isr) := by
  have sc := sc__law_is_ratio
  refine fn_ok F sc (by decide) (fun ds kk xx h => by obtain ⟨_, _, rfl, _⟩ := h; rfl) fun cdv A outer s H E ds kk xx hr hT hx => ?_
  obtain ⟨p, q, rfl, hq, hg, bp, bq, hk⟩ := hT
  refine wb_cons <| ws_if (Vw.refl _) <| wt_w <| ww_or <| wt_not <| wt_val <| we_isi M.isinstance (isi_arg (T := "tuple") M.tuple (by decide +kernel) rfl (by decide) (by decide)) <| we_var 0 rfl <| ii_ (b := true) rfl (by decide +kernel) <| b1 <| ⟨fun hb => ?_, fun hb => nomatch hb⟩
  refine ww_or <| wt_ne <| we_len M.len <| wa_cons <| we_var 0 rfl <| wa_nil <| a1 <| sqk <| we_int <| fe rfl <| ⟨fun hb => ?_, fun hb => nomatch hb⟩
  refine ww_or <| wt_not <| wt_val <| we_call FW (hr.mono (by decide)) <| wa_cons <| we_ix <| we_var 0 rfl <| we_int <| ixn 0 rfl <| wa_nil <| ⟨p, rfl, b1 <| ⟨fun hb => ?_, fun hb => nomatch hb⟩⟩
  refine ww_or1 <| wt_not <| wt_val <| we_call FW (hr.mono (by decide)) <| wa_cons <| we_ix <| we_var 0 rfl <| we_int <| ixn 1 rfl <| wa_nil <| ⟨q, rfl, b1 <| ⟨fun hb => (nomatch hb), fun hb => wb_nil ?_⟩⟩
  refine wb_cons <| ws_ret (Vw.refl _) <| we_and <| we_ge <| we_ix <| we_var 0 rfl <| we_int <| ixn 1 rfl <| we_int <| i2 <| b1 <| ⟨fun hb => ?_, fun hb => absurd hq (of_decide_eq_false hb)⟩
  refine we_one <| we_eq <| we_call FG (hr.mono (by decide)) <| wa_cons <| we_ix <| we_var 0 rfl <| we_int <| ixn 0 rfl <| wa_cons <| we_ix <| we_var 0 rfl <| we_int <| ixn 1 rfl <| wa_nil <| ⟨p, q, rfl, bp, bq, ?_⟩
  refine we_int <| fe rfl ?_
  rw [hg]
  exact hk
abbrev s__law_limit : Stmt := top 27
theorem sc__law_limit : FnScope ["turns", "limit", "turn"] ["turns"] (defScope s__law_limit) := ⟨rfl, rfl, rfl, by decide +kernel, rfl, by decide +kernel, by decide +kernel⟩
def lim (n : Nat) : Int := 10 ^ (50 * 2 ^ n)
theorem lim_succ (n : Nat) : lim n * lim n = lim (n + 1) := by
  unfold lim
  rw [← Int.pow_add, Nat.pow_succ]
  congr 1
  omega
theorem lim_bd (n : Nat) : Bd (50 * 2 ^ n * 4) (lim n) := by
  have h1 : (10 : Nat) < 2 ^ 4 := by decide
  have h2 : 50 * 2 ^ n ≠ 0 := Nat.mul_ne_zero (by decide) (Nat.pos_iff_ne_zero.mp (Nat.two_pow_pos n))
  have h3 : (10 : Nat) ^ (50 * 2 ^ n) < (2 ^ 4) ^ (50 * 2 ^ n) := Nat.pow_lt_pow_left h1 h2
  have h4 : (2 : Nat) ^ (50 * 2 ^ n * 4) = (2 ^ 4) ^ (50 * 2 ^ n) := by rw [← Nat.pow_mul, Nat.mul_comm]
  unfold Bd lim
  rw [Int.natAbs_pow, h4]
  exact h3
def T_limit : DSp := fun ds kk _ => ∃ n : Nat, ds = [.int (n : Int)] ∧ n ≤ 5 ∧ kk (.sh (.int (lim n)))
theorem ok_limit (F : FD K "_law_limit" s__law_limit [] f fd) (M : Bi mg) : FnOk P w K mg base (L2.CX P w) 1 f fd ["turns"] (spD K T_limit) := by
  have sc := sc__law_limit
  refine fn_ok F sc (by decide) (fun ds kk xx h => by obtain ⟨_, rfl, _⟩ := h; rfl) fun cdv A outer s H E ds kk xx hr hT hx => ?_
  obtain ⟨n, rfl, hn, hk⟩ := hT
  refine wb_cons <| ws_set 1 sc.nd <| we_pow <| we_int <| we_int <| i2 <| And.intro (by decide) <| ?_
  refine wb_cons <| ws_forR M.range (passes_of rfl) rfl (Vw.refl _) (fun i δ => δ = [.sh (.int (n : Int)), .sh (.int (lim i)), .no]) <| wa_cons <| we_var 0 rfl <| wa_nil <| a1 <| i1 <| ⟨by omega, ⟨_, .keep <| .keep <| .keep <| .nil, rfl⟩, fun i δ1 hi hI => wg_name 2 sc.nd ?_, fun δ1 hI => ?_⟩
  · subst hI
    have hb := lim_bd i
    have h5 : (2 : Nat) ^ i ≤ 2 ^ 5 := Nat.pow_le_pow_right (by decide) (by omega)
    refine wb_cons <| ws_set 1 sc.nd <| we_mul <| we_var 1 rfl <| we_var 1 rfl <| i2 <| And.intro (hb.mulW hb (by omega)) <| ?_
    exact wb_nil ⟨_, .keep <| .keep <| .drop <| .nil, by rw [lim_succ] <;> rfl⟩
  subst hI
  exact wb_cons <| ws_ret (Vw.refl _) <| we_var 1 rfl <| hk
end
end K00
set_option Elab.async false
set_option linter.all false
set_option maxRecDepth 100000
set_option maxHeartbeats 4000000
set_option pp.maxSteps 1500
namespace K00
open PySem PySem.Spec PyProof.Rows L2 DL
theorem pow_bd {n : Nat} : Bd (4 * n + 1) ((10 : Int) ^ n) := by
  have h1 : (10 : Nat) ^ n ≤ (2 ^ 4) ^ n := Nat.pow_le_pow_left (by decide) n
  have h2 : (2 : Nat) ^ (4 * n + 1) = (2 ^ 4) ^ n * 2 := by rw [Nat.pow_succ, Nat.pow_mul]
  have h3 : 0 < (2 ^ 4) ^ n := Nat.pow_pos (by decide)
  unfold Bd
  rw [Int.natAbs_pow, h2]
  show 10 ^ n < _
  omega
theorem mod_le {x m : Int} (h : 0 ≤ m) : 0 ≤ x % (m + 1) ∧ (x % (m + 1)).natAbs ≤ m.natAbs := by
  have h1 := Int.emod_nonneg x (show m + 1 ≠ 0 by omega)
  have h2 := Int.emod_lt_of_pos x (show 0 < m + 1 by omega)
  omega
theorem at_of {ds : List D} {i : Int} {Q : D → Prop} (h0 : 0 ≤ i) (h : i < ds.length) (hp : ∀ d ∈ ds, Q d) : ∃ d, atI ds i = some d ∧ Q d := by
  obtain ⟨j, rfl⟩ : ∃ j : Nat, i = j := ⟨i.toNat, by omega⟩
  have hj : j < ds.length := by omega
  exact ⟨ds[j], atI_nat (List.getElem?_eq_getElem hj), hp _ (List.getElem_mem hj)⟩
theorem neg_case {u v : Int} (hv : v < 0) : RatIs (u.fdiv (-((Nat.gcd u.natAbs v.natAbs : Nat) : Int))) (v.fdiv (-((Nat.gcd u.natAbs v.natAbs : Nat) : Int))) u v := by
  have h := rat_of (u := -u) (v := -v) (by omega)
  rw [Int.natAbs_neg, Int.natAbs_neg] at h
  have hg : 0 < Nat.gcd u.natAbs v.natAbs := Nat.gcd_pos_of_pos_right _ (by omega)
  have key : ∀ x : Int, ((Nat.gcd u.natAbs v.natAbs : Nat) : Int) ∣ x → x.fdiv (-((Nat.gcd u.natAbs v.natAbs : Nat) : Int)) = -x / ((Nat.gcd u.natAbs v.natAbs : Nat) : Int) := fun x ⟨a, ha⟩ => by
    have hg' : ((Nat.gcd u.natAbs v.natAbs : Nat) : Int) ≠ 0 := by omega
    generalize ((Nat.gcd u.natAbs v.natAbs : Nat) : Int) = g at *
    subst ha
    rw [show g * a = -g * -a by rw [Int.neg_mul_neg], Int.mul_fdiv_cancel_left _ (by omega), show -(-g * -a) = g * -a by rw [Int.neg_mul, Int.neg_neg], Int.mul_ediv_cancel_left _ hg']
  rw [key u (Int.ofNat_dvd_left.mpr (Nat.gcd_dvd_left _ _)), key v (Int.ofNat_dvd_left.mpr (Nat.gcd_dvd_right _ _))]
  exact h.negs
section
variable {P : Program} {w : World} {K : PySem.W.Frag} {mg : Str → Option Value} {base : Heap} {f CZ CM : Addr} {fd : FuncData}
/-! ### _law_number -/
abbrev s__law_number : Stmt := top 28
theorem sc__law_number : FnScope ["cell", "most", "rest", "size", "parts", "k"] ["cell", "most"] (defScope s__law_number) := ⟨rfl, rfl, rfl, by decide +kernel, rfl, by decide +kernel, by decide +kernel⟩
def T_number : DSp := fun ds kk _ => ∃ c m : Int, ds = [.int c, .int m] ∧ 0 ≤ m ∧ ∀ v : Int, v.natAbs ≤ m.natAbs → kk (.sh (.int v))
def sz12 : List Int := [2, 9] ++ (List.replicate 10 [1000000]).flatten
theorem sz12_D : ([.int 2, .int 9] ++ (List.replicate (10 : Int).toNat [D.int 1000000]).flatten : List D) = sz12.map D.int := rfl
theorem ok_number (F : FD K "_law_number" s__law_number [] f fd) (M : Bi mg) (FD_ : Fn P w K mg base 1 "_law_digits" ["cell", "sizes"] T_digits []) : FnOk P w K mg base (L2.CX P w) 2 f fd ["cell", "most"] (spD K T_number) := by
  have sc := sc__law_number
  refine fn_ok F sc (by decide) (fun ds kk xx h => by obtain ⟨_, _, rfl, _⟩ := h; rfl) fun cdv A outer s H E ds kk xx hr hT hx => ?_
  obtain ⟨c, m, rfl, hm, hk⟩ := hT
  refine wb_cons <| ws_set 2 sc.nd <| we_cint M.int <| wa_cons <| we_var 0 rfl <| wa_nil <| a1 <| ci <| ?_
  refine wb_cons <| ws_if (Vw.refl _) <| wt_ge <| we_var 2 rfl <| we_pow <| we_int <| we_int <| i2 <| And.intro (by decide) <| i2 <| ⟨fun hb => ?_, fun hb => ?_⟩
  · refine wb_cons <| ws_set 2 sc.nd <| we_sub <| we_var 2 rfl <| we_pow <| we_int <| we_int <| i2 <| And.intro (by decide) <| i2 <| ?_
    refine wb_cons <| ws_set 3 sc.nd <| we_mod <| we_cint M.int <| wa_cons <| we_div <| we_var 2 rfl <| we_int <| i2 <| And.intro (div64 (by decide) (by decide)) <| wa_nil <| a1 <| ci <| we_add <| we_var 1 rfl <| we_int <| i2 <| i2 <| And.intro (by omega) <| ?_
    refine wb_cons <| ws_ret (Vw.refl _) <| we_if <| wt_eq <| we_mod <| we_cint M.int <| wa_cons <| we_var 2 rfl <| wa_nil <| a1 <| ci <| we_int <| i2 <| And.intro (by decide) <| we_int <| fe rfl <| ⟨fun hb => ?_, fun hb => ?_⟩
    · exact we_var 3 rfl <| hk _ (mod_le hm).2
    · exact we_neg <| we_var 3 rfl <| i1 <| hk _ (by rw [Int.natAbs_neg]; exact (mod_le hm).2)
  refine wb_nil ?_
  refine wb_cons <| ws_set 4 sc.nd <| we_call FD_ (hr.mono (by decide)) <| wa_cons <| we_var 2 rfl <| wa_cons <| we_new <| wo_cat <| we_new <| wo_lst <| wa_cons <| we_int <| wa_cons <| we_int <| wa_nil <| And.intro lok <| we_new <| wo_rep <| wo_lst <| wa_cons <| we_int <| wa_nil <| And.intro lok <| we_int <| rep (by decide) <| cat lok <| wa_nil <| ⟨c, true, sz12, rfl, by decide, by decide, fun r hr' => ?_⟩
  obtain ⟨hl, hd⟩ := hr'
  have hl : r.length = 12 := hl
  have hg : ∀ j : Nat, j < 12 → ∃ x, r[j]? = some x ∧ 0 ≤ x ∧ x < 1000000 := fun j hj => by
    have h1 := List.getElem?_eq_getElem (show j < r.length by omega)
    have h2 := List.getElem?_eq_getElem (show j < sz12.length from hj)
    obtain ⟨a, b⟩ := hd j _ _ h1 h2
    have hs : ∀ s ∈ sz12, s ≤ 1000000 := by decide
    exact ⟨_, h1, a, by have := hs _ (List.getElem_mem (show j < sz12.length from hj)); omega⟩
  obtain ⟨x0, e0, _⟩ := hg 0 (by decide)
  obtain ⟨x2, e2, a2', b2'⟩ := hg 2 (by decide)
  obtain ⟨x1, e1, c1, d1⟩ : ∃ x, r[1]? = some x ∧ 0 ≤ x ∧ x < 9 := by
    have h1 := List.getElem?_eq_getElem (show 1 < r.length by omega)
    exact ⟨_, h1, hd 1 _ 9 h1 rfl⟩
  refine wb_cons <| ws_set 3 sc.nd <| we_int <| ?_
  obtain ⟨dn, hat, n, rfl, hn0, hn1⟩ := at_of (ds := [.int 1, .int 1, .int 1, .int 1, .int 1, .int 1, .int 2, .int 5, .int 10]) (i := x1) (Q := fun d => ∃ n : Nat, d = .int (n : Int) ∧ 1 ≤ n ∧ n ≤ 10) c1 d1 (by
    intro d hd
    simp only [List.mem_cons, List.not_mem_nil, or_false] at hd
    rcases hd with rfl | rfl | rfl | rfl | rfl | rfl | rfl | rfl | rfl
    · exact ⟨1, rfl, by decide, by decide⟩
    · exact ⟨1, rfl, by decide, by decide⟩
    · exact ⟨1, rfl, by decide, by decide⟩
    · exact ⟨1, rfl, by decide, by decide⟩
    · exact ⟨1, rfl, by decide, by decide⟩
    · exact ⟨1, rfl, by decide, by decide⟩
    · exact ⟨2, rfl, by decide, by decide⟩
    · exact ⟨5, rfl, by decide, by decide⟩
    · exact ⟨10, rfl, by decide, by decide⟩)
  refine wb_cons <| ws_forR M.range (passes_of rfl) rfl (Vw.refl _) (fun i δ => ∃ z : Int, Bd (21 * i + 1) z ∧ δ = [.sh (.int c), .sh (.int m), .sh (.int c), .sh (.int z), .sh (.sq true (r.map .int)), .no]) <| wa_cons <| ?_
  refine we_ix <| we_new <| wo_lst <| wa_cons <| we_int <| wa_cons <| we_int <| wa_cons <| we_int <| wa_cons <| we_int <| wa_cons <| we_int <| wa_cons <| we_int <| wa_cons <| we_int <| wa_cons <| we_int <| wa_cons <| we_int <| wa_nil <| And.intro lok <| we_ix <| we_var 4 rfl <| we_int <| ixn 1 (get_ints e1) <| ixa hat <| wa_nil <| a1 <| i1 <| ⟨by omega, ⟨_, .keep <| .keep <| .keep <| .keep <| .keep <| .keep <| .nil, 0, show (0 : Int).natAbs < 2 ^ 1 by decide, rfl⟩, fun i δ1 hi hI => wg_name 5 sc.nd ?_, fun δ1 hI => ?_⟩
  · obtain ⟨z, hz, rfl⟩ := hI
    obtain ⟨y, ey, y0, y1⟩ := hg (2 + i) (by omega)
    have hM : Bd 20 (1000000 : Int) := show (1000000 : Int).natAbs < 2 ^ 20 by decide
    have hy : Bd 20 y := by
      unfold Bd
      show y.natAbs < 1048576
      omega
    refine wb_cons <| ws_set 3 sc.nd <| we_add <| we_mul <| we_var 3 rfl <| we_int <| i2 <| And.intro (hz.mulW hM (by omega)) <| we_ix <| we_var 4 rfl <| we_add <| we_int <| we_var 5 rfl <| i2 <| ixa (atI_nat (j := 2 + i) (get_ints ey)) <| i2 ?_
    refine wb_nil ⟨_, .keep <| .keep <| .keep <| .keep <| .keep <| .drop <| .nil, _, ?_, rfl⟩
    exact (hz.mul hM).add hy (by omega) (by omega)
  obtain ⟨z, hz, rfl⟩ := hI
  have hz : Bd 220 z := hz.le (by omega)
  refine wb_ifj (fun δ => ∃ z : Int, Bd 220 z ∧ δ = [.sh (.int c), .sh (.int m), .sh (.int c), .sh (.int z), .sh (.sq true (r.map .int)), .no]) (Vw.refl _) (fun δ1 hM => ?_) <| wt_lt <| we_ix <| we_var 4 rfl <| we_int <| ixn 1 (get_ints e1) <| we_int <| i2 <| ⟨fun hb => ?_, fun hb => ?_⟩
  · obtain ⟨z, hz, rfl⟩ := hM
    refine wb_ifj (fun δ => ∃ z : Int, δ = [.sh (.int c), .sh (.int m), .sh (.int c), .sh (.int z), .sh (.sq true (r.map .int)), .no]) (Vw.refl _) (fun δ1 hM => ?_) <| wt_w <| ww_and <| wt_gt <| we_ix <| we_var 4 rfl <| we_int <| ixn 1 (get_ints e1) <| we_int <| i2 <| ⟨fun hb => ?_, fun hb => ⟨fun h => (nomatch h), fun _ => wb_nil <| upto ⟨z, rfl⟩⟩⟩
    · obtain ⟨z, rfl⟩ := hM
      refine wb_cons <| ws_set 3 sc.nd <| we_mod <| we_cint M.int <| wa_cons <| we_var 3 rfl <| wa_nil <| a1 <| ci <| we_add <| we_var 1 rfl <| we_int <| i2 <| i2 <| And.intro (by omega) <| ?_
      refine wb_cons <| ws_ret (Vw.refl _) <| we_if <| wt_eq <| we_ix <| we_var 4 rfl <| we_int <| ixn 0 (get_ints e0) <| we_int <| fe rfl <| ⟨fun hb => ?_, fun hb => ?_⟩
      · exact we_var 3 rfl <| hk _ (mod_le hm).2
      · exact we_neg <| we_var 3 rfl <| i1 <| hk _ (by rw [Int.natAbs_neg]; exact (mod_le hm).2)
    · refine ww_and1 <| wt_gt <| we_var 1 rfl <| we_pow <| we_int <| we_int <| i2 <| And.intro (by decide) <| i2 <| ⟨fun hb => ?_, fun hb => wb_nil <| upto ⟨z, rfl⟩⟩
      refine wb_cons <| ws_set 3 sc.nd <| we_add <| we_mul <| we_mul <| we_mul <| we_mul <| we_mul <| we_var 3 rfl <| we_var 3 rfl <| i2 <| And.intro (hz.mulW hz (by decide)) <| we_var 3 rfl <| i2 <| And.intro ((hz.mul hz).mulW hz (by decide)) <| we_var 3 rfl <| i2 <| And.intro (((hz.mul hz).mul hz).mulW hz (by decide)) <| we_var 3 rfl <| i2 <| And.intro ((((hz.mul hz).mul hz).mul hz).mulW hz (by decide)) <| we_var 3 rfl <| i2 <| And.intro (((((hz.mul hz).mul hz).mul hz).mul hz).mulW hz (by decide)) <| we_ix <| we_var 4 rfl <| we_int <| ixn 2 (get_ints e2) <| i2 <| ?_
      exact wb_nil <| upto ⟨_, rfl⟩
  · have hb := of_decide_eq_true hb
    obtain ⟨dm, hat, q, rfl, hq0, hq1⟩ := at_of (ds := [.int 3, .int 10, .int 60, .int 1000]) (i := x1) (Q := fun d => ∃ q : Int, d = .int q ∧ 0 < q ∧ q ≤ 1000) c1 hb (by
      intro d hd
      simp only [List.mem_cons, List.not_mem_nil, or_false] at hd
      rcases hd with rfl | rfl | rfl | rfl
      · exact ⟨3, rfl, by decide, by decide⟩
      · exact ⟨10, rfl, by decide, by decide⟩
      · exact ⟨60, rfl, by decide, by decide⟩
      · exact ⟨1000, rfl, by decide, by decide⟩)
    refine wb_cons <| ws_set 3 sc.nd <| we_mod <| we_cint M.int <| wa_cons <| we_var 3 rfl <| wa_nil <| a1 <| ci <| we_ix <| we_new <| wo_lst <| wa_cons <| we_int <| wa_cons <| we_int <| wa_cons <| we_int <| wa_cons <| we_int <| wa_nil <| And.intro lok <| we_ix <| we_var 4 rfl <| we_int <| ixn 1 (get_ints e1) <| ixa hat <| i2 <| And.intro hq0 <| ?_
    refine wb_nil <| upto ⟨_, Bd.le (m := 10) ?_ (by decide), rfl⟩
    have h1 := Int.emod_nonneg z (show q ≠ 0 by omega)
    have h2 := Int.emod_lt_of_pos z hq0
    unfold Bd
    show (z % q).natAbs < 1024
    omega
  · exact wb_nil <| upto ⟨z, hz, rfl⟩
/-! ### _law_pair, _law_just -/
abbrev s__law_pair : Stmt := top 29
theorem sc__law_pair : FnScope ["up", "down", "common"] ["up", "down"] (defScope s__law_pair) := ⟨rfl, rfl, rfl, by decide +kernel, rfl, by decide +kernel, by decide +kernel⟩
def T_pair : DSp := fun ds kk _ => ∃ u v : Int, ds = [.int u, .int v] ∧ v ≠ 0 ∧ Bd 6000 u ∧ Bd 6000 v ∧ ∀ p q, RatIs p q u v → kk (.sh (pr false p q))
theorem ok_pair (F : FD K "_law_pair" s__law_pair [] f fd) (FG : Fn P w K mg base 1 "_law_gcd" ["one", "two"] T_gcd []) : FnOk P w K mg base (L2.CX P w) 2 f fd ["up", "down"] (spD K T_pair) := by
  have sc := sc__law_pair
  refine fn_ok F sc (by decide) (fun ds kk xx h => by obtain ⟨_, _, rfl, _⟩ := h; rfl) fun cdv A outer s H E ds kk xx hr hT hx => ?_
  obtain ⟨u, v, rfl, hv, bu, bv, hk⟩ := hT
  have hg : 0 < Nat.gcd u.natAbs v.natAbs := Nat.gcd_pos_of_pos_right _ (by omega)
  have hgb : Bd 6000 ((Nat.gcd u.natAbs v.natAbs : Nat) : Int) := Bd.of_le bv (Nat.le_of_dvd (by omega) (Nat.gcd_dvd_right _ _))
  refine wb_cons <| ws_set 2 sc.nd <| we_call FG (hr.mono (by decide)) <| wa_cons <| we_var 0 rfl <| wa_cons <| we_var 1 rfl <| wa_nil <| ⟨u, v, rfl, bu.le (by decide), bv.le (by decide), ?_⟩
  refine wb_ifj (fun δ => ∃ g : Int, g ≠ 0 ∧ Bd 6000 g ∧ (RatIs (u.fdiv g) (v.fdiv g) u v) ∧ δ = [.sh (.int u), .sh (.int v), .sh (.int g)]) (Vw.refl _) (fun δ1 hM => ?_) <| wt_lt <| we_var 1 rfl <| we_int <| i2 <| ⟨fun hb => ?_, fun hb => ?_⟩
  · obtain ⟨g, hg, bg, hR, rfl⟩ := hM
    exact wb_cons <| ws_ret (Vw.refl _) <| we_tup <| wa_cons <| we_fdiv <| we_var 0 rfl <| we_var 2 rfl <| i2 <| And.intro (Bd.divX hg bg (by decide)) <| wa_cons <| we_fdiv <| we_var 1 rfl <| we_var 2 rfl <| i2 <| And.intro (Bd.divX hg bg (by decide)) <| wa_nil <| And.intro lok <| hk _ _ hR
  · refine wb_cons <| ws_set 2 sc.nd <| we_neg <| we_var 2 rfl <| i1 <| ?_
    exact wb_nil <| upto ⟨_, by omega, hgb.neg, neg_case (of_decide_eq_true hb), rfl⟩
  · have hb := of_decide_eq_false hb
    refine wb_nil <| upto ⟨_, by omega, hgb, ?_, rfl⟩
    rw [fdiv_pos (by omega), fdiv_pos (by omega)]
    exact rat_of (by omega)
abbrev s__law_just : Stmt := top 31
theorem sc__law_just : FnScope ["value", "up", "down"] ["value", "up", "down"] (defScope s__law_just) := ⟨rfl, rfl, rfl, by decide +kernel, rfl, by decide +kernel, by decide +kernel⟩
def T_just : DSp := fun ds kk _ => ∃ p q u v : Int, ds = [pr false p q, .int u, .int v] ∧ RatIs p q u v ∧ Bd 6000 u ∧ Bd 6000 v ∧ kk (.sh (.bl true))
theorem ok_just (F : FD K "_law_just" s__law_just [] f fd) (FI : Fn P w K mg base 2 "_law_is_ratio" ["value"] T_isr []) : FnOk P w K mg base (L2.CX P w) 3 f fd ["value", "up", "down"] (spD K T_just) := by
  have sc := sc__law_just
  refine fn_ok F sc (by decide) (fun ds kk xx h => by obtain ⟨_, _, _, _, rfl, _⟩ := h; rfl) fun cdv A outer s H E ds kk xx hr hT hx => ?_
  obtain ⟨p, q, u, v, rfl, hR, bu, bv, hk⟩ := hT
  have bp := Bd.of_le bu hR.lp
  have bq := Bd.of_le bv hR.lq
  refine wb_cons <| ws_ret (Vw.refl _) <| we_and <| we_call FI (hr.mono (by decide)) <| wa_cons <| we_var 0 rfl <| wa_nil <| ⟨p, q, rfl, hR.pos, hR.gcd, bp.le (by decide), bq.le (by decide), b1 <| ⟨fun hb => ?_, fun hb => nomatch hb⟩⟩
  refine we_one <| we_eq <| we_mul <| we_ix <| we_var 0 rfl <| we_int <| ixn 0 rfl <| we_var 2 rfl <| i2 <| And.intro (bp.mulW bv (by decide)) <| we_mul <| we_var 1 rfl <| we_ix <| we_var 0 rfl <| we_int <| ixn 1 rfl <| i2 <| And.intro (bu.mulW bq (by decide)) <| fe rfl <| ?_
  rw [decide_eq_true hR.eq]
  exact hk
end
end K00
set_option Elab.async false
set_option linter.all false
set_option maxRecDepth 100000
set_option maxHeartbeats 4000000
set_option pp.maxSteps 1500
namespace K00
open PySem PySem.Spec PyProof.Rows L2 DL
section
variable {P : Program} {w : World} {K : PySem.W.Frag} {mg : Str → Option Value} {base : Heap} {f CZ CM : Addr} {fd : FuncData}
/-! ### _law_refused -/
theorem okC_whole (F : FD K "_law_whole" s__law_whole [] f fd) (M : Bi mg) : FnC P w K mg base 1 f fd ["value"] (spD K T_whole) := by
  have sc := sc__law_whole
  refine fn_okC F sc (by decide) (fun ds kk xx h => by obtain ⟨_, rfl, _⟩ := h; rfl) fun cdv A outer s H E q ds kk xx hr hT hx => ?_
  obtain ⟨i, rfl, hk⟩ := hT
  refine wb_cons <| ws_ret (Vw.refl _) <| we_and <| we_isi M.isinstance (isi_arg (T := "int") M.int (by decide +kernel) rfl (by decide) (by decide)) <| we_var 0 rfl <| ii_ (b := true) rfl (by decide +kernel) <| b1 <| ⟨fun hb => ?_, fun hb => nomatch hb⟩
  exact we_one <| we_not <| we_isi M.isinstance (isi_arg (T := "bool") M.bool (by decide +kernel) rfl (by decide) (by decide)) <| we_var 0 rfl <| ii_ (b := false) rfl (by decide +kernel) <| b1 <| hk
theorem bd0 (n : Nat) : Bd n 0 := Nat.pow_pos (by decide)
/-- what the caught error's class must say -/
structure ErrF (K : PySem.W.Frag) (mg : Str → Option Value) (CZ CM : Addr) : Prop where
  gM : mg "MarksError" = some (.ref CM)
  ex : PySem.W.exmOne K (.ref CZ) (.ref CM) = some true
  q : ExcQ K CZ
  xf : XfC K CZ
  z1 : PySem.W.kitOne K (.ref CZ) (.ref CZ) = some true
  nv : mg "ValueError" = none
  z2 : PySem.W.kitOne K (.ref CZ) (.type "ValueError") = some true
  ten : ∃ c0 c1 c2 c3 c4 c5 c6 c7 c8 c9 : Addr, (mg "BadDials" = some (.ref c0) ∧ mg "BadLimit" = some (.ref c1) ∧ mg "BadName" = some (.ref c2) ∧ mg "BadPay" = some (.ref c3) ∧ mg "BadRatio" = some (.ref c4) ∧ mg "BadStart" = some (.ref c5) ∧ mg "Endless" = some (.ref c6) ∧ mg "NoFlow" = some (.ref c7) ∧ mg "NoWish" = some (.ref c8) ∧ mg "NoWorlds" = some (.ref c9)) ∧
    PySem.W.kitAny K (.ref CZ) [.ref c0, .ref c1, .ref c2, .ref c3, .ref c4, .ref c5, .ref c6, .ref c7, .ref c8, .ref c9] = some false
abbrev s__law_refused : Stmt := top 32
theorem sc__law_refused : FnScope ["kind", "one", "two", "due", "e"] ["kind", "one", "two", "due"] (defScope s__law_refused) := ⟨rfl, rfl, rfl, by decide +kernel, rfl, by decide +kernel, by decide +kernel⟩
def T_refused : DSp := fun ds kk _ => ((∃ t, ds = [.int 0, .int t, .int 0, .int t] ∧ Bd 6000 t) ∨ (∃ l l' a b d, ds = [.int 1, pr l a b, pr l' 0 d, .int a] ∧ (1 ≤ b ∧ 1 ≤ d) ∧ Bd 2900 a ∧ Bd 2900 b ∧ Bd 2900 d)) ∧ kk (.sh (.bl true))
theorem ok_refused (F : FD K "_law_refused" s__law_refused [] f fd) (M : Bi mg) (T : ErrF K mg CZ CM) (Z : Exc1 P w K mg base 1 "ZeroBottom" "top" CZ) (FW : Fc P w K mg base 1 "_law_whole" ["value"] T_whole) (R : Fn P w K mg base 3 "ratio" ["top", "bottom"] (T_ratio CZ) []) (O : Fn P w K mg base 4 "over" ["one", "two"] (T_over CZ) []) :
    FnOk P w K mg base (L2.CX P w) 5 f fd ["kind", "one", "two", "due"] (spD K T_refused) := by
  have sc := sc__law_refused
  refine fn_ok F sc (by decide) (fun ds kk xx h => by obtain ⟨⟨_, rfl, _⟩ | ⟨_, _, _, _, _, rfl, _⟩, _⟩ := h <;> rfl) fun cdv A outer s H E ds kk xx hr hT hx => ?_
  obtain ⟨hds, hk⟩ := hT
  obtain ⟨kd, x, y, due, rfl, h2⟩ : ∃ (kd : Int) (x y : D) (due : Int), ds = [.int kd, x, y, .int due] ∧ ((kd = 0 ∧ ∃ t, x = .int t ∧ y = .int 0 ∧ due = t ∧ Bd 6000 t) ∨ (kd = 1 ∧ ∃ l l' a b d, x = pr l a b ∧ y = pr l' 0 d ∧ due = a ∧ (1 ≤ b ∧ 1 ≤ d) ∧ Bd 2900 a ∧ Bd 2900 b ∧ Bd 2900 d)) := by
    obtain ⟨t, rfl, h⟩ | ⟨l, l', a, b, d, rfl, h⟩ := hds
    · exact ⟨_, _, _, _, rfl, .inl ⟨rfl, _, rfl, rfl, rfl, h⟩⟩
    · exact ⟨_, _, _, _, rfl, .inr ⟨rfl, _, _, _, _, _, rfl, rfl, rfl, h⟩⟩
  obtain ⟨c0, c1, c2, c3, c4, c5, c6, c7, c8, c9, ⟨g0, g1, g2, g3, g4, g5, g6, g7, g8, g9⟩, hten⟩ := T.ten
  refine wb_cons <| ws_try_as 4 rfl rfl sc.nd rfl rfl ⟨rfl, by decide, .inl T.gM⟩ (fun δ c fs => δ = [.sh (.int kd), .sh x, .sh y, .sh (.int due), .no] ∧ c = .ref CZ ∧ fs = [(("top" : Str), D.int due)]) xc0 (fun pn xe B hB hp hx' => ?_) (fun a oe pn cls d fs δ1 hxb => ?_)
  · clear hds; rcases h2 with ⟨rfl, t, rfl, rfl, rfl, bt⟩ | ⟨rfl, l, l', a, b, d, rfl, rfl, rfl, ⟨pb, pd⟩, ba, bb, bd⟩
    · refine wb_cons <| ws_if (Vw.refl _) <| wt_eq <| we_var 0 rfl <| we_int <| fe rfl <| ⟨fun hb => ?_, fun hb => absurd (of_decide_eq_false hb) (by decide)⟩
      exact wb_cons <| ws_expr (Vw.refl _) <| we_callX R (hr.mono (by decide)) hx' <| wa_cons <| we_var 1 rfl <| wa_cons <| we_var 2 rfl <| wa_nil <| ⟨due, 0, rfl, bt, bd0 _, fun _ => ⟨rfl, rfl, rfl⟩, fun h => absurd rfl h⟩
    · refine wb_cons <| ws_if (Vw.refl _) <| wt_eq <| we_var 0 rfl <| we_int <| fe rfl <| ⟨fun hb => absurd (of_decide_eq_true hb) (by decide), fun hb => ?_⟩
      exact wb_cons <| ws_expr (Vw.refl _) <| we_callX O (hr.mono (by decide)) hx' <| wa_cons <| we_var 1 rfl <| wa_cons <| we_var 2 rfl <| wa_nil <| ⟨l, l', due, b, 0, d, rfl, ⟨pb, pd⟩, ⟨ba, bb, bd0 _, bd⟩, fun _ => ⟨rfl, rfl, rfl⟩, fun h => absurd rfl h⟩
  · obtain ⟨rfl, rfl, rfl⟩ := hxb
    refine ⟨T.ex, fun hz hv hfs => ?_⟩
    obtain ⟨dd, rfl⟩ := hfs (by simp)
    refine wb_cons <| ws_if (Vw.refl _) <| wt_w <| ww_or <| wt_not <| wt_val <| we_isx (i := 4) T.q hz hv M.isinstance rfl (pe_glob (v := .ref CZ) rfl Z.gC rfl) (.own CZ) T.z1 <| b1 <| ⟨fun hb => ?_, fun hb => (nomatch hb)⟩
    refine ww_or1 <| wt_not <| wt_val <| we_isx (i := 4) T.q hz hv M.isinstance rfl (pe_bltn (v := .ty "ValueError") rfl T.nv (by decide +kernel) rfl) (.ty "ValueError") T.z2 <| b1 <| ⟨fun hb => (nomatch hb), fun hb => ?_⟩
    refine wb_nil ?_
    refine wb_cons <| ws_if (Vw.refl _) <| wt_val <| we_isxT (i := 4) T.q hz hv M.isinstance rfl (.cons (pe_glob (v := .ref c0) rfl g0 rfl) (.own c0) rfl <| .cons (pe_glob (v := .ref c1) rfl g1 rfl) (.own c1) rfl <| .cons (pe_glob (v := .ref c2) rfl g2 rfl) (.own c2) rfl <| .cons (pe_glob (v := .ref c3) rfl g3 rfl) (.own c3) rfl <| .cons (pe_glob (v := .ref c4) rfl g4 rfl) (.own c4) rfl <| .cons (pe_glob (v := .ref c5) rfl g5 rfl) (.own c5) rfl <| .cons (pe_glob (v := .ref c6) rfl g6 rfl) (.own c6) rfl <| .cons (pe_glob (v := .ref c7) rfl g7 rfl) (.own c7) rfl <| .cons (pe_glob (v := .ref c8) rfl g8 rfl) (.own c8) rfl <| .cons (pe_glob (v := .ref c9) rfl g9 rfl) (.own c9) rfl <| .nil) (Nat.le_of_ble_eq_true rfl) hten <| b1 <| ⟨fun hb => (nomatch hb), fun hb => ?_⟩
    refine wb_nil ?_
    refine wb_cons <| ws_ret (Vw.refl _) <| we_and <| we_callC FW (hr.mono (by decide)) <| wa_cons <| we_xf T.xf Z.no hz hv (we_var 4 rfl <| ⟨dd, _, _, rfl, rfl, rfl, wa_nil <| ⟨due, rfl, b1 <| ⟨fun hb => ?_, fun hb => (nomatch hb)⟩⟩⟩)
    refine we_one <| we_eq <| we_xf T.xf Z.no hz hv (we_var 4 rfl <| ⟨dd, _, _, rfl, rfl, rfl, we_var 3 rfl <| fe rfl <| ?_⟩)
    rw [decide_eq_true rfl]
    exact hk
end
end K00
set_option Elab.async false
set_option linter.all false
set_option maxRecDepth 100000
set_option maxHeartbeats 4000000
set_option pp.maxSteps 1500
namespace K00
open PySem PySem.Spec PyProof.Rows L2 DL
/-! ### plain laws of the one form -/
theorem RatIs.of {p q u v : Int} (h1 : 1 ≤ q) (h2 : Nat.gcd p.natAbs q.natAbs = 1) (h3 : p * v = u * q) (hv : v ≠ 0) : RatIs p q u v := by
  have e : p.natAbs * v.natAbs = u.natAbs * q.natAbs := by rw [← Int.natAbs_mul, ← Int.natAbs_mul, h3]
  have c : Nat.Coprime p.natAbs q.natAbs := h2
  refine ⟨h1, h2, h3, ?_, ?_⟩
  · by_cases hu : u = 0
    · subst hu
      rw [Int.zero_mul] at h3
      rcases Int.mul_eq_zero.mp h3 with z | z
      · rw [z]; exact Nat.le_refl _
      · exact absurd z hv
    · have : p.natAbs ∣ u.natAbs * q.natAbs := ⟨_, e.symm⟩
      exact Nat.le_of_dvd (by omega) (c.dvd_of_dvd_mul_right this)
  · have : q.natAbs ∣ p.natAbs * v.natAbs := ⟨u.natAbs, by rw [e, Nat.mul_comm]⟩
    exact Nat.le_of_dvd (by omega) (c.symm.dvd_of_dvd_mul_left this)
theorem RatIs.uniq {p q p' q' u v u' v' : Int} (h : RatIs p q u v) (h' : RatIs p' q' u' v') (e : u * v' = u' * v) (hv : v ≠ 0) (hv' : v' ≠ 0) : p = p' ∧ q = q' := by
  have e1 : p * q' = p' * q := by
    have a1 := h.eq
    have a2 := h'.eq
    have k : (p * q') * (v * v') = (p' * q) * (v * v') := by
      calc (p * q') * (v * v') = (p * v) * (q' * v') := by ac_rfl
        _ = (u * q) * (q' * v') := by rw [a1]
        _ = (u * v') * (q * q') := by ac_rfl
        _ = (u' * q') * (q * v) := by rw [e]; ac_rfl
        _ = (p' * v') * (q * v) := by rw [a2]
        _ = (p' * q) * (v * v') := by ac_rfl
    exact Int.eq_of_mul_eq_mul_right (Int.mul_ne_zero hv hv') k
  have e2 : p.natAbs * q'.natAbs = p'.natAbs * q.natAbs := by rw [← Int.natAbs_mul, ← Int.natAbs_mul, e1]
  have c : Nat.Coprime p.natAbs q.natAbs := h.gcd
  have c' : Nat.Coprime p'.natAbs q'.natAbs := h'.gcd
  have d1 : q.natAbs ∣ q'.natAbs := c.symm.dvd_of_dvd_mul_left ⟨p'.natAbs, by rw [e2, Nat.mul_comm]⟩
  have d2 : q'.natAbs ∣ q.natAbs := c'.symm.dvd_of_dvd_mul_left ⟨p.natAbs, by rw [← e2, Nat.mul_comm]⟩
  have e3 := Nat.dvd_antisymm d1 d2
  have hq := h.pos
  have hq' := h'.pos
  have e4 : q = q' := by omega
  subst e4
  exact ⟨Int.eq_of_mul_eq_mul_right (by omega) e1, rfl⟩
/-- a ratio in its one form, of at most n bits -/
structure Pr (n : Nat) (a b : Int) : Prop where
  p : 1 ≤ b
  g : Nat.gcd a.natAbs b.natAbs = 1
  ba : Bd n a
  bb : Bd n b
theorem RatIs.pr {n : Nat} {p q u v : Int} (h : RatIs p q u v) (bu : Bd n u) (bv : Bd n v) : Pr n p q := ⟨h.pos, h.gcd, Bd.of_le bu h.lp, Bd.of_le bv h.lq⟩
theorem Pr.self {n : Nat} {a b : Int} (h : Pr n a b) : RatIs a b a b := ⟨h.p, h.g, rfl, Nat.le_refl _, Nat.le_refl _⟩
theorem Pr.le {n m : Nat} {a b : Int} (h : Pr n a b) (l : n ≤ m) : Pr m a b := ⟨h.p, h.g, h.ba.le l, h.bb.le l⟩
theorem pd2 {l : Bool} {a b : Int} : ∃ q, Pd (pr l a b) q ∧ SeqAt.shaped q = true ∧ q = (if l then .list [.int a, .int b] else .tuple [.int a, .int b]) := by
  cases l
  · exact ⟨_, .consT (.int a) <| .consT (.int b) .nilT, rfl, rfl⟩
  · exact ⟨_, .consL (.int a) <| .consL (.int b) .nilL, rfl, rfl⟩
theorem eq2 {l : Bool} {a b c d : Int} {P : Bool → Prop} (h : P (decide (a = c ∧ b = d))) : EQ (pr l a b) (pr l c d) P := by
  obtain ⟨x, h1, h2, rfl⟩ := pd2 (l := l) (a := a) (b := b)
  obtain ⟨y, h3, h4, rfl⟩ := pd2 (l := l) (a := c) (b := d)
  refine ⟨_, _, h1, h3, h2, h4, ?_⟩
  have e : PyData.eqv (if l then .list [.int a, .int b] else .tuple [.int a, .int b]) (if l then .list [.int c, .int d] else .tuple [.int c, .int d]) = decide (a = c ∧ b = d) := by
    cases l <;> simp [PyData.eqv, PyData.eqvAll, Bool.decide_and] <;> rfl
  rw [e]
  exact h
theorem we_up {X : Cx} {H0 : Hp} {δ : List S} {e : Expr} {k : D → Prop} (M : D → Prop) (hM : ∀ d, M d → k d) (h : We X H0 e δ M) : We X H0 e δ k := h.mono hM
section
variable {P : Program} {w : World} {K : PySem.W.Frag} {mg : Str → Option Value} {base : Heap} {f CZ CM : Addr} {fd : FuncData}
end
end K00
set_option Elab.async false
set_option linter.all false
set_option maxRecDepth 100000
set_option maxHeartbeats 4000000
set_option pp.maxSteps 1500
namespace K00
open PySem PySem.Spec PyProof.Rows L2 DL
section
variable {P : Program} {w : World} {K : PySem.W.Frag} {mg : Str → Option Value} {base : Heap} {f CZ CM : Addr} {fd : FuncData}
/-! ### _law_five -/
abbrev s__law_five : Stmt := top 33
theorem sc__law_five : FnScope ["one", "two", "how", "left", "right", "gap", "told"] ["one", "two", "how"] (defScope s__law_five) := ⟨rfl, rfl, rfl, by decide +kernel, rfl, by decide +kernel, by decide +kernel⟩
def T_five : DSp := fun ds kk _ => ∃ a b c d h : Int, ds = [pr false a b, pr false c d, .int h] ∧ Pr 2900 a b ∧ Pr 2900 c d ∧ kk (.sh (.bl true))
theorem ok_five (F : FD K "_law_five" s__law_five [] f fd) (M : Bi mg) (FJ : Fn P w K mg base 3 "_law_just" ["value", "up", "down"] T_just []) (FR : Fn P w K mg base 5 "_law_refused" ["kind", "one", "two", "due"] T_refused []) (FW : Fn P w K mg base 1 "_law_whole" ["value"] T_whole [])
    (F1 : Fn P w K mg base 4 "plus" ["one", "two"] T_plus []) (F2 : Fn P w K mg base 4 "minus" ["one", "two"] T_minus []) (F3 : Fn P w K mg base 4 "times" ["one", "two"] T_times []) (F4 : Fn P w K mg base 4 "over" ["one", "two"] (T_over CZ) []) (F5 : Fn P w K mg base 1 "order" ["one", "two"] T_order []) :
    FnOk P w K mg base (L2.CX P w) 6 f fd ["one", "two", "how"] (spD K T_five) := by
  have sc := sc__law_five
  refine fn_ok F sc (by decide) (fun ds kk xx h => by obtain ⟨_, _, _, _, _, rfl, _⟩ := h; rfl) fun cdv A outer s H E ds kk xx hr hT hx => ?_
  obtain ⟨a, b, c, d, h, rfl, p1, p2, hk⟩ := hT
  refine wb_cons <| ws_set 3 sc.nd <| we_up (fun x => ∃ l, x = pr l a b) (fun x hM => ?_) <| we_if <| wt_eq <| we_mod <| we_cint M.int <| wa_cons <| we_var 2 rfl <| wa_nil <| a1 <| ci <| we_int <| i2 <| And.intro (by decide) <| we_int <| fe rfl <| ⟨fun hb => we_new <| wo_list M.list <| wa_cons <| we_var 0 rfl <| wa_nil <| a1 <| sqk <| ⟨true, rfl⟩, fun hb => we_var 0 rfl <| ⟨false, rfl⟩⟩
  obtain ⟨l, rfl⟩ := hM
  refine wb_cons <| ws_set 4 sc.nd <| we_up (fun x => ∃ l, x = pr l c d) (fun x hM => ?_) <| we_if <| wt_eq <| we_mod <| we_cint M.int <| wa_cons <| we_div <| we_var 2 rfl <| we_int <| i2 <| And.intro (div64 (by decide) (by decide)) <| wa_nil <| a1 <| ci <| we_int <| i2 <| And.intro (by decide) <| we_int <| fe rfl <| ⟨fun hb => we_new <| wo_list M.list <| wa_cons <| we_var 1 rfl <| wa_nil <| a1 <| sqk <| ⟨true, rfl⟩, fun hb => we_var 1 rfl <| ⟨false, rfl⟩⟩
  obtain ⟨l', rfl⟩ := hM
  refine wb_ifj (fun δ => ∃ l', δ = [.sh (pr false a b), .sh (pr false c d), .sh (.int h), .sh (pr l a b), .sh (pr l' c d), .no, .no]) (Vw.refl _) (fun δ1 hM => ?_) <| wt_w <| ww_and <| wt_eqD hr.units <| we_var 0 rfl <| we_var 1 rfl <| eq2 <| ⟨fun hb => ?_, fun hb => ⟨fun h => (nomatch h), fun _ => wb_nil <| upto ⟨_, rfl⟩⟩⟩
  rotate_left
  · have hb := of_decide_eq_true hb
    refine ww_and1 <| wt_ge <| we_var 2 rfl <| we_int <| i2 <| ⟨fun _ => ?_, fun _ => wb_nil <| upto ⟨_, rfl⟩⟩
    refine wb_cons <| ws_set 4 sc.nd <| we_var 3 rfl <| wb_nil <| upto ⟨l, ?_⟩
    obtain ⟨rfl, rfl⟩ := hb
    rfl
  obtain ⟨l', rfl⟩ := hM
  have mbd := p1.bb.mul p2.bb
  have mad := p1.ba.mul p2.bb
  have mcb := p2.ba.mul p1.bb
  have nz := mul_ne p1.p p2.p
  refine wb_cons <| ws_if (Vw.refl _) <| wt_not <| wt_val <| we_call FJ (hr.mono (by decide)) <| wa_cons <| we_call F1 (hr.mono (by decide)) <| wa_cons <| we_var 3 rfl <| wa_cons <| we_var 4 rfl <| wa_nil <| ⟨l, l', a, b, c, d, rfl, ⟨p1.p, p2.p⟩, ⟨p1.ba, p1.bb, p2.ba, p2.bb⟩, fun p q hR => ?_⟩
  refine wa_cons <| we_add <| we_mul <| we_ix <| we_var 0 rfl <| we_int <| ixn 0 rfl <| we_ix <| we_var 1 rfl <| we_int <| ixn 1 rfl <| i2 <| And.intro (p1.ba.mulW p2.bb (by decide)) <| we_mul <| we_ix <| we_var 1 rfl <| we_int <| ixn 0 rfl <| we_ix <| we_var 0 rfl <| we_int <| ixn 1 rfl <| i2 <| And.intro (p2.ba.mulW p1.bb (by decide)) <| i2 <| wa_cons <| we_mul <| we_ix <| we_var 0 rfl <| we_int <| ixn 1 rfl <| we_ix <| we_var 1 rfl <| we_int <| ixn 1 rfl <| i2 <| And.intro (p1.bb.mulW p2.bb (by decide)) <| wa_nil <| ?_
  refine ⟨p, q, _, _, rfl, hR, mad.add mcb (by decide) (by decide), mbd.le (by decide), b1 <| ⟨fun hb => (nomatch hb), fun hb => wb_nil ?_⟩⟩
  refine wb_cons <| ws_set 5 sc.nd <| we_sub <| we_mul <| we_ix <| we_var 0 rfl <| we_int <| ixn 0 rfl <| we_ix <| we_var 1 rfl <| we_int <| ixn 1 rfl <| i2 <| And.intro (p1.ba.mulW p2.bb (by decide)) <| we_mul <| we_ix <| we_var 1 rfl <| we_int <| ixn 0 rfl <| we_ix <| we_var 0 rfl <| we_int <| ixn 1 rfl <| i2 <| And.intro (p2.ba.mulW p1.bb (by decide)) <| i2 <| ?_
  refine wb_cons <| ws_if (Vw.refl _) <| wt_not <| wt_val <| we_call FJ (hr.mono (by decide)) <| wa_cons <| we_call F2 (hr.mono (by decide)) <| wa_cons <| we_var 3 rfl <| wa_cons <| we_var 4 rfl <| wa_nil <| ⟨l, l', a, b, c, d, rfl, ⟨p1.p, p2.p⟩, ⟨p1.ba, p1.bb, p2.ba, p2.bb⟩, fun p q hR => ?_⟩
  refine wa_cons <| we_var 5 rfl <| wa_cons <| we_mul <| we_ix <| we_var 0 rfl <| we_int <| ixn 1 rfl <| we_ix <| we_var 1 rfl <| we_int <| ixn 1 rfl <| i2 <| And.intro (p1.bb.mulW p2.bb (by decide)) <| wa_nil <| ?_
  refine ⟨p, q, _, _, rfl, hR, mad.sub mcb (by decide) (by decide), mbd.le (by decide), b1 <| ⟨fun hb => (nomatch hb), fun hb => wb_nil ?_⟩⟩
  refine wb_cons <| ws_if (Vw.refl _) <| wt_not <| wt_val <| we_call FJ (hr.mono (by decide)) <| wa_cons <| we_call F3 (hr.mono (by decide)) <| wa_cons <| we_var 3 rfl <| wa_cons <| we_var 4 rfl <| wa_nil <| ⟨l, l', a, b, c, d, rfl, ⟨p1.p, p2.p⟩, ⟨p1.ba, p1.bb, p2.ba, p2.bb⟩, fun p q hR => ?_⟩
  refine wa_cons <| we_mul <| we_ix <| we_var 0 rfl <| we_int <| ixn 0 rfl <| we_ix <| we_var 1 rfl <| we_int <| ixn 0 rfl <| i2 <| And.intro (p1.ba.mulW p2.ba (by decide)) <| wa_cons <| we_mul <| we_ix <| we_var 0 rfl <| we_int <| ixn 1 rfl <| we_ix <| we_var 1 rfl <| we_int <| ixn 1 rfl <| i2 <| And.intro (p1.bb.mulW p2.bb (by decide)) <| wa_nil <| ?_
  refine ⟨p, q, _, _, rfl, hR, (p1.ba.mul p2.ba).le (by decide), mbd.le (by decide), b1 <| ⟨fun hb => (nomatch hb), fun hb => wb_nil ?_⟩⟩
  refine wb_cons <| ws_set 6 sc.nd <| we_call F5 (hr.mono (by decide)) <| wa_cons <| we_var 3 rfl <| wa_cons <| we_var 4 rfl <| wa_nil <| ⟨l, l', a, b, c, d, rfl, ⟨p1.p, p2.p⟩, ⟨p1.ba, p1.bb, p2.ba, p2.bb⟩, ?_⟩
  refine wb_cons <| ws_if (Vw.refl _) <| wt_w <| ww_or <| wt_not <| wt_val <| we_call FW (hr.mono (by decide)) <| wa_cons <| we_var 6 rfl <| wa_nil <| ⟨_, rfl, b1 <| ⟨fun hb => ?_, fun hb => (nomatch hb)⟩⟩
  refine ww_or1 <| wt_ne <| we_var 6 rfl <| we_sub <| we_cint M.int <| wa_cons <| we_gt <| we_var 5 rfl <| we_int <| i2 <| wa_nil <| a1 <| cb <| we_cint M.int <| wa_cons <| we_lt <| we_var 5 rfl <| we_int <| i2 <| wa_nil <| a1 <| cb <| i2 <| fe rfl <| ⟨fun hb => ?_, fun hb => wb_nil ?_⟩
  · exfalso
    revert hb
    simp only [Bool.not_eq_true', decide_eq_false_iff_not, decide_eq_true_eq]
    split <;> split <;> first | omega | (split <;> omega) | (split <;> split <;> omega)
  clear hR
  refine wb_ifj (fun δ => ∃ x y, δ = [.sh (pr false a b), .sh (pr false c d), .sh (.int h), .sh (pr l a b), .sh (pr l' c d), x, y]) (Vw.refl _) (fun δ1 hM => ?_) <| wt_eq <| we_ix <| we_var 1 rfl <| we_int <| ixn 0 rfl <| we_int <| fe rfl <| ⟨fun hb => ?_, fun hb => ?_⟩
  · obtain ⟨x, y, rfl⟩ := hM
    refine wb_cons <| ws_ret (Vw.refl _) <| we_and <| we_eqD hr.units <| we_new <| wo_list M.list <| wa_cons <| we_var 3 rfl <| wa_nil <| a1 <| sqk <| we_new <| wo_list M.list <| wa_cons <| we_var 0 rfl <| wa_nil <| a1 <| sqk <| eq2 <| b1 <| ⟨fun hb => ?_, fun hb => absurd ⟨rfl, rfl⟩ (of_decide_eq_false hb)⟩
    refine we_one <| we_eqD hr.units <| we_new <| wo_list M.list <| wa_cons <| we_var 4 rfl <| wa_nil <| a1 <| sqk <| we_new <| wo_list M.list <| wa_cons <| we_var 1 rfl <| wa_nil <| a1 <| sqk <| eq2 <| ?_
    rw [decide_eq_true ⟨rfl, rfl⟩]
    exact hk
  · have hb := of_decide_eq_true hb
    subst hb
    refine wb_cons <| ws_if (Vw.refl _) <| wt_not <| wt_val <| we_call FR (hr.mono (by decide)) <| wa_cons <| we_int <| wa_cons <| we_var 3 rfl <| wa_cons <| we_var 4 rfl <| wa_cons <| we_ix <| we_var 0 rfl <| we_int <| ixn 0 rfl <| wa_nil <| ⟨.inr ⟨l, l', a, b, d, rfl, ⟨p1.p, p2.p⟩, p1.ba, p1.bb, p2.bb⟩, b1 <| ⟨fun hb => (nomatch hb), fun hb => wb_nil ?_⟩⟩
    exact wb_nil <| upto ⟨_, _, rfl⟩
  · have hb := of_decide_eq_false hb
    have nz' : b * c ≠ 0 := Int.mul_ne_zero (by have := p1.p; omega) hb
    refine wb_cons <| ws_if (Vw.refl _) <| wt_not <| wt_val <| we_call FJ (hr.mono (by decide)) <| wa_cons <| we_call F4 (hr.mono (by decide)) <| wa_cons <| we_var 3 rfl <| wa_cons <| we_var 4 rfl <| wa_nil <| ⟨l, l', a, b, c, d, rfl, ⟨p1.p, p2.p⟩, ⟨p1.ba, p1.bb, p2.ba, p2.bb⟩, fun z => absurd z hb, fun _ p q hR => ?_⟩
    refine wa_cons <| we_mul <| we_ix <| we_var 0 rfl <| we_int <| ixn 0 rfl <| we_ix <| we_var 1 rfl <| we_int <| ixn 1 rfl <| i2 <| And.intro (p1.ba.mulW p2.bb (by decide)) <| wa_cons <| we_mul <| we_ix <| we_var 0 rfl <| we_int <| ixn 1 rfl <| we_ix <| we_var 1 rfl <| we_int <| ixn 0 rfl <| i2 <| And.intro (p1.bb.mulW p2.ba (by decide)) <| wa_nil <| ?_
    refine ⟨p, q, _, _, rfl, hR, mad.le (by decide), (p1.bb.mul p2.ba).le (by decide), b1 <| ⟨fun hb => (nomatch hb), fun hb => wb_nil ?_⟩⟩
    exact wb_nil <| upto ⟨_, _, rfl⟩
end
end K00
set_option Elab.async false
set_option linter.all false
set_option maxRecDepth 100000
set_option maxHeartbeats 4000000
set_option pp.maxSteps 1500
namespace K00
open PySem PySem.Spec PyProof.Rows L2 DL
section
variable {P : Program} {w : World} {K : PySem.W.Frag} {mg : Str → Option Value} {base : Heap} {f CZ CM : Addr} {fd : FuncData}
/-! ### _law_changed -/
abbrev s__law_changed : Stmt := top 36
theorem sc__law_changed : FnScope ["one", "two", "held", "first", "second"] ["one", "two"] (defScope s__law_changed) := ⟨rfl, rfl, rfl, by decide +kernel, rfl, by decide +kernel, by decide +kernel⟩
def T_changed : DSp := fun ds kk _ => ∃ a b c d : Int, ds = [pr false a b, pr false c d] ∧ Pr 2900 a b ∧ Pr 2900 c d ∧ kk (.sh (.bl true))
theorem ok_changed (F : FD K "_law_changed" s__law_changed [] f fd) (M : Bi mg) (FJ : Fn P w K mg base 3 "_law_just" ["value", "up", "down"] T_just [])
    (F1 : Fn P w K mg base 4 "plus" ["one", "two"] T_plus []) (F5 : Fn P w K mg base 1 "order" ["one", "two"] T_order []) :
    FnOk P w K mg base (L2.CX P w) 6 f fd ["one", "two"] (spD K T_changed) := by
  have sc := sc__law_changed
  refine fn_ok F sc (by decide) (fun ds kk xx h => by obtain ⟨_, _, _, _, rfl, _⟩ := h; rfl) fun cdv A outer s H E ds kk xx hr hT hx => ?_
  obtain ⟨a, b, c, d, rfl, p1, p2, hk⟩ := hT
  have mbd := p1.bb.mul p2.bb
  have mad := p1.ba.mul p2.bb
  have mcb := p2.ba.mul p1.bb
  refine wb_cons <| ws_setO 2 sc.nd <| wo_lst <| wa_cons <| we_ix <| we_var 0 rfl <| we_int <| ixn 0 rfl <| wa_cons <| we_ix <| we_var 0 rfl <| we_int <| ixn 1 rfl <| wa_nil <| And.intro lok <| ?_
  refine wb_cons <| ws_setT 3 sc.nd (.keep <| .keep <| .bor <| .keep <| .keep <| .nil) <| we_call F1 (hr.mono (by decide)) <| wa_cons <| we_var 2 rfl <| wa_cons <| we_var 1 rfl <| wa_nil <| ⟨true, false, a, b, c, d, rfl, ⟨p1.p, p2.p⟩, ⟨p1.ba, p1.bb, p2.ba, p2.bb⟩, fun p q hR => ?_⟩
  refine And.intro (.two trivial trivial) <| ?_
  refine wb_cons <| ws_setitem 2 rfl <| we_ix <| we_var 1 rfl <| we_int <| ixn 0 rfl <| we_int <| ⟨0, rfl, show 0 < 2 from by decide, ?_⟩
  refine wb_cons <| ws_setitem 2 rfl <| we_ix <| we_var 1 rfl <| we_int <| ixn 1 rfl <| we_int <| ⟨1, rfl, show 1 < 2 from by decide, ?_⟩
  refine wb_cons <| ws_setT 4 sc.nd (.keep <| .keep <| .bor <| .keep <| .keep <| .nil) <| we_call F1 (hr.mono (by decide)) <| wa_cons <| we_var 2 rfl <| wa_cons <| we_var 1 rfl <| wa_nil <| ⟨true, false, c, d, c, d, rfl, ⟨p2.p, p2.p⟩, ⟨p2.ba, p2.bb, p2.ba, p2.bb⟩, fun p2' q2 hR2 => ?_⟩
  refine And.intro (.two trivial trivial) <| ?_
  refine wb_cons <| ws_if (Vw.refl _) <| wt_not <| wt_val <| we_call FJ (hr.mono (by decide)) <| wa_cons <| we_var 3 rfl <| wa_cons <| we_add <| we_mul <| we_ix <| we_var 0 rfl <| we_int <| ixn 0 rfl <| we_ix <| we_var 1 rfl <| we_int <| ixn 1 rfl <| i2 <| And.intro (p1.ba.mulW p2.bb (by decide)) <| we_mul <| we_ix <| we_var 1 rfl <| we_int <| ixn 0 rfl <| we_ix <| we_var 0 rfl <| we_int <| ixn 1 rfl <| i2 <| And.intro (p2.ba.mulW p1.bb (by decide)) <| i2 <| wa_cons <| we_mul <| we_ix <| we_var 0 rfl <| we_int <| ixn 1 rfl <| we_ix <| we_var 1 rfl <| we_int <| ixn 1 rfl <| i2 <| And.intro (p1.bb.mulW p2.bb (by decide)) <| wa_nil <| ?_
  refine ⟨p, q, _, _, rfl, hR, mad.add mcb (by decide) (by decide), mbd.le (by decide), b1 <| ⟨fun hb => (nomatch hb), fun hb => wb_nil ?_⟩⟩
  have hR3 : RatIs p2' q2 (c * 2) d := by
    have z : d ≠ 0 := by have := p2.p; omega
    refine RatIs.of hR2.pos hR2.gcd ?_ z
    have e := hR2.eq
    refine Int.eq_of_mul_eq_mul_right z ?_
    rw [Int.mul_assoc, e, ← Int.two_mul]
    ac_rfl
  have b2 : Bd 2 (2 : Int) := show (2 : Int).natAbs < 2 ^ 2 by decide
  refine wb_cons <| ws_if (Vw.refl _) <| wt_not <| wt_val <| we_call FJ (hr.mono (by decide)) <| wa_cons <| we_var 4 rfl <| wa_cons <| we_mul <| we_ix <| we_var 1 rfl <| we_int <| ixn 0 rfl <| we_int <| i2 <| And.intro (p2.ba.mulW b2 (by decide)) <| wa_cons <| we_ix <| we_var 1 rfl <| we_int <| ixn 1 rfl <| wa_nil <| ?_
  refine ⟨p2', q2, _, _, rfl, hR3, (p2.ba.mul b2).le (by decide), p2.bb.le (by decide), b1 <| ⟨fun hb => (nomatch hb), fun hb => wb_nil ?_⟩⟩
  refine wb_cons <| ws_ret (.keep <| .keep <| .bor <| .keep <| .keep <| .nil) <| we_and <| we_eq <| we_call F5 (hr.mono (by decide)) <| wa_cons <| we_var 2 rfl <| wa_cons <| we_var 1 rfl <| wa_nil <| ⟨true, false, c, d, c, d, rfl, ⟨p2.p, p2.p⟩, ⟨p2.ba, p2.bb, p2.ba, p2.bb⟩, ?_⟩
  refine we_int <| fe rfl <| b1 <| ⟨fun hb => ?_, fun hb => ?_⟩
  · refine we_one <| we_eqD hr.units <| we_var 2 rfl <| we_new <| wo_lst <| wa_cons <| we_ix <| we_var 1 rfl <| we_int <| ixn 0 rfl <| wa_cons <| we_ix <| we_var 1 rfl <| we_int <| ixn 1 rfl <| wa_nil <| And.intro lok <| eq2 <| ?_
    rw [decide_eq_true ⟨rfl, rfl⟩]
    exact hk
  · exfalso
    have hb := of_decide_eq_false hb
    rw [if_neg (Int.lt_irrefl _), if_neg (Int.lt_irrefl _)] at hb
    exact hb rfl
end
end K00
set_option Elab.async false
set_option linter.all false
set_option maxRecDepth 100000
set_option maxHeartbeats 4000000
set_option pp.maxSteps 1500
set_option exponentiation.threshold 20000
namespace K00
open PySem PySem.Spec PyProof.Rows L2 DL
section
variable {P : Program} {w : World} {K : PySem.W.Frag} {mg : Str → Option Value} {base : Heap} {f CZ CM : Addr} {fd : FuncData}
/-! ### _law_made -/
abbrev s__law_made : Stmt := top 34
theorem sc__law_made : FnScope ["script", "large", "shared", "most", "factor", "up", "down"] ["script", "large"] (defScope s__law_made) := ⟨rfl, rfl, rfl, by decide +kernel, rfl, by decide +kernel, by decide +kernel⟩
theorem lim_pos (n : Nat) : 10 ≤ lim n := by
  have h : (10 : Nat) ^ 1 ≤ 10 ^ (50 * 2 ^ n) := Nat.pow_le_pow_right (by decide) (by have := Nat.pow_pos (n := n) (show 0 < 2 by decide); omega)
  have e : lim n = ((10 ^ (50 * 2 ^ n) : Nat) : Int) := by unfold lim; norm_cast
  rw [e]
  omega
theorem bd1 (n : Nat) : Bd (n + 1) 1 := show 1 < 2 ^ (n + 1) by rw [Nat.pow_succ]; have := Nat.pow_pos (n := n) (show 0 < 2 by decide); omega
theorem one_ne : (1 : Int) ≠ 0 := by decide
theorem zero_one {p q v : Int} (e : p * v = 0 * q) (hv : v ≠ 0) : p * 1 = 0 * q := by
  rw [Int.zero_mul] at e ⊢
  rcases Int.mul_eq_zero.mp e with z | z
  · rw [z]; rfl
  · exact absurd z hv
/-- a size limit -/
def Lm (m : Int) : Prop := 1 ≤ m ∧ Bd 1600 m
theorem lm_lim {n : Nat} (h : 50 * 2 ^ n * 4 ≤ 1600) : Lm (lim n - 1) := ⟨by have := lim_pos n; omega, (Bd.of_le (lim_bd n) (by have := lim_pos n; omega)).le h⟩
theorem lm60 : Lm (10 ^ 60 - 1) := ⟨by decide, show ((10 ^ 60 - 1 : Int)).natAbs < 2 ^ 1600 by decide +kernel⟩
theorem lm30 : Lm (10 ^ 30 - 1) := ⟨by decide, show ((10 ^ 30 - 1 : Int)).natAbs < 2 ^ 1600 by decide +kernel⟩
theorem lm_up {m v : Int} (h : Lm m) (hv : v.natAbs ≤ m.natAbs) : Bd 1600 v := Bd.of_le h.2 hv
theorem lm_dn {m v : Int} (h : Lm m) (hv : v.natAbs ≤ (m - 1).natAbs) : 1 ≤ 1 + ((v.natAbs : Nat) : Int) ∧ Bd 1600 (1 + ((v.natAbs : Nat) : Int)) := by
  obtain ⟨h1, h2⟩ := h
  exact ⟨by omega, Bd.of_le h2 (by omega)⟩
def T_made : DSp := fun ds kk _ => ∃ (ns : List Int) (large : Bool), ds = [.scr ns, .bl large] ∧ kk (.sh (.bl true))
theorem ok_made (F : FD K "_law_made" s__law_made [] f fd) (M : Bi mg) (FC : Fn P w K mg base 1 "_law_cell" ["script", "k"] T_cell []) (FD_ : Fn P w K mg base 1 "_law_digits" ["cell", "sizes"] T_digits []) (FL : Fn P w K mg base 1 "_law_limit" ["turns"] T_limit []) (FN : Fn P w K mg base 2 "_law_number" ["cell", "most"] T_number [])
    (FJ : Fn P w K mg base 3 "_law_just" ["value", "up", "down"] T_just []) (FR : Fn P w K mg base 5 "_law_refused" ["kind", "one", "two", "due"] T_refused []) (R : Fn P w K mg base 3 "ratio" ["top", "bottom"] (T_ratio CZ) []) (R1 : Fn P w K mg base 3 "ratio" ["top", "bottom"] (T_ratio CZ) [.int 1]) :
    FnOk P w K mg base (L2.CX P w) 6 f fd ["script", "large"] (spD K T_made) := by
  have sc := sc__law_made
  refine fn_ok F sc (by decide) (fun ds kk xx h => by obtain ⟨_, _, rfl, _⟩ := h; rfl) fun cdv A outer s H E ds kk xx hr hT hx => ?_
  obtain ⟨ns, large, rfl, hk⟩ := hT
  refine wb_cons <| ws_set 2 sc.nd <| we_call FD_ (hr.mono (by decide)) <| wa_cons <| we_call FC (hr.mono (by decide)) <| wa_cons <| we_var 0 rfl <| wa_cons <| we_int <| wa_nil <| ⟨ns, 12, rfl, by decide, by decide, fun c12 => ?_⟩
  refine wa_cons <| we_new <| wo_lst <| wa_cons <| we_int <| wa_nil <| And.intro lok <| wa_nil <| ⟨c12, true, [2], rfl, by decide, by decide, fun r hr' => ?_⟩
  obtain ⟨r0, e0⟩ : ∃ x, r[0]? = some x := ⟨_, List.getElem?_eq_getElem (show 0 < r.length by rw [hr'.1]; decide)⟩
  have hdr : ∃ sx, sx = S.sh (Ow.lst (r.map .int)).d := ⟨_, rfl⟩
  obtain ⟨sx, hsx⟩ := hdr
  refine wb_cons <| ws_set 3 sc.nd <| we_up (fun x => ∃ m, x = .int m ∧ Lm m) (fun x hM => ?_) <| we_if <| wt_tru <| we_var 1 rfl <| tr rfl <| ⟨fun hb => we_sub <| we_call FL (hr.mono (by decide)) <| wa_cons <| we_int <| wa_nil <| ⟨3, rfl, by decide, we_int <| i2 <| ⟨_, rfl, lm_lim (by decide)⟩⟩, fun hb => we_sub <| we_pow <| we_int <| we_int <| i2 <| And.intro (by decide) <| we_int <| i2 <| ⟨_, rfl, lm60⟩⟩
  obtain ⟨m, rfl, hm⟩ := hM
  refine wb_cons <| ws_set 4 sc.nd <| we_int <| ?_
  refine wb_ifj (fun δ => ∃ m g, Lm m ∧ 1 ≤ g ∧ Bd 1600 g ∧ δ = [.sh (.scr ns), .sh (.bl large), sx, .sh (.int m), .sh (.int g), .no, .no]) (Vw.refl _) (fun δ1 hM => ?_) <| wt_eq <| we_ix <| we_var 2 rfl <| we_int <| ixn 0 (get_ints e0) <| we_int <| fe rfl <| ⟨fun hb => ?_, fun hb => wb_nil <| upto ⟨_, 1, hm, by decide, bd1 _, by rw [hsx]; rfl⟩⟩
  rotate_left
  · refine wb_cons <| ws_set 3 sc.nd <| we_up (fun x => ∃ m, x = .int m ∧ Lm m) (fun x hM => ?_) <| we_if <| wt_tru <| we_var 1 rfl <| tr rfl <| ⟨fun hb => we_sub <| we_call FL (hr.mono (by decide)) <| wa_cons <| we_int <| wa_nil <| ⟨2, rfl, by decide, we_int <| i2 <| ⟨_, rfl, lm_lim (by decide)⟩⟩, fun hb => we_sub <| we_pow <| we_int <| we_int <| i2 <| And.intro (by decide) <| we_int <| i2 <| ⟨_, rfl, lm30⟩⟩
    obtain ⟨m, rfl, hm⟩ := hM
    refine wb_cons <| ws_set 4 sc.nd <| we_add <| we_int <| we_abs M.abs <| wa_cons <| we_call FN (hr.mono (by decide)) <| wa_cons <| we_call FC (hr.mono (by decide)) <| wa_cons <| we_var 0 rfl <| wa_cons <| we_int <| wa_nil <| ⟨ns, 13, rfl, by decide, by decide, fun c13 => ?_⟩
    refine wa_cons <| we_sub <| we_var 3 rfl <| we_int <| i2 <| wa_nil <| ⟨c13, m - 1, rfl, by have := hm.1; omega, fun v hv => ?_⟩
    refine wa_nil <| a1 <| i1 <| i2 <| wb_nil <| upto ⟨_, _, hm, (lm_dn hm hv).1, (lm_dn hm hv).2, by rw [hsx]; rfl⟩
  clear hm
  obtain ⟨m, g, hm, pg, bg, rfl⟩ := hM
  refine wb_cons <| ws_set 5 sc.nd <| we_mul <| we_call FN (hr.mono (by decide)) <| wa_cons <| we_call FC (hr.mono (by decide)) <| wa_cons <| we_var 0 rfl <| wa_cons <| we_int <| wa_nil <| ⟨ns, 14, rfl, by decide, by decide, fun c14 => ?_⟩
  refine wa_cons <| we_var 3 rfl <| wa_nil <| ⟨c14, m, rfl, by have := hm.1; omega, fun u0 hu0 => ?_⟩
  refine we_var 4 rfl <| i2 <| And.intro ((lm_up hm hu0).mulW bg (by decide)) <| ?_
  refine wb_cons <| ws_set 6 sc.nd <| we_mul <| we_add <| we_int <| we_abs M.abs <| wa_cons <| we_call FN (hr.mono (by decide)) <| wa_cons <| we_call FC (hr.mono (by decide)) <| wa_cons <| we_var 0 rfl <| wa_cons <| we_int <| wa_nil <| ⟨ns, 15, rfl, by decide, by decide, fun c15 => ?_⟩
  refine wa_cons <| we_sub <| we_var 3 rfl <| we_int <| i2 <| wa_nil <| ⟨c15, m - 1, rfl, by have := hm.1; omega, fun v0 hv0 => ?_⟩
  refine wa_nil <| a1 <| i1 <| i2 <| we_var 4 rfl <| i2 <| And.intro ((lm_dn hm hv0).2.mulW bg (by decide)) <| ?_
  have bu : Bd 6000 (u0 * g) := ((lm_up hm hu0).mul bg).le (by decide)
  have bv : Bd 6000 ((1 + ((v0.natAbs : Nat) : Int)) * g) := ((lm_dn hm hv0).2.mul bg).le (by decide)
  have pv' : 0 < (1 + ((v0.natAbs : Nat) : Int)) * g := Int.mul_pos (by have := (lm_dn hm hv0).1; omega) (by omega)
  generalize u0 * g = u at *
  generalize (1 + ((v0.natAbs : Nat) : Int)) * g = v at *
  have hv : v ≠ 0 := by omega
  have hv' : -v ≠ 0 := by omega
  refine wb_cons <| ws_if (Vw.refl _) <| wt_w <| ww_or <| wt_not <| wt_val <| we_call FJ (hr.mono (by decide)) <| wa_cons <| we_call R (hr.mono (by decide)) <| wa_cons <| we_var 5 rfl <| wa_cons <| we_var 6 rfl <| wa_nil <| ⟨u, v, rfl, bu, bv, fun z => absurd z hv, fun _ p q hR => wa_cons <| we_var 5 rfl <| wa_cons <| we_var 6 rfl <| wa_nil <| ⟨p, q, u, v, rfl, hR, bu, bv, b1 <| ⟨fun hb => ?_, fun hb => (nomatch hb)⟩⟩⟩
  refine ww_or1 <| wt_not <| wt_val <| we_call FJ (hr.mono (by decide)) <| wa_cons <| we_call R (hr.mono (by decide)) <| wa_cons <| we_var 5 rfl <| wa_cons <| we_neg <| we_var 6 rfl <| i1 <| wa_nil <| ⟨u, -v, rfl, bu, bv.neg, fun z => absurd z hv', fun _ p q hR => wa_cons <| we_neg <| we_var 5 rfl <| i1 <| wa_cons <| we_var 6 rfl <| wa_nil <| ⟨p, q, (-u), v, rfl, RatIs.negs (by rw [Int.neg_neg]; exact hR), bu.neg, bv, b1 <| ⟨fun hb => (nomatch hb), fun hb => wb_nil ?_⟩⟩⟩
  refine wb_cons <| ws_if (Vw.refl _) <| wt_w <| ww_or <| wt_not <| wt_val <| we_call FJ (hr.mono (by decide)) <| wa_cons <| we_call R (hr.mono (by decide)) <| wa_cons <| we_neg <| we_var 5 rfl <| i1 <| wa_cons <| we_neg <| we_var 6 rfl <| i1 <| wa_nil <| ⟨-u, -v, rfl, bu.neg, bv.neg, fun z => absurd z hv', fun _ p q hR => wa_cons <| we_var 5 rfl <| wa_cons <| we_var 6 rfl <| wa_nil <| ⟨p, q, u, v, rfl, hR.negs, bu, bv, b1 <| ⟨fun hb => ?_, fun hb => (nomatch hb)⟩⟩⟩
  refine ww_or1 <| wt_not <| wt_val <| we_call FJ (hr.mono (by decide)) <| wa_cons <| we_call R (hr.mono (by decide)) <| wa_cons <| we_neg <| we_var 5 rfl <| i1 <| wa_cons <| we_var 6 rfl <| wa_nil <| ⟨-u, v, rfl, bu.neg, bv, fun z => absurd z hv, fun _ p q hR => wa_cons <| we_neg <| we_var 5 rfl <| i1 <| wa_cons <| we_var 6 rfl <| wa_nil <| ⟨p, q, (-u), v, rfl, hR, bu.neg, bv, b1 <| ⟨fun hb => (nomatch hb), fun hb => wb_nil ?_⟩⟩⟩
  refine wb_ifj (fun δ => δ = [.sh (.scr ns), .sh (.bl large), sx, .sh (.int m), .sh (.int g), .sh (.int u), .sh (.int v)]) (Vw.refl _) (fun δ1 hM => ?_) <| wt_w <| ww_and <| wt_ne <| we_var 5 rfl <| we_int <| fe rfl <| ⟨fun hb => ?_, fun hb => ⟨fun h => (nomatch h), fun _ => wb_nil <| upto rfl⟩⟩
  rotate_left
  · have hu : u ≠ 0 := fun z => by rw [z] at hb; exact absurd hb (by decide)
    exact ww_and1 <| wt_not <| wt_val <| we_call FJ (hr.mono (by decide)) <| wa_cons <| we_call R (hr.mono (by decide)) <| wa_cons <| we_var 6 rfl <| wa_cons <| we_var 5 rfl <| wa_nil <| ⟨v, u, rfl, bv, bu, fun z => absurd z hu, fun _ p q hR => wa_cons <| we_var 6 rfl <| wa_cons <| we_var 5 rfl <| wa_nil <| ⟨p, q, v, u, rfl, hR, bv, bu, b1 <| ⟨fun hb => (nomatch hb), fun _ => wb_nil <| upto rfl⟩⟩⟩
  subst hM
  refine wb_cons <| ws_if (Vw.refl _) <| wt_w <| ww_or <| wt_not <| wt_val <| we_call FJ (hr.mono (by decide)) <| wa_cons <| we_call R1 (hr.mono (by decide)) <| wa_cons <| we_var 5 rfl <| wa_nil <| ⟨u, 1, rfl, bu, bd1 _, fun z => absurd z one_ne, fun _ p q hR => wa_cons <| we_var 5 rfl <| wa_cons <| we_int <| wa_nil <| ⟨p, q, u, 1, rfl, hR, bu, bd1 _, b1 <| ⟨fun hb => ?_, fun hb => (nomatch hb)⟩⟩⟩
  refine ww_or1 <| wt_not <| wt_val <| we_call FJ (hr.mono (by decide)) <| wa_cons <| we_call R (hr.mono (by decide)) <| wa_cons <| we_int <| wa_cons <| we_neg <| we_var 6 rfl <| i1 <| wa_nil <| ⟨0, -v, rfl, bd0 _, bv.neg, fun z => absurd z hv', fun _ p q hR => wa_cons <| we_int <| wa_cons <| we_int <| wa_nil <| ⟨p, q, 0, 1, rfl, RatIs.of hR.pos hR.gcd (zero_one hR.eq hv') one_ne, bd0 _, bd1 _, b1 <| ⟨fun hb => (nomatch hb), fun hb => wb_nil ?_⟩⟩⟩
  refine wb_cons <| ws_if (Vw.refl _) <| wt_w <| ww_or <| wt_not <| wt_val <| we_call FR (hr.mono (by decide)) <| wa_cons <| we_int <| wa_cons <| we_var 5 rfl <| wa_cons <| we_int <| wa_cons <| we_var 5 rfl <| wa_nil <| ⟨.inl ⟨u, rfl, bu⟩, b1 <| ⟨fun hb => ?_, fun hb => (nomatch hb)⟩⟩
  refine ww_or <| wt_not <| wt_val <| we_call FR (hr.mono (by decide)) <| wa_cons <| we_int <| wa_cons <| we_neg <| we_var 6 rfl <| i1 <| wa_cons <| we_int <| wa_cons <| we_neg <| we_var 6 rfl <| i1 <| wa_nil <| ⟨.inl ⟨-v, rfl, bv.neg⟩, b1 <| ⟨fun hb => ?_, fun hb => (nomatch hb)⟩⟩
  refine ww_or1 <| wt_not <| wt_val <| we_call FR (hr.mono (by decide)) <| wa_cons <| we_int <| wa_cons <| we_int <| wa_cons <| we_int <| wa_cons <| we_int <| wa_nil <| ⟨.inl ⟨0, rfl, bd0 _⟩, b1 <| ⟨fun hb => (nomatch hb), fun hb => wb_nil ?_⟩⟩
  refine wb_cons <| ws_ret (Vw.refl _) <| we_and <| we_call FJ (hr.mono (by decide)) <| wa_cons <| we_call R (hr.mono (by decide)) <| wa_cons <| we_var 5 rfl <| wa_cons <| we_var 6 rfl <| wa_nil <| ⟨u, v, rfl, bu, bv, fun z => absurd z hv, fun _ p q hR => wa_cons <| we_var 5 rfl <| wa_cons <| we_var 6 rfl <| wa_nil <| ⟨p, q, u, v, rfl, hR, bu, bv, b1 <| ⟨fun hb => ?_, fun hb => (nomatch hb)⟩⟩⟩
  exact we_one <| we_call FJ (hr.mono (by decide)) <| wa_cons <| we_call R1 (hr.mono (by decide)) <| wa_cons <| we_var 6 rfl <| wa_nil <| ⟨v, 1, rfl, bv, bd1 _, fun z => absurd z one_ne, fun _ p q hR => wa_cons <| we_var 6 rfl <| wa_cons <| we_int <| wa_nil <| ⟨p, q, v, 1, rfl, hR, bv, bd1 _, hk⟩⟩
end
end K00
set_option Elab.async false
set_option linter.all false
set_option maxRecDepth 100000
set_option maxHeartbeats 4000000
set_option pp.maxSteps 1500
set_option exponentiation.threshold 20000
namespace K00
open PySem PySem.Spec PyProof.Rows L2 DL
section
variable {P : Program} {w : World} {K : PySem.W.Frag} {mg : Str → Option Value} {base : Heap} {f CZ CM : Addr} {fd : FuncData}
/-! ### _law_chain -/
abbrev s__law_chain : Stmt := top 35
theorem sc__law_chain : FnScope ["pool", "steps", "own", "value", "k", "item"] ["pool", "steps"] (defScope s__law_chain) := ⟨rfl, rfl, rfl, by decide +kernel, rfl, by decide +kernel, by decide +kernel⟩
def prD (x : Int × Int) : D := pr false x.1 x.2
def T_chain : DSp := fun ds kk _ => ∃ (n : Nat) (ps : List (Int × Int)) (st : List Int), ds = [.sq true (ps.map prD), .sq true (st.map .int)] ∧ (0 < ps.length ∧ ps.length ≤ 1000) ∧ (∀ x ∈ ps, Pr n x.1 x.2) ∧ (st.length * (n + 1) ≤ 2900 ∧ n ≤ 2000 ∧ st.length ≤ 1000) ∧ kk (.sh (.bl true))
theorem ok_chain (F : FD K "_law_chain" s__law_chain [] f fd) (M : Bi mg) (FP : Fn P w K mg base 2 "_law_pair" ["up", "down"] T_pair []) (FJ : Fn P w K mg base 3 "_law_just" ["value", "up", "down"] T_just []) (R : Fn P w K mg base 3 "ratio" ["top", "bottom"] (T_ratio CZ) [])
    (F1 : Fn P w K mg base 4 "plus" ["one", "two"] T_plus []) (F2 : Fn P w K mg base 4 "minus" ["one", "two"] T_minus []) (F3 : Fn P w K mg base 4 "times" ["one", "two"] T_times []) (F4 : Fn P w K mg base 4 "over" ["one", "two"] (T_over CZ) []) :
    FnOk P w K mg base (L2.CX P w) 6 f fd ["pool", "steps"] (spD K T_chain) := by
  have sc := sc__law_chain
  refine fn_ok F sc (by decide) (fun ds kk xx h => by obtain ⟨_, _, _, rfl, _⟩ := h; rfl) fun cdv A outer s H E ds kk xx hr hT hx => ?_
  obtain ⟨n, ps, st, rfl, ⟨pl0, pl1⟩, hps, ⟨hL, hn, hL1⟩, hk⟩ := hT
  obtain ⟨x0, e0⟩ : ∃ x, ps[0]? = some x := ⟨_, List.getElem?_eq_getElem pl0⟩
  have hx0 := hps x0 (List.mem_of_getElem? e0)
  obtain ⟨a, b⟩ := x0
  have hx0 : Pr n a b := hx0
  have e0' : (ps.map prD)[0]? = some (pr false a b) := by rw [List.getElem?_map, e0]; rfl
  have hall : ∀ d ∈ ps.map prD, ∃ c d', d = pr false c d' ∧ Pr n c d' := fun d hd => by
    obtain ⟨x, hx, rfl⟩ := List.mem_map.mp hd
    exact ⟨_, _, rfl, hps x hx⟩
  have hlen : (ps.map prD).length = ps.length := by simp
  refine wb_cons <| ws_set 2 sc.nd <| we_ix <| we_var 0 rfl <| we_int <| ixn 0 e0' <| ?_
  refine wb_cons <| ws_set 3 sc.nd <| we_call R (hr.mono (by decide)) <| wa_cons <| we_ix <| we_var 2 rfl <| we_int <| ixn 0 rfl <| wa_cons <| we_ix <| we_var 2 rfl <| we_int <| ixn 1 rfl <| wa_nil <| ⟨a, b, rfl, hx0.ba.le (by omega), hx0.bb.le (by omega), fun z => absurd z (by have := hx0.p; omega), fun _ p q hR => ?_⟩
  obtain ⟨rfl, rfl⟩ := hR.uniq hx0.self rfl (by have := hx0.p; omega) (by have := hx0.p; omega)
  clear hR
  refine wb_cons <| ws_if (Vw.refl _) <| wt_not <| wt_val <| we_call FJ (hr.mono (by decide)) <| wa_cons <| we_var 3 rfl <| wa_cons <| we_ix <| we_var 2 rfl <| we_int <| ixn 0 rfl <| wa_cons <| we_ix <| we_var 2 rfl <| we_int <| ixn 1 rfl <| wa_nil <| ⟨p, q, p, q, rfl, hx0.self, hx0.ba.le (by omega), hx0.bb.le (by omega), b1 <| ⟨fun hb => (nomatch hb), fun hb => wb_nil ?_⟩⟩
  refine wb_cons <| ws_forR M.range (passes_of rfl) rfl (Vw.refl _) (fun i δ => ∃ p q, Pr ((i + 1) * (n + 1)) p q ∧ δ = [.sh (.sq true (ps.map prD)), .sh (.sq true (st.map .int)), .sh (pr false p q), .sh (pr false p q), .no, .no]) <| wa_cons <| we_len M.len <| wa_cons <| we_var 1 rfl <| wa_nil <| a1 <| sqk <| wa_nil <| a1 <| i1 <| ⟨by rw [List.length_map]; omega, ⟨_, Vw.refl _, p, q, hx0.le (by omega), rfl⟩, fun i δ1 hi hI => wg_name 4 sc.nd ?_, fun δ1 hI => ?_⟩
  · obtain ⟨p, q, hv, rfl⟩ := hI
    have hi : i < st.length := by rw [List.length_map] at hi; omega
    have hN : (i + 1) * (n + 1) ≤ 2900 := Nat.le_trans (Nat.mul_le_mul_right _ hi) hL
    have hN2 : (i + 1 + 1) * (n + 1) = (i + 1) * (n + 1) + n + 1 := by rw [Nat.succ_mul (i + 1)]; rfl
    rw [hN2]
    generalize (i + 1) * (n + 1) = N at *
    obtain ⟨sv, es⟩ : ∃ x, st[i]? = some x := ⟨_, List.getElem?_eq_getElem hi⟩
    have pl0' : (0 : Int) < ((ps.map prD).length : Nat) := by rw [hlen]; omega
    obtain ⟨dm, hat, c, d, rfl, hi'⟩ := at_of (ds := ps.map prD) (i := (1 + (i : Int)) % ((ps.map prD).length : Nat)) (Int.emod_nonneg _ (by omega)) (Int.emod_lt_of_pos _ pl0') hall
    have hi := hi'
    refine wb_cons <| ws_set 5 sc.nd <| we_ix <| we_var 0 rfl <| we_mod <| we_cint M.int <| wa_cons <| we_add <| we_int <| we_var 4 rfl <| i2 <| wa_nil <| a1 <| ci <| we_len M.len <| wa_cons <| we_var 0 rfl <| wa_nil <| a1 <| sqk <| i2 <| And.intro pl0' <| ixa hat <| ?_
    refine wb_ifj (fun δ => ∃ p q, Pr (N + n + 1) p q ∧ δ = [.sh (.sq true (ps.map prD)), .sh (.sq true (st.map .int)), .sh (pr false p q), .sh (pr false p q), .sh (.int i), .sh (pr false c d)]) (Vw.refl _) (fun δ1 hM => ?_) <| wt_eq <| we_ix <| we_var 1 rfl <| we_var 4 rfl <| ixa (atI_nat (get_ints es)) <| we_int <| fe rfl <| ⟨fun hb => ?_, fun hb => ?_⟩
    rotate_left
    · refine wb_cons <| ws_set 3 sc.nd <| we_call F1 (hr.mono (by decide)) <| wa_cons <| we_var 3 rfl <| wa_cons <| we_var 5 rfl <| wa_nil <| ⟨false, false, p, q, c, d, rfl, ⟨hv.p, hi.p⟩, ⟨hv.ba.le (by omega), hv.bb.le (by omega), hi.ba.le (by omega), hi.bb.le (by omega)⟩, fun p1 q1 h1 => ?_⟩
      have bu : Bd (N + n + 1) (p * d + c * q) := Bd.add (hv.ba.mul hi.bb) (hi.ba.mul hv.bb) (n := N + n + 1) (by omega) (by omega)
      have bv : Bd (N + n + 1) (q * d) := Bd.le (hv.bb.mul hi.bb) (by omega)
      have nz : q * d ≠ 0 := Int.mul_ne_zero (show q ≠ 0 by have := hv.p; omega) (show d ≠ 0 by have := hi.p; omega)
      refine wb_cons <| ws_set 2 sc.nd <| we_call FP (hr.mono (by decide)) <| wa_cons <| we_add <| we_mul <| we_ix <| we_var 2 rfl <| we_int <| ixn 0 rfl <| we_ix <| we_var 5 rfl <| we_int <| ixn 1 rfl <| i2 <| And.intro (hv.ba.mulW hi.bb (by omega)) <| we_mul <| we_ix <| we_var 5 rfl <| we_int <| ixn 0 rfl <| we_ix <| we_var 2 rfl <| we_int <| ixn 1 rfl <| i2 <| And.intro (hi.ba.mulW hv.bb (by omega)) <| i2 <| wa_cons <| we_mul <| we_ix <| we_var 2 rfl <| we_int <| ixn 1 rfl <| we_ix <| we_var 5 rfl <| we_int <| ixn 1 rfl <| i2 <| And.intro (hv.bb.mulW hi.bb (by omega)) <| wa_nil <| ⟨_, _, rfl, nz, bu.le (by omega), bv.le (by omega), fun p2 q2 h2 => ?_⟩
      obtain ⟨rfl, rfl⟩ := h1.uniq h2 (by ac_rfl) (by first | exact nz | (rw [Int.mul_comm]; exact nz)) nz
      exact wb_nil <| upto ⟨p1, q1, h2.pr bu bv, rfl⟩
    · refine wb_one <| ws_if (Vw.refl _) <| wt_eq <| we_ix <| we_var 1 rfl <| we_var 4 rfl <| ixa (atI_nat (get_ints es)) <| we_int <| fe rfl <| ⟨fun hb => ?_, fun hb => ?_⟩
      · refine wb_cons <| ws_set 3 sc.nd <| we_call F2 (hr.mono (by decide)) <| wa_cons <| we_var 5 rfl <| wa_cons <| we_var 3 rfl <| wa_nil <| ⟨false, false, c, d, p, q, rfl, ⟨hi.p, hv.p⟩, ⟨hi.ba.le (by omega), hi.bb.le (by omega), hv.ba.le (by omega), hv.bb.le (by omega)⟩, fun p1 q1 h1 => ?_⟩
        have bu : Bd (N + n + 1) (c * q - p * d) := Bd.sub (hi.ba.mul hv.bb) (hv.ba.mul hi.bb) (n := N + n + 1) (by omega) (by omega)
        have bv : Bd (N + n + 1) (q * d) := Bd.le (hv.bb.mul hi.bb) (by omega)
        have nz : q * d ≠ 0 := Int.mul_ne_zero (show q ≠ 0 by have := hv.p; omega) (show d ≠ 0 by have := hi.p; omega)
        refine wb_cons <| ws_set 2 sc.nd <| we_call FP (hr.mono (by decide)) <| wa_cons <| we_sub <| we_mul <| we_ix <| we_var 5 rfl <| we_int <| ixn 0 rfl <| we_ix <| we_var 2 rfl <| we_int <| ixn 1 rfl <| i2 <| And.intro (hi.ba.mulW hv.bb (by omega)) <| we_mul <| we_ix <| we_var 2 rfl <| we_int <| ixn 0 rfl <| we_ix <| we_var 5 rfl <| we_int <| ixn 1 rfl <| i2 <| And.intro (hv.ba.mulW hi.bb (by omega)) <| i2 <| wa_cons <| we_mul <| we_ix <| we_var 2 rfl <| we_int <| ixn 1 rfl <| we_ix <| we_var 5 rfl <| we_int <| ixn 1 rfl <| i2 <| And.intro (hv.bb.mulW hi.bb (by omega)) <| wa_nil <| ⟨_, _, rfl, nz, bu.le (by omega), bv.le (by omega), fun p2 q2 h2 => ?_⟩
        obtain ⟨rfl, rfl⟩ := h1.uniq h2 (by ac_rfl) (by first | exact nz | (rw [Int.mul_comm]; exact nz)) nz
        exact wb_nil <| upto ⟨p1, q1, h2.pr bu bv, rfl⟩
      refine wb_one <| ws_if (Vw.refl _) <| wt_eq <| we_ix <| we_var 1 rfl <| we_var 4 rfl <| ixa (atI_nat (get_ints es)) <| we_int <| fe rfl <| ⟨fun hb => ?_, fun hb => ?_⟩
      · refine wb_cons <| ws_set 3 sc.nd <| we_call F3 (hr.mono (by decide)) <| wa_cons <| we_var 3 rfl <| wa_cons <| we_var 5 rfl <| wa_nil <| ⟨false, false, p, q, c, d, rfl, ⟨hv.p, hi.p⟩, ⟨hv.ba.le (by omega), hv.bb.le (by omega), hi.ba.le (by omega), hi.bb.le (by omega)⟩, fun p1 q1 h1 => ?_⟩
        have bu : Bd (N + n + 1) (p * c) := Bd.le (hv.ba.mul hi.ba) (n := N + n + 1) (by omega)
        have bv : Bd (N + n + 1) (q * d) := Bd.le (hv.bb.mul hi.bb) (by omega)
        have nz : q * d ≠ 0 := Int.mul_ne_zero (show q ≠ 0 by have := hv.p; omega) (show d ≠ 0 by have := hi.p; omega)
        refine wb_cons <| ws_set 2 sc.nd <| we_call FP (hr.mono (by decide)) <| wa_cons <| we_mul <| we_ix <| we_var 2 rfl <| we_int <| ixn 0 rfl <| we_ix <| we_var 5 rfl <| we_int <| ixn 0 rfl <| i2 <| And.intro (hv.ba.mulW hi.ba (by omega)) <| wa_cons <| we_mul <| we_ix <| we_var 2 rfl <| we_int <| ixn 1 rfl <| we_ix <| we_var 5 rfl <| we_int <| ixn 1 rfl <| i2 <| And.intro (hv.bb.mulW hi.bb (by omega)) <| wa_nil <| ⟨_, _, rfl, nz, bu.le (by omega), bv.le (by omega), fun p2 q2 h2 => ?_⟩
        obtain ⟨rfl, rfl⟩ := h1.uniq h2 (by ac_rfl) (by first | exact nz | (rw [Int.mul_comm]; exact nz)) nz
        exact wb_nil <| upto ⟨p1, q1, h2.pr bu bv, rfl⟩
      refine wb_one <| ws_if (Vw.refl _) <| wt_w <| ww_and <| wt_eq <| we_ix <| we_var 1 rfl <| we_var 4 rfl <| ixa (atI_nat (get_ints es)) <| we_int <| fe rfl <| ⟨fun hb => ww_and1 <| wt_ne <| we_ix <| we_var 5 rfl <| we_int <| ixn 0 rfl <| we_int <| fe rfl <| ⟨fun hc => ?_, fun hc => ?_⟩, fun hb => ⟨fun h => (nomatch h), fun _ => ?_⟩⟩
      · have hc0 : c ≠ 0 := fun z => by rw [z] at hc; exact absurd hc (by decide)
        refine wb_cons <| ws_set 3 sc.nd <| we_call F4 (hr.mono (by decide)) <| wa_cons <| we_var 3 rfl <| wa_cons <| we_var 5 rfl <| wa_nil <| ⟨false, false, p, q, c, d, rfl, ⟨hv.p, hi.p⟩, ⟨hv.ba.le (by omega), hv.bb.le (by omega), hi.ba.le (by omega), hi.bb.le (by omega)⟩, fun z => absurd z hc0, fun _ => fun p1 q1 h1 => ?_⟩
        have bu : Bd (N + n + 1) (p * d) := Bd.le (hv.ba.mul hi.bb) (n := N + n + 1) (by omega)
        have bv : Bd (N + n + 1) (q * c) := Bd.le (hv.bb.mul hi.ba) (by omega)
        have nz : q * c ≠ 0 := Int.mul_ne_zero (show q ≠ 0 by have := hv.p; omega) hc0
        refine wb_cons <| ws_set 2 sc.nd <| we_call FP (hr.mono (by decide)) <| wa_cons <| we_mul <| we_ix <| we_var 2 rfl <| we_int <| ixn 0 rfl <| we_ix <| we_var 5 rfl <| we_int <| ixn 1 rfl <| i2 <| And.intro (hv.ba.mulW hi.bb (by omega)) <| wa_cons <| we_mul <| we_ix <| we_var 2 rfl <| we_int <| ixn 1 rfl <| we_ix <| we_var 5 rfl <| we_int <| ixn 0 rfl <| i2 <| And.intro (hv.bb.mulW hi.ba (by omega)) <| wa_nil <| ⟨_, _, rfl, nz, bu.le (by omega), bv.le (by omega), fun p2 q2 h2 => ?_⟩
        obtain ⟨rfl, rfl⟩ := h1.uniq h2 (by ac_rfl) (by first | exact nz | (rw [Int.mul_comm]; exact nz)) nz
        exact wb_nil <| upto ⟨p1, q1, h2.pr bu bv, rfl⟩
      all_goals refine wb_one <| ws_if (Vw.refl _) <| wt_w <| ww_and <| wt_eq <| we_ix <| we_var 1 rfl <| we_var 4 rfl <| ixa (atI_nat (get_ints es)) <| we_int <| fe rfl <| ⟨fun hb => ww_and1 <| wt_ne <| we_ix <| we_var 2 rfl <| we_int <| ixn 0 rfl <| we_int <| fe rfl <| ⟨fun hp => ?_, fun hp => ?_⟩, fun hb => ⟨fun h => (nomatch h), fun _ => ?_⟩⟩
      · have hp0 : p ≠ 0 := fun z => by rw [z] at hp; exact absurd hp (by decide)
        refine wb_cons <| ws_set 3 sc.nd <| we_call F4 (hr.mono (by decide)) <| wa_cons <| we_var 5 rfl <| wa_cons <| we_var 3 rfl <| wa_nil <| ⟨false, false, c, d, p, q, rfl, ⟨hi.p, hv.p⟩, ⟨hi.ba.le (by omega), hi.bb.le (by omega), hv.ba.le (by omega), hv.bb.le (by omega)⟩, fun z => absurd z hp0, fun _ => fun p1 q1 h1 => ?_⟩
        have bu : Bd (N + n + 1) (c * q) := Bd.le (hi.ba.mul hv.bb) (n := N + n + 1) (by omega)
        have bv : Bd (N + n + 1) (d * p) := Bd.le (hi.bb.mul hv.ba) (by omega)
        have nz : d * p ≠ 0 := Int.mul_ne_zero (show d ≠ 0 by have := hi.p; omega) hp0
        refine wb_cons <| ws_set 2 sc.nd <| we_call FP (hr.mono (by decide)) <| wa_cons <| we_mul <| we_ix <| we_var 5 rfl <| we_int <| ixn 0 rfl <| we_ix <| we_var 2 rfl <| we_int <| ixn 1 rfl <| i2 <| And.intro (hi.ba.mulW hv.bb (by omega)) <| wa_cons <| we_mul <| we_ix <| we_var 5 rfl <| we_int <| ixn 1 rfl <| we_ix <| we_var 2 rfl <| we_int <| ixn 0 rfl <| i2 <| And.intro (hi.bb.mulW hv.ba (by omega)) <| wa_nil <| ⟨_, _, rfl, nz, bu.le (by omega), bv.le (by omega), fun p2 q2 h2 => ?_⟩
        obtain ⟨rfl, rfl⟩ := h1.uniq h2 (by ac_rfl) (by first | exact nz | (rw [Int.mul_comm]; exact nz)) nz
        exact wb_nil <| upto ⟨p1, q1, h2.pr bu bv, rfl⟩
      · refine wb_cons <| ws_set 3 sc.nd <| we_call F2 (hr.mono (by decide)) <| wa_cons <| we_var 3 rfl <| wa_cons <| we_var 5 rfl <| wa_nil <| ⟨false, false, p, q, c, d, rfl, ⟨hv.p, hi.p⟩, ⟨hv.ba.le (by omega), hv.bb.le (by omega), hi.ba.le (by omega), hi.bb.le (by omega)⟩, fun p1 q1 h1 => ?_⟩
        have bu : Bd (N + n + 1) (p * d - c * q) := Bd.sub (hv.ba.mul hi.bb) (hi.ba.mul hv.bb) (n := N + n + 1) (by omega) (by omega)
        have bv : Bd (N + n + 1) (q * d) := Bd.le (hv.bb.mul hi.bb) (by omega)
        have nz : q * d ≠ 0 := Int.mul_ne_zero (show q ≠ 0 by have := hv.p; omega) (show d ≠ 0 by have := hi.p; omega)
        refine wb_cons <| ws_set 2 sc.nd <| we_call FP (hr.mono (by decide)) <| wa_cons <| we_sub <| we_mul <| we_ix <| we_var 2 rfl <| we_int <| ixn 0 rfl <| we_ix <| we_var 5 rfl <| we_int <| ixn 1 rfl <| i2 <| And.intro (hv.ba.mulW hi.bb (by omega)) <| we_mul <| we_ix <| we_var 5 rfl <| we_int <| ixn 0 rfl <| we_ix <| we_var 2 rfl <| we_int <| ixn 1 rfl <| i2 <| And.intro (hi.ba.mulW hv.bb (by omega)) <| i2 <| wa_cons <| we_mul <| we_ix <| we_var 2 rfl <| we_int <| ixn 1 rfl <| we_ix <| we_var 5 rfl <| we_int <| ixn 1 rfl <| i2 <| And.intro (hv.bb.mulW hi.bb (by omega)) <| wa_nil <| ⟨_, _, rfl, nz, bu.le (by omega), bv.le (by omega), fun p2 q2 h2 => ?_⟩
        obtain ⟨rfl, rfl⟩ := h1.uniq h2 (by ac_rfl) (by first | exact nz | (rw [Int.mul_comm]; exact nz)) nz
        exact wb_nil <| upto ⟨p1, q1, h2.pr bu bv, rfl⟩
      · refine wb_cons <| ws_set 3 sc.nd <| we_call F2 (hr.mono (by decide)) <| wa_cons <| we_var 3 rfl <| wa_cons <| we_var 5 rfl <| wa_nil <| ⟨false, false, p, q, c, d, rfl, ⟨hv.p, hi.p⟩, ⟨hv.ba.le (by omega), hv.bb.le (by omega), hi.ba.le (by omega), hi.bb.le (by omega)⟩, fun p1 q1 h1 => ?_⟩
        have bu : Bd (N + n + 1) (p * d - c * q) := Bd.sub (hv.ba.mul hi.bb) (hi.ba.mul hv.bb) (n := N + n + 1) (by omega) (by omega)
        have bv : Bd (N + n + 1) (q * d) := Bd.le (hv.bb.mul hi.bb) (by omega)
        have nz : q * d ≠ 0 := Int.mul_ne_zero (show q ≠ 0 by have := hv.p; omega) (show d ≠ 0 by have := hi.p; omega)
        refine wb_cons <| ws_set 2 sc.nd <| we_call FP (hr.mono (by decide)) <| wa_cons <| we_sub <| we_mul <| we_ix <| we_var 2 rfl <| we_int <| ixn 0 rfl <| we_ix <| we_var 5 rfl <| we_int <| ixn 1 rfl <| i2 <| And.intro (hv.ba.mulW hi.bb (by omega)) <| we_mul <| we_ix <| we_var 5 rfl <| we_int <| ixn 0 rfl <| we_ix <| we_var 2 rfl <| we_int <| ixn 1 rfl <| i2 <| And.intro (hi.ba.mulW hv.bb (by omega)) <| i2 <| wa_cons <| we_mul <| we_ix <| we_var 2 rfl <| we_int <| ixn 1 rfl <| we_ix <| we_var 5 rfl <| we_int <| ixn 1 rfl <| i2 <| And.intro (hv.bb.mulW hi.bb (by omega)) <| wa_nil <| ⟨_, _, rfl, nz, bu.le (by omega), bv.le (by omega), fun p2 q2 h2 => ?_⟩
        obtain ⟨rfl, rfl⟩ := h1.uniq h2 (by ac_rfl) (by first | exact nz | (rw [Int.mul_comm]; exact nz)) nz
        exact wb_nil <| upto ⟨p1, q1, h2.pr bu bv, rfl⟩
      · have hp0 : p ≠ 0 := fun z => by rw [z] at hp; exact absurd hp (by decide)
        refine wb_cons <| ws_set 3 sc.nd <| we_call F4 (hr.mono (by decide)) <| wa_cons <| we_var 5 rfl <| wa_cons <| we_var 3 rfl <| wa_nil <| ⟨false, false, c, d, p, q, rfl, ⟨hi.p, hv.p⟩, ⟨hi.ba.le (by omega), hi.bb.le (by omega), hv.ba.le (by omega), hv.bb.le (by omega)⟩, fun z => absurd z hp0, fun _ => fun p1 q1 h1 => ?_⟩
        have bu : Bd (N + n + 1) (c * q) := Bd.le (hi.ba.mul hv.bb) (n := N + n + 1) (by omega)
        have bv : Bd (N + n + 1) (d * p) := Bd.le (hi.bb.mul hv.ba) (by omega)
        have nz : d * p ≠ 0 := Int.mul_ne_zero (show d ≠ 0 by have := hi.p; omega) hp0
        refine wb_cons <| ws_set 2 sc.nd <| we_call FP (hr.mono (by decide)) <| wa_cons <| we_mul <| we_ix <| we_var 5 rfl <| we_int <| ixn 0 rfl <| we_ix <| we_var 2 rfl <| we_int <| ixn 1 rfl <| i2 <| And.intro (hi.ba.mulW hv.bb (by omega)) <| wa_cons <| we_mul <| we_ix <| we_var 5 rfl <| we_int <| ixn 1 rfl <| we_ix <| we_var 2 rfl <| we_int <| ixn 0 rfl <| i2 <| And.intro (hi.bb.mulW hv.ba (by omega)) <| wa_nil <| ⟨_, _, rfl, nz, bu.le (by omega), bv.le (by omega), fun p2 q2 h2 => ?_⟩
        obtain ⟨rfl, rfl⟩ := h1.uniq h2 (by ac_rfl) (by first | exact nz | (rw [Int.mul_comm]; exact nz)) nz
        exact wb_nil <| upto ⟨p1, q1, h2.pr bu bv, rfl⟩
      · refine wb_cons <| ws_set 3 sc.nd <| we_call F2 (hr.mono (by decide)) <| wa_cons <| we_var 3 rfl <| wa_cons <| we_var 5 rfl <| wa_nil <| ⟨false, false, p, q, c, d, rfl, ⟨hv.p, hi.p⟩, ⟨hv.ba.le (by omega), hv.bb.le (by omega), hi.ba.le (by omega), hi.bb.le (by omega)⟩, fun p1 q1 h1 => ?_⟩
        have bu : Bd (N + n + 1) (p * d - c * q) := Bd.sub (hv.ba.mul hi.bb) (hi.ba.mul hv.bb) (n := N + n + 1) (by omega) (by omega)
        have bv : Bd (N + n + 1) (q * d) := Bd.le (hv.bb.mul hi.bb) (by omega)
        have nz : q * d ≠ 0 := Int.mul_ne_zero (show q ≠ 0 by have := hv.p; omega) (show d ≠ 0 by have := hi.p; omega)
        refine wb_cons <| ws_set 2 sc.nd <| we_call FP (hr.mono (by decide)) <| wa_cons <| we_sub <| we_mul <| we_ix <| we_var 2 rfl <| we_int <| ixn 0 rfl <| we_ix <| we_var 5 rfl <| we_int <| ixn 1 rfl <| i2 <| And.intro (hv.ba.mulW hi.bb (by omega)) <| we_mul <| we_ix <| we_var 5 rfl <| we_int <| ixn 0 rfl <| we_ix <| we_var 2 rfl <| we_int <| ixn 1 rfl <| i2 <| And.intro (hi.ba.mulW hv.bb (by omega)) <| i2 <| wa_cons <| we_mul <| we_ix <| we_var 2 rfl <| we_int <| ixn 1 rfl <| we_ix <| we_var 5 rfl <| we_int <| ixn 1 rfl <| i2 <| And.intro (hv.bb.mulW hi.bb (by omega)) <| wa_nil <| ⟨_, _, rfl, nz, bu.le (by omega), bv.le (by omega), fun p2 q2 h2 => ?_⟩
        obtain ⟨rfl, rfl⟩ := h1.uniq h2 (by ac_rfl) (by first | exact nz | (rw [Int.mul_comm]; exact nz)) nz
        exact wb_nil <| upto ⟨p1, q1, h2.pr bu bv, rfl⟩
      · refine wb_cons <| ws_set 3 sc.nd <| we_call F2 (hr.mono (by decide)) <| wa_cons <| we_var 3 rfl <| wa_cons <| we_var 5 rfl <| wa_nil <| ⟨false, false, p, q, c, d, rfl, ⟨hv.p, hi.p⟩, ⟨hv.ba.le (by omega), hv.bb.le (by omega), hi.ba.le (by omega), hi.bb.le (by omega)⟩, fun p1 q1 h1 => ?_⟩
        have bu : Bd (N + n + 1) (p * d - c * q) := Bd.sub (hv.ba.mul hi.bb) (hi.ba.mul hv.bb) (n := N + n + 1) (by omega) (by omega)
        have bv : Bd (N + n + 1) (q * d) := Bd.le (hv.bb.mul hi.bb) (by omega)
        have nz : q * d ≠ 0 := Int.mul_ne_zero (show q ≠ 0 by have := hv.p; omega) (show d ≠ 0 by have := hi.p; omega)
        refine wb_cons <| ws_set 2 sc.nd <| we_call FP (hr.mono (by decide)) <| wa_cons <| we_sub <| we_mul <| we_ix <| we_var 2 rfl <| we_int <| ixn 0 rfl <| we_ix <| we_var 5 rfl <| we_int <| ixn 1 rfl <| i2 <| And.intro (hv.ba.mulW hi.bb (by omega)) <| we_mul <| we_ix <| we_var 5 rfl <| we_int <| ixn 0 rfl <| we_ix <| we_var 2 rfl <| we_int <| ixn 1 rfl <| i2 <| And.intro (hi.ba.mulW hv.bb (by omega)) <| i2 <| wa_cons <| we_mul <| we_ix <| we_var 2 rfl <| we_int <| ixn 1 rfl <| we_ix <| we_var 5 rfl <| we_int <| ixn 1 rfl <| i2 <| And.intro (hv.bb.mulW hi.bb (by omega)) <| wa_nil <| ⟨_, _, rfl, nz, bu.le (by omega), bv.le (by omega), fun p2 q2 h2 => ?_⟩
        obtain ⟨rfl, rfl⟩ := h1.uniq h2 (by ac_rfl) (by first | exact nz | (rw [Int.mul_comm]; exact nz)) nz
        exact wb_nil <| upto ⟨p1, q1, h2.pr bu bv, rfl⟩
    obtain ⟨p, q, hv, rfl⟩ := hM
    refine wb_cons <| ws_if (Vw.refl _) <| wt_not <| wt_val <| we_call FJ (hr.mono (by decide)) <| wa_cons <| we_var 3 rfl <| wa_cons <| we_ix <| we_var 2 rfl <| we_int <| ixn 0 rfl <| wa_cons <| we_ix <| we_var 2 rfl <| we_int <| ixn 1 rfl <| wa_nil <| ⟨p, q, p, q, rfl, hv.self, hv.ba.le (by omega), hv.bb.le (by omega), b1 <| ⟨fun hb => (nomatch hb), fun hb => wb_nil ?_⟩⟩
    exact wb_nil ⟨_, .keep <| .keep <| .keep <| .keep <| .drop <| .drop <| .nil, p, q, hv, rfl⟩
  · obtain ⟨p, q, hv, rfl⟩ := hI
    exact wb_cons <| ws_ret (Vw.refl _) <| we_bl hk
end
end K00
set_option Elab.async false
set_option linter.all false
set_option maxRecDepth 100000
set_option maxHeartbeats 4000000
set_option pp.maxSteps 1500
set_option exponentiation.threshold 20000
namespace K00
open PySem PySem.Spec PyProof.Rows L2 DL
section
variable {P : Program} {w : World} {K : PySem.W.Frag} {mg : Str → Option Value} {base : Heap} {f CZ CM : Addr} {fd : FuncData}
/-! ### _law_pool -/
abbrev s__law_pool : Stmt := top 30
theorem sc__law_pool : FnScope ["script", "many", "most", "kinds", "pool", "k", "up", "down", "made", "first"] ["script", "many", "most"] (defScope s__law_pool) := ⟨rfl, rfl, rfl, by decide +kernel, rfl, by decide +kernel, by decide +kernel⟩
theorem rep_int (n : Nat) (x : Int) : (List.replicate ((n : Nat) : Int).toNat [D.int x]).flatten = (List.replicate n x).map D.int := by
  rw [Int.toNat_natCast]
  induction n with
  | zero => rfl
  | succ n ih => rw [List.replicate_succ, List.flatten_cons, ih]; rfl
theorem Pr.neg {n : Nat} {a b : Int} (h : Pr n a b) : Pr n (-a) b := ⟨h.p, by rw [Int.natAbs_neg]; exact h.g, h.ba.neg, h.bb⟩
theorem pr01 (n : Nat) : Pr (n + 1) 0 1 := ⟨by decide, by decide, bd0 _, bd1 _⟩
def PrD (n : Nat) (d : D) : Prop := ∃ a b, d = pr false a b ∧ Pr n a b
def T_pool : DSp := fun ds kk _ => ∃ (ns : List Int) (mn n : Nat) (m : Int), ds = [.scr ns, .int (mn : Int), .int m] ∧ mn ≤ 5 ∧ 1 ≤ m ∧ Bd (n + 1) m ∧ n < 2000 ∧ ∀ ps : List (Int × Int), ps.length = mn → (∀ x ∈ ps, Pr (n + 1) x.1 x.2) → kk (.ow (.lst (ps.map prD)))
theorem ok_pool (F : FD K "_law_pool" s__law_pool [] f fd) (M : Bi mg) (FC : Fn P w K mg base 1 "_law_cell" ["script", "k"] T_cell []) (FD_ : Fn P w K mg base 1 "_law_digits" ["cell", "sizes"] T_digits []) (FN : Fn P w K mg base 2 "_law_number" ["cell", "most"] T_number []) (FP : Fn P w K mg base 2 "_law_pair" ["up", "down"] T_pair []) :
    FnOk P w K mg base (L2.CX P w) 3 f fd ["script", "many", "most"] (spD K T_pool) := by
  have sc := sc__law_pool
  refine fn_ok F sc (by decide) (fun ds kk xx h => by obtain ⟨_, _, _, _, rfl, _⟩ := h; rfl) fun cdv A outer s H E ds kk xx hr hT hx => ?_
  obtain ⟨ns, mn, n, m, rfl, hmn, pm, bm, hn, hk⟩ := hT
  refine wb_cons <| ws_set 3 sc.nd <| we_call FD_ (hr.mono (by decide)) <| wa_cons <| we_call FC (hr.mono (by decide)) <| wa_cons <| we_var 0 rfl <| wa_cons <| we_int <| wa_nil <| ⟨ns, 1, rfl, by decide, by decide, fun c1 => ?_⟩
  refine wa_cons <| we_new <| wo_rep <| wo_lst <| wa_cons <| we_int <| wa_nil <| And.intro lok <| we_var 1 rfl <| rep (show _ ∧ _ ∧ 1 * ((mn : Int).toNat) ≤ 100000 from ⟨by omega, by omega, by omega⟩) <| wa_nil <| ⟨c1, true, List.replicate mn 10, by rw [← rep_int]; rfl, by rw [List.length_replicate]; omega, fun s hs => by rw [(List.mem_replicate.mp hs).2]; decide, fun r hr' => ?_⟩
  have hrl : r.length = mn := by rw [hr'.1, List.length_replicate]
  have hg : ∀ j : Nat, j < mn → ∃ x, r[j]? = some x ∧ 0 ≤ x ∧ x < 10 := fun j hj => ⟨_, List.getElem?_eq_getElem (show j < r.length by omega), hr'.2 j _ 10 (List.getElem?_eq_getElem (by omega)) (by rw [List.getElem?_replicate, if_pos hj])⟩
  refine wb_cons <| ws_setO 4 sc.nd <| wo_lst <| wa_nil <| And.intro lok <| ?_
  refine wb_cons <| ws_forR M.range (passes_of rfl) rfl (Vw.refl _) (fun i δ => ∃ ps : List (Int × Int), ps.length = i ∧ (∀ x ∈ ps, Pr (n + 1) x.1 x.2) ∧ δ = [.sh (.scr ns), .sh (.int (mn : Int)), .sh (.int m), .sh (.sq true (r.map .int)), .ow (.lst (ps.map prD)), .no, .no, .no, .no, .no]) <| wa_cons <| we_var 1 rfl <| wa_nil <| a1 <| i1 <| ⟨by omega, ⟨_, Vw.refl _, [], rfl, (fun x hx => by cases hx), rfl⟩, fun i δ1 hi hI => wg_name 5 sc.nd ?_, fun δ1 hI => ?_⟩
  · obtain ⟨ps, hpl, hps, rfl⟩ := hI
    have hi' : i < mn := by omega
    obtain ⟨kd, ek, k0, k1⟩ := hg i hi'
    refine wb_cons <| ws_set 6 sc.nd <| we_call FN (hr.mono (by decide)) <| wa_cons <| we_call FC (hr.mono (by decide)) <| wa_cons <| we_var 0 rfl <| wa_cons <| we_add <| we_int <| we_mul <| we_int <| we_var 5 rfl <| i2 <| And.intro (mul64 (by decide) (by omega)) <| i2 <| wa_nil <| ⟨ns, _, rfl, by omega, by omega, fun c2 => ?_⟩
    refine wa_cons <| we_var 2 rfl <| wa_nil <| ⟨c2, m, rfl, by omega, fun u hu => ?_⟩
    refine wb_cons <| ws_set 7 sc.nd <| we_add <| we_int <| we_abs M.abs <| wa_cons <| we_call FN (hr.mono (by decide)) <| wa_cons <| we_call FC (hr.mono (by decide)) <| wa_cons <| we_var 0 rfl <| wa_cons <| we_add <| we_int <| we_mul <| we_int <| we_var 5 rfl <| i2 <| And.intro (mul64 (by decide) (by omega)) <| i2 <| wa_nil <| ⟨ns, _, rfl, by omega, by omega, fun c3 => ?_⟩
    refine wa_cons <| we_sub <| we_var 2 rfl <| we_int <| i2 <| wa_nil <| ⟨c3, m - 1, rfl, by omega, fun v0 hv0 => ?_⟩
    refine wa_nil <| a1 <| i1 <| i2 <| ?_
    have bu : Bd (n + 1) u := Bd.of_le bm hu
    have bv : Bd (n + 1) (1 + ((v0.natAbs : Nat) : Int)) := Bd.of_le bm (by omega)
    have pv' : 1 ≤ 1 + ((v0.natAbs : Nat) : Int) := by omega
    generalize 1 + ((v0.natAbs : Nat) : Int) = v at *
    refine wb_cons <| ws_set 8 sc.nd <| we_call FP (hr.mono (by decide)) <| wa_cons <| we_var 6 rfl <| wa_cons <| we_var 7 rfl <| wa_nil <| ⟨u, v, rfl, by omega, bu.le (by omega), bv.le (by omega), fun p q hR => ?_⟩
    have h0 : Pr (n + 1) p q := hR.pr bu bv
    refine wb_ifj (fun δ => ∃ a b, Pr (n + 1) a b ∧ δ = [.sh (.scr ns), .sh (.int (mn : Int)), .sh (.int m), .sh (.sq true (r.map .int)), .ow (.lst (ps.map prD)), .sh (.int i), .sh (.int u), .sh (.int v), .sh (pr false a b), .no]) (Vw.refl _) (fun δ1 hM => ?_) <| wt_w <| ww_and <| wt_gt <| we_var 5 rfl <| we_int <| i2 <| ⟨fun hb => ?_, fun hb => ⟨fun h => (nomatch h), fun _ => wb_nil <| upto ⟨p, q, h0, rfl⟩⟩⟩
    rotate_left
    · refine ww_and1 <| wt_gt <| we_ix <| we_var 3 rfl <| we_var 5 rfl <| ixa (atI_nat (get_ints ek)) <| we_int <| i2 <| ⟨fun hc => ?_, fun hc => wb_nil <| upto ⟨p, q, h0, rfl⟩⟩
      have hb := of_decide_eq_true hb
      have hc := of_decide_eq_true hc
      obtain ⟨x0, e0⟩ : ∃ x, ps[0]? = some x := ⟨_, List.getElem?_eq_getElem (show 0 < ps.length by omega)⟩
      have hx0 := hps x0 (List.mem_of_getElem? e0)
      obtain ⟨a, b⟩ := x0
      have hx0 : Pr (n + 1) a b := hx0
      have e0' : (ps.map prD)[0]? = some (pr false a b) := by rw [List.getElem?_map, e0]; rfl
      refine wb_cons <| ws_setIx 9 4 sc.nd rfl (Vw.refl _) <| we_int <| ⟨0, _, rfl, atI_nat (j := 0) e0', ?_⟩
      refine wb_cons <| ws_set 8 sc.nd <| we_ix <| we_new <| wo_lst <| wa_cons <| we_tup <| wa_cons <| we_int <| wa_cons <| we_int <| wa_nil <| And.intro lok <| wa_cons <| we_var 9 rfl <| wa_cons <| we_tup <| wa_cons <| we_neg <| we_ix <| we_var 9 rfl <| we_int <| ixn 0 rfl <| i1 <| wa_cons <| we_ix <| we_var 9 rfl <| we_int <| ixn 1 rfl <| wa_nil <| And.intro lok <| wa_cons <| we_var 8 rfl <| wa_cons <| we_call FP (hr.mono (by decide)) <| wa_cons <| we_var 6 rfl <| wa_cons <| we_ix <| we_var 9 rfl <| we_int <| ixn 1 rfl <| wa_nil <| ⟨u, b, rfl, by have := hx0.p; omega, bu.le (by omega), hx0.bb.le (by omega), fun p2 q2 hR2 => ?_⟩
      obtain ⟨dm, hat, a3, b3, rfl, h3⟩ := at_of (ds := [pr false 0 1, pr false a b, pr false (-a) b, pr false p q, pr false p2 q2]) (i := kd - 5) (Q := PrD (n + 1)) (by omega) (show kd - 5 < 5 by omega) (by
        intro d hd
        simp only [List.mem_cons, List.not_mem_nil, or_false] at hd
        rcases hd with rfl | rfl | rfl | rfl | rfl
        · exact ⟨_, _, rfl, pr01 n⟩
        · exact ⟨_, _, rfl, hx0⟩
        · exact ⟨_, _, rfl, hx0.neg⟩
        · exact ⟨_, _, rfl, h0⟩
        · exact ⟨_, _, rfl, hR2.pr bu hx0.bb⟩)
      refine wa_nil <| And.intro lok <| we_sub <| we_ix <| we_var 3 rfl <| we_var 5 rfl <| ixa (atI_nat (get_ints ek)) <| we_int <| i2 <| ixa hat <| ?_
      refine wb_one <| ws_if (Vw.refl _) <| wt_w <| ww_and <| wt_eq <| we_ix <| we_var 3 rfl <| we_var 5 rfl <| ixa (atI_nat (get_ints ek)) <| we_int <| fe rfl <| ⟨fun hb => ?_, fun hb => ⟨fun h => (nomatch h), fun _ => wb_nil ⟨_, .keep <| .keep <| .keep <| .keep <| .keep <| .keep <| .keep <| .keep <| .keep <| .drop <| .nil, a3, b3, h3, rfl⟩⟩⟩
      refine ww_and1 <| wt_ne <| we_ix <| we_var 9 rfl <| we_int <| ixn 0 rfl <| we_int <| fe rfl <| ⟨fun hz => ?_, fun hb => wb_nil ⟨_, .keep <| .keep <| .keep <| .keep <| .keep <| .keep <| .keep <| .keep <| .keep <| .drop <| .nil, a3, b3, h3, rfl⟩⟩
      have ha : a ≠ 0 := fun z => by rw [z] at hz; exact absurd hz (by decide)
      refine wb_cons <| ws_set 8 sc.nd <| we_call FP (hr.mono (by decide)) <| wa_cons <| we_ix <| we_var 9 rfl <| we_int <| ixn 1 rfl <| wa_cons <| we_ix <| we_var 9 rfl <| we_int <| ixn 0 rfl <| wa_nil <| ⟨b, a, rfl, ha, hx0.bb.le (by omega), hx0.ba.le (by omega), fun p4 q4 hR4 => ?_⟩
      exact wb_nil ⟨_, .keep <| .keep <| .keep <| .keep <| .keep <| .keep <| .keep <| .keep <| .keep <| .drop <| .nil, p4, q4, hR4.pr hx0.bb hx0.ba, rfl⟩
    obtain ⟨a, b, hab, rfl⟩ := hM
    refine wb_cons <| ws_append 4 rfl (by rw [List.length_map]; omega) <| we_var 8 rfl <| ?_
    refine wb_nil ⟨_, .keep <| .keep <| .keep <| .keep <| .keep <| .drop <| .drop <| .drop <| .drop <| .drop <| .nil, ps ++ [(a, b)], by rw [List.length_append, hpl]; rfl, ?_, by rw [List.map_append]; rfl⟩
    intro x hx
    rcases List.mem_append.mp hx with z | z
    · exact hps x z
    · obtain rfl : x = (a, b) := by simpa using z
      exact hab
  · obtain ⟨ps, hpl, hps, rfl⟩ := hI
    exact wb_cons <| ws_retOwn 4 rfl <| hk ps (by omega) hps
end
end K00
set_option Elab.async false
set_option linter.all false
set_option maxRecDepth 100000
set_option maxHeartbeats 4000000
set_option pp.maxSteps 1500
set_option exponentiation.threshold 20000
namespace K00
open PySem PySem.Spec PyProof.Rows L2 DL
section
variable {P : Program} {w : World} {K : PySem.W.Frag} {mg : Str → Option Value} {base : Heap} {f CZ CM : Addr} {fd : FuncData}
/-! ### law -/
abbrev s_law : Stmt := top 37
theorem sc_law : FnScope ["script", "head", "large", "most", "pool", "hows", "k", "j", "steps"] ["script"] (defScope s_law) := ⟨rfl, rfl, rfl, by decide +kernel, rfl, by decide +kernel, by decide +kernel⟩
def T_law : DSp := fun ds kk _ => ∃ ns : List Int, ds = [.scr ns] ∧ kk (.sh (.bl true))
theorem small60 : Bd (199 + 1) (10 ^ 60 - 1 : Int) := show ((10 ^ 60 - 1 : Int)).natAbs < 2 ^ 200 by decide +kernel
theorem ok_law (F : FD K "law" s_law [] f fd) (M : Bi mg) (FC : Fn P w K mg base 1 "_law_cell" ["script", "k"] T_cell []) (FD_ : Fn P w K mg base 1 "_law_digits" ["cell", "sizes"] T_digits []) (FL : Fn P w K mg base 1 "_law_limit" ["turns"] T_limit []) (FPo : Fn P w K mg base 3 "_law_pool" ["script", "many", "most"] T_pool [])
    (FM : Fn P w K mg base 6 "_law_made" ["script", "large"] T_made []) (FV : Fn P w K mg base 6 "_law_five" ["one", "two", "how"] T_five []) (FCh : Fn P w K mg base 6 "_law_chain" ["pool", "steps"] T_chain []) (FX : Fn P w K mg base 6 "_law_changed" ["one", "two"] T_changed []) (FR : Fn P w K mg base 5 "_law_refused" ["kind", "one", "two", "due"] T_refused []) :
    FnOk P w K mg base (L2.CX P w) 7 f fd ["script"] (spD K T_law) := by
  have sc := sc_law
  refine fn_ok F sc (by decide) (fun ds kk xx h => by obtain ⟨_, rfl, _⟩ := h; rfl) fun cdv A outer s H E ds kk xx hr hT hx => ?_
  obtain ⟨ns, rfl, hk⟩ := hT
  refine wb_cons <| ws_set 1 sc.nd <| we_call FD_ (hr.mono (by decide)) <| wa_cons <| we_call FC (hr.mono (by decide)) <| wa_cons <| we_var 0 rfl <| wa_cons <| we_int <| wa_nil <| ⟨ns, 0, rfl, by decide, by decide, fun c0 => ?_⟩
  refine wa_cons <| we_new <| wo_lst <| wa_cons <| we_int <| wa_cons <| we_int <| wa_nil <| And.intro lok <| wa_nil <| ⟨c0, true, [8, 4], rfl, by decide, by decide, fun hd hhd => ?_⟩
  obtain ⟨h0, e0⟩ : ∃ x, hd[0]? = some x := ⟨_, List.getElem?_eq_getElem (show 0 < hd.length by rw [hhd.1]; decide)⟩
  obtain ⟨h1, e1, h10, h11⟩ : ∃ x, hd[1]? = some x ∧ 0 ≤ x ∧ x < 4 := ⟨_, List.getElem?_eq_getElem (show 1 < hd.length by rw [hhd.1]; decide), hhd.2 1 _ 4 (List.getElem?_eq_getElem (show 1 < hd.length by rw [hhd.1]; decide)) rfl⟩
  refine wb_cons <| ws_set 2 sc.nd <| we_eq <| we_ix <| we_var 1 rfl <| we_int <| ixn 0 (get_ints e0) <| we_int <| fe rfl <| ?_
  generalize decide (h0 = 5) = large
  refine wb_cons <| ws_set 3 sc.nd <| we_up (fun x => ∃ (n : Nat) (m : Int), x = .int m ∧ 1 ≤ m ∧ Bd (n + 1) m ∧ n < 1700 ∧ (large = false → n < 500)) (fun x hM => ?_) <| we_if <| wt_tru <| we_var 2 rfl <| tr rfl <| ⟨fun hb => we_sub <| we_call FL (hr.mono (by decide)) <| wa_cons <| we_int <| wa_nil <| ⟨3, rfl, by decide, we_int <| i2 <| ⟨1599, _, rfl, (lm_lim (n := 3) (by decide)).1, (lm_lim (n := 3) (by decide)).2, by decide, fun z => absurd (hb.symm.trans z) (by decide)⟩⟩, fun hb => we_sub <| we_pow <| we_int <| we_int <| i2 <| And.intro (by decide) <| we_int <| i2 <| ⟨199, _, rfl, by decide, small60, by decide, fun _ => by decide⟩⟩
  obtain ⟨n, m, rfl, pm, bm, hn, hn2⟩ := hM
  refine wb_cons <| ws_set 4 sc.nd <| we_call FPo (hr.mono (by decide)) <| wa_cons <| we_var 0 rfl <| wa_cons <| we_up (fun x => ∃ mn : Nat, x = .int (mn : Int) ∧ 2 ≤ mn ∧ mn ≤ 5) (fun x hM => ?_) <| we_if <| wt_tru <| we_var 2 rfl <| tr rfl <| ⟨fun hb => we_int <| ⟨2, rfl, by decide, by decide⟩, fun hb => we_add <| we_int <| we_ix <| we_var 1 rfl <| we_int <| ixn 1 (get_ints e1) <| i2 <| ⟨(2 + h1).toNat, by rw [Int.toNat_of_nonneg (by omega)], by omega, by omega⟩⟩
  obtain ⟨mn, rfl, hmn, hmn'⟩ := hM
  refine wa_cons <| we_var 3 rfl <| wa_nil <| ⟨ns, mn, n, m, rfl, hmn', pm, bm, by omega, fun ps hpl hps => ?_⟩
  have hp : ∀ j : Nat, j < mn → ∃ a b, (ps.map prD)[j]? = some (pr false a b) ∧ Pr (n + 1) a b := fun j hj => by
    have e := List.getElem?_eq_getElem (show j < ps.length by omega)
    exact ⟨_, _, by rw [List.getElem?_map, e]; rfl, hps _ (List.mem_of_getElem? e)⟩
  refine wb_cons <| ws_if (Vw.refl _) <| wt_not <| wt_val <| we_call FM (hr.mono (by decide)) <| wa_cons <| we_var 0 rfl <| wa_cons <| we_var 2 rfl <| wa_nil <| ⟨ns, large, rfl, b1 <| ⟨fun hb => (nomatch hb), fun hb => wb_nil ?_⟩⟩
  refine wb_cons <| ws_set 5 sc.nd <| we_call FD_ (hr.mono (by decide)) <| wa_cons <| we_call FC (hr.mono (by decide)) <| wa_cons <| we_var 0 rfl <| wa_cons <| we_int <| wa_nil <| ⟨ns, 16, rfl, by decide, by decide, fun c16 => ?_⟩
  refine wa_cons <| we_new <| wo_rep <| wo_lst <| wa_cons <| we_int <| wa_nil <| And.intro lok <| we_int <| rep (by decide) <| wa_nil <| ⟨c16, true, List.replicate 25 8, rfl, by decide, by decide, fun hw hhw => ?_⟩
  have hwl : hw.length = 25 := hhw.1
  have hwg : ∀ j : Nat, j < 25 → ∃ x, hw[j]? = some x := fun j hj => ⟨_, List.getElem?_eq_getElem (by omega)⟩
  refine wb_cons <| ws_forR M.range (passes_of rfl) rfl (Vw.refl _) (fun i δ => δ = [.sh (.scr ns), .sh (.sq true (hd.map .int)), .sh (.bl large), .sh (.int m), .sh (.sq true (ps.map prD)), .sh (.sq true (hw.map .int)), .no, .no, .no]) <| wa_cons <| we_len M.len <| wa_cons <| we_var 4 rfl <| wa_nil <| a1 <| sqk <| wa_nil <| a1 <| i1 <| ⟨by rw [List.length_map]; omega, upto rfl, fun i δ1 hi hI => wg_name 6 sc.nd ?_, fun δ1 hI => ?_⟩
  · subst hI
    have hi : i < mn := by rw [List.length_map] at hi; omega
    obtain ⟨a, b, ea, pa⟩ := hp i hi
    refine wb_cons <| ws_forR M.range (passes_of rfl) rfl (Vw.refl _) (fun j δ => δ = [.sh (.scr ns), .sh (.sq true (hd.map .int)), .sh (.bl large), .sh (.int m), .sh (.sq true (ps.map prD)), .sh (.sq true (hw.map .int)), .sh (.int (i : Int)), .no, .no]) <| wa_cons <| we_len M.len <| wa_cons <| we_var 4 rfl <| wa_nil <| a1 <| sqk <| wa_nil <| a1 <| i1 <| ⟨by rw [List.length_map]; omega, upto rfl, fun j δ1 hj hI => wg_name 7 sc.nd ?_, fun δ1 hI => ?_⟩
    · subst hI
      have hj : j < mn := by rw [List.length_map] at hj; omega
      obtain ⟨c, d, ec, pc⟩ := hp j hj
      obtain ⟨h, eh⟩ := hwg (5 * i + j) (by omega)
      refine wb_cons <| ws_if (Vw.refl _) <| wt_not <| wt_val <| we_call FV (hr.mono (by decide)) <| wa_cons <| we_ix <| we_var 4 rfl <| we_var 6 rfl <| ixa (atI_nat ea) <| wa_cons <| we_ix <| we_var 4 rfl <| we_var 7 rfl <| ixa (atI_nat ec) <| wa_cons <| we_ix <| we_var 5 rfl <| we_add <| we_mul <| we_int <| we_var 6 rfl <| i2 <| And.intro (mul64 (by decide) (by omega)) <| we_var 7 rfl <| i2 <| ixa (atI_nat (j := 5 * i + j) (get_ints eh)) <| wa_nil <| ⟨a, b, c, d, h, rfl, pa.le (by omega), pc.le (by omega), b1 <| ⟨fun hb => (nomatch hb), fun hb => wb_nil ?_⟩⟩
      exact wb_nil ⟨_, .keep <| .keep <| .keep <| .keep <| .keep <| .keep <| .keep <| .drop <| .drop <| .nil, rfl⟩
    · subst hI
      exact wb_nil ⟨_, .keep <| .keep <| .keep <| .keep <| .keep <| .keep <| .drop <| .drop <| .drop <| .nil, rfl⟩
  subst hI
  obtain ⟨a, b, ea, pa⟩ := hp 0 (by omega)
  obtain ⟨c, d, ec, pc⟩ := hp 1 (by omega)
  obtain ⟨hw0, ew⟩ := hwg 0 (by decide)
  refine wb_cons <| ws_set 8 sc.nd <| we_call FD_ (hr.mono (by decide)) <| wa_cons <| we_call FC (hr.mono (by decide)) <| wa_cons <| we_var 0 rfl <| wa_cons <| we_int <| wa_nil <| ⟨ns, 17, rfl, by decide, by decide, fun c17 => ?_⟩
  refine wa_cons <| we_new <| wo_rep <| wo_lst <| wa_cons <| we_int <| wa_nil <| And.intro lok <| we_up (fun y => ∃ L : Nat, y = .int (L : Int) ∧ L ≤ 5 ∧ L * (n + 2) ≤ 2900) (fun y hM => ?_) <| we_if <| wt_tru <| we_var 2 rfl <| tr rfl <| ⟨fun hb => we_int <| ⟨1, rfl, by decide, by omega⟩, fun hb => we_int <| ⟨5, rfl, by decide, by have := hn2 hb; omega⟩⟩
  obtain ⟨L, rfl, hL, hL2⟩ := hM
  refine rep (show _ ∧ _ ∧ 1 * ((L : Int).toNat) ≤ 100000 from ⟨by omega, by omega, by omega⟩) <| wa_nil <| ⟨c17, true, List.replicate L 6, by rw [← rep_int]; rfl, by rw [List.length_replicate]; omega, fun s hs => by rw [(List.mem_replicate.mp hs).2]; decide, fun st hst => ?_⟩
  have hsl : st.length = L := by rw [hst.1, List.length_replicate]
  refine wb_cons <| ws_if (Vw.refl _) <| wt_w <| ww_or <| wt_not <| wt_val <| we_call FCh (hr.mono (by decide)) <| wa_cons <| we_var 4 rfl <| wa_cons <| we_var 8 rfl <| wa_nil <| ⟨n + 1, ps, st, rfl, ⟨by omega, by omega⟩, hps, ⟨by rw [hsl]; exact hL2, by omega, by omega⟩, b1 <| ⟨fun hb => ?_, fun hb => (nomatch hb)⟩⟩
  refine ww_or1 <| wt_not <| wt_val <| we_call FX (hr.mono (by decide)) <| wa_cons <| we_ix <| we_var 4 rfl <| we_int <| ixn 0 ea <| wa_cons <| we_ix <| we_var 4 rfl <| we_int <| ixn 1 ec <| wa_nil <| ⟨a, b, c, d, rfl, pa.le (by omega), pc.le (by omega), b1 <| ⟨fun hb => (nomatch hb), fun hb => wb_nil ?_⟩⟩
  refine wb_cons <| ws_if (Vw.refl _) <| wt_w <| ww_or <| wt_not <| wt_val <| we_call FR (hr.mono (by decide)) <| wa_cons <| we_int <| wa_cons <| we_new <| wo_list M.list <| wa_cons <| we_ix <| we_var 4 rfl <| we_int <| ixn 0 ea <| wa_nil <| a1 <| sqk <| wa_cons <| we_tup <| wa_cons <| we_int <| wa_cons <| we_int <| wa_nil <| And.intro lok <| wa_cons <| we_ix <| we_ix <| we_var 4 rfl <| we_int <| ixn 0 ea <| we_int <| ixn 0 rfl <| wa_nil <| ⟨.inr ⟨true, false, a, b, 1, rfl, ⟨pa.p, by decide⟩, pa.ba.le (by omega), pa.bb.le (by omega), bd1 _⟩, b1 <| ⟨fun hb => ?_, fun hb => (nomatch hb)⟩⟩
  refine ww_or1 <| wt_not <| wt_val <| we_call FR (hr.mono (by decide)) <| wa_cons <| we_int <| wa_cons <| we_ix <| we_var 4 rfl <| we_int <| ixn 1 ec <| wa_cons <| we_new <| wo_lst <| wa_cons <| we_int <| wa_cons <| we_int <| wa_nil <| And.intro lok <| wa_cons <| we_ix <| we_ix <| we_var 4 rfl <| we_int <| ixn 1 ec <| we_int <| ixn 0 rfl <| wa_nil <| ⟨.inr ⟨false, true, c, d, 1, rfl, ⟨pc.p, by decide⟩, pc.ba.le (by omega), pc.bb.le (by omega), bd1 _⟩, b1 <| ⟨fun hb => (nomatch hb), fun hb => wb_nil ?_⟩⟩
  refine wb_cons <| ws_ret (Vw.refl _) <| we_and <| we_call FV (hr.mono (by decide)) <| wa_cons <| we_ix <| we_var 4 rfl <| we_int <| ixn 0 ea <| wa_cons <| we_ix <| we_var 4 rfl <| we_int <| ixn 1 ec <| wa_cons <| we_ix <| we_var 5 rfl <| we_int <| ixn 0 (get_ints ew) <| wa_nil <| ⟨a, b, c, d, hw0, rfl, pa.le (by omega), pc.le (by omega), b1 <| ⟨fun hb => ?_, fun hb => (nomatch hb)⟩⟩
  exact we_one <| we_call FV (hr.mono (by decide)) <| wa_cons <| we_ix <| we_var 4 rfl <| we_int <| ixn 1 ec <| wa_cons <| we_ix <| we_var 4 rfl <| we_int <| ixn 1 ec <| wa_cons <| we_int <| wa_nil <| ⟨c, d, c, d, 7, rfl, pc.le (by omega), pc.le (by omega), hk⟩
end
end K00
set_option Elab.async false
set_option linter.all false
set_option maxRecDepth 100000
set_option maxHeartbeats 0
set_option pp.maxSteps 1500
namespace K00
open PySem PySem.Spec PyProof.Rows L2 DL He
/-! ### the head -/
def clsDef (st : Stmt) (i : Nat) : Stmt := match st with
  | .ClassDef _ _ _ b _ _ _ _ _ _ _ => b.getD i (.Pass ⟨0, 0, 0, 0⟩)
  | _ => .Pass ⟨0, 0, 0, 0⟩
def dTop (x : Str) (st : Stmt) (dv : List Dv) : DefD := ⟨(x, none), x, x, defArgs st, defBody st, defScope st, dv, []⟩
abbrev sZ : Stmt := clsDef (top 3) 0
def dZ : DefD := ⟨("ZeroBottom", some "__init__"), "__init__", "ZeroBottom.__init__", defArgs sZ, defBody sZ, defScope sZ, [], []⟩
def fn : List DefD := [dTop "ratio" (top 15) [.int 1], dTop "plus" (top 16) [], dTop "minus" (top 17) [], dTop "times" (top 18) [], dTop "over" (top 19) [], dTop "order" (top 20) [], dTop "_law_whole" (top 22) [], dTop "_law_cell" (top 23) [], dTop "_law_digits" (top 24) [], dTop "_law_gcd" (top 25) [], dTop "_law_is_ratio" (top 26) [], dTop "_law_limit" (top 27) [], dTop "_law_number" (top 28) [], dTop "_law_pair" (top 29) [], dTop "_law_pool" (top 30) [], dTop "_law_just" (top 31) [], dTop "_law_refused" (top 32) [], dTop "_law_five" (top 33) [], dTop "_law_made" (top 34) [], dTop "_law_chain" (top 35) [], dTop "_law_changed" (top 36) [], dTop "law" (top 37) [], dZ]
def fa : List Fa := [.glo "MarksError", .glo "ZeroBottom", .glo "BadName", .glo "BadStart", .glo "Endless", .glo "NoFlow", .glo "NoWorlds", .glo "NoWish", .glo "BadDials", .glo "BadLimit", .glo "BadPay", .glo "BadRatio", .glo "ratio", .glo "plus", .glo "minus", .glo "times", .glo "over", .glo "order", .glo "_law_whole", .glo "_law_cell", .glo "_law_digits", .glo "_law_gcd", .glo "_law_is_ratio", .glo "_law_limit", .glo "_law_number", .glo "_law_pair", .glo "_law_pool", .glo "_law_just", .glo "_law_refused", .glo "_law_five", .glo "_law_made", .glo "_law_chain", .glo "_law_changed", .glo "law", .free "len", .free "range", .free "int", .free "abs", .free "tuple", .free "list", .free "isinstance", .free "bool", .free "sum", .free "ValueError"]
abbrev cZ (K : PySem.W.Frag) : Addr := ga K "ZeroBottom"
abbrev fZ (K : PySem.W.Frag) : Addr := fAd K ("ZeroBottom", some "__init__")
def ex : List (PySem.W.Frag → Bool) := [fun K => oexB K (cZ K), fun K => excqB K (cZ K), fun K => xfB K (cZ K), fun K => eqO (PySem.W.findIn K (.ref (cZ K)) "top") (some none), fun K => decide (PySem.W.exmOne K (.ref (cZ K)) (.ref (ga K "MarksError")) = some true),
  fun K => decide (PySem.W.kitOne K (.ref (cZ K)) (.ref (cZ K)) = some true), fun K => decide (PySem.W.kitOne K (.ref (cZ K)) (.type "ValueError") = some true),
  fun K => decide (PySem.W.kitAny K (.ref (cZ K)) [.ref (ga K "BadDials"), .ref (ga K "BadLimit"), .ref (ga K "BadName"), .ref (ga K "BadPay"), .ref (ga K "BadRatio"), .ref (ga K "BadStart"), .ref (ga K "Endless"), .ref (ga K "NoFlow"), .ref (ga K "NoWish"), .ref (ga K "NoWorlds")] = some false),
  fun K => eqO (PySem.W.findIn K (.ref (cZ K)) "__init__") (some (some (.ref (fZ K)))), fun K => decide (PySem.W.typeIn K (.ref (fZ K)) = some (.type "function")), fun K => eqO (PySem.W.nsIn K mainGlobals "gcd") (some (some (.builtin "math.gcd")))]
abbrev R : PySem.W.OpenRow := PySem.W.OpenLaw.row PySem.Challenge.rw_ledbymarks_k00_ratios
abbrev hk : PySem.W.Hook := hookM 5 fa ex fn
def ob (s : PySem.W.SharedT) : AlD := obsMG 5 fa ex fn (HandSHeadRun.getT s)
theorem ob_eq (s : PySem.W.SharedT) : ob s = hk.obs s.abs := obsMG_eq (HandSHeadRun.getT_eq s)
def loose : List Str := (["MarksError", "ZeroBottom", "BadName", "BadStart", "Endless", "NoFlow", "NoWorlds", "NoWish", "BadDials", "BadLimit", "BadPay", "BadRatio", "ratio", "plus", "minus", "times"] : List Str) ++ (["over", "order", "_law_whole", "_law_cell", "_law_digits", "_law_gcd", "_law_is_ratio", "_law_limit", "_law_number", "_law_pair", "_law_pool", "_law_just", "_law_refused", "_law_five", "_law_made", "_law_chain"] : List Str) ++ (["_law_changed"] : List Str)
theorem run (w : World) : HandSHeadRun.RunEqI R (PySem.W.view R.prog [0, 37]) hk ob 20000 loose w := by
  unfold HandSHeadRun.RunEqI
  kernel_rfl
theorem facts {P : Program} {w : World} {K : PySem.W.Frag} {h : Heap} {mg : Str → Option Value} {f : Addr} (X : K.In h) (G : h.Ns mainGlobals mg) (hfa : mg ("law" : Str) = some (.ref f)) (c : SaysM fa ex fn K) :
    ∃ fd : FuncData, (∀ (s : Shared) (v : Value), BindsTo s fd ⟨[v], []⟩ [("script", v)]) ∧ ∀ base : Heap, FnOk P w K mg base (L2.CX P w) 7 f fd ["script"] (spD K T_law) := by
  obtain ⟨fd15, F15⟩ := c.def_ 0 (d := dTop "ratio" (top 15) [.int 1]) rfl
  obtain ⟨fd16, F16⟩ := c.def_ 1 (d := dTop "plus" (top 16) []) rfl
  obtain ⟨fd17, F17⟩ := c.def_ 2 (d := dTop "minus" (top 17) []) rfl
  obtain ⟨fd18, F18⟩ := c.def_ 3 (d := dTop "times" (top 18) []) rfl
  obtain ⟨fd19, F19⟩ := c.def_ 4 (d := dTop "over" (top 19) []) rfl
  obtain ⟨fd20, F20⟩ := c.def_ 5 (d := dTop "order" (top 20) []) rfl
  obtain ⟨fd22, F22⟩ := c.def_ 6 (d := dTop "_law_whole" (top 22) []) rfl
  obtain ⟨fd23, F23⟩ := c.def_ 7 (d := dTop "_law_cell" (top 23) []) rfl
  obtain ⟨fd24, F24⟩ := c.def_ 8 (d := dTop "_law_digits" (top 24) []) rfl
  obtain ⟨fd25, F25⟩ := c.def_ 9 (d := dTop "_law_gcd" (top 25) []) rfl
  obtain ⟨fd26, F26⟩ := c.def_ 10 (d := dTop "_law_is_ratio" (top 26) []) rfl
  obtain ⟨fd27, F27⟩ := c.def_ 11 (d := dTop "_law_limit" (top 27) []) rfl
  obtain ⟨fd28, F28⟩ := c.def_ 12 (d := dTop "_law_number" (top 28) []) rfl
  obtain ⟨fd29, F29⟩ := c.def_ 13 (d := dTop "_law_pair" (top 29) []) rfl
  obtain ⟨fd30, F30⟩ := c.def_ 14 (d := dTop "_law_pool" (top 30) []) rfl
  obtain ⟨fd31, F31⟩ := c.def_ 15 (d := dTop "_law_just" (top 31) []) rfl
  obtain ⟨fd32, F32⟩ := c.def_ 16 (d := dTop "_law_refused" (top 32) []) rfl
  obtain ⟨fd33, F33⟩ := c.def_ 17 (d := dTop "_law_five" (top 33) []) rfl
  obtain ⟨fd34, F34⟩ := c.def_ 18 (d := dTop "_law_made" (top 34) []) rfl
  obtain ⟨fd35, F35⟩ := c.def_ 19 (d := dTop "_law_chain" (top 35) []) rfl
  obtain ⟨fd36, F36⟩ := c.def_ 20 (d := dTop "_law_changed" (top 36) []) rfl
  obtain ⟨fd37, F37⟩ := c.def_ 21 (d := dTop "law" (top 37) []) rfl
  obtain ⟨fdZ, FZ⟩ := c.def_ 22 (d := dZ) rfl
  have e := hfa.symm.trans (glo_ok X G (c.fact 33 (f := .glo "law") rfl))
  cases e
  have b := FunD.bindsA (ps := ["script"]) F37 (fun _ _ _ _ _ _ us hl => match us, hl with | [_], _ => rfl)
  refine ⟨fd37, fun s v => b s [v] rfl, fun base => ?_⟩
  have M : Bi mg := ⟨(free_ok X G (c.fact 34 (f := .free "len") rfl)), (free_ok X G (c.fact 35 (f := .free "range") rfl)), (free_ok X G (c.fact 36 (f := .free "int") rfl)), (free_ok X G (c.fact 37 (f := .free "abs") rfl)), (free_ok X G (c.fact 38 (f := .free "tuple") rfl)), (free_ok X G (c.fact 39 (f := .free "list") rfl)), (free_ok X G (c.fact 40 (f := .free "isinstance") rfl)), (free_ok X G (c.fact 41 (f := .free "bool") rfl)), (free_ok X G (c.fact 42 (f := .free "sum") rfl))⟩
  have Z : Exc1 P w K mg base 1 "ZeroBottom" "top" (cZ K) := ⟨oexB_ok (c.xt 0 rfl), eqO_ok (c.xt 3 rfl), (glo_ok X G (c.fact 1 (f := .glo "ZeroBottom") rfl)), fZ K, fdZ, ["self", "top"], eqO_ok (c.xt 8 rfl), of_decide_eq_true (c.xt 9 rfl), init1_ok FZ ⟨rfl, rfl, rfl, by decide +kernel, rfl, by decide +kernel, by decide +kernel⟩ (fun _ _ _ _ _ _ => pv 0) (fun _ _ _ _ _ _ => pv 1) (fun _ _ _ _ _ _ => rfl), FZ.bindsN (fun _ _ _ _ _ _ us hl => match us, hl with | [_, _], _ => rfl)⟩
  have T : ErrF K mg (cZ K) (ga K "MarksError") := ⟨(glo_ok X G (c.fact 0 (f := .glo "MarksError") rfl)), of_decide_eq_true (c.xt 4 rfl), excqB_ok (c.xt 1 rfl), xfB_ok (c.xt 2 rfl), of_decide_eq_true (c.xt 5 rfl), (free_ok X G (c.fact 43 (f := .free "ValueError") rfl)), of_decide_eq_true (c.xt 6 rfl), ga K "BadDials", ga K "BadLimit", ga K "BadName", ga K "BadPay", ga K "BadRatio", ga K "BadStart", ga K "Endless", ga K "NoFlow", ga K "NoWish", ga K "NoWorlds", ⟨(glo_ok X G (c.fact 8 (f := .glo "BadDials") rfl)), (glo_ok X G (c.fact 9 (f := .glo "BadLimit") rfl)), (glo_ok X G (c.fact 2 (f := .glo "BadName") rfl)), (glo_ok X G (c.fact 10 (f := .glo "BadPay") rfl)), (glo_ok X G (c.fact 11 (f := .glo "BadRatio") rfl)), (glo_ok X G (c.fact 3 (f := .glo "BadStart") rfl)), (glo_ok X G (c.fact 4 (f := .glo "Endless") rfl)), (glo_ok X G (c.fact 5 (f := .glo "NoFlow") rfl)), (glo_ok X G (c.fact 7 (f := .glo "NoWish") rfl)), (glo_ok X G (c.fact 6 (f := .glo "NoWorlds") rfl))⟩, of_decide_eq_true (c.xt 7 rfl)⟩
  have mgcd : mg "gcd" = some (.builtin "math.gcd") := PySem.W.mg_of X G (eqO_ok (c.xt 10 rfl))
  have f_cell := mk_fn (P := P) (w := w) (base := base) F23 (ok_cell F23 M) (glo_ok X G (c.fact 19 (f := .glo "_law_cell") rfl)) (fun _ _ _ _ _ _ us hl => match us, hl with | [_, _], _ => rfl)
  have f_digits := mk_fn (P := P) (w := w) (base := base) F24 (ok_digits F24 M) (glo_ok X G (c.fact 20 (f := .glo "_law_digits") rfl)) (fun _ _ _ _ _ _ us hl => match us, hl with | [_, _], _ => rfl)
  have f_gcd := mk_fn (P := P) (w := w) (base := base) F25 (ok_gcd F25 M) (glo_ok X G (c.fact 21 (f := .glo "_law_gcd") rfl)) (fun _ _ _ _ _ _ us hl => match us, hl with | [_, _], _ => rfl)
  have f_whole := mk_fn (P := P) (w := w) (base := base) F22 (ok_whole F22 M) (glo_ok X G (c.fact 18 (f := .glo "_law_whole") rfl)) (fun _ _ _ _ _ _ us hl => match us, hl with | [_], _ => rfl)
  have c_whole := mk_fc (base := base) (P := P) (w := w) F22 (okC_whole F22 M) (glo_ok X G (c.fact 18 (f := .glo "_law_whole") rfl)) (fun _ _ _ _ _ _ us hl => match us, hl with | [_], _ => rfl)
  have o_ratio := ok_ratio (P := P) (w := w) (base := base) F15 mgcd Z
  have f_ratio := mk_fnD (dds := []) F15 o_ratio (glo_ok X G (c.fact 12 (f := .glo "ratio") rfl)) 2 1 (List.cons_ne_nil _ _) rfl (fun _ => .nil) (fun _ _ _ _ _ _ _ us its hl hl2 => match us, its, hl, hl2 with | [_, _], [_], _, _ => ⟨_, rfl, rfl⟩)
  have f_ratio1 := mk_fnD (dds := [.int 1]) F15 o_ratio (glo_ok X G (c.fact 12 (f := .glo "ratio") rfl)) 1 0 (List.cons_ne_nil _ _) rfl (fun _ => .cons (.int 1) .nil) (fun _ _ _ _ _ _ _ us its hl hl2 => match us, its, hl, hl2 with | [_], [_], _, _ => ⟨_, rfl, rfl⟩)
  have f_plus := mk_fn (P := P) (w := w) (base := base) F16 (ok_plus F16 f_ratio) (glo_ok X G (c.fact 13 (f := .glo "plus") rfl)) (fun _ _ _ _ _ _ us hl => match us, hl with | [_, _], _ => rfl)
  have f_minus := mk_fn (P := P) (w := w) (base := base) F17 (ok_minus F17 f_ratio) (glo_ok X G (c.fact 14 (f := .glo "minus") rfl)) (fun _ _ _ _ _ _ us hl => match us, hl with | [_, _], _ => rfl)
  have f_times := mk_fn (P := P) (w := w) (base := base) F18 (ok_times F18 f_ratio) (glo_ok X G (c.fact 15 (f := .glo "times") rfl)) (fun _ _ _ _ _ _ us hl => match us, hl with | [_, _], _ => rfl)
  have f_over := mk_fn (P := P) (w := w) (base := base) F19 (ok_over F19 f_ratio Z) (glo_ok X G (c.fact 16 (f := .glo "over") rfl)) (fun _ _ _ _ _ _ us hl => match us, hl with | [_, _], _ => rfl)
  have f_order := mk_fn (P := P) (w := w) (base := base) F20 (ok_order F20) (glo_ok X G (c.fact 17 (f := .glo "order") rfl)) (fun _ _ _ _ _ _ us hl => match us, hl with | [_, _], _ => rfl)
  have f_isr := mk_fn (P := P) (w := w) (base := base) F26 (ok_isr F26 M f_whole f_gcd) (glo_ok X G (c.fact 22 (f := .glo "_law_is_ratio") rfl)) (fun _ _ _ _ _ _ us hl => match us, hl with | [_], _ => rfl)
  have f_limit := mk_fn (P := P) (w := w) (base := base) F27 (ok_limit F27 M) (glo_ok X G (c.fact 23 (f := .glo "_law_limit") rfl)) (fun _ _ _ _ _ _ us hl => match us, hl with | [_], _ => rfl)
  have f_number := mk_fn (P := P) (w := w) (base := base) F28 (ok_number F28 M f_digits) (glo_ok X G (c.fact 24 (f := .glo "_law_number") rfl)) (fun _ _ _ _ _ _ us hl => match us, hl with | [_, _], _ => rfl)
  have f_pair := mk_fn (P := P) (w := w) (base := base) F29 (ok_pair F29 f_gcd) (glo_ok X G (c.fact 25 (f := .glo "_law_pair") rfl)) (fun _ _ _ _ _ _ us hl => match us, hl with | [_, _], _ => rfl)
  have f_just := mk_fn (P := P) (w := w) (base := base) F31 (ok_just F31 f_isr) (glo_ok X G (c.fact 27 (f := .glo "_law_just") rfl)) (fun _ _ _ _ _ _ us hl => match us, hl with | [_, _, _], _ => rfl)
  have f_refused := mk_fn (P := P) (w := w) (base := base) F32 (ok_refused F32 M T Z c_whole f_ratio f_over) (glo_ok X G (c.fact 28 (f := .glo "_law_refused") rfl)) (fun _ _ _ _ _ _ us hl => match us, hl with | [_, _, _, _], _ => rfl)
  have f_five := mk_fn (P := P) (w := w) (base := base) F33 (ok_five F33 M f_just f_refused f_whole f_plus f_minus f_times f_over f_order) (glo_ok X G (c.fact 29 (f := .glo "_law_five") rfl)) (fun _ _ _ _ _ _ us hl => match us, hl with | [_, _, _], _ => rfl)
  have f_changed := mk_fn (P := P) (w := w) (base := base) F36 (ok_changed F36 M f_just f_plus f_order) (glo_ok X G (c.fact 32 (f := .glo "_law_changed") rfl)) (fun _ _ _ _ _ _ us hl => match us, hl with | [_, _], _ => rfl)
  have f_made := mk_fn (P := P) (w := w) (base := base) F34 (ok_made F34 M f_cell f_digits f_limit f_number f_just f_refused f_ratio f_ratio1) (glo_ok X G (c.fact 30 (f := .glo "_law_made") rfl)) (fun _ _ _ _ _ _ us hl => match us, hl with | [_, _], _ => rfl)
  have f_chain := mk_fn (P := P) (w := w) (base := base) F35 (ok_chain F35 M f_pair f_just f_ratio f_plus f_minus f_times f_over) (glo_ok X G (c.fact 31 (f := .glo "_law_chain") rfl)) (fun _ _ _ _ _ _ us hl => match us, hl with | [_, _], _ => rfl)
  have f_pool := mk_fn (P := P) (w := w) (base := base) F30 (ok_pool F30 M f_cell f_digits f_number f_pair) (glo_ok X G (c.fact 26 (f := .glo "_law_pool") rfl)) (fun _ _ _ _ _ _ us hl => match us, hl with | [_, _, _], _ => rfl)
  exact ok_law F37 M f_cell f_digits f_limit f_pool f_made f_five f_chain f_changed f_refused
end K00
open PySem PySem.W PySem.Calls PyProof.Rows
theorem PySem.Challenge.cw_ledbymarks_k00_ratios_holds : PySem.Challenge.rw_ledbymarks_k00_ratios.Holds := by
  w_on; o_law
  refine HandSHeadRun.head_imp (r := OpenLaw.row PySem.Challenge.rw_ledbymarks_k00_ratios) (q := view (OpenLaw.row PySem.Challenge.rw_ledbymarks_k00_ratios).prog [0, 37]) (H := K00.hk) (ob := K00.ob) (M := 20000) (loose := K00.loose) (d := HandSHeadRun.topDef (OpenLaw.row PySem.Challenge.rw_ledbymarks_k00_ratios).prog 37) (kwd := [])
    K00.ob_eq K00.run (by kernel_rfl) (by kernel_rfl) (by kernel_rfl) (by rfl) (by first | assumption | decide +kernel) (by decide +kernel) ⟨rfl, rfl, rfl, rfl, rfl, by decide +kernel⟩ ?hw ?hc
  case hw => w_witness2
  case hc =>
    refine DL.walk_ofM (l := PySem.Challenge.rw_ledbymarks_k00_ratios) (n := 63) (k := 7) (x := "script") (T := K00.T_law) rfl (by decide) (by kernel_rfl) ⟨rfl, by decide, by decide⟩ (fun ns kk xx h => ⟨ns, rfl, h⟩) ?_
    intro w mg fa h Y G hmg0
    obtain ⟨K, KX, c⟩ := Y
    have hmg : mg ("law" : PySem.Str) = some (.ref fa) := by
      have e : (HandSHeadRun.topDef (OpenLaw.row PySem.Challenge.rw_ledbymarks_k00_ratios).prog 37).name = ("law" : PySem.Str) := by kernel_rfl
      rw [← e]
      exact hmg0
    obtain ⟨fd, hb, hF⟩ := K00.facts (P := (PySem.Challenge.rw_ledbymarks_k00_ratios).prog) (w := w) KX G hmg c
    exact ⟨K, fd, KX, hb, fun base _ _ => hF base⟩
