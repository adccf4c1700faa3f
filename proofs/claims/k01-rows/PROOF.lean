import PyProof.Rows.All
import Wide.All
import OpenK.AllK
import Wide.FinOn
import HandS.ForMost
import HandS.Gcd
import HandS.Wide
import HandS.IsInst
import HandS.CallSlots
import HandS.Exc
import HandS.ExcOwn
import HandS.ExcInit
import HandS.ExcField
import HandS.ExcIs
import HandS.WordsExc
import HandS.TryOnly
import HandS.Flow
import HandS.Defaults
import HandS.HotCalls
import KE.KStateDown
import HandS.Head0
import HandS.Head1
import HandS.Head2
import HandS.Head3
import HandS.HeadEnd
import HandS.HeadHook1
import HandS.HeadHook2
import HandS.Comp
import KE.KMathG
import PySem.Challenge.RW_ledbymarks_k01_rows
set_option Elab.async false
set_option linter.all false
set_option maxRecDepth 100000
set_option maxHeartbeats 2000000
/-! A layer of our own over the hand layer: what a def does, told by data alone (no heap in sight). Part a: data, what stands for it, the cut heap. -/
namespace DL
open PySem PySem.Spec PyProof.Rows L2
inductive D where
  | non | bl (b : Bool) | int (i : Int) | str (x : Str)
  /-- a list (true) or a tuple (false) -/
  | sq (l : Bool) (ds : List D)
  | dic (kvs : List (Key × D))
  | ins (C : Addr) (fs : List (Str × D))
  | ob (a : Addr)
  /-- a caught error at a, its fields at dd -/
  | exc (a dd : Addr) (fs : List (Str × D))
  /-- the script -/
  | scr (ns : List Int)
abbrev Ex := L2.Same
/-- a class whose instances are plain, without class attributes of these names -/
structure ClsF (K : PySem.W.Frag) (C : Addr) (ks : List Str) : Prop where
  cls : L2.Cls K C
  no : ∀ f ∈ ks, L2.NoAttr K C f
inductive Is (K : PySem.W.Frag) (H : Hp) : V → D → Prop
  | non : Is K H .non .non
  | bl (b : Bool) : Is K H (.bl b) (.bl b)
  | int (i : Int) : Is K H (.int i) (.int i)
  | str (x : Str) : Is K H (.str x) (.str x)
  | lst {a : Addr} {xs : List V} {ds : List D} : Rd H a (.lst xs) → xs.length = ds.length → (∀ (i : Nat) x d, xs[i]? = some x → ds[i]? = some d → Is K H x d) → Is K H (.ref a) (.sq true ds)
  | tup {a : Addr} {xs : List V} {ds : List D} : SqT K H a xs → xs.length = ds.length → (∀ (i : Nat) x d, xs[i]? = some x → ds[i]? = some d → Is K H x d) → Is K H (.ref a) (.sq false ds)
  | dic {a : Addr} {kvs : List (Key × V)} {kds : List (Key × D)} : Rd H a (.dK kvs) → kvs.map (·.1) = kds.map (·.1) → (∀ (i : Nat) x d, kvs[i]? = some x → kds[i]? = some d → Is K H x.2 d.2) → Is K H (.ref a) (.dic kds)
  | ins {a C dx : Addr} {fs : List (Str × V)} {gs : List (Str × D)} : ClsF K C (gs.map (·.1)) → H a = some (.ins C dx fs) → fs.map (·.1) = gs.map (·.1) → (∀ (i : Nat) x d, fs[i]? = some x → gs[i]? = some d → Is K H x.2 d.2) → Is K H (.ref a) (.ins C gs)
  | ob (a : Addr) : Is K H (.ref a) (.ob a)
  | scr {a : Addr} {ns : List Int} : SqL K H a (ns.map V.int) → Is K H (.ref a) (.scr ns)
  | exc {a dd : Addr} {fs : List (Str × V)} {gs : List (Str × D)} : H dd = some (.xd fs) → fs.map (·.1) = gs.map (·.1) → (∀ (i : Nat) x d, fs[i]? = some x → gs[i]? = some d → Is K H x.2 d.2) → Is K H (.ref a) (.exc a dd gs)
def IsL (K : PySem.W.Frag) (H : Hp) (xs : List V) (ds : List D) : Prop := xs.length = ds.length ∧ ∀ (i : Nat) x d, xs[i]? = some x → ds[i]? = some d → Is K H x d
def IsK (K : PySem.W.Frag) (H : Hp) (xs : List (Key × V)) (ds : List (Key × D)) : Prop := xs.map (·.1) = ds.map (·.1) ∧ ∀ (i : Nat) x d, xs[i]? = some x → ds[i]? = some d → Is K H x.2 d.2
def IsF (K : PySem.W.Frag) (H : Hp) (xs : List (Str × V)) (ds : List (Str × D)) : Prop := xs.map (·.1) = ds.map (·.1) ∧ ∀ (i : Nat) x d, xs[i]? = some x → ds[i]? = some d → Is K H x.2 d.2
section
variable {K : PySem.W.Frag} {H H' : Hp} {v : V} {d : D} {xs : List V} {ds : List D}
theorem Ex.rd {a : Addr} {u : HO} (e : Ex H H') (h : Rd H a u) : Rd H' a u := by
  rcases h with h | ⟨o, h⟩
  · exact Or.inl (e a _ h)
  · exact Or.inr ⟨o, e a _ h⟩
theorem Ex.sqL {a : Addr} {xs : List V} (e : Ex H H') (h : SqL K H a xs) : SqL K H' a xs := by
  rcases h with h | h
  · exact Or.inl (Ex.rd e h)
  · exact Or.inr h
theorem Ex.sqT {a : Addr} {xs : List V} (e : Ex H H') (h : SqT K H a xs) : SqT K H' a xs := by
  rcases h with h | h
  · exact Or.inl (Ex.rd e h)
  · exact Or.inr h
theorem Ex.new {p : Addr} {o : HO} (h : H p = none) : Ex H (upd H p o) := fun a u e => by
  rw [upd_ne (ne_of_none e h)]
  exact e
theorem Is.mono (e : Ex H H') (h : Is K H v d) : Is K H' v d := by
  induction h with
  | non => exact .non
  | bl b => exact .bl b
  | int i => exact .int i
  | str x => exact .str x
  | lst a b _ ih => exact .lst (Ex.rd e a) b ih
  | scr a => exact .scr (Ex.sqL e a)
  | tup a b _ ih => exact .tup (Ex.sqT e a) b ih
  | dic a b _ ih => exact .dic (Ex.rd e a) b ih
  | ins c a b _ ih => exact .ins c (e _ _ a) b ih
  | ob a => exact .ob a
  | exc a b _ ih => exact .exc (e _ _ a) b ih
theorem IsL.mono (e : Ex H H') (h : IsL K H xs ds) : IsL K H' xs ds := ⟨h.1, fun i x d a b => (h.2 i x d a b).mono e⟩
theorem IsK.mono {xs : List (Key × V)} {ds : List (Key × D)} (e : Ex H H') (h : IsK K H xs ds) : IsK K H' xs ds := ⟨h.1, fun i x d a b => (h.2 i x d a b).mono e⟩
theorem IsF.mono {xs : List (Str × V)} {ds : List (Str × D)} (e : Ex H H') (h : IsF K H xs ds) : IsF K H' xs ds := ⟨h.1, fun i x d a b => (h.2 i x d a b).mono e⟩
theorem IsL.nil : IsL K H [] [] := ⟨rfl, fun i x d a _ => by cases a⟩
theorem IsL.cons (h : Is K H v d) (r : IsL K H xs ds) : IsL K H (v :: xs) (d :: ds) := ⟨congrArg (· + 1) r.1, fun i x d' a b => by
  cases i with
  | zero => cases a; cases b; exact h
  | succ i => exact r.2 i x d' a b⟩
theorem IsL.head {x : V} (h : IsL K H (x :: xs) (d :: ds)) : Is K H x d := h.2 0 x d rfl rfl
theorem IsL.tail {x : V} (h : IsL K H (x :: xs) (d :: ds)) : IsL K H xs ds := ⟨Nat.succ.inj h.1, fun i x d a b => h.2 (i + 1) x d a b⟩
theorem IsL.inv_nil (h : IsL K H xs []) : xs = [] := List.length_eq_zero_iff.mp h.1
theorem IsL.inv_cons (h : IsL K H xs (d :: ds)) : ∃ x r, xs = x :: r ∧ Is K H x d ∧ IsL K H r ds := by
  cases xs with
  | nil => cases h.1
  | cons x r => exact ⟨x, r, rfl, h.head, h.tail⟩
theorem IsL.get {i : Nat} (h : IsL K H xs ds) (e : ds[i]? = some d) : ∃ x, xs[i]? = some x ∧ Is K H x d := by
  have hi : i < xs.length := by rw [h.1]; exact (List.getElem?_eq_some_iff.mp e).1
  exact ⟨xs[i], List.getElem?_eq_getElem hi, h.2 i _ d (List.getElem?_eq_getElem hi) e⟩
theorem IsL.getV {i : Nat} {x : V} (h : IsL K H xs ds) (e : xs[i]? = some x) : ∃ d, ds[i]? = some d ∧ Is K H x d := by
  have hi : i < ds.length := by rw [← h.1]; exact (List.getElem?_eq_some_iff.mp e).1
  exact ⟨ds[i], List.getElem?_eq_getElem hi, h.2 i x _ e (List.getElem?_eq_getElem hi)⟩
theorem IsL.snoc (h : IsL K H xs ds) (r : Is K H v d) : IsL K H (xs ++ [v]) (ds ++ [d]) := ⟨by simp [h.1], fun i x d' a b => by
  by_cases hi : i < xs.length
  · rw [List.getElem?_append_left hi] at a
    rw [List.getElem?_append_left (by rw [← h.1]; exact hi)] at b
    exact h.2 i x d' a b
  · rw [List.getElem?_append_right (Nat.le_of_not_lt hi)] at a
    rw [List.getElem?_append_right (by rw [← h.1]; exact Nat.le_of_not_lt hi), ← h.1] at b
    cases e : i - xs.length with
    | zero => rw [e] at a b; cases a; cases b; exact r
    | succ n => rw [e] at a; cases a⟩
theorem IsL.app {ys : List V} {es : List D} (h : IsL K H xs ds) (r : IsL K H ys es) : IsL K H (xs ++ ys) (ds ++ es) := ⟨by simp [h.1, r.1], fun i x d' a b => by
  by_cases hi : i < xs.length
  · rw [List.getElem?_append_left hi] at a
    rw [List.getElem?_append_left (by rw [← h.1]; exact hi)] at b
    exact h.2 i x d' a b
  · rw [List.getElem?_append_right (Nat.le_of_not_lt hi)] at a
    rw [List.getElem?_append_right (by rw [← h.1]; exact Nat.le_of_not_lt hi), ← h.1] at b
    exact r.2 _ x d' a b⟩
theorem IsL.set {i : Nat} (h : IsL K H xs ds) (r : Is K H v d) : IsL K H (xs.set i v) (ds.set i d) := ⟨by simp [h.1], fun j x d' a b => by
  rw [List.getElem?_set] at a b
  by_cases e : i = j
  · rw [if_pos e] at a b
    split at a
    · split at b
      · cases a; cases b; exact r
      · cases b
    · cases a
  · rw [if_neg e] at a b
    exact h.2 j x d' a b⟩
theorem IsL.of_get (hl : xs.length = ds.length) (h : ∀ (i : Nat) x d, xs[i]? = some x → ds[i]? = some d → Is K H x d) : IsL K H xs ds := ⟨hl, h⟩
theorem IsL.ints (ns : List Int) : IsL K H (ns.map V.int) (ns.map D.int) := ⟨by simp, fun i x d a b => by
  rw [List.getElem?_map] at a b
  cases e : ns[i]? with
  | none => rw [e] at a; cases a
  | some n => rw [e] at a b; cases a; cases b; exact .int n⟩
theorem Is.int_inv {i : Int} (h : Is K H v (.int i)) : v = .int i := by cases h; rfl
theorem Is.bl_inv {i : Bool} (h : Is K H v (.bl i)) : v = .bl i := by cases h; rfl
theorem Is.str_inv {i : Str} (h : Is K H v (.str i)) : v = .str i := by cases h; rfl
theorem Is.non_inv (h : Is K H v .non) : v = .non := by cases h; rfl
theorem Is.lst_inv (h : Is K H v (.sq true ds)) : ∃ a xs, v = .ref a ∧ Rd H a (.lst xs) ∧ IsL K H xs ds := by
  cases h with
  | lst a b c => exact ⟨_, _, rfl, a, b, c⟩
theorem Is.tup_inv (h : Is K H v (.sq false ds)) : ∃ a xs, v = .ref a ∧ SqT K H a xs ∧ IsL K H xs ds := by
  cases h with
  | tup a b c => exact ⟨_, _, rfl, a, b, c⟩
theorem Is.sq_inv {l : Bool} (h : Is K H v (.sq l ds)) : ∃ a xs, v = .ref a ∧ (if l then Rd H a (.lst xs) else SqT K H a xs) ∧ IsL K H xs ds := by
  cases l with
  | true => exact h.lst_inv
  | false => exact h.tup_inv
theorem Is.ins_inv {C : Addr} {gs : List (Str × D)} (h : Is K H v (.ins C gs)) : ∃ a dx fs, v = .ref a ∧ ClsF K C (gs.map (·.1)) ∧ H a = some (.ins C dx fs) ∧ IsF K H fs gs := by
  cases h with
  | ins z a b c => exact ⟨_, _, _, rfl, z, a, b, c⟩
theorem Is.dic_inv {kds : List (Key × D)} (h : Is K H v (.dic kds)) : ∃ a kvs, v = .ref a ∧ Rd H a (.dK kvs) ∧ IsK K H kvs kds := by
  cases h with
  | dic a b c => exact ⟨_, _, rfl, a, b, c⟩
theorem Is.scr_inv {ns : List Int} (h : Is K H v (.scr ns)) : ∃ a, v = .ref a ∧ SqL K H a (ns.map V.int) := by
  cases h with
  | scr a => exact ⟨_, rfl, a⟩
theorem Is.mkL {a : Addr} (h : Rd H a (.lst xs)) (r : IsL K H xs ds) : Is K H (.ref a) (.sq true ds) := .lst h r.1 r.2
theorem Is.mkT {a : Addr} (h : SqT K H a xs) (r : IsL K H xs ds) : Is K H (.ref a) (.sq false ds) := .tup h r.1 r.2
/-- no reference in it -/
def Flat : D → Prop
  | .non | .bl _ | .int _ | .str _ => True
  | _ => False
theorem Is.flat (f : Flat d) (h : Is K H v d) : Is K H' v d := by
  cases h with
  | non => exact .non
  | bl b => exact .bl b
  | int i => exact .int i
  | str x => exact .str x
  | _ => exact f.elim
end
/-! ### the cut heap -/
def cut (H : Hp) (ps : List Addr) : Hp := fun a => if a ∈ ps then none else H a
def mrg (H : Hp) (ps : List Addr) (G : Hp) : Hp := fun a => if a ∈ ps then H a else G a
theorem cut_in {H : Hp} {ps : List Addr} {a : Addr} (h : a ∈ ps) : cut H ps a = none := if_pos h
theorem cut_out {H : Hp} {ps : List Addr} {a : Addr} (h : a ∉ ps) : cut H ps a = H a := if_neg h
theorem mrg_in {H G : Hp} {ps : List Addr} {a : Addr} (h : a ∈ ps) : mrg H ps G a = H a := if_pos h
theorem mrg_out {H G : Hp} {ps : List Addr} {a : Addr} (h : a ∉ ps) : mrg H ps G a = G a := if_neg h
theorem cut_ex {H : Hp} {ps : List Addr} : Ex (cut H ps) H := fun a o e => by
  by_cases h : a ∈ ps
  · rw [cut_in h] at e; cases e
  · rw [cut_out h] at e; exact e
theorem cut_some {H : Hp} {ps : List Addr} {a : Addr} {o : HO} (e : cut H ps a = some o) : a ∉ ps ∧ H a = some o := by
  by_cases h : a ∈ ps
  · rw [cut_in h] at e; cases e
  · rw [cut_out h] at e; exact ⟨h, e⟩
theorem cut_sub {H : Hp} {ps qs : List Addr} (h : ∀ a ∈ qs, a ∈ ps) : Ex (cut H ps) (cut H qs) := fun a o e => by
  obtain ⟨n, e⟩ := cut_some e
  rw [cut_out fun z => n (h a z)]
  exact e
theorem cut_mono {H H' : Hp} {ps : List Addr} (h : Ex H H') : Ex (cut H ps) (cut H' ps) := fun a o e => by
  obtain ⟨n, e⟩ := cut_some e
  rw [cut_out n]
  exact h a o e
theorem cut_mrg {H G : Hp} {ps : List Addr} (h : ∀ a ∈ ps, G a = none) : cut (mrg H ps G) ps = G := by
  funext a
  by_cases z : a ∈ ps
  · rw [cut_in z, h a z]
  · rw [cut_out z, mrg_out z]
theorem mrg_ex {H G : Hp} {ps : List Addr} (h : Ex (cut H ps) G) : Ex H (mrg H ps G) := fun a o e => by
  by_cases z : a ∈ ps
  · rw [mrg_in z]; exact e
  · rw [mrg_out z]; exact h a o (by rw [cut_out z]; exact e)
theorem cut_nil {H : Hp} : cut H [] = H := by
  funext a
  exact cut_out (by simp)
/-- what may be owned -/
def OwnAt (H : Hp) (ps : List Addr) (a : Addr) : Prop :=
  (∃ xs, H a = some (.lst xs)) ∨ (∃ kvs, H a = some (.dK kvs)) ∨ (∃ C dx fs, H a = some (.ins C dx fs) ∧ dx ∈ ps) ∨ (∃ x C fs, H a = some (.own x) ∧ x ∈ ps ∧ H x = some (.ins C a fs))
section
variable {X : Cx} {pins : List (Addr × Obj)} {σ σ' : L2.St} {H G : Hp} {s s' : Shared} {ps : List Addr}
theorem OwnAt.some {a : Addr} (h : OwnAt H ps a) : ∃ o, H a = .some o := by
  rcases h with ⟨_, h⟩ | ⟨_, h⟩ | ⟨_, _, _, h, _⟩ | ⟨_, _, _, h, _⟩ <;> exact ⟨_, h⟩
theorem OwnAt.notup {a : Addr} {xs : List V} (h : OwnAt H ps a) : H a ≠ .some (.tup xs) := fun e => by
  rcases h with ⟨_, h⟩ | ⟨_, h⟩ | ⟨_, _, _, h, _⟩ | ⟨_, _, _, h, _⟩ <;> (rw [e] at h; cases h)
theorem OwnAt.nofrz {a : Addr} {o : Obj} {u : HO} (h : OwnAt H ps a) : H a ≠ .some (.frz o u) := fun e => by
  rcases h with ⟨_, h⟩ | ⟨_, h⟩ | ⟨_, _, _, h, _⟩ | ⟨_, _, _, h, _⟩ <;> (rw [e] at h; cases h)
theorem OwnAt.notbl {a : Addr} {ts : Array Value} (h : OwnAt H ps a) : H a ≠ .some (.tbl ts) := fun e => by
  rcases h with ⟨_, h⟩ | ⟨_, h⟩ | ⟨_, _, _, h, _⟩ | ⟨_, _, _, h, _⟩ <;> (rw [e] at h; cases h)
theorem fs_free (I : Inv X pins σ H s) : ∀ b ∈ X.fs, H b = none := fun b hb => by
  obtain ⟨_, o, ho, _⟩ := I.ok.funs.mem hb
  exact I.base.free b o ho (I.ok.frf b hb) fun z => I.ok.exfs b z hb
/-- an owned object's description, and its record, at a heap where the owned records stand -/
theorem own_ok {P : Program} {w : World} {H H' : Hp} {h h' : Heap} {a : Addr} {o : HO} (hp : ∀ a ∈ ps, OwnAt H ps a) (ha : a ∈ ps) (e : H a = some o) (x : ObjOk P w H h a o)
    (k : ∀ b ∈ ps, ∀ u, h.get? b = some u → h'.get? b = some u) (hH : ∀ b ∈ ps, H' b = H b) : ObjOk P w H' h' a o := by
  rcases hp a ha with ⟨xs, q⟩ | ⟨kvs, q⟩ | ⟨C, dx, fs, q, hd⟩ | ⟨y, C, fs, q, hy, hI⟩
  · rw [e] at q; cases q
    obtain ⟨z, its, n, r, g⟩ := x
    exact ⟨z, its, n, r, k a ha _ g⟩
  · rw [e] at q; cases q
    obtain ⟨z, y, vs, r, ob, es, ep, g, c⟩ := x
    exact ⟨z, y, vs, r, ob, es, ep, k a ha _ g, c⟩
  · rw [e] at q; cases q
    obtain ⟨d, z, ne, g, mA, ⟨od, es, ep, e2, c⟩, r⟩ := x
    exact ⟨by rw [hH dx hd]; exact d, z, ne, k a ha _ g, mA, ⟨od, es, ep, k dx hd _ e2, c⟩, r⟩
  · rw [e] at q; cases q
    obtain ⟨ob, g⟩ := x
    exact ⟨ob, k a ha _ g⟩
theorem own_nocell {P : Program} {w : World} {H : Hp} {h : Heap} {a : Addr} {o : HO} {ob : Obj} (ok : HOk P w H h) (hp : ∀ a ∈ ps, OwnAt H ps a) (ha : a ∈ ps) (e : H a = some o) (g : h.get? a = some ob) : ∀ v, ob.data ≠ .cell v := by
  have x := ok a o e
  rcases hp a ha with ⟨xs, q⟩ | ⟨kvs, q⟩ | ⟨C, dx, fs, q, hd⟩ | ⟨y, C, fs, q, hy, hI⟩
  · rw [e] at q; cases q
    obtain ⟨z, its, n, r, g'⟩ := x
    rw [g] at g'; cases g'
    intro v z; cases z
  · rw [e] at q; cases q
    obtain ⟨z, y, vs, r, ob', es, ep, g', c⟩ := x
    rw [g] at g'; cases g'
    intro v z
    have := c.2.1
    rw [z] at this; cases this
  · rw [e] at q; cases q
    obtain ⟨d, z, ne, g', _⟩ := x
    rw [g] at g'; cases g'
    intro v z; cases z
  · rw [e] at q; cases q
    obtain ⟨d, z, ne, g', mA, ⟨od, es, ep, e2, c, _⟩, _⟩ := ok y _ hI
    rw [g] at e2; cases e2
    intro v z
    rw [z] at c; cases c
theorem own_there {P : Program} {w : World} {H : Hp} {h : Heap} {a : Addr} {o : HO} (ok : HOk P w H h) (hp : ∀ a ∈ ps, OwnAt H ps a) (ha : a ∈ ps) (e : H a = some o) : ∃ ob, h.get? a = some ob := by
  have x := ok a o e
  rcases hp a ha with ⟨xs, q⟩ | ⟨kvs, q⟩ | ⟨C, dx, fs, q, hd⟩ | ⟨y, C, fs, q, hy, hI⟩
  · rw [e] at q; cases q
    obtain ⟨z, its, n, r, g'⟩ := x
    exact ⟨_, g'⟩
  · rw [e] at q; cases q
    obtain ⟨z, y, vs, r, ob', es, ep, g', c⟩ := x
    exact ⟨_, g'⟩
  · rw [e] at q; cases q
    obtain ⟨d, z, ne, g', _⟩ := x
    exact ⟨_, g'⟩
  · rw [e] at q; cases q
    exact x
/-- ahead: the owned records are pinned and no more tracked -/
theorem cut_inv (I : Inv X pins σ H s) (hp : ∀ a ∈ ps, OwnAt H ps a) : Inv X (pins ++ pinsAt ps s.heap) σ (cut H ps) s := by
  have noH : ∀ {b}, H b = none → cut H ps b = none := fun {b} e => by
    by_cases z : b ∈ ps
    · exact cut_in z
    · rw [cut_out z]; exact e
  have B := I.base
  refine ⟨I.ok, I.os, I.bare, ⟨B.keep, B.slot, fun b o q n hx => noH (B.free b o q n hx), B.there, fun b xs q => ?_, fun b o u q => ?_, fun b ts q => ?_⟩, I.loc, I.cell, noH I.free, fun x c e => noH (I.freeC x c e), fun p hpn => ?_, fun b u q => ?_, I.len⟩
  · have h := B.tups b xs q
    rw [cut_out fun z => (hp b z).notup h]
    exact h
  · have h := B.frzs b o u q
    rw [cut_out fun z => (hp b z).nofrz h]
    exact h
  · obtain ⟨more, h⟩ := B.tbls b ts q
    exact ⟨more, by rw [cut_out fun z => (hp b z).notbl h]; exact h⟩
  · rw [← List.append_assoc] at hpn
    rcases List.mem_append.mp hpn with z | z
    · obtain ⟨a1, a2, a3⟩ := I.pin p z
      exact ⟨a1, noH a2, a3⟩
    · obtain ⟨hb, g⟩ := of_pinsAt z
      obtain ⟨u, hu⟩ := (hp p.1 hb).some
      refine ⟨g, cut_in hb, fun q => ?_, fun q => ?_, own_nocell I.hok hp hb hu g⟩
      · rw [q, I.free] at hu; cases hu
      · rw [fs_free I p.1 q] at hu; cases hu
  · obtain ⟨n, q⟩ := cut_some q
    refine (I.hok b u q).stay (fun _ _ _ z => z) (fun c z => ?_) fun c xs z => ?_
    · rw [cut_out]
      · exact z
      · intro hc
        rcases hp c hc with ⟨_, h⟩ | ⟨_, h⟩ | ⟨_, _, _, h, _⟩ | ⟨x, _, _, h, hx, _⟩
        · rw [z] at h; cases h
        · rw [z] at h; cases h
        · rw [z] at h; cases h
        · rw [z] at h; cases h
          exact n hx
    · rw [cut_out fun hc => (hp c hc).notup z]
      exact z
/-- behind: they are tracked again -/
theorem mrg_inv (I : Inv X pins σ H s) (hp : ∀ a ∈ ps, OwnAt H ps a) (J : Inv X (pins ++ pinsAt ps s.heap) σ' G s') : Inv X pins σ' (mrg H ps G) s' ∧ ∀ a ∈ ps, G a = none := by
  have pn : ∀ a ∈ ps, ∃ o, s.heap.get? a = some o ∧ s'.heap.get? a = some o ∧ G a = none := fun a ha => by
    obtain ⟨u, hu⟩ := (hp a ha).some
    obtain ⟨o, ho⟩ := own_there I.hok hp ha hu
    obtain ⟨a1, a2, _⟩ := J.pin (a, o) (List.mem_append_right _ (List.mem_append_right _ (mem_pinsAt ha ho)))
    exact ⟨o, ho, a1, a2⟩
  have gn : ∀ a ∈ ps, G a = none := fun a ha => (pn a ha).choose_spec.2.2
  have noM : ∀ {b}, H b = none → G b = none → mrg H ps G b = none := fun {b} e e' => by
    by_cases z : b ∈ ps
    · rw [mrg_in z]; exact e
    · rw [mrg_out z]; exact e'
  have B := J.base
  have B0 := I.base
  refine ⟨⟨J.ok, J.os, J.bare, ⟨B.keep, B.slot, fun b o q n hx => noM (B0.free b o q n hx) (B.free b o q n hx), B.there, fun b xs q => ?_, fun b o u q => ?_, fun b ts q => ?_⟩, J.loc, J.cell, noM I.free J.free, fun x c e => noM (I.freeC x c e) (J.freeC x c e), fun p hpn => ?_, fun b u q => ?_, J.len⟩, gn⟩
  · rw [mrg_out fun z => (hp b z).notup (B0.tups b xs q)]
    exact B.tups b xs q
  · rw [mrg_out fun z => (hp b z).nofrz (B0.frzs b o u q)]
    exact B.frzs b o u q
  · obtain ⟨_, h0⟩ := B0.tbls b ts q
    obtain ⟨more, h⟩ := B.tbls b ts q
    exact ⟨more, by rw [mrg_out fun z => (hp b z).notbl h0]; exact h⟩
  · obtain ⟨a1, a2, a3⟩ := J.pin p (by rw [← List.append_assoc]; exact List.mem_append_left _ hpn)
    exact ⟨a1, noM (I.pin p hpn).2.1 a2, a3⟩
  · by_cases z : b ∈ ps
    · rw [mrg_in z] at q
      refine own_ok hp z q (I.hok b u q) (fun c hc v hv => ?_) fun c hc => mrg_in hc
      obtain ⟨o, h1, h2, _⟩ := pn c hc
      rw [hv] at h1; cases h1
      exact h2
    · rw [mrg_out z] at q
      refine (J.hok b u q).stay (fun _ _ _ z => z) (fun c y => ?_) fun c xs y => ?_
      · rw [mrg_out fun hc => by rw [gn c hc] at y; cases y]
        exact y
      · rw [mrg_out fun hc => by rw [gn c hc] at y; cases y]
        exact y
end
end DL
set_option Elab.async false
set_option linter.all false
set_option maxRecDepth 100000
set_option maxHeartbeats 2000000
/-! Part b: the state told by data; expressions. -/
namespace DL
open PySem PySem.Spec PyProof.Rows L2
/-- lists within lists that the frame alone holds, shared data at the leaves -/
inductive Tr where
  | sh (d : D) | lst (ts : List Tr)
mutual
def Tr.d : Tr → D
  | .sh d => d
  | .lst ts => .sq true (Tr.ds ts)
def Tr.ds : List Tr → List D
  | [] => []
  | t :: ts => t.d :: Tr.ds ts
end
/-- an object that the frame alone holds -/
inductive Ow where
  | lst (ds : List D) | dic (kvs : List (Key × D)) | ins (C : Addr) (fs : List (Str × D)) | tr (ts : List Tr) | self (a C : Addr) (ks : List Str) (fs : List (Str × D))
def Ow.d : Ow → D
  | .lst ds => .sq true ds
  | .dic kvs => .dic kvs
  | .ins C fs => .ins C fs
  | .tr ts => .sq true (Tr.ds ts)
  | .self _ C _ fs => .ins C fs
/-- what a slot holds (or a call hands back) -/
inductive S where
  | no | sh (d : D) | ow (o : Ow)
def S.d : S → D
  | .no => .non
  | .sh d => d
  | .ow o => o.d
mutual
def TrIs (K : PySem.W.Frag) (H G : Hp) : Tr → V → List Addr → Prop
  | .sh d, v, l => l = [] ∧ Is K G v d
  | .lst ts, v, l => ∃ p xs ls, v = .ref p ∧ l = p :: ls.flatten ∧ H p = some (.lst xs) ∧ TrsIs K H G ts xs ls
def TrsIs (K : PySem.W.Frag) (H G : Hp) : List Tr → List V → List (List Addr) → Prop
  | [], xs, ls => xs = [] ∧ ls = []
  | t :: ts, xs, ls => ∃ x xs' l ls', xs = x :: xs' ∧ ls = l :: ls' ∧ TrIs K H G t x l ∧ TrsIs K H G ts xs' ls'
end
mutual
theorem TrIs.mono {K : PySem.W.Frag} {H H' G G' : Hp} (e : Ex G G') : ∀ (t : Tr) (v : V) (l : List Addr), (∀ a ∈ l, H' a = H a) → TrIs K H G t v l → TrIs K H' G' t v l
  | .sh d, v, l, k, h => ⟨h.1, h.2.mono e⟩
  | .lst ts, v, l, k, h => by
    obtain ⟨p, xs, ls, rfl, rfl, hp, h⟩ := h
    exact ⟨p, xs, ls, rfl, rfl, by rw [k p (by simp)]; exact hp, TrsIs.mono e ts xs ls (fun a ha => k a (List.mem_cons_of_mem _ ha)) h⟩
theorem TrsIs.mono {K : PySem.W.Frag} {H H' G G' : Hp} (e : Ex G G') : ∀ (ts : List Tr) (xs : List V) (ls : List (List Addr)), (∀ a ∈ ls.flatten, H' a = H a) → TrsIs K H G ts xs ls → TrsIs K H' G' ts xs ls
  | [], xs, ls, k, h => h
  | t :: ts, xs, ls, k, h => by
    obtain ⟨x, xs', l, ls', rfl, rfl, h1, h2⟩ := h
    exact ⟨x, xs', l, ls', rfl, rfl, TrIs.mono e t x l (fun a ha => k a (by simp [ha])) h1, TrsIs.mono e ts xs' ls' (fun a ha => k a (by rw [List.flatten_cons]; exact List.mem_append_right _ ha)) h2⟩
end
mutual
theorem TrIs.lst_at {K : PySem.W.Frag} {H G : Hp} : ∀ (t : Tr) (v : V) (l : List Addr), TrIs K H G t v l → ∀ a ∈ l, ∃ xs, H a = some (.lst xs)
  | .sh d, v, l, h => fun a ha => by rw [h.1] at ha; cases ha
  | .lst ts, v, l, h => fun a ha => by
    obtain ⟨p, xs, ls, rfl, rfl, hp, h⟩ := h
    rcases List.mem_cons.mp ha with rfl | ha
    · exact ⟨_, hp⟩
    · exact TrsIs.lst_at ts xs ls h a ha
theorem TrsIs.lst_at {K : PySem.W.Frag} {H G : Hp} : ∀ (ts : List Tr) (xs : List V) (ls : List (List Addr)), TrsIs K H G ts xs ls → ∀ a ∈ ls.flatten, ∃ xs, H a = some (.lst xs)
  | [], xs, ls, h => fun a ha => by rw [h.2] at ha; cases ha
  | t :: ts, xs, ls, h => fun a ha => by
    obtain ⟨x, xs', l, ls', rfl, rfl, h1, h2⟩ := h
    rw [List.flatten_cons, List.mem_append] at ha
    rcases ha with ha | ha
    · exact TrIs.lst_at t x l h1 a ha
    · exact TrsIs.lst_at ts xs' ls' h2 a ha
end
mutual
theorem TrIs.is {K : PySem.W.Frag} {H G : Hp} (e : Ex G H) : ∀ (t : Tr) (v : V) (l : List Addr), TrIs K H G t v l → Is K H v t.d
  | .sh d, v, l, h => h.2.mono e
  | .lst ts, v, l, h => by
    obtain ⟨p, xs, ls, rfl, rfl, hp, h⟩ := h
    exact .mkL (Rd.of hp) (TrsIs.is e ts xs ls h)
theorem TrsIs.is {K : PySem.W.Frag} {H G : Hp} (e : Ex G H) : ∀ (ts : List Tr) (xs : List V) (ls : List (List Addr)), TrsIs K H G ts xs ls → IsL K H xs (Tr.ds ts)
  | [], xs, ls, h => by rw [h.1]; exact .nil
  | t :: ts, xs, ls, h => by
    obtain ⟨x, xs', l, ls', rfl, rfl, h1, h2⟩ := h
    exact .cons (TrIs.is e t x l h1) (TrsIs.is e ts xs' ls' h2)
end
def OwIs (K : PySem.W.Frag) (H G : Hp) (v : V) (l : List Addr) : Ow → Prop
  | .lst ds => ∃ p xs, v = .ref p ∧ l = [p] ∧ H p = some (.lst xs) ∧ IsL K G xs ds
  | .dic kds => ∃ p kvs, v = .ref p ∧ l = [p] ∧ H p = some (.dK kvs) ∧ IsK K G kvs kds
  | .ins C gs => ClsF K C (gs.map (·.1)) ∧ ∃ p dx fs, v = .ref p ∧ l = [p, dx] ∧ H p = some (.ins C dx fs) ∧ H dx = some (.own p) ∧ IsF K G fs gs
  | .tr ts => TrIs K H G (.lst ts) v l
  | .self a C ks gs => (ClsF K C ks ∧ ∀ f ∈ gs.map (·.1), f ∈ ks) ∧ ∃ dx fs, v = .ref a ∧ l = [a, dx] ∧ H a = some (.ins C dx fs) ∧ H dx = some (.own a) ∧ IsF K G fs gs
def SlotIs (K : PySem.W.Frag) (H G : Hp) (x : Option V) (l : List Addr) : S → Prop
  | .no => l = []
  | .sh d => l = [] ∧ ∃ v, x = some v ∧ Is K G v d
  | .ow o => ∃ v, x = some v ∧ OwIs K H G v l o
theorem OwIs.mono {K : PySem.W.Frag} {H H' G G' : Hp} {v : V} {l : List Addr} {o : Ow} (h : OwIs K H G v l o) (e : Ex G G') (k : ∀ a ∈ l, H' a = H a) : OwIs K H' G' v l o := by
  cases o with
  | lst ds =>
    obtain ⟨p, xs, a, rfl, b, c⟩ := h
    exact ⟨p, xs, a, rfl, by rw [k p (by simp)]; exact b, c.mono e⟩
  | dic ds =>
    obtain ⟨p, xs, a, rfl, b, c⟩ := h
    exact ⟨p, xs, a, rfl, by rw [k p (by simp)]; exact b, c.mono e⟩
  | ins C fs =>
    obtain ⟨z, p, dx, xs, a, rfl, b, b', c⟩ := h
    exact ⟨z, p, dx, xs, a, rfl, by rw [k p (by simp)]; exact b, by rw [k dx (by simp)]; exact b', c.mono e⟩
  | self q C ks fs =>
    obtain ⟨z, dx, xs, a, rfl, b, b', c⟩ := h
    exact ⟨z, dx, xs, a, rfl, by rw [k q (by simp)]; exact b, by rw [k dx (by simp)]; exact b', c.mono e⟩
  | tr ts => exact TrIs.mono e _ v l k h
theorem OwIs.at {K : PySem.W.Frag} {H G : Hp} {v : V} {l ps : List Addr} {o : Ow} (h : OwIs K H G v l o) (hs : ∀ a ∈ l, a ∈ ps) : ∀ a ∈ l, OwnAt H ps a := by
  cases o with
  | lst ds =>
    obtain ⟨p, xs, _, rfl, b, c⟩ := h
    intro a ha
    obtain rfl : a = p := by simpa using ha
    exact .inl ⟨_, b⟩
  | dic ds =>
    obtain ⟨p, xs, _, rfl, b, c⟩ := h
    intro a ha
    obtain rfl : a = p := by simpa using ha
    exact .inr (.inl ⟨_, b⟩)
  | ins C fs =>
    obtain ⟨_, p, dx, xs, _, rfl, b, b', c⟩ := h
    intro a ha
    rcases (by simpa using ha : a = p ∨ a = dx) with rfl | rfl
    · exact .inr (.inr (.inl ⟨_, _, _, b, hs _ (by simp)⟩))
    · exact .inr (.inr (.inr ⟨_, _, _, b', hs _ (by simp), b⟩))
  | self q C ks fs =>
    obtain ⟨_, dx, xs, _, rfl, b, b', c⟩ := h
    intro a ha
    rcases (by simpa using ha : a = q ∨ a = dx) with rfl | rfl
    · exact .inr (.inr (.inl ⟨_, _, _, b, hs _ (by simp)⟩))
    · exact .inr (.inr (.inr ⟨_, _, _, b', hs _ (by simp), b⟩))
  | tr ts => exact fun a ha => .inl (TrIs.lst_at _ v l h a ha)
/-- frozen -/
theorem OwIs.is {K : PySem.W.Frag} {H G : Hp} {v : V} {l : List Addr} {o : Ow} (h : OwIs K H G v l o) (e : Ex G H) : Is K H v o.d := by
  cases o with
  | lst ds =>
    obtain ⟨p, xs, rfl, rfl, b, c⟩ := h
    exact .mkL (Rd.of b) (c.mono e)
  | dic ds =>
    obtain ⟨p, xs, rfl, rfl, b, c⟩ := h
    exact .dic (Rd.of b) c.1 (c.mono e).2
  | ins C fs =>
    obtain ⟨z, p, dx, xs, rfl, rfl, b, b', c⟩ := h
    exact .ins z b c.1 (c.mono e).2
  | self q C ks fs =>
    obtain ⟨⟨z, z2⟩, dx, xs, rfl, rfl, b, b', c⟩ := h
    exact .ins ⟨z.cls, fun f hf => z.no f (z2 f hf)⟩ b c.1 (c.mono e).2
  | tr ts => exact TrIs.is e _ v l h
/-- the shared part of the state -/
structure RelS (K : PySem.W.Frag) (H0 : Hp) (σ : L2.St) (G : Hp) (δ : List S) : Prop where
  ex : Ex H0 G
  len : σ.length = δ.length
  sh : ∀ (i : Nat) d, δ[i]? = some (.sh d) → ∃ v, σ[i]? = some (some v) ∧ Is K G v d
structure Rel (K : PySem.W.Frag) (H0 : Hp) (σ : L2.St) (H : Hp) (δ : List S) (own : List (List Addr)) : Prop where
  ex : Ex H0 (cut H own.flatten)
  len1 : σ.length = δ.length
  len2 : own.length = δ.length
  sl : ∀ (i : Nat) s x l, δ[i]? = some s → σ[i]? = some x → own[i]? = some l → SlotIs K H (cut H own.flatten) x l s
  nd : own.flatten.Nodup
section
variable {K : PySem.W.Frag} {H0 H H' G G' : Hp} {σ : L2.St} {δ δ' : List S} {own : List (List Addr)} {v : V} {d : D} {i : Nat}
theorem RelS.mono (R : RelS K H0 σ G δ) (e : Ex G G') : RelS K H0 σ G' δ := ⟨R.ex.trans e, R.len, fun i d h => let ⟨v, a, b⟩ := R.sh i d h; ⟨v, a, b.mono e⟩⟩
theorem Rel.idx (R : Rel K H0 σ H δ own) {s : S} (h : δ[i]? = some s) : ∃ x l, σ[i]? = some x ∧ own[i]? = some l ∧ SlotIs K H (cut H own.flatten) x l s := by
  have hi : i < δ.length := (List.getElem?_eq_some_iff.mp h).1
  have h1 : i < σ.length := by rw [R.len1]; exact hi
  have h2 : i < own.length := by rw [R.len2]; exact hi
  exact ⟨_, _, List.getElem?_eq_getElem h1, List.getElem?_eq_getElem h2, R.sl i s _ _ h (List.getElem?_eq_getElem h1) (List.getElem?_eq_getElem h2)⟩
theorem Rel.toS (R : Rel K H0 σ H δ own) : RelS K H0 σ (cut H own.flatten) δ := ⟨R.ex, R.len1, fun i d h => by
  obtain ⟨x, l, a, b, _, v, rfl, q⟩ := R.idx h
  exact ⟨v, a, q⟩⟩
theorem mem_flat {own : List (List Addr)} {l : List Addr} {a : Addr} (h : own[i]? = some l) (ha : a ∈ l) : a ∈ own.flatten := List.mem_flatten.mpr ⟨l, List.mem_of_getElem? h, ha⟩
theorem Rel.owned (R : Rel K H0 σ H δ own) : ∀ a ∈ own.flatten, OwnAt H own.flatten a := fun a ha => by
  obtain ⟨l, hl, hal⟩ := List.mem_flatten.mp ha
  obtain ⟨i, hi⟩ := List.mem_iff_getElem?.mp hl
  have hd : i < δ.length := by rw [← R.len2]; exact (List.getElem?_eq_some_iff.mp hi).1
  obtain ⟨x, l', _, e, q⟩ := R.idx (List.getElem?_eq_getElem hd)
  rw [hi] at e; cases e
  cases hs : δ[i] with
  | no => rw [hs] at q; have q : l = [] := q; rw [q] at hal; cases hal
  | sh d => rw [hs] at q; obtain ⟨q, _⟩ := q; rw [q] at hal; cases hal
  | ow o => rw [hs] at q; obtain ⟨v, _, q⟩ := q; exact q.at (fun a h => mem_flat hi h) a hal
/-- the shared heap has grown -/
theorem Rel.step (R : Rel K H0 σ H δ own) (e : Ex (cut H own.flatten) G) (n : ∀ a ∈ own.flatten, G a = none) : Rel K H0 σ (mrg H own.flatten G) δ own := by
  have c : cut (mrg H own.flatten G) own.flatten = G := cut_mrg n
  refine ⟨by rw [c]; exact R.ex.trans e, R.len1, R.len2, fun i s x l h1 h2 h3 => ?_, R.nd⟩
  rw [c]
  have q := R.sl i s x l h1 h2 h3
  cases s with
  | no => exact q
  | sh d => obtain ⟨q0, v, q1, q2⟩ := q; exact ⟨q0, v, q1, q2.mono e⟩
  | ow o => obtain ⟨v, q1, q2⟩ := q; exact ⟨v, q1, q2.mono e fun a ha => mrg_in (mem_flat h3 ha)⟩
theorem flat_set_sub : ∀ {own : List (List Addr)} {i : Nat} {l : List Addr} {a : Addr}, a ∈ (own.set i l).flatten → a ∈ own.flatten ∨ a ∈ l
  | [], _, _, _, h => .inl h
  | l0 :: r, 0, l, a, h => by
    simp only [List.set_cons_zero, List.flatten_cons, List.mem_append] at h ⊢
    rcases h with h | h
    · exact .inr h
    · exact .inl (.inr h)
  | l0 :: r, i + 1, l, a, h => by
    simp only [List.set_cons_succ, List.flatten_cons, List.mem_append] at h ⊢
    rcases h with h | h
    · exact .inl (.inl h)
    · rcases flat_set_sub h with h | h
      · exact .inl (.inr h)
      · exact .inr h
theorem flat_set_nd : ∀ {own : List (List Addr)} {i : Nat} {l : List Addr}, own.flatten.Nodup → l.Nodup → (∀ a ∈ l, a ∉ own.flatten) → (own.set i l).flatten.Nodup
  | [], _, _, h, _, _ => h
  | l0 :: r, 0, l, h, hl, hd => by
    simp only [List.set_cons_zero, List.flatten_cons] at h ⊢
    rw [List.nodup_append] at h ⊢
    refine ⟨hl, h.2.1, fun a ha b hb e => ?_⟩
    subst e
    exact hd a ha (by simp only [List.flatten_cons, List.mem_append]; exact .inr hb)
  | l0 :: r, i + 1, l, h, hl, hd => by
    simp only [List.set_cons_succ, List.flatten_cons] at h ⊢
    rw [List.nodup_append] at h ⊢
    refine ⟨h.1, flat_set_nd h.2.1 hl fun a ha hb => hd a ha (by simp only [List.flatten_cons, List.mem_append]; exact .inr hb), fun a ha b hb e => ?_⟩
    subst e
    rcases flat_set_sub hb with hb | hb
    · exact h.2.2 a ha a hb rfl
    · exact hd a hb (by simp only [List.flatten_cons, List.mem_append]; exact .inl ha)
/-- what stays when the slots' data may only get easier -/
theorem SlotIs.mono {x : Option V} {l : List Addr} {s : S} (q : SlotIs K H G x l s) (e : Ex G G') (k : ∀ a ∈ l, H' a = H a) : SlotIs K H' G' x l s := by
  cases s with
  | no => exact q
  | sh d => obtain ⟨q0, v, q1, q2⟩ := q; exact ⟨q0, v, q1, q2.mono e⟩
  | ow o => obtain ⟨v, q1, q2⟩ := q; exact ⟨v, q1, q2.mono e k⟩
theorem set_get {α : Type} {l : List α} {i j : Nat} {a b : α} (h : (l.set i a)[j]? = some b) : (i = j ∧ b = a) ∨ (i ≠ j ∧ l[j]? = some b) := by
  rw [List.getElem?_set] at h
  by_cases e : i = j
  · rw [if_pos e] at h
    split at h
    · exact .inl ⟨e, (Option.some.inj h).symm⟩
    · cases h
  · rw [if_neg e] at h
    exact .inr ⟨e, h⟩
theorem Rel.setSh (R : Rel K H0 σ H δ own) (h : Is K (cut H own.flatten) v d) : Rel K H0 (σ.set i (some v)) H (δ.set i (.sh d)) (own.set i []) := by
  have sub : ∀ a ∈ (own.set i []).flatten, a ∈ own.flatten := fun a ha => by
    rcases flat_set_sub ha with z | z
    · exact z
    · cases z
  have e : Ex (cut H own.flatten) (cut H (own.set i []).flatten) := cut_sub sub
  refine ⟨R.ex.trans e, by simp [R.len1], by simp [R.len2], fun j s x l h1 h2 h3 => ?_, flat_set_nd R.nd List.nodup_nil fun a ha => by cases ha⟩
  rcases set_get h1 with ⟨e1, rfl⟩ | ⟨n1, g1⟩
  · rcases set_get h2 with ⟨_, rfl⟩ | ⟨n2, _⟩
    · rcases set_get h3 with ⟨_, rfl⟩ | ⟨n3, _⟩
      · exact ⟨rfl, v, rfl, h.mono e⟩
      · exact absurd e1 n3
    · exact absurd e1 n2
  · rcases set_get h2 with ⟨e2, _⟩ | ⟨_, g2⟩
    · exact absurd e2 n1
    · rcases set_get h3 with ⟨e3, _⟩ | ⟨_, g3⟩
      · exact absurd e3 n1
      · exact (R.sl j s x l g1 g2 g3).mono e fun _ _ => rfl
/-- a new object, the frame's own; G1: the shared heap with it -/
theorem Rel.setOw {G1 : Hp} {l0 : List Addr} {o : Ow} (R : Rel K H0 σ H δ own) (e : Ex (cut H own.flatten) (cut G1 l0)) (n : ∀ a ∈ own.flatten, G1 a = none) (nd : l0.Nodup) (h : OwIs K G1 (cut G1 l0) v l0 o) :
    Rel K H0 (σ.set i (some v)) (mrg H own.flatten G1) (δ.set i (.ow o)) (own.set i l0) := by
  have some1 : ∀ a ∈ l0, G1 a ≠ none := fun a ha z => by
    obtain ⟨u, hu⟩ := (h.at (fun a h => h) a ha).some
    rw [z] at hu; cases hu
  have dis : ∀ a ∈ l0, a ∉ own.flatten := fun a ha z => some1 a ha (n a z)
  have ee : Ex (cut G1 l0) (cut (mrg H own.flatten G1) (own.set i l0).flatten) := fun a u q => by
    obtain ⟨q1, q2⟩ := cut_some q
    have q3 : a ∉ own.flatten := fun z => by rw [n a z] at q2; cases q2
    rw [cut_out (fun z => (flat_set_sub z).elim q3 q1), mrg_out q3]
    exact q2
  refine ⟨(R.ex.trans e).trans ee, by simp [R.len1], by simp [R.len2], fun j s x l h1 h2 h3 => ?_, flat_set_nd R.nd nd dis⟩
  rcases set_get h1 with ⟨e1, rfl⟩ | ⟨n1, g1⟩
  · rcases set_get h2 with ⟨_, rfl⟩ | ⟨n2, _⟩
    · rcases set_get h3 with ⟨_, rfl⟩ | ⟨n3, _⟩
      · exact ⟨v, rfl, h.mono ee fun a ha => mrg_out (dis a ha)⟩
      · exact absurd e1 n3
    · exact absurd e1 n2
  · rcases set_get h2 with ⟨e2, _⟩ | ⟨_, g2⟩
    · exact absurd e2 n1
    · rcases set_get h3 with ⟨e3, _⟩ | ⟨_, g3⟩
      · exact absurd e3 n1
      · exact (R.sl j s x l g1 g2 g3).mono (e.trans ee) fun a ha => mrg_in (mem_flat g3 ha)
theorem nd_apart : ∀ {own : List (List Addr)} {i j : Nat} {l l' : List Addr} {a : Addr}, own.flatten.Nodup → own[i]? = some l → own[j]? = some l' → i ≠ j → a ∈ l → a ∈ l' → False
  | [], _, _, _, _, _, _, h, _, _, _, _ => by cases h
  | l0 :: r, 0, 0, _, _, _, _, _, _, n, _, _ => n rfl
  | l0 :: r, 0, j + 1, l, l', a, nd, h, h', n, ha, ha' => by
    rw [List.flatten_cons, List.nodup_append] at nd
    cases h
    exact nd.2.2 a ha a (mem_flat (i := j) h' ha') rfl
  | l0 :: r, i + 1, 0, l, l', a, nd, h, h', n, ha, ha' => by
    rw [List.flatten_cons, List.nodup_append] at nd
    cases h'
    exact nd.2.2 a ha' a (mem_flat (i := i) h ha) rfl
  | l0 :: r, i + 1, j + 1, l, l', a, nd, h, h', n, ha, ha' => by
    rw [List.flatten_cons, List.nodup_append] at nd
    exact nd_apart (i := i) (j := j) nd.2.1 h h' (fun e => n (by rw [e])) ha ha'
/-- an owned object is written -/
theorem Rel.write {p : Addr} {ho : HO} {l : List Addr} {o' : Ow} (R : Rel K H0 σ H δ own) (hi : own[i]? = some l) (hp : p ∈ l) (hs : σ[i]? = some (some v)) (h : OwIs K (upd H p ho) (cut H own.flatten) v l o') : Rel K H0 σ (upd H p ho) (δ.set i (.ow o')) own := by
  have c : cut (upd H p ho) own.flatten = cut H own.flatten := by
    funext a
    by_cases z : a ∈ own.flatten
    · rw [cut_in z, cut_in z]
    · rw [cut_out z, cut_out z, upd_ne fun e => z (by rw [e]; exact mem_flat hi hp)]
  refine ⟨by rw [c]; exact R.ex, by simp [R.len1], by simp [R.len2], fun j s x l' h1 h2 h3 => ?_, R.nd⟩
  rw [c]
  rcases set_get h1 with ⟨rfl, rfl⟩ | ⟨n1, g1⟩
  · rw [hi] at h3; cases h3
    rw [hs] at h2; cases h2
    exact ⟨v, rfl, h⟩
  · refine (R.sl j s x l' g1 h2 h3).mono (Same.refl _) fun a ha => upd_ne fun e => ?_
    subst e
    exact nd_apart R.nd hi h3 n1 hp ha

/-- a state told by less: a slot forgotten, an owned object read as data -/
inductive Vw : List S → List S → Prop
  | nil : Vw [] []
  | keep {s : S} {a b : List S} : Vw a b → Vw (s :: a) (s :: b)
  | drop {s : S} {a b : List S} : Vw a b → Vw (s :: a) (.no :: b)
  | bor {o : Ow} {a b : List S} : Vw a b → Vw (.ow o :: a) (.sh o.d :: b)
theorem Vw.refl : ∀ (δ : List S), Vw δ δ
  | [] => .nil
  | _ :: r => .keep (Vw.refl r)
theorem Vw.len {δ δ' : List S} (h : Vw δ δ') : δ.length = δ'.length := by
  induction h with
  | nil => rfl
  | keep _ ih => exact congrArg (· + 1) ih
  | drop _ ih => exact congrArg (· + 1) ih
  | bor _ ih => exact congrArg (· + 1) ih
theorem Vw.get {δ δ' : List S} (h : Vw δ δ') : ∀ {i : Nat} {s' : S}, δ'[i]? = some s' → ∃ s, δ[i]? = some s ∧ (s' = s ∨ s' = .no ∨ ∃ o, s = .ow o ∧ s' = .sh o.d) := by
  induction h with
  | nil => intro i s' e; cases e
  | @keep s a b _ ih =>
    intro i s' e
    cases i with
    | zero => cases e; exact ⟨s, rfl, .inl rfl⟩
    | succ i => exact ih (i := i) e
  | @drop s a b _ ih =>
    intro i s' e
    cases i with
    | zero => cases e; exact ⟨s, rfl, .inr (.inl rfl)⟩
    | succ i => exact ih (i := i) e
  | @bor o a b _ ih =>
    intro i s' e
    cases i with
    | zero => cases e; exact ⟨_, rfl, .inr (.inr ⟨o, rfl, rfl⟩)⟩
    | succ i => exact ih (i := i) e
def keepOw : List (List Addr) → List S → List (List Addr)
  | l :: r, .ow _ :: b => l :: keepOw r b
  | _ :: r, _ :: b => [] :: keepOw r b
  | _, _ => []
theorem keepOw_sub : ∀ (own : List (List Addr)) (δ : List S), (keepOw own δ).flatten.Sublist own.flatten
  | [], δ => by cases δ <;> exact List.Sublist.refl _
  | l :: r, [] => by simp [keepOw]
  | l :: r, .ow _ :: b => by
    simp only [keepOw, List.flatten_cons]
    exact (List.Sublist.refl l).append (keepOw_sub r b)
  | l :: r, .no :: b => by
    simp only [keepOw, List.flatten_cons, List.nil_append]
    exact (keepOw_sub r b).trans (List.sublist_append_right _ _)
  | l :: r, .sh _ :: b => by
    simp only [keepOw, List.flatten_cons, List.nil_append]
    exact (keepOw_sub r b).trans (List.sublist_append_right _ _)
theorem keepOw_len : ∀ (own : List (List Addr)) (δ : List S), own.length = δ.length → (keepOw own δ).length = δ.length
  | [], [], _ => rfl
  | l :: r, .ow _ :: b, h => congrArg (· + 1) (keepOw_len r b (Nat.succ.inj h))
  | l :: r, .no :: b, h => congrArg (· + 1) (keepOw_len r b (Nat.succ.inj h))
  | l :: r, .sh _ :: b, h => congrArg (· + 1) (keepOw_len r b (Nat.succ.inj h))
theorem keepOw_get : ∀ (own : List (List Addr)) (δ : List S) (i : Nat) (l : List Addr) (s : S), δ[i]? = some s → (keepOw own δ)[i]? = some l → (∃ o, s = .ow o ∧ own[i]? = some l) ∨ ((∀ o, s ≠ .ow o) ∧ l = [])
  | [], δ, i, l, s, _, h => by cases δ <;> cases h
  | l0 :: r, [], i, l, s, h, _ => by cases h
  | l0 :: r, .ow o :: b, 0, l, s, h, h' => by cases h; cases h'; exact .inl ⟨o, rfl, rfl⟩
  | l0 :: r, .no :: b, 0, l, s, h, h' => by cases h; cases h'; exact .inr ⟨fun o e => (by cases e), rfl⟩
  | l0 :: r, .sh d :: b, 0, l, s, h, h' => by cases h; cases h'; exact .inr ⟨fun o e => (by cases e), rfl⟩
  | l0 :: r, .ow o :: b, i + 1, l, s, h, h' => keepOw_get r b i l s h h'
  | l0 :: r, .no :: b, i + 1, l, s, h, h' => keepOw_get r b i l s h h'
  | l0 :: r, .sh d :: b, i + 1, l, s, h, h' => keepOw_get r b i l s h h'
theorem Rel.view (R : Rel K H0 σ H δ own) (h : Vw δ δ') : Rel K H0 σ H δ' (keepOw own δ') ∧ ∀ a ∈ (keepOw own δ').flatten, a ∈ own.flatten := by
  have hl := h.len
  have sub : ∀ a ∈ (keepOw own δ').flatten, a ∈ own.flatten := fun a ha => (keepOw_sub own δ').mem ha
  have e : Ex (cut H own.flatten) (cut H (keepOw own δ').flatten) := cut_sub sub
  refine ⟨⟨R.ex.trans e, R.len1.trans hl, keepOw_len own δ' (R.len2.trans hl), fun i s' x l h1 h2 h3 => ?_, R.nd.sublist (keepOw_sub own δ')⟩, sub⟩
  obtain ⟨s, hs, c⟩ := h.get h1
  obtain ⟨x', l', e1, e2, q⟩ := R.idx hs
  rw [h2] at e1; cases e1
  rcases keepOw_get own δ' i l s' h1 h3 with ⟨o, rfl, ho⟩ | ⟨no, rfl⟩
  · rw [e2] at ho; cases ho
    rcases c with rfl | c | ⟨o', _, c⟩
    · exact q.mono e fun _ _ => rfl
    · cases c
    · cases c
  · rcases c with rfl | rfl | ⟨o, rfl, rfl⟩
    · cases s' with
      | no => exact rfl
      | sh d => obtain ⟨_, v, q1, q2⟩ := q; exact ⟨rfl, v, q1, q2.mono e⟩
      | ow o => exact absurd rfl (no o)
    · exact rfl
    · obtain ⟨v, q1, q2⟩ := q
      refine ⟨rfl, v, q1, ?_⟩
      -- the object is no more cut
      have e3 : Ex (cut H own.flatten) H := cut_ex
      have gone : ∀ a ∈ l', a ∉ (keepOw own δ').flatten := fun a ha hm => by
        obtain ⟨l2, hl2, ha2⟩ := List.mem_flatten.mp hm
        obtain ⟨j, hj⟩ := List.mem_iff_getElem?.mp hl2
        have hjd : j < δ'.length := by rw [← keepOw_len own δ' (R.len2.trans hl)]; exact (List.getElem?_eq_some_iff.mp hj).1
        rcases keepOw_get own δ' j l2 _ (List.getElem?_eq_getElem hjd) hj with ⟨o2, h4, h5⟩ | ⟨_, rfl⟩
        · by_cases ij : i = j
          · subst ij
            have h6 := List.getElem?_eq_getElem hjd
            rw [h1, h4] at h6
            cases h6
          · exact nd_apart R.nd e2 h5 ij ha ha2
        · cases ha2
      have q3 : OwIs K (cut H (keepOw own δ').flatten) (cut H own.flatten) v l' o := q2.mono (Same.refl _) fun a ha => cut_out (gone a ha)
      exact q3.is e
end
/-! ### what an expression, a statement comes to, as a reading -/
section
variable {X : Cx} {σ : L2.St} {H : Hp}
structure semE (X : Cx) (e : Expr) (σ : L2.St) (H : Hp) (Q : VK) : Prop where
  run : ∀ pins s, Inv X pins σ H s → wpAny (model X.prog X.w) X.A (eval e X.env) (EP X pins σ Q) X.xe s
structure semT (X : Cx) (e : Expr) (σ : L2.St) (H : Hp) (Q : Bool → Hp → Prop) : Prop where
  run : ∀ pins s, Inv X pins σ H s → wpAny (model X.prog X.w) X.A (isTrue e X.env (eval e X.env)) (TP X pins σ Q) X.xe s
structure semW (X : Cx) (e : Expr) (σ : L2.St) (H : Hp) (Q : Bool → Hp → Prop) : Prop where
  run : ∀ whole pins s, Inv X pins σ H s → wpAny (model X.prog X.w) X.A (isTrue e X.env whole) (TP X pins σ Q) X.xe s
structure semA (X : Cx) (es : List Expr) (σ : L2.St) (H : Hp) (Q : List V → Hp → Prop) : Prop where
  run : ∀ pos pins s, Inv X pins σ H s → wpAny (model X.prog X.w) X.A (spliced (backTo pos (starEach es X.env))) (AP X pins σ Q) X.xe s
structure semS (X : Cx) (st : Stmt) (D : Ends) (σ : L2.St) (H : Hp) : Prop where
  run : ∀ pins s, Inv X pins σ H s → wpAny (model X.prog X.w) X.A (exec st X.env) (SP X pins D) X.xe s
structure semB (X : Cx) (st : List Stmt) (D : Ends) (σ : L2.St) (H : Hp) : Prop where
  run : ∀ pins s, Inv X pins σ H s → wpAny (model X.prog X.w) X.A (execs st X.env) (SP X pins D) X.xe s
theorem pe_sem {e : Expr} : PE X e (semE X e) := ⟨fun pins s σ H Q I h => h.run pins s I⟩
theorem pt_sem {e : Expr} : PT X e (semT X e) := ⟨fun pins s σ H Q I h => h.run pins s I⟩
theorem pw_sem {e : Expr} : PW X e (semW X e) := ⟨fun whole pins s σ H Q I h => h.run whole pins s I⟩
theorem pa_sem {es : List Expr} : PA X es (semA X es) := ⟨fun pos pins s σ H Q I h => h.run pos pins s I⟩
theorem ps_sem {st : Stmt} : PS X st (semS X st) := ⟨fun pins s σ H D I h => h.run pins s I⟩
theorem pb_sem {st : List Stmt} : PSs X st (semB X st) := ⟨fun pins s σ H D I h => h.run pins s I⟩
theorem toE {e : Expr} {t : TE} {Q : VK} (h : PE X e t) (q : t σ H Q) : semE X e σ H Q := .mk <| fun pins s I => h.run pins s σ H Q I q
theorem toT {e : Expr} {t : TT} {Q : Bool → Hp → Prop} (h : PT X e t) (q : t σ H Q) : semT X e σ H Q := .mk <| fun pins s I => h.run pins s σ H Q I q
theorem toW {e : Expr} {t : TT} {Q : Bool → Hp → Prop} (h : PW X e t) (q : t σ H Q) : semW X e σ H Q := .mk <| fun whole pins s I => h.run whole pins s σ H Q I q
theorem toA {es : List Expr} {t : TA} {Q : List V → Hp → Prop} (h : PA X es t) (q : t σ H Q) : semA X es σ H Q := .mk <| fun pos pins s I => h.run pos pins s σ H Q I q
theorem toS {st : Stmt} {t : TS} {D : Ends} (h : PS X st t) (q : t D σ H) : semS X st D σ H := .mk <| fun pins s I => h.run pins s σ H D I q
theorem toB {st : List Stmt} {t : TS} {D : Ends} (h : PSs X st t) (q : t D σ H) : semB X st D σ H := .mk <| fun pins s I => h.run pins s σ H D I q
theorem semE.mono {e : Expr} {Q Q' : VK} (h : semE X e σ H Q) (k : ∀ v H', Q v H' → Q' v H') : semE X e σ H Q' := .mk <| fun pins s I => thn (h.run pins s I) fun u s' ⟨v, H', J, r, q⟩ => ⟨v, H', J, r, k v H' q⟩
theorem semT.mono {e : Expr} {Q Q' : Bool → Hp → Prop} (h : semT X e σ H Q) (k : ∀ v H', Q v H' → Q' v H') : semT X e σ H Q' := .mk <| fun pins s I => thn (h.run pins s I) fun u s' ⟨H', J, q⟩ => ⟨H', J, k u H' q⟩
theorem semW.mono {e : Expr} {Q Q' : Bool → Hp → Prop} (h : semW X e σ H Q) (k : ∀ v H', Q v H' → Q' v H') : semW X e σ H Q' := .mk <| fun whole pins s I => thn (h.run whole pins s I) fun u s' ⟨H', J, q⟩ => ⟨H', J, k u H' q⟩
theorem semA.mono {es : List Expr} {Q Q' : List V → Hp → Prop} (h : semA X es σ H Q) (k : ∀ v H', Q v H' → Q' v H') : semA X es σ H Q' := .mk <| fun pos pins s I => thn (h.run pos pins s I) fun u s' ⟨v, H', J, r, q⟩ => ⟨v, H', J, r, k v H' q⟩
theorem SP.mono {D D' : Ends} {pins : List (Addr × Obj)} {f : Flow} {s : Shared} (h : SP X pins D f s) (nx : ∀ σ H, D.nx σ H → D'.nx σ H) (rt : ∀ v H, D.rt v H → D'.rt v H) (bk : ∀ σ H, D.bk σ H → D'.bk σ H) (ct : ∀ σ H, D.ct σ H → D'.ct σ H) : SP X pins D' f s := by
  cases f with
  | next => obtain ⟨σ', H', I, q⟩ := h; exact ⟨σ', H', I, nx _ _ q⟩
  | brk => obtain ⟨σ', H', I, q⟩ := h; exact ⟨σ', H', I, bk _ _ q⟩
  | cont => obtain ⟨σ', H', I, q⟩ := h; exact ⟨σ', H', I, ct _ _ q⟩
  | ret u => obtain ⟨v, σ', H', I, r, q⟩ := h; exact ⟨v, σ', H', I, r, rt _ _ q⟩
theorem semS.mono {st : Stmt} {D D' : Ends} (h : semS X st D σ H) (nx : ∀ σ H, D.nx σ H → D'.nx σ H) (rt : ∀ v H, D.rt v H → D'.rt v H) (bk : ∀ σ H, D.bk σ H → D'.bk σ H) (ct : ∀ σ H, D.ct σ H → D'.ct σ H) : semS X st D' σ H :=
  .mk <| fun pins s I => thn (h.run pins s I) fun f s' q => DL.SP.mono q nx rt bk ct
theorem semB.mono {st : List Stmt} {D D' : Ends} (h : semB X st D σ H) (nx : ∀ σ H, D.nx σ H → D'.nx σ H) (rt : ∀ v H, D.rt v H → D'.rt v H) (bk : ∀ σ H, D.bk σ H → D'.bk σ H) (ct : ∀ σ H, D.ct σ H → D'.ct σ H) : semB X st D' σ H :=
  .mk <| fun pins s I => thn (h.run pins s I) fun f s' q => DL.SP.mono q nx rt bk ct
/-- an expression is run with the owned objects out of sight -/
theorem semE.frame {e : Expr} {ps : List Addr} {Q : VK} (hp : ∀ a ∈ ps, OwnAt H ps a) (h : semE X e σ (cut H ps) Q) : semE X e σ H (fun v H' => ∃ G, H' = mrg H ps G ∧ (∀ a ∈ ps, G a = none) ∧ Q v G) := .mk <| fun pins s I =>
  thn (h.run _ s (cut_inv I hp)) fun u s' ⟨v, G, J, r, q⟩ => by
    obtain ⟨M, gn⟩ := mrg_inv I hp J
    exact ⟨v, _, M, r, G, rfl, gn, q⟩
theorem semT.frame {e : Expr} {ps : List Addr} {Q : Bool → Hp → Prop} (hp : ∀ a ∈ ps, OwnAt H ps a) (h : semT X e σ (cut H ps) Q) : semT X e σ H (fun v H' => ∃ G, H' = mrg H ps G ∧ (∀ a ∈ ps, G a = none) ∧ Q v G) := .mk <| fun pins s I =>
  thn (h.run _ s (cut_inv I hp)) fun u s' ⟨G, J, q⟩ => by
    obtain ⟨M, gn⟩ := mrg_inv I hp J
    exact ⟨_, M, G, rfl, gn, q⟩
theorem semA.frame {es : List Expr} {ps : List Addr} {Q : List V → Hp → Prop} (hp : ∀ a ∈ ps, OwnAt H ps a) (h : semA X es σ (cut H ps) Q) : semA X es σ H (fun v H' => ∃ G, H' = mrg H ps G ∧ (∀ a ∈ ps, G a = none) ∧ Q v G) := .mk <| fun pos pins s I =>
  thn (h.run pos _ s (cut_inv I hp)) fun u s' ⟨v, G, J, r, q⟩ => by
    obtain ⟨M, gn⟩ := mrg_inv I hp J
    exact ⟨v, _, M, r, G, rfl, gn, q⟩
end
end DL
set_option Elab.async false
set_option linter.all false
set_option maxRecDepth 100000
set_option maxHeartbeats 2000000
/-! Part c: expressions, by data. -/
namespace DL
open PySem PySem.Spec PyProof.Rows L2
def notStar : Expr → Bool
  | .Starred _ _ => false
  | _ => true
theorem star_of {e : Expr} {es : List Expr} {env : Env} (h : notStar e = true) : starEach (e :: es) env = (false, eval e env) :: starEach es env := by
  cases e <;> first | rfl | cases h
theorem star_any {pos : Pos} {env : Env} : ∀ {es : List Expr}, es.all notStar = true → (backTo pos (starEach es env)).any (·.1) = false
  | [], _ => rfl
  | e :: es, h => by
    rw [List.all_cons, Bool.and_eq_true] at h
    rw [star_of h.1]
    have ih := star_any (pos := pos) (env := env) h.2
    simpa [backTo] using ih
section
variable (X : Cx) (H0 : Hp)
def We (e : Expr) (δ : List S) (k : D → Prop) : Prop := ∀ σ G, RelS X.K H0 σ G δ → semE X e σ G (fun v G' => Ex G G' ∧ ∃ d, Is X.K G' v d ∧ k d)
def Wt (e : Expr) (δ : List S) (k : Bool → Prop) : Prop := ∀ σ G, RelS X.K H0 σ G δ → semT X e σ G (fun b G' => Ex G G' ∧ k b)
def Ww (e : Expr) (δ : List S) (k : Bool → Prop) : Prop := ∀ σ G, RelS X.K H0 σ G δ → semW X e σ G (fun b G' => Ex G G' ∧ k b)
def Wa (es : List Expr) (δ : List S) (k : List D → Prop) : Prop := ∀ σ G, RelS X.K H0 σ G δ → semA X es σ G (fun vs G' => Ex G G' ∧ ∃ ds, IsL X.K G' vs ds ∧ k ds)
/-- a new object -/
def NewIs (K : PySem.W.Frag) (G : Hp) (v : V) (G' : Hp) (o : Ow) : Prop := ∃ l, OwIs K G' (cut G' l) v l o ∧ (∀ a ∈ l, G a = none) ∧ Ex G (cut G' l) ∧ l.Nodup
def Wo (e : Expr) (δ : List S) (k : Ow → Prop) : Prop := ∀ σ G, RelS X.K H0 σ G δ → semE X e σ G (fun v G' => ∃ o, NewIs X.K G v G' o ∧ k o)
end
theorem NewIs.ex {K : PySem.W.Frag} {G G' : Hp} {v : V} {o : Ow} (h : NewIs K G v G' o) : Ex G G' := by
  obtain ⟨l, _, _, e, _⟩ := h
  exact e.trans cut_ex
theorem NewIs.is {K : PySem.W.Frag} {G G' : Hp} {v : V} {o : Ow} (h : NewIs K G v G' o) : Is K G' v o.d := by
  obtain ⟨l, q, _, e, _⟩ := h
  exact q.is cut_ex
theorem NewIs.back {K : PySem.W.Frag} {G0 G G' : Hp} {v : V} {o : Ow} (e : Ex G0 G) (h : NewIs K G v G' o) : NewIs K G0 v G' o := by
  obtain ⟨l, q, n, e', nd⟩ := h
  exact ⟨l, q, fun a ha => e.free (n a ha), e.trans e', nd⟩
theorem NewIs.lst {K : PySem.W.Frag} {G : Hp} {p : Addr} {xs : List V} {ds : List D} (n : G p = none) (h : IsL K G xs ds) : NewIs K G (.ref p) (upd G p (.lst xs)) (.lst ds) := by
  have e : Ex G (cut (upd G p (.lst xs)) [p]) := fun a u q => by
    have hne : a ≠ p := ne_of_none q n
    rw [cut_out (by simpa using hne), upd_ne hne]
    exact q
  exact ⟨[p], ⟨p, xs, rfl, rfl, upd_same, h.mono e⟩, fun a ha => by rw [show a = p by simpa using ha]; exact n, e, by simp⟩
theorem NewIs.dic {K : PySem.W.Frag} {G : Hp} {p : Addr} {xs : List (Key × V)} {ds : List (Key × D)} (n : G p = none) (h : IsK K G xs ds) : NewIs K G (.ref p) (upd G p (.dK xs)) (.dic ds) := by
  have e : Ex G (cut (upd G p (.dK xs)) [p]) := fun a u q => by
    have hne : a ≠ p := ne_of_none q n
    rw [cut_out (by simpa using hne), upd_ne hne]
    exact q
  exact ⟨[p], ⟨p, xs, rfl, rfl, upd_same, h.mono e⟩, fun a ha => by rw [show a = p by simpa using ha]; exact n, e, by simp⟩
def I2 (x y : D) (P : Int → Int → Prop) : Prop := ∃ i j, x = .int i ∧ y = .int j ∧ P i j
theorem i2 {i j : Int} {P : Int → Int → Prop} (h : P i j) : I2 (.int i) (.int j) P := ⟨i, j, rfl, rfl, h⟩
def I1 (x : D) (P : Int → Prop) : Prop := ∃ i, x = .int i ∧ P i
theorem i1 {i : Int} {P : Int → Prop} (h : P i) : I1 (.int i) P := ⟨i, rfl, h⟩
def B1 (x : D) (P : Bool → Prop) : Prop := ∃ i, x = .bl i ∧ P i
theorem b1 {i : Bool} {P : Bool → Prop} (h : P i) : B1 (.bl i) P := ⟨i, rfl, h⟩
section
variable {X : Cx} {H0 : Hp} {δ : List S} {a b c e : Expr} {es : List Expr} {k : D → Prop} {kt : Bool → Prop} {pos : Pos}
theorem We.mono {k' : D → Prop} (h : We X H0 e δ k) (m : ∀ d, k d → k' d) : We X H0 e δ k' := fun σ G R => (h σ G R).mono fun v G' ⟨e, d, i, q⟩ => ⟨e, d, i, m d q⟩
theorem Wt.mono {k' : Bool → Prop} (h : Wt X H0 e δ kt) (m : ∀ d, kt d → k' d) : Wt X H0 e δ k' := fun σ G R => (h σ G R).mono fun v G' ⟨e, q⟩ => ⟨e, m v q⟩
theorem we_new (h : Wo X H0 e δ (fun o => k o.d)) : We X H0 e δ k := fun σ G R => (h σ G R).mono fun v G' ⟨o, n, q⟩ => ⟨n.ex, _, n.is, q⟩
theorem we_var (i : Nat) {x : Str} {d : D} (hd : δ[i]? = some (.sh d)) (h : k d) (hp : PE X (.Name x pos) (tVar i) := by exact pv _) : We X H0 (.Name x pos) δ k := fun σ G R => by
  obtain ⟨v, e, q⟩ := R.sh i d hd
  exact toE hp ⟨v, e, Same.refl _, d, q, h⟩
theorem we_int {i : Int} {j} (h : k (.int i)) : We X H0 (.Constant (.int i) j pos) δ k := fun σ G R => toE pe_int ⟨Same.refl _, _, .int i, h⟩
theorem we_bl {i : Bool} {j} (h : k (.bl i)) : We X H0 (.Constant (.bool i) j pos) δ k := fun σ G R => toE pe_bl ⟨Same.refl _, _, .bl i, h⟩
theorem we_non {j} (h : k .non) : We X H0 (.Constant .none j pos) δ k := fun σ G R => toE pe_non ⟨Same.refl _, _, .non, h⟩
theorem we_str {x : Str} {j} (h : k (.str x)) : We X H0 (.Constant (.str x) j pos) δ k := fun σ G R => toE pe_str ⟨Same.refl _, _, .str x, h⟩
/-- two operands, then a rule on values -/
theorem two {f : V → V → Hp → VK → Prop} {P : D → D → Prop} (h : We X H0 a δ (fun x => We X H0 b δ (fun y => P x y))) (hf : ∀ G v w x y, Is X.K G v x → Is X.K G w y → P x y → ∀ Q : VK, (∀ z G' d, Ex G G' → Is X.K G' z d → k d → Q z G') → f v w G Q) :
    ∀ σ G, RelS X.K H0 σ G δ → tOp f (semE X a) (semE X b) σ G (fun v G' => Ex G G' ∧ ∃ d, Is X.K G' v d ∧ k d) := fun σ G R =>
  (h σ G R).mono fun v G1 ⟨e1, x, ix, q1⟩ => (q1 σ G1 (R.mono e1)).mono fun w G2 ⟨e2, y, iy, q2⟩ => hf G2 v w x y (ix.mono e2) iy q2 _ fun z G' d e3 iz kz => ⟨(e1.trans e2).trans e3, d, iz, kz⟩
theorem twoT {f : V → V → Hp → VK → Prop} {P : D → D → Prop} (h : We X H0 a δ (fun x => We X H0 b δ (fun y => P x y))) (hf : ∀ G v w x y, Is X.K G v x → Is X.K G w y → P x y → ∀ Q : VK, (∀ z, kt z → Q (.bl z) G) → f v w G Q) :
    ∀ σ G, RelS X.K H0 σ G δ → tTest (tOp f (semE X a) (semE X b)) σ G (fun v G' => Ex G G' ∧ kt v) := fun σ G R =>
  (h σ G R).mono fun v G1 ⟨e1, x, ix, q1⟩ => (q1 σ G1 (R.mono e1)).mono fun w G2 ⟨e2, y, iy, q2⟩ => hf G2 v w x y (ix.mono e2) iy q2 _ fun z kz => ⟨z, rfl, e1.trans e2, kz⟩
theorem one {f : V → Hp → VK → Prop} {P : D → Prop} (h : We X H0 a δ P) (hf : ∀ G v x, Is X.K G v x → P x → ∀ Q : VK, (∀ z G' d, Ex G G' → Is X.K G' z d → k d → Q z G') → f v G Q) :
    ∀ σ G, RelS X.K H0 σ G δ → tUn f (semE X a) σ G (fun v G' => Ex G G' ∧ ∃ d, Is X.K G' v d ∧ k d) := fun σ G R =>
  (h σ G R).mono fun v G1 ⟨e1, x, ix, q1⟩ => hf G1 v x ix q1 _ fun z G' d e3 iz kz => ⟨e1.trans e3, d, iz, kz⟩
theorem ii {C : Int → Int → Prop} {g : Int → Int → V} {g' : Int → Int → D} (hg : ∀ G i j, Is X.K G (g i j) (g' i j)) : ∀ (G : Hp) v w x y, Is X.K G v x → Is X.K G w y → I2 x y (fun i j => C i j ∧ k (g' i j)) → ∀ Q : VK, (∀ z G' d, Ex G G' → Is X.K G' z d → k d → Q z G') → rI C g v w G Q :=
  fun G v w x y iv iw h Q q => by
    obtain ⟨i, j, rfl, rfl, hc, hk⟩ := h
    cases iv
    cases iw
    exact ⟨i, j, rfl, rfl, hc, q _ G _ (Same.refl _) (hg G i j) hk⟩
theorem ii0 {g : Int → Int → V} {g' : Int → Int → D} (hg : ∀ G i j, Is X.K G (g i j) (g' i j)) : ∀ (G : Hp) v w x y, Is X.K G v x → Is X.K G w y → I2 x y (fun i j => k (g' i j)) → ∀ Q : VK, (∀ z G' d, Ex G G' → Is X.K G' z d → k d → Q z G') → rI0 g v w G Q :=
  fun G v w x y iv iw h Q q => by
    obtain ⟨i, j, rfl, rfl, hk⟩ := h
    cases iv
    cases iw
    exact ⟨i, j, rfl, rfl, q _ G _ (Same.refl _) (hg G i j) hk⟩
theorem iiT {g : Int → Int → Bool} : ∀ (G : Hp) v w x y, Is X.K G v x → Is X.K G w y → I2 x y (fun i j => kt (g i j)) → ∀ Q : VK, (∀ z, kt z → Q (.bl z) G) → rI0 (fun i j => .bl (g i j)) v w G Q :=
  fun G v w x y iv iw h Q q => by
    obtain ⟨i, j, rfl, rfl, hk⟩ := h
    cases iv
    cases iw
    exact ⟨i, j, rfl, rfl, q _ hk⟩
theorem we_add (h : We X H0 a δ (fun x => We X H0 b δ (fun y => I2 x y (fun i j => k (.int (i + j)))))) : We X H0 (.BinOp a .Add b pos) δ k := fun σ G R => toE (pe_op op_add pe_sem pe_sem) (two h (ii0 fun G i j => .int _) σ G R)
theorem we_sub (h : We X H0 a δ (fun x => We X H0 b δ (fun y => I2 x y (fun i j => k (.int (i - j)))))) : We X H0 (.BinOp a .Sub b pos) δ k := fun σ G R => toE (pe_op op_sub pe_sem pe_sem) (two h (ii0 fun G i j => .int _) σ G R)
theorem we_mul (h : We X H0 a δ (fun x => We X H0 b δ (fun y => I2 x y (fun i j => CMulW i j ∧ k (.int (i * j)))))) : We X H0 (.BinOp a .Mult b pos) δ k := fun σ G R => toE (pe_op op_mulW pe_sem pe_sem) (two h (ii fun G i j => .int _) σ G R)
theorem we_div (h : We X H0 a δ (fun x => We X H0 b δ (fun y => I2 x y (fun i j => CDivW i j ∧ k (.int (i / j)))))) : We X H0 (.BinOp a .FloorDiv b pos) δ k := fun σ G R => toE (pe_op op_fdivW pe_sem pe_sem) (two h (ii fun G i j => .int _) σ G R)
theorem we_mod (h : We X H0 a δ (fun x => We X H0 b δ (fun y => I2 x y (fun i j => 0 < j ∧ k (.int (i % j)))))) : We X H0 (.BinOp a .Mod b pos) δ k := fun σ G R => toE (pe_op op_mod pe_sem pe_sem) (two h (ii fun G i j => .int _) σ G R)
theorem we_pow (h : We X H0 a δ (fun x => We X H0 b δ (fun y => I2 x y (fun i j => (0 ≤ j ∧ j ≤ 1000000 ∧ i.natAbs < 2 ^ 64) ∧ k (.int (i ^ j.toNat)))))) : We X H0 (.BinOp a .Pow b pos) δ k := fun σ G R => toE (pe_op op_pow pe_sem pe_sem) (two h (ii fun G i j => .int _) σ G R)
theorem we_neg (h : We X H0 a δ (fun x => I1 x (fun i => k (.int (-i))))) : We X H0 (.UnaryOp .USub a pos) δ k := fun σ G R => toE (pe_un un_neg pe_sem) (one h (fun G v x iv h Q q => by
  obtain ⟨i, rfl, hk⟩ := h
  cases iv
  exact ⟨i, rfl, q _ G _ (Same.refl _) (.int _) hk⟩) σ G R)
theorem wt_lt (h : We X H0 a δ (fun x => We X H0 b δ (fun y => I2 x y (fun i j => kt (decide (i < j)))))) : Wt X H0 (.Compare a [.Lt] [b] pos) δ kt := fun σ G R => toT (pt_cmpR op_lt pe_sem pe_sem (nomark _)) (twoT h (iiT (g := fun i j => decide (i < j))) σ G R)
theorem wt_le (h : We X H0 a δ (fun x => We X H0 b δ (fun y => I2 x y (fun i j => kt (decide (i ≤ j)))))) : Wt X H0 (.Compare a [.LtE] [b] pos) δ kt := fun σ G R => toT (pt_cmpR op_le pe_sem pe_sem (nomark _)) (twoT h (iiT (g := fun i j => decide (i ≤ j))) σ G R)
theorem wt_gt (h : We X H0 a δ (fun x => We X H0 b δ (fun y => I2 x y (fun i j => kt (decide (j < i)))))) : Wt X H0 (.Compare a [.Gt] [b] pos) δ kt := fun σ G R => toT (pt_cmpR op_gt pe_sem pe_sem (nomark _)) (twoT h (iiT (g := fun i j => decide (j < i))) σ G R)
theorem wt_ge (h : We X H0 a δ (fun x => We X H0 b δ (fun y => I2 x y (fun i j => kt (decide (j ≤ i)))))) : Wt X H0 (.Compare a [.GtE] [b] pos) δ kt := fun σ G R => toT (pt_cmpR op_ge pe_sem pe_sem (nomark _)) (twoT h (iiT (g := fun i j => decide (j ≤ i))) σ G R)
theorem we_lt (h : We X H0 a δ (fun x => We X H0 b δ (fun y => I2 x y (fun i j => k (.bl (decide (i < j))))))) : We X H0 (.Compare a [.Lt] [b] pos) δ k := fun σ G R => toE (pe_cmpR op_lt pe_sem pe_sem (nomark _)) (two h (ii0 fun G i j => .bl _) σ G R)
theorem we_le (h : We X H0 a δ (fun x => We X H0 b δ (fun y => I2 x y (fun i j => k (.bl (decide (i ≤ j))))))) : We X H0 (.Compare a [.LtE] [b] pos) δ k := fun σ G R => toE (pe_cmpR op_le pe_sem pe_sem (nomark _)) (two h (ii0 fun G i j => .bl _) σ G R)
theorem we_gt (h : We X H0 a δ (fun x => We X H0 b δ (fun y => I2 x y (fun i j => k (.bl (decide (j < i))))))) : We X H0 (.Compare a [.Gt] [b] pos) δ k := fun σ G R => toE (pe_cmpR op_gt pe_sem pe_sem (nomark _)) (two h (ii0 fun G i j => .bl _) σ G R)
theorem we_ge (h : We X H0 a δ (fun x => We X H0 b δ (fun y => I2 x y (fun i j => k (.bl (decide (j ≤ i))))))) : We X H0 (.Compare a [.GtE] [b] pos) δ k := fun σ G R => toE (pe_cmpR op_ge pe_sem pe_sem (nomark _)) (two h (ii0 fun G i j => .bl _) σ G R)
/-! ### == of flat things -/
def flatEq : D → D → Option Bool
  | .non, .non => some true | .non, .int _ => some false | .int _, .non => some false | .non, .bl _ => some false | .bl _, .non => some false | .non, .str _ => some false | .str _, .non => some false
  | .int i, .int j => some (decide (i = j)) | .bl i, .bl j => some (decide (i = j)) | .str i, .str j => some (decide (i = j))
  | .int _, .str _ => some false | .str _, .int _ => some false | .bl _, .str _ => some false | .str _, .bl _ => some false
  | _, _ => none
def FE (x y : D) (P : Bool → Prop) : Prop := ∃ r, flatEq x y = some r ∧ P r
theorem flatEq_is {K : PySem.W.Frag} {G : Hp} {v w : V} {x y : D} {r : Bool} (iv : Is K G v x) (iw : Is K G w y) (h : flatEq x y = some r) : scal v w = true ∧ decide (v = w) = r := by
  cases iv <;> cases iw <;> first
    | (cases h; exact ⟨rfl, by simp⟩)
    | (cases h; exact ⟨rfl, rfl⟩)
    | cases h
theorem wt_eq (h : We X H0 a δ (fun x => We X H0 b δ (fun y => FE x y kt))) : Wt X H0 (.Compare a [.Eq] [b] pos) δ kt := fun σ G R => toT (pt_cmpR op_eq pe_sem pe_sem (nomark _)) (twoT h (fun G v w x y iv iw ⟨r, h, hk⟩ Q q => by
  obtain ⟨h1, h2⟩ := flatEq_is iv iw h
  exact ⟨h1, by rw [h2]; exact q r hk⟩) σ G R)
theorem wt_ne (h : We X H0 a δ (fun x => We X H0 b δ (fun y => FE x y fun r => kt (!r)))) : Wt X H0 (.Compare a [.NotEq] [b] pos) δ kt := fun σ G R => toT (pt_cmpR op_ne pe_sem pe_sem (nomark _)) (twoT h (fun G v w x y iv iw ⟨r, h, hk⟩ Q q => by
  obtain ⟨h1, h2⟩ := flatEq_is iv iw h
  exact ⟨h1, by rw [h2]; exact q _ hk⟩) σ G R)
theorem we_eq (h : We X H0 a δ (fun x => We X H0 b δ (fun y => FE x y fun r => k (.bl r)))) : We X H0 (.Compare a [.Eq] [b] pos) δ k := fun σ G R => toE (pe_cmpR op_eq pe_sem pe_sem (nomark _)) (two h (fun G v w x y iv iw ⟨r, h, hk⟩ Q q => by
  obtain ⟨h1, h2⟩ := flatEq_is iv iw h
  exact ⟨h1, by rw [h2]; exact q _ G _ (Same.refl _) (.bl r) hk⟩) σ G R)
theorem we_ne (h : We X H0 a δ (fun x => We X H0 b δ (fun y => FE x y fun r => k (.bl (!r))))) : We X H0 (.Compare a [.NotEq] [b] pos) δ k := fun σ G R => toE (pe_cmpR op_ne pe_sem pe_sem (nomark _)) (two h (fun G v w x y iv iw ⟨r, h, hk⟩ Q q => by
  obtain ⟨h1, h2⟩ := flatEq_is iv iw h
  exact ⟨h1, by rw [h2]; exact q _ G _ (Same.refl _) (.bl (!r)) hk⟩) σ G R)
theorem fe {x y : D} {r : Bool} {P : Bool → Prop} (e : flatEq x y = some r) (h : P r) : FE x y P := ⟨r, e, h⟩
/-- is None -/
def isNon : D → Bool
  | .non => true
  | _ => false
def NN (y : D) (P : Prop) : Prop := y = .non ∧ P
theorem nn {P : Prop} (h : P) : NN .non P := ⟨rfl, h⟩
theorem isNon_is {K : PySem.W.Frag} {G : Hp} {v : V} {x : D} (iv : Is K G v x) : decide (v = .non) = isNon x := by
  cases iv <;> rfl
theorem wt_isN (h : We X H0 a δ (fun x => We X H0 b δ (fun y => NN y (kt (isNon x))))) : Wt X H0 (.Compare a [.Is] [b] pos) δ kt := fun σ G R => toT (pt_cmpR op_isN pe_sem pe_sem (nomark _)) (twoT h (fun G v w x y iv iw ⟨h, hk⟩ Q q => by
  subst h
  cases iw
  exact ⟨rfl, by rw [isNon_is iv]; exact q _ hk⟩) σ G R)
theorem wt_notN (h : We X H0 a δ (fun x => We X H0 b δ (fun y => NN y (kt (!isNon x))))) : Wt X H0 (.Compare a [.IsNot] [b] pos) δ kt := fun σ G R => toT (pt_cmpR op_notN pe_sem pe_sem (nomark _)) (twoT h (fun G v w x y iv iw ⟨h, hk⟩ Q q => by
  subst h
  cases iw
  exact ⟨rfl, by rw [isNon_is iv]; exact q _ hk⟩) σ G R)
theorem we_isN (h : We X H0 a δ (fun x => We X H0 b δ (fun y => NN y (k (.bl (isNon x)))))) : We X H0 (.Compare a [.Is] [b] pos) δ k := fun σ G R => toE (pe_cmpR op_isN pe_sem pe_sem (nomark _)) (two h (fun G v w x y iv iw ⟨h, hk⟩ Q q => by
  subst h
  cases iw
  exact ⟨rfl, by rw [isNon_is iv]; exact q _ G _ (Same.refl _) (.bl _) hk⟩) σ G R)
theorem we_notN (h : We X H0 a δ (fun x => We X H0 b δ (fun y => NN y (k (.bl (!isNon x)))))) : We X H0 (.Compare a [.IsNot] [b] pos) δ k := fun σ G R => toE (pe_cmpR op_notN pe_sem pe_sem (nomark _)) (two h (fun G v w x y iv iw ⟨h, hk⟩ Q q => by
  subst h
  cases iw
  exact ⟨rfl, by rw [isNon_is iv]; exact q _ G _ (Same.refl _) (.bl _) hk⟩) σ G R)
/-! ### subscripts -/
def Ix (x y : D) (P : D → Prop) : Prop := ∃ l ds i d, x = .sq l ds ∧ y = .int i ∧ atI ds i = some d ∧ P d
theorem ixn (j : Nat) {l : Bool} {ds : List D} {i : Int} {d : D} {P : D → Prop} (e : ds[j]? = some d) (h : P d) (hi : i = (j : Int) := by rfl) : Ix (.sq l ds) (.int i) P := ⟨l, ds, i, d, rfl, rfl, by rw [hi]; exact atI_nat e, h⟩
theorem ixa {l : Bool} {ds : List D} {i : Int} {d : D} {P : D → Prop} (e : L2.atI ds i = some d) (h : P d) : Ix (.sq l ds) (.int i) P := ⟨l, ds, i, d, rfl, rfl, e, h⟩
theorem IsL.atI {K : PySem.W.Frag} {G : Hp} {xs : List V} {ds : List D} {i : Int} {d : D} (h : IsL K G xs ds) (e : L2.atI ds i = some d) : ∃ x, L2.atI xs i = some x ∧ Is K G x d := by
  unfold L2.atI at e ⊢
  rw [h.1]
  cases q : ixN ds.length i with
  | none => rw [q] at e; cases e
  | some j => rw [q] at e; exact h.get e
theorem we_ix (h : We X H0 a δ (fun x => We X H0 b δ (fun y => Ix x y k))) (hs : PlainIx b := by exact fun _ _ => rfl) : We X H0 (.Subscript a b pos) δ k := fun σ G R => toE (pe_ix ix_seq pe_sem pe_sem hs) (two h (fun G v w x y iv iw ⟨l, ds, i, d, ex, ey, he, hk⟩ Q q => by
  subst ex ey
  cases iw
  cases l with
  | true =>
    obtain ⟨p, xs, rfl, hq, hl⟩ := iv.lst_inv
    obtain ⟨z, hz, iz⟩ := hl.atI he
    exact .inl ⟨p, xs, i, z, rfl, rfl, .inl hq, hz, q _ G _ (Same.refl _) iz hk⟩
  | false =>
    obtain ⟨p, xs, rfl, hq, hl⟩ := iv.tup_inv
    obtain ⟨z, hz, iz⟩ := hl.atI he
    exact .inr (.inl ⟨p, xs, i, z, rfl, rfl, hq, hz, q _ G _ (Same.refl _) iz hk⟩)) σ G R)
/-- the script: one item, its length -/
theorem we_ixS (h : We X H0 a δ (fun x => We X H0 b δ (fun y => ∃ ns i n, x = .scr ns ∧ y = .int i ∧ atI ns i = some n ∧ k (.int n)))) (hs : PlainIx b := by exact fun _ _ => rfl) : We X H0 (.Subscript a b pos) δ k := fun σ G R => toE (pe_ix ix_seq pe_sem pe_sem hs) (two h (fun G v w x y iv iw ⟨ns, i, n, ex, ey, he, hk⟩ Q q => by
  subst ex ey
  cases iw
  obtain ⟨p, rfl, hq⟩ := iv.scr_inv
  refine .inl ⟨p, _, i, .int n, rfl, rfl, hq, ?_, q _ G _ (Same.refl _) (.int _) hk⟩
  unfold L2.atI at he ⊢
  rw [List.length_map]
  cases e : ixN ns.length i with
  | none => rw [e] at he; cases he
  | some j =>
    rw [e] at he
    show (ns.map V.int)[j]? = some (.int n)
    rw [List.getElem?_map, show ns[j]? = some n from he] <;> rfl) σ G R)
/-! ### and, or, not, if -/
theorem ww_and1 (h : Wt X H0 a δ kt) : Ww X H0 (.BoolOp .And [a] pos) δ kt := fun σ G R => toW (pw_and1 pt_sem) (h σ G R)
theorem ww_or1 (h : Wt X H0 a δ kt) : Ww X H0 (.BoolOp .Or [a] pos) δ kt := fun σ G R => toW (pw_or1 pt_sem) (h σ G R)
theorem ww_and (h : Wt X H0 a δ (fun r => (r = true → Ww X H0 (.BoolOp .And (b :: es) pos) δ kt) ∧ (r = false → kt false))) : Ww X H0 (.BoolOp .And (a :: b :: es) pos) δ kt := fun σ G R => toW (pw_and pt_sem pw_sem) ((h σ G R).mono fun r G1 ⟨e1, h1, h2⟩ => by
  cases r with
  | true =>
    show semW X _ σ G1 _
    exact (h1 rfl σ G1 (R.mono e1)).mono fun _ _ ⟨e2, q⟩ => ⟨e1.trans e2, q⟩
  | false => exact ⟨e1, h2 rfl⟩)
theorem ww_or (h : Wt X H0 a δ (fun r => (r = false → Ww X H0 (.BoolOp .Or (b :: es) pos) δ kt) ∧ (r = true → kt true))) : Ww X H0 (.BoolOp .Or (a :: b :: es) pos) δ kt := fun σ G R => toW (pw_or pt_sem pw_sem) ((h σ G R).mono fun r G1 ⟨e1, h1, h2⟩ => by
  cases r with
  | false =>
    show semW X _ σ G1 _
    exact (h1 rfl σ G1 (R.mono e1)).mono fun _ _ ⟨e2, q⟩ => ⟨e1.trans e2, q⟩
  | true => exact ⟨e1, h2 rfl⟩)
theorem wt_w (h : Ww X H0 e δ kt) : Wt X H0 e δ kt := fun σ G R => toT pw_sem.pt (h σ G R)
theorem wt_not (h : Wt X H0 a δ (fun r => kt (!r))) : Wt X H0 (.UnaryOp .Not a pos) δ kt := fun σ G R => toT (pt_not pt_sem) (h σ G R)
theorem wt_val (h : We X H0 e δ (fun d => B1 d kt)) (he : ∀ whole, isTrue e X.env whole = (do let v ← whole; standAt e.pos; holding [v] (truthy v)) := by exact fun _ => rfl) : Wt X H0 e δ kt := fun σ G R => toT (pt_val pe_sem he) ((h σ G R).mono fun v G1 ⟨e1, d, i, b, ed, q⟩ => by
  subst ed
  cases i
  exact ⟨b, rfl, e1, q⟩)
def truD : D → Option Bool
  | .non => some false
  | .bl b => some b
  | .int i => some (i != 0)
  | .sq _ ds => some (!ds.isEmpty)
  | _ => none
def TR (x : D) (P : Bool → Prop) : Prop := ∃ r, truD x = some r ∧ P r
theorem tr {x : D} {r : Bool} {P : Bool → Prop} (e : truD x = some r) (h : P r) : TR x P := ⟨r, e, h⟩
theorem isEmpty_len {α β : Type} {xs : List α} {ys : List β} (h : xs.length = ys.length) : xs.isEmpty = ys.isEmpty := by
  cases xs <;> cases ys <;> first | rfl | cases h
/-- the truth of any value -/
theorem wt_tru (h : We X H0 e δ (fun d => TR d kt)) (he : ∀ whole, isTrue e X.env whole = (do let v ← whole; standAt e.pos; holding [v] (truthy v)) := by exact fun _ => rfl) : Wt X H0 e δ kt := fun σ G R => toT (pt_truth pe_sem he) ((h σ G R).mono fun v G1 ⟨e1, d, i, r, ed, q⟩ => by
  refine ⟨r, ?_, e1, q⟩
  cases d with
  | non => cases i; cases ed; rfl
  | bl b => cases i; cases ed; rfl
  | int n => cases i; cases ed; rfl
  | sq l ds =>
    cases ed
    cases l with
    | true =>
      obtain ⟨p, xs, rfl, hq, hl⟩ := i.lst_inv
      exact .inl ⟨xs, .inl hq, by rw [isEmpty_len hl.1]⟩
    | false =>
      obtain ⟨p, xs, rfl, hq, hl⟩ := i.tup_inv
      exact .inr (.inl ⟨xs, hq, by rw [isEmpty_len hl.1]⟩)
  | str x => cases ed
  | dic x => cases ed
  | ins C x => cases ed
  | ob x => cases ed
  | exc x y z => cases ed
  | scr x => cases ed)
theorem we_one {op} (h : We X H0 a δ k) : We X H0 (.BoolOp op [a] pos) δ k := fun σ G R => toE (pe_one pe_sem) (h σ G R)
theorem we_and (h : We X H0 a δ (fun d => B1 d fun r => (r = true → We X H0 (.BoolOp .And (b :: es) pos) δ k) ∧ (r = false → k (.bl false)))) : We X H0 (.BoolOp .And (a :: b :: es) pos) δ k := fun σ G R => toE (pe_and pe_sem pe_sem) ((h σ G R).mono fun v G1 ⟨e1, d, i, r, ed, h1, h2⟩ => by
  subst ed
  cases i
  refine ⟨r, rfl, ?_⟩
  cases r with
  | true =>
    show semE X _ σ G1 _
    exact (h1 rfl σ G1 (R.mono e1)).mono fun _ _ ⟨e2, q⟩ => ⟨e1.trans e2, q⟩
  | false => exact ⟨e1, _, .bl false, h2 rfl⟩)
theorem we_or (h : We X H0 a δ (fun d => B1 d fun r => (r = false → We X H0 (.BoolOp .Or (b :: es) pos) δ k) ∧ (r = true → k (.bl true)))) : We X H0 (.BoolOp .Or (a :: b :: es) pos) δ k := fun σ G R => toE (pe_or pe_sem pe_sem) ((h σ G R).mono fun v G1 ⟨e1, d, i, r, ed, h1, h2⟩ => by
  subst ed
  cases i
  refine ⟨r, rfl, ?_⟩
  cases r with
  | false =>
    show semE X _ σ G1 _
    exact (h1 rfl σ G1 (R.mono e1)).mono fun _ _ ⟨e2, q⟩ => ⟨e1.trans e2, q⟩
  | true => exact ⟨e1, _, .bl true, h2 rfl⟩)
theorem we_not (h : We X H0 a δ (fun d => B1 d fun r => k (.bl (!r)))) : We X H0 (.UnaryOp .Not a pos) δ k := fun σ G R => toE (pe_not pe_sem) ((h σ G R).mono fun v G1 ⟨e1, d, i, r, ed, q⟩ => by
  subst ed
  cases i
  exact ⟨r, rfl, e1, _, .bl _, q⟩)
theorem we_if (h : Wt X H0 c δ (fun r => (r = true → We X H0 a δ k) ∧ (r = false → We X H0 b δ k))) : We X H0 (.IfExp c a b pos) δ k := fun σ G R => toE (pe_ifExp pt_sem pe_sem pe_sem) ((h σ G R).mono fun r G1 ⟨e1, h1, h2⟩ => by
  cases r with
  | true =>
    show semE X _ σ G1 _
    exact (h1 rfl σ G1 (R.mono e1)).mono fun _ _ ⟨e2, q⟩ => ⟨e1.trans e2, q⟩
  | false =>
    show semE X _ σ G1 _
    exact (h2 rfl σ G1 (R.mono e1)).mono fun _ _ ⟨e2, q⟩ => ⟨e1.trans e2, q⟩)
/-! ### arguments, displays -/
variable {ka : List D → Prop}
theorem wa_nil (h : ka []) : Wa X H0 [] δ ka := fun σ G R => toA pa_nil ⟨Same.refl _, _, .nil, h⟩
theorem wa_cons (h : We X H0 e δ (fun d => Wa X H0 es δ (fun ds => ka (d :: ds)))) (hs : notStar e = true := by rfl) : Wa X H0 (e :: es) δ ka := fun σ G R => toA (pa_cons pe_sem pa_sem (star_of hs)) ((h σ G R).mono fun v G1 ⟨e1, d, i, q1⟩ =>
  (q1 σ G1 (R.mono e1)).mono fun vs G2 ⟨e2, ds, is, q2⟩ => ⟨e1.trans e2, _, .cons (i.mono e2) is, q2⟩)
theorem we_tup {x1} (h : Wa X H0 es δ (fun ds => ds.length ≤ 100000 ∧ k (.sq false ds))) : We X H0 (.Tuple es x1 pos) δ k := fun σ G R => toE (pe_tup pa_sem) ((h σ G R).mono fun vs G1 ⟨e1, ds, is, hl, q⟩ =>
  ⟨Nat.le_trans (by rw [is.1]; exact hl) (by decide), fun p hp => ⟨e1.trans (Ex.new hp), _, .mkT (SqT.of upd_same) (is.mono (Ex.new hp)), q⟩⟩)
variable {ko : Ow → Prop}
theorem wo_lst (h : Wa X H0 es δ (fun ds => ds.length ≤ 100000 ∧ ko (.lst ds))) : Wo X H0 (.List es pos) δ ko := fun σ G R => toE (pe_lst pa_sem) ((h σ G R).mono fun vs G1 ⟨e1, ds, is, hl, q⟩ =>
  ⟨Nat.le_trans (by rw [is.1]; exact hl) (by decide), fun p hp => ⟨_, (NewIs.lst hp is).back e1, q⟩⟩)
/-! ### built-in functions -/
/-- a built-in by its name: what its rule asks, by data -/
theorem call1 {r : List V → Hp → VK → Prop} {P : List D → Prop} {ta : TA} (h : Wa X H0 es δ P) (hr : ∀ G vs ds, IsL X.K G vs ds → P ds → ∀ Q : VK, (∀ z G' d, Ex G G' → Is X.K G' z d → k d → Q z G') → r vs G Q) :
    ∀ σ G, RelS X.K H0 σ G δ → tCB r (semA X es) σ G (fun v G' => Ex G G' ∧ ∃ d, Is X.K G' v d ∧ k d) := fun σ G R =>
  (h σ G R).mono fun vs G1 ⟨e1, ds, is, q⟩ => hr G1 vs ds is q _ fun z G' d e3 iz kz => ⟨e1.trans e3, d, iz, kz⟩
variable {p : Pos}
theorem we_callB {x : Str} {id : String} {r : List V → Hp → VK → Prop} {P : List D → Prop} (hc : CallR X (.builtin id) r) (hv : bootBuiltins x = some (.builtin id)) (hn : x ≠ "__name__") (hdb : (x == ("__debug__" : Str)) = false)
    (hr : ∀ G vs ds, IsL X.K G vs ds → P ds → ∀ Q : VK, (∀ z G' d, Ex G G' → Is X.K G' z d → k d → Q z G') → r vs G Q) (hm : X.mg x = none) (h : Wa X H0 (e :: es) δ P) (hg : Gl X x)
    (he : notStar e = true) (hpl : es.all notStar = true) : We X H0 (.Call (.Name x p) (e :: es) [] pos) δ k :=
  fun σ G R => toE (pe_callB hc hg hm hv pa_sem hn hdb (star_of he) (star_any hpl)) (call1 (ta := semA X (e :: es)) h hr σ G R)
theorem we_callTy {x : Str} {T : String} {r : List V → Hp → VK → Prop} {P : List D → Prop} (hc : CallR X (.type T) r) (hv : bootBuiltins x = some (.type T)) (hn : x ≠ "__name__") (hdb : (x == ("__debug__" : Str)) = false)
    (hr : ∀ G vs ds, IsL X.K G vs ds → P ds → ∀ Q : VK, (∀ z G' d, Ex G G' → Is X.K G' z d → k d → Q z G') → r vs G Q) (hm : X.mg x = none) (h : Wa X H0 (e :: es) δ P) (hg : Gl X x)
    (he : notStar e = true) (hpl : es.all notStar = true) : We X H0 (.Call (.Name x p) (e :: es) [] pos) δ k :=
  fun σ G R => toE (pe_callTy hc hg hm hv pa_sem hn hdb (star_of he) (star_any hpl)) (call1 (ta := semA X (e :: es)) h hr σ G R)
def SQ (x : D) (P : Bool → List D → Prop) : Prop := ∃ l xs, x = .sq l xs ∧ P l xs
theorem sqk {l : Bool} {xs : List D} {P : Bool → List D → Prop} (h : P l xs) : SQ (.sq l xs) P := ⟨l, xs, rfl, h⟩
def CI (x : D) (P : Int → Prop) : Prop := (∃ i, x = .int i ∧ P i) ∨ ∃ b, x = .bl b ∧ P (if b then 1 else 0)
theorem ci {i : Int} {P : Int → Prop} (h : P i) : CI (.int i) P := .inl ⟨i, rfl, h⟩
theorem cb {b : Bool} {P : Int → Prop} (h : P (if b then 1 else 0)) : CI (.bl b) P := .inr ⟨b, rfl, h⟩
def A1 (ds : List D) (P : D → Prop) : Prop := ∃ x, ds = [x] ∧ P x
theorem a1 {x : D} {P : D → Prop} (h : P x) : A1 [x] P := ⟨x, rfl, h⟩
def A2 (ds : List D) (P : D → D → Prop) : Prop := ∃ x y, ds = [x, y] ∧ P x y
theorem a2 {x y : D} {P : D → D → Prop} (h : P x y) : A2 [x, y] P := ⟨x, y, rfl, h⟩
theorem IsL.one {K : PySem.W.Frag} {G : Hp} {vs : List V} {x : D} (h : IsL K G vs [x]) : ∃ v, vs = [v] ∧ Is K G v x := by
  obtain ⟨v, r, rfl, i, h⟩ := h.inv_cons
  rw [h.inv_nil]
  exact ⟨v, rfl, i⟩
theorem IsL.two {K : PySem.W.Frag} {G : Hp} {vs : List V} {x y : D} (h : IsL K G vs [x, y]) : ∃ v w, vs = [v, w] ∧ Is K G v x ∧ Is K G w y := by
  obtain ⟨v, r, rfl, i, h⟩ := h.inv_cons
  obtain ⟨w, rfl, j⟩ := h.one
  exact ⟨v, w, rfl, i, j⟩
theorem we_len (hm : X.mg "len" = none) (h : Wa X H0 [e] δ (fun ds => A1 ds fun x => SQ x fun l xs => k (.int xs.length))) (hg : Gl X "len" := by rfl) (he : notStar e = true := by rfl) :
    We X H0 (.Call (.Name "len" p) [e] [] pos) δ k := we_callB call_len_seq boot_len (by decide) (by decide) (fun G vs ds is ⟨x, ed, l, xs, ex, hk⟩ Q q => by
  subst ed ex
  obtain ⟨v, rfl, i⟩ := is.one
  cases l with
  | true =>
    obtain ⟨a, ys, rfl, hq, hl⟩ := i.lst_inv
    exact ⟨a, ys, rfl, .inl (.inl hq), q _ G _ (Same.refl _) (by rw [hl.1]; exact .int _) hk⟩
  | false =>
    obtain ⟨a, ys, rfl, hq, hl⟩ := i.tup_inv
    exact ⟨a, ys, rfl, .inr hq, q _ G _ (Same.refl _) (by rw [hl.1]; exact .int _) hk⟩) hm h hg he rfl
theorem we_lenS (hm : X.mg "len" = none) (h : Wa X H0 [e] δ (fun ds => A1 ds fun x => ∃ ns, x = .scr ns ∧ k (.int (ns.length : Int)))) (hg : Gl X "len" := by rfl) (he : notStar e = true := by rfl) :
    We X H0 (.Call (.Name "len" p) [e] [] pos) δ k := we_callB call_len_seq boot_len (by decide) (by decide) (fun G vs ds is ⟨x, ed, ns, ex, hk⟩ Q q => by
  subst ed ex
  obtain ⟨v, rfl, i⟩ := is.one
  obtain ⟨a, rfl, hq⟩ := i.scr_inv
  exact ⟨a, _, rfl, .inl hq, q _ G _ (Same.refl _) (by rw [List.length_map]; exact .int _) hk⟩) hm h hg he rfl
theorem we_cint (hm : X.mg "int" = none) (h : Wa X H0 [e] δ (fun ds => A1 ds fun x => CI x fun i => k (.int i))) (hg : Gl X "int" := by rfl) (he : notStar e = true := by rfl) :
    We X H0 (.Call (.Name "int" p) [e] [] pos) δ k := we_callTy call_int1 (by decide +kernel) (by decide) (by decide) (fun G vs ds is ⟨x, ed, hx⟩ Q q => by
  subst ed
  obtain ⟨v, rfl, i⟩ := is.one
  rcases hx with ⟨n, ex, hk⟩ | ⟨n, ex, hk⟩
  · subst ex
    cases i
    exact .inl ⟨n, rfl, q _ G _ (Same.refl _) (.int _) hk⟩
  · subst ex
    cases i
    exact .inr ⟨n, rfl, q _ G _ (Same.refl _) (.int _) hk⟩) hm h hg he rfl
theorem we_abs (hm : X.mg "abs" = none) (h : Wa X H0 [e] δ (fun ds => A1 ds fun x => I1 x fun i => k (.int (i.natAbs : Int)))) (hg : Gl X "abs" := by rfl) (he : notStar e = true := by rfl) :
    We X H0 (.Call (.Name "abs" p) [e] [] pos) δ k := we_callB call_abs (by decide +kernel) (by decide) (by decide) (fun G vs ds is ⟨x, ed, n, ex, hk⟩ Q q => by
  subst ed ex
  obtain ⟨v, rfl, i⟩ := is.one
  cases i
  refine ⟨n, rfl, q _ G _ (Same.refl _) ?_ hk⟩
  rw [show (if n < 0 then -n else n) = (n.natAbs : Int) by split <;> omega]
  exact .int _) hm h hg he rfl
theorem wo_list (hm : X.mg "list" = none) (h : Wa X H0 [e] δ (fun ds => A1 ds fun x => SQ x fun l xs => ko (.lst xs))) (hg : Gl X "list" := by rfl) (he : notStar e = true := by rfl) :
    Wo X H0 (.Call (.Name "list" p) [e] [] pos) δ ko := fun σ G R => toE (pe_callTy call_list_of hg hm (by decide +kernel) pa_sem (by decide) (by decide) (star_of he) rfl) ((h σ G R).mono fun vs G1 ⟨e1, ds, is, x, ed, l, xs, ex, hk⟩ => by
  subst ed ex
  obtain ⟨v, rfl, i⟩ := is.one
  cases l with
  | true =>
    obtain ⟨a, ys, rfl, hq, hl⟩ := i.lst_inv
    exact ⟨a, ys, rfl, .inl (.inl hq), fun t ht => ⟨_, (NewIs.lst ht hl).back e1, hk⟩⟩
  | false =>
    obtain ⟨a, ys, rfl, hq, hl⟩ := i.tup_inv
    exact ⟨a, ys, rfl, .inr hq, fun t ht => ⟨_, (NewIs.lst ht hl).back e1, hk⟩⟩)
theorem we_tuple (hm : X.mg "tuple" = none) (h : Wa X H0 [e] δ (fun ds => A1 ds fun x => SQ x fun l xs => k (.sq false xs))) (hg : Gl X "tuple" := by rfl) (he : notStar e = true := by rfl) :
    We X H0 (.Call (.Name "tuple" p) [e] [] pos) δ k := we_callTy call_tuple_of (by decide +kernel) (by decide) (by decide) (fun G vs ds is ⟨x, ed, l, xs, ex, hk⟩ Q q => by
  subst ed ex
  obtain ⟨v, rfl, i⟩ := is.one
  cases l with
  | true =>
    obtain ⟨a, ys, rfl, hq, hl⟩ := i.lst_inv
    exact ⟨a, ys, rfl, .inl ⟨.inl hq, fun t ht => q _ _ _ (Ex.new ht) (.mkT (SqT.of upd_same) (hl.mono (Ex.new ht))) hk⟩⟩
  | false =>
    obtain ⟨a, ys, rfl, hq, hl⟩ := i.tup_inv
    exact ⟨a, ys, rfl, .inr ⟨hq, q _ G _ (Same.refl _) i hk⟩⟩) hm h hg he rfl
/-! ### isinstance with a built-in class -/
def tyD : D → Option String
  | .non => some "NoneType" | .bl _ => some "bool" | .int _ => some "int" | .str _ => some "str"
  | .sq true _ => some "list" | .sq false _ => some "tuple" | .dic _ => some "dict"
  | _ => none
theorem tyD_is {K : PySem.W.Frag} {G : Hp} {v : V} {d : D} {t : String} (i : Is K G v d) (h : tyD d = some t) : TyX K G v (.type t) := by
  cases i with
  | non => cases h; exact .base .non
  | bl b => cases h; exact .base (.bl b)
  | int b => cases h; exact .base (.int b)
  | str b => cases h; exact .base (.str b)
  | lst q _ _ =>
    cases h
    rcases q with q | ⟨o, q⟩
    · exact .base (.lst q)
    · exact .base (.frz q)
  | tup q _ _ =>
    cases h
    rcases q with (q | ⟨o, q⟩) | ⟨o, its, n, q, c, _⟩
    · exact .base (.tup q)
    · exact .fTuple q
    · exact .kTuple q c
  | dic q _ _ =>
    cases h
    rcases q with q | ⟨o, q⟩
    · exact .base (.dK q)
    · exact .fDict q
  | ins _ q _ _ => cases h
  | ob a => cases h
  | exc _ _ _ => cases h
  | scr _ => cases h
def II (d : D) (T : String) (P : Bool → Prop) : Prop := ∃ t b, tyD d = some t ∧ kitB t T = some b ∧ P b
theorem ii_ {d : D} {T t : String} {b : Bool} {P : Bool → Prop} (e : tyD d = some t) (e2 : kitB t T = some b) (h : P b) : II d T P := ⟨t, b, e, e2, h⟩
/-- a built-in class as a value -/
theorem isi_arg {x : Str} {T : String} (hm : X.mg x = none) (hv : bootBuiltins x = some (.type T)) (hg : Gl X x) (hn : x ≠ "__name__") (hd : (x == ("__debug__" : Str)) = false) : PE X (.Name x pos) (tC (.ty T)) := pe_bltn hg hm hv rfl hn hd
theorem we_isi {p2 : Pos} {x : Str} {T : String} (hm : X.mg "isinstance" = none) (hc : PE X (.Name x p2) (tC (.ty T))) (h : We X H0 e δ (fun d => II d T fun b => k (.bl b))) (hg : Gl X "isinstance" := by rfl)
    (he : notStar e = true := by rfl) :
    We X H0 (.Call (.Name "isinstance" p) [e, .Name x p2] [] pos) δ k := fun σ G R => toE (pe_callB call_isi hg hm (by decide +kernel) (pa_cons pe_sem (pa_cons hc pa_nil (star_of rfl)) (star_of he)) (by decide) (by decide) (star_of he) (star_any rfl)) ((h σ G R).mono fun v G1 ⟨e1, d, i, t, b, h1, h2, q⟩ =>
  ⟨v, .ty T, .type t, .type T, b, rfl, .ty T, tyD_is i h1, kit_ty h2, e1, _, .bl b, q⟩)
end
end DL
set_option Elab.async false
set_option linter.all false
set_option maxRecDepth 100000
set_option maxHeartbeats 2000000
/-! Part d: statements, loops, calls, defs, by data. -/
namespace DL
open PySem PySem.Spec PyProof.Rows L2
/-! ### what a call hands back, what it lets out -/
def RetIs (K : PySem.W.Frag) (H : Hp) (v : V) (H' : Hp) : S → Prop
  | .no => False
  | .sh d => Ex H H' ∧ Is K H' v d
  | .ow o => NewIs K H v H' o
theorem RetIs.ex {K : PySem.W.Frag} {H H' : Hp} {v : V} {r : S} (h : RetIs K H v H' r) : Ex H H' ∧ Is K H' v r.d := by
  cases r with
  | no => exact h.elim
  | sh d => exact h
  | ow o => exact ⟨NewIs.ex h, NewIs.is h⟩
theorem RetIs.back {K : PySem.W.Frag} {H0 H H' : Hp} {v : V} {r : S} (e : Ex H0 H) (h : RetIs K H v H' r) : RetIs K H0 v H' r := by
  cases r with
  | no => exact h.elim
  | sh d => exact ⟨e.trans h.1, h.2⟩
  | ow o => exact NewIs.back e h
def ExcIs (K : PySem.W.Frag) (H : Hp) : Option Addr → List (Str × D) → Prop
  | none, fs => fs = []
  | some a, fs => ∃ vs, H a = some (.xd vs) ∧ IsF K H vs fs
abbrev XD := Value → List (Str × D) → Prop
/-- what a def does, by data: its arguments, what is wanted of what it hands back, of what it lets out -/
abbrev DSp := List D → (S → Prop) → XD → Prop
def spD (K : PySem.W.Frag) (T : DSp) : Sp := fun vs H Q E => ∃ ds k x, IsL K H vs ds ∧ T ds k x ∧ (∀ v H' r, RetIs K H v H' r → k r → Q v H') ∧ (∀ c d H' fs, Ex H H' → ExcIs K H' d fs → x c fs → E c d H')
/-- what the context takes of exceptions, by data -/
structure Xc (X : Cx) (H0 : Hp) (xw : List S → XD) : Prop where
  ex : ∃ W : WX, Takes X W ∧ ∀ σ G δ c d fs, RelS X.K H0 σ G δ → ExcIs X.K G d fs → xw δ c fs → W c d σ G
theorem xc0 {X : Cx} {H0 : Hp} : Xc X H0 (fun _ _ _ => False) := ⟨⟨fun _ _ _ _ => False, takes0, fun _ _ _ _ _ _ _ _ h => h.elim⟩⟩
/-- a def that is known -/
structure Fn (P : Program) (w : World) (K : PySem.W.Frag) (mg : Str → Option Value) (base : Heap) (lvl : Nat) (x : Str) (ps : List Str) (T : DSp) (dds : List D) : Prop where
  ex : ∃ (f : Addr) (fd : FuncData) (ds : List Value) (dvs : List V), FnOk P w K mg base (L2.CX P w) lvl f fd ps (spD K T) ∧ mg x = some (.ref f) ∧ PySem.W.keepIn K (.ref f) = true ∧ Binds K fd ps ds ∧ Vals dvs ds ∧ ∀ G, IsL K G dvs dds
section
variable {X : Cx} {H0 : Hp} {δ δ' : List S} {a b c e : Expr} {es : List Expr} {k : D → Prop} {pos p : Pos}
theorem we_callX {lvl : Nat} {x : Str} {ps : List Str} {T : DSp} {dds : List D} {xw : List S → XD} (F : Fn X.prog X.w X.K X.mg X.base lvl x ps T dds) (hr : Room lvl X.A) (hx : Xc X H0 xw) (h : Wa X H0 (e :: es) δ (fun as => T (as ++ dds) (fun r => k r.d) (xw δ)))
    (hg : Gl X x := by rfl) (hdb : (x == ("__debug__" : Str)) = false := by decide) (he : notStar e = true := by rfl) (hpl : es.all notStar = true := by rfl) : We X H0 (.Call (.Name x p) (e :: es) [] pos) δ k := by
  intro σ G R
  obtain ⟨f, fd, ds, dvs, Fk, hm, hk, hb, hd, hdd⟩ := F.ex
  obtain ⟨W, tk, hW⟩ := hx.ex
  refine toE (pe_callSD Fk hr hg hm hk hb hd (fun σ => passAt tk σ) pa_sem hdb (star_of he) (star_any hpl)) ((h σ G R).mono fun vs G1 ⟨e1, as, is, hT⟩ => ?_)
  exact ⟨_, _, _, is.app (hdd G1), hT, fun v H' r hr' hk' => ⟨e1.trans hr'.ex.1, _, hr'.ex.2, hk'⟩, fun c d H' fs e2 i q => hW σ H' δ c d fs ((R.mono e1).mono e2) i q⟩
theorem wo_callX {ko : Ow → Prop} {lvl : Nat} {x : Str} {ps : List Str} {T : DSp} {dds : List D} {xw : List S → XD} (F : Fn X.prog X.w X.K X.mg X.base lvl x ps T dds) (hr : Room lvl X.A) (hx : Xc X H0 xw) (h : Wa X H0 (e :: es) δ (fun as => T (as ++ dds) (fun r => ∃ o, r = .ow o ∧ ko o) (xw δ)))
    (hg : Gl X x) (hdb : (x == ("__debug__" : Str)) = false) (he : notStar e = true) (hpl : es.all notStar = true) : Wo X H0 (.Call (.Name x p) (e :: es) [] pos) δ ko := by
  intro σ G R
  obtain ⟨f, fd, ds, dvs, Fk, hm, hk, hb, hd, hdd⟩ := F.ex
  obtain ⟨W, tk, hW⟩ := hx.ex
  refine toE (pe_callSD Fk hr hg hm hk hb hd (fun σ => passAt tk σ) pa_sem hdb (star_of he) (star_any hpl)) ((h σ G R).mono fun vs G1 ⟨e1, as, is, hT⟩ => ?_)
  exact ⟨_, _, _, is.app (hdd G1), hT, fun v H' r hr' ⟨o, ho, hk'⟩ => (by subst ho; exact ⟨o, NewIs.back e1 hr', hk'⟩), fun c d H' fs e2 i q => hW σ H' δ c d fs ((R.mono e1).mono e2) i q⟩
/-- a call where nothing is let out -/
theorem we_call {lvl : Nat} {x : Str} {ps : List Str} {T : DSp} {dds : List D} (F : Fn X.prog X.w X.K X.mg X.base lvl x ps T dds) (hr : Room lvl X.A) (h : Wa X H0 (e :: es) δ (fun as => T (as ++ dds) (fun r => k r.d) (fun _ _ => False)))
    (hg : Gl X x := by rfl) (hdb : (x == ("__debug__" : Str)) = false := by decide) (he : notStar e = true := by rfl) (hpl : es.all notStar = true := by rfl) : We X H0 (.Call (.Name x p) (e :: es) [] pos) δ k :=
  we_callX F hr xc0 h hg hdb he hpl
theorem wo_call {ko : Ow → Prop} {lvl : Nat} {x : Str} {ps : List Str} {T : DSp} {dds : List D} (F : Fn X.prog X.w X.K X.mg X.base lvl x ps T dds) (hr : Room lvl X.A) (h : Wa X H0 (e :: es) δ (fun as => T (as ++ dds) (fun r => ∃ o, r = .ow o ∧ ko o) (fun _ _ => False)))
    (hg : Gl X x := by rfl) (hdb : (x == ("__debug__" : Str)) = false := by decide) (he : notStar e = true := by rfl) (hpl : es.all notStar = true := by rfl) : Wo X H0 (.Call (.Name x p) (e :: es) [] pos) δ ko :=
  wo_callX F hr xc0 h hg hdb he hpl
end
/-! ### statements -/
structure En where
  nx : List S → Prop
  rt : List S → S → Prop
  bk : List S → Prop := fun _ => False
  ct : List S → Prop := fun _ => False
def toEnds (K : PySem.W.Frag) (H0 : Hp) (E : En) : Ends where
  nx σ H := ∃ δ own, Rel K H0 σ H δ own ∧ E.nx δ
  rt v H := ∃ σ δ own r, Rel K H0 σ H δ own ∧ RetIs K H0 v H r ∧ E.rt δ r
  bk σ H := ∃ δ own, Rel K H0 σ H δ own ∧ E.bk δ
  ct σ H := ∃ δ own, Rel K H0 σ H δ own ∧ E.ct δ
section
variable (X : Cx) (H0 : Hp)
def Ws (st : Stmt) (δ : List S) (E : En) : Prop := ∀ B σ H own, Ex H0 B → Rel X.K B σ H δ own → semS X st (toEnds X.K B E) σ H
def Wb (st : List Stmt) (δ : List S) (E : En) : Prop := ∀ B σ H own, Ex H0 B → Rel X.K B σ H δ own → semB X st (toEnds X.K B E) σ H
end
section
variable {K : PySem.W.Frag} {X : Cx} {H0 B H H' : Hp} {σ : L2.St} {δ δ' : List S} {own : List (List Addr)} {a b c e : Expr} {es : List Expr} {k : D → Prop} {ko : Ow → Prop} {kt : Bool → Prop} {pos p : Pos} {E : En} {st : Stmt} {sts rest : List Stmt}
theorem Rel.grow (R : Rel K H0 σ H δ own) (e : Ex H H') : Rel K H0 σ H' δ own :=
  ⟨R.ex.trans (cut_mono e), R.len1, R.len2, fun i s x l h1 h2 h3 => (R.sl i s x l h1 h2 h3).mono (cut_mono e) fun a ha => by
    obtain ⟨o, ho⟩ := (R.owned a (mem_flat h3 ha)).some
    rw [ho, e a o ho], R.nd⟩
theorem Rel.toEx (R : Rel K H0 σ H δ own) : Ex H0 H := R.ex.trans cut_ex
theorem RelS.weak {G : Hp} (hB : Ex H0 B) (R : RelS K B σ G δ) : RelS K H0 σ G δ := ⟨hB.trans R.ex, R.len, R.sh⟩
theorem Rel.weak (hB : Ex H0 B) (R : Rel K B σ H δ own) : Rel K H0 σ H δ own := ⟨hB.trans R.ex, R.len1, R.len2, R.sl, R.nd⟩
theorem We.at (h : We X H0 e δ k) (hB : Ex H0 B) (R : Rel X.K B σ H δ own) : semE X e σ H (fun v H' => ∃ d, Rel X.K B σ H' δ own ∧ Is X.K (cut H' own.flatten) v d ∧ k d) :=
  (semE.frame R.owned (h σ _ (R.toS.weak hB))).mono fun v H' ⟨G, eq, n, e, d, i, q⟩ => by
    subst eq
    exact ⟨d, R.step e n, by rw [cut_mrg n]; exact i, q⟩
theorem Wt.at (h : Wt X H0 e δ kt) (hB : Ex H0 B) (R : Rel X.K B σ H δ own) : semT X e σ H (fun v H' => Rel X.K B σ H' δ own ∧ kt v) :=
  (semT.frame R.owned (h σ _ (R.toS.weak hB))).mono fun v H' ⟨G, eq, n, e, q⟩ => by
    subst eq
    exact ⟨R.step e n, q⟩
theorem Wa.at {ka : List D → Prop} (h : Wa X H0 es δ ka) (hB : Ex H0 B) (R : Rel X.K B σ H δ own) : semA X es σ H (fun v H' => ∃ ds, Rel X.K B σ H' δ own ∧ IsL X.K (cut H' own.flatten) v ds ∧ ka ds) :=
  (semA.frame R.owned (h σ _ (R.toS.weak hB))).mono fun v H' ⟨G, eq, n, e, d, i, q⟩ => by
    subst eq
    exact ⟨d, R.step e n, by rw [cut_mrg n]; exact i, q⟩
/-- by a view of the state -/
theorem We.atV (hv : Vw δ δ') (h : We X H0 e δ' k) (hB : Ex H0 B) (R : Rel X.K B σ H δ own) : semE X e σ H (fun v H' => ∃ d, Rel X.K B σ H' δ own ∧ Is X.K H' v d ∧ k d) := by
  obtain ⟨R', sub⟩ := R.view hv
  refine (semE.frame R'.owned (h σ _ (R'.toS.weak hB))).mono fun v H' ⟨G, eq, n, e, d, i, q⟩ => ?_
  subst eq
  refine ⟨d, R.grow (mrg_ex e), i.mono fun a o ha => ?_, q⟩
  rw [mrg_out fun z => by rw [n a z] at ha; cases ha]
  exact ha
theorem Wt.atV (hv : Vw δ δ') (h : Wt X H0 e δ' kt) (hB : Ex H0 B) (R : Rel X.K B σ H δ own) : semT X e σ H (fun v H' => Rel X.K B σ H' δ own ∧ kt v) := by
  obtain ⟨R', sub⟩ := R.view hv
  refine (semT.frame R'.owned (h σ _ (R'.toS.weak hB))).mono fun v H' ⟨G, eq, n, e, q⟩ => ?_
  subst eq
  exact ⟨R.grow (mrg_ex e), q⟩
theorem Wa.atV {ka : List D → Prop} (hv : Vw δ δ') (h : Wa X H0 es δ' ka) (hB : Ex H0 B) (R : Rel X.K B σ H δ own) : semA X es σ H (fun v H' => ∃ ds, Rel X.K B σ H' δ own ∧ IsL X.K H' v ds ∧ ka ds) := by
  obtain ⟨R', sub⟩ := R.view hv
  refine (semA.frame R'.owned (h σ _ (R'.toS.weak hB))).mono fun v H' ⟨G, eq, n, e, d, i, q⟩ => ?_
  subst eq
  refine ⟨d, R.grow (mrg_ex e), i.mono fun a o ha => ?_, q⟩
  rw [mrg_out fun z => by rw [n a z] at ha; cases ha]
  exact ha
theorem Wo.at (h : Wo X H0 e δ ko) (hB : Ex H0 B) (R : Rel X.K B σ H δ own) : semE X e σ H (fun v H' => ∃ o, Rel X.K B σ H' δ own ∧ (∀ i, ∃ own', Rel X.K B (σ.set i (some v)) H' (δ.set i (.ow o)) own') ∧ NewIs X.K B v H' o ∧ ko o) :=
  (semE.frame R.owned (h σ _ (R.toS.weak hB))).mono fun v H' ⟨G, eq, n, o, N, q⟩ => by
    subst eq
    obtain ⟨l, hl, fr, ee, nd⟩ := N
    have e1 : Ex (cut H own.flatten) G := NewIs.ex ⟨l, hl, fr, ee, nd⟩
    have R' := R.step e1 n
    have eG : Ex G (mrg H own.flatten G) := fun a u ha => by
      rw [mrg_out fun z => by rw [n a z] at ha; cases ha]
      exact ha
    refine ⟨o, R', fun i => ⟨_, R.setOw ee n nd hl⟩, ?_, q⟩
    have dis : ∀ a ∈ l, mrg H own.flatten G a = G a := fun a ha => by
      obtain ⟨u, hu⟩ := (hl.at (fun a h => h) a ha).some
      rw [hu]
      exact eG a u hu
    have e2 : Ex (cut G l) (cut (mrg H own.flatten G) l) := cut_mono eG
    exact ⟨l, hl.mono e2 dis, fun a ha => R.ex.free (fr a ha), (R.ex.trans ee).trans e2, nd⟩
theorem Wb.mono {E' : En} (h : Wb X H0 sts δ E) (nx : ∀ δ, E.nx δ → E'.nx δ) (rt : ∀ δ r, E.rt δ r → E'.rt δ r) (bk : ∀ δ, E.bk δ → E'.bk δ) (ct : ∀ δ, E.ct δ → E'.ct δ) : Wb X H0 sts δ E' := fun B σ H own hB R =>
  (h B σ H own hB R).mono (fun σ H ⟨δ, own, R, q⟩ => ⟨δ, own, R, nx _ q⟩) (fun v H ⟨σ, δ, own, r, R, i, q⟩ => ⟨σ, δ, own, r, R, i, rt _ _ q⟩) (fun σ H ⟨δ, own, R, q⟩ => ⟨δ, own, R, bk _ q⟩) (fun σ H ⟨δ, own, R, q⟩ => ⟨δ, own, R, ct _ q⟩)
theorem wb_nil (h : E.nx δ) : Wb X H0 [] δ E := fun B σ H own hB R => toB pss_nil ⟨δ, own, R, h⟩
theorem wb_cons (h : Ws X H0 st δ { E with nx := fun δ' => Wb X H0 rest δ' E }) : Wb X H0 (st :: rest) δ E := fun B σ H own hB R => toB (pss_cons ps_sem pb_sem) ((h B σ H own hB R).mono (fun σ H ⟨δ, own, R, q⟩ => q B σ H own hB R) (fun _ _ q => q) (fun _ _ q => q) (fun _ _ q => q))
theorem ws_view (hv : Vw δ δ') (h : Ws X H0 st δ' E) : Ws X H0 st δ E := fun B σ H own hB R => h B σ H _ hB (R.view hv).1
theorem wb_view (hv : Vw δ δ') (h : Wb X H0 sts δ' E) : Wb X H0 sts δ E := fun B σ H own hB R => h B σ H _ hB (R.view hv).1
theorem ws_pass (h : E.nx δ) : Ws X H0 (.Pass pos) δ E := fun B σ H own hB R => toS ps_pass ⟨δ, own, R, h⟩
theorem ws_break (h : E.bk δ) : Ws X H0 (.Break pos) δ E := fun B σ H own hB R => toS ps_break ⟨δ, own, R, h⟩
theorem ws_cont (h : E.ct δ) : Ws X H0 (.Continue pos) δ E := fun B σ H own hB R => toS ps_continue ⟨δ, own, R, h⟩
theorem ws_set (i : Nat) {x : Str} {pos' : Pos} (hN : X.N.Nodup) (h : We X H0 e δ (fun d => E.nx (δ.set i (.sh d)))) (hi : X.N[i]? = some x := by rfl) (hx : Loc X.env.scope x := by first | exact .inl rfl | exact .inr rfl) (hs : swapsWith e (some (.Name x pos')) pos.line X.env = pure false := by rfl) (hf : X.fn x = true ∨ X.env.scope.names.lookup x = some .local := by exact .inl rfl) :
    Ws X H0 (.Assign [.Name x pos'] e pos) δ E := fun B σ H own hB R => toS (ps_set hN hi hx pe_sem hs hf) ((h.at hB R).mono fun v H' ⟨d, R', i, q⟩ => ⟨_, _, R'.setSh i, q⟩)
theorem ws_setV (i : Nat) {x : Str} {pos' : Pos} (hN : X.N.Nodup) (hv : Vw δ δ') (h : We X H0 e δ' (fun d => Flat d ∧ E.nx (δ.set i (.sh d)))) (hi : X.N[i]? = some x := by rfl) (hx : Loc X.env.scope x := by first | exact .inl rfl | exact .inr rfl) (hs : swapsWith e (some (.Name x pos')) pos.line X.env = pure false := by rfl) (hf : X.fn x = true ∨ X.env.scope.names.lookup x = some .local := by exact .inl rfl) :
    Ws X H0 (.Assign [.Name x pos'] e pos) δ E := fun B σ H own hB R => toS (ps_set hN hi hx pe_sem hs hf) ((h.atV hv hB R).mono fun v H' ⟨d, R', i, f, q⟩ => ⟨_, _, R'.setSh (i.flat f), q⟩)
theorem ws_setO (i : Nat) {x : Str} {pos' : Pos} (hN : X.N.Nodup) (h : Wo X H0 e δ (fun o => E.nx (δ.set i (.ow o)))) (hi : X.N[i]? = some x := by rfl) (hx : Loc X.env.scope x := by first | exact .inl rfl | exact .inr rfl) (hs : swapsWith e (some (.Name x pos')) pos.line X.env = pure false := by rfl) (hf : X.fn x = true ∨ X.env.scope.names.lookup x = some .local := by exact .inl rfl) :
    Ws X H0 (.Assign [.Name x pos'] e pos) δ E := fun B σ H own hB R => toS (ps_set hN hi hx pe_sem hs hf) ((h.at hB R).mono fun v H' ⟨o, R', so, N, q⟩ => let ⟨own', Ro⟩ := so i; ⟨_, own', Ro, q⟩)
theorem ws_if (hv : Vw δ δ') (h : Wt X H0 c δ' (fun r => (r = true → Wb X H0 sts δ E) ∧ (r = false → Wb X H0 rest δ E))) : Ws X H0 (.If c sts rest pos) δ E := fun B σ H own hB R => toS (ps_if pt_sem pb_sem pb_sem) ((h.atV hv hB R).mono fun r H' ⟨R', h1, h2⟩ => by
  cases r with
  | true => exact h1 rfl B σ H' _ hB R'
  | false => exact h2 rfl B σ H' _ hB R')
theorem ws_ret (hv : Vw δ δ') (h : We X H0 e δ' (fun d => E.rt δ (.sh d))) : Ws X H0 (.Return (some e) pos) δ E := fun B σ H own hB R => toS (ps_ret pe_sem) ((h.atV hv hB R).mono fun v H' ⟨d, R', i, q⟩ => ⟨σ, δ, own, .sh d, R', ⟨R'.toEx, i⟩, q⟩)
theorem ws_retO (h : Wo X H0 e δ (fun o => E.rt δ (.ow o))) : Ws X H0 (.Return (some e) pos) δ E := fun B σ H own hB R => toS (ps_ret pe_sem) ((h.at hB R).mono fun v H' ⟨o, R', so, N, q⟩ => ⟨σ, δ, own, .ow o, R', N, q⟩)
theorem ws_retN (h : E.rt δ (.sh .non)) : Ws X H0 (.Return none pos) δ E := fun B σ H own hB R => toS ps_retN ⟨σ, δ, own, .sh .non, R, ⟨R.toEx, .non⟩, h⟩
theorem nd_part : ∀ {own : List (List Addr)} {i : Nat} {l : List Addr}, own.flatten.Nodup → own[i]? = some l → l.Nodup
  | [], _, _, _, h => by cases h
  | l0 :: r, 0, l, nd, h => by
    rw [List.flatten_cons, List.nodup_append] at nd
    cases h
    exact nd.1
  | l0 :: r, i + 1, l, nd, h => by
    rw [List.flatten_cons, List.nodup_append] at nd
    exact nd_part (i := i) nd.2.1 h
theorem Rel.newIs {i : Nat} {o : Ow} (R : Rel K H0 σ H δ own) (hi : δ[i]? = some (.ow o)) : ∃ v, σ[i]? = some (some v) ∧ NewIs K H0 v H o := by
  obtain ⟨x, l, h1, h2, v, rfl, q⟩ := R.idx hi
  have sub : ∀ a ∈ l, a ∈ own.flatten := fun a ha => mem_flat h2 ha
  refine ⟨v, h1, l, q.mono (cut_sub sub) fun _ _ => rfl, fun a ha => R.ex.free (cut_in (sub a ha)), R.ex.trans (cut_sub sub), ?_⟩
  exact nd_part R.nd h2
/-- an owned object is handed back -/
theorem ws_retOwn (i : Nat) {x : Str} {px : Pos} {o : Ow} (hi : δ[i]? = some (.ow o)) (h : E.rt δ (.ow o)) (hp : PE X (.Name x px) (tVar i) := by exact pv _) : Ws X H0 (.Return (some (.Name x px)) pos) δ E := fun B σ H own hB R => toS (ps_ret hp) (by
  obtain ⟨v, h1, N⟩ := R.newIs hi
  exact ⟨v, h1, σ, δ, own, .ow o, R, N, h⟩)
theorem ws_expr (hv : Vw δ δ') (h : We X H0 e δ' (fun _ => E.nx δ)) (hs : swapsWith e none pos.line X.env = pure false := by rfl) : Ws X H0 (.Expr e pos) δ E := fun B σ H own hB R => toS (ps_expr pe_sem hs) ((h.atV hv hB R).mono fun v H' ⟨d, R', i, q⟩ => ⟨δ, own, R', q⟩)
theorem few_of {env : Env} {cpos : Pos} (h : notStar e = true) : ((backTo cpos (starEach [e] env)).all (fun x => !x.1) && (backToKw cpos (keywordEach [] env)).all (fun x => x.1.isSome) && decide ([e].length + ([] : List Keyword).length + (if ([] : List Keyword).isEmpty then 0 else 1) < 30)) = true := by
  rw [star_of h]
  rfl
/-- xs.append(e), xs a list that the frame alone holds -/
theorem ws_append (i : Nat) {x : Str} {px apos cpos : Pos} {ds : List D} (hi : δ[i]? = some (.ow (.lst ds))) (hl : ds.length < 100000) (h : We X H0 e δ (fun d => E.nx (δ.set i (.ow (.lst (ds ++ [d])))))) (hp : PE X (.Name x px) (tVar i) := by exact pv _)
    (hbase : attributeBase (.Name x px) "append" X.env (eval (.Name x px) X.env) = eval (.Name x px) X.env := by rfl)
    (hline : (apos.endLine == cpos.line) = true := by rfl) (hs : notStar e = true := by rfl)
    (hw : swapsWith (.Call (.Attribute (.Name x px) "append" apos) [e] [] cpos) none pos.line X.env = pure false := by rfl) : Ws X H0 (.Expr (.Call (.Attribute (.Name x px) "append" apos) [e] [] cpos) pos) δ E := fun B σ H own hB R =>
  toS (ps_expr (pe_bm PySem.F.plainAttrs_list PySem.F.slot_list_append PySem.F.type_list_append mt_append hp (pa_cons pe_sem pa_nil (star_of hs)) hbase (few_of hs) hline (star_of hs) rfl) hw) (by
    obtain ⟨x0, l, h1, h2, v, rfl, p, xs, rfl, rfl, h3, h4⟩ := R.idx hi
    refine ⟨_, h1, .inl ⟨rfl, xs, SqL.of h3⟩, (h.at hB R).mono fun w H' ⟨d, R', id, q⟩ => ?_⟩
    obtain ⟨x0, l, g1, g2, v', rfl, p', xs', ev, rfl, g3, g4⟩ := R'.idx hi
    rw [h1] at g1; cases g1
    rw [h2] at g2; cases g2
    have e1 : xs'.length = ds.length := g4.1
    refine ⟨p, xs', w, rfl, rfl, g3, Nat.lt_trans (by rw [e1]; exact hl) (by decide), _, _, R'.write (o' := .lst _) h2 (by simp) h1 ⟨p, xs' ++ [w], rfl, rfl, upd_same, g4.snoc id⟩, q⟩)
/-- xs[i] = e, xs a list that the frame alone holds -/
theorem ws_setitem (i : Nat) {x : Str} {px spos : Pos} {ix : Expr} {ds : List D} (hi : δ[i]? = some (.ow (.lst ds))) (h : We X H0 e δ (fun d => We X H0 ix δ (fun n => ∃ j : Nat, n = .int j ∧ j < ds.length ∧ E.nx (δ.set i (.ow (.lst (ds.set j d)))))))
    (hp : PE X (.Name x px) (tVar i) := by exact pv _) (ha : PG X (.Subscript (.Name x px) ix spos) (gSub (tVar i) (semE X ix) rSetL) := by exact pg_sub (pv _) pe_sem set_list)
    (hs : swapsWithSole [.Subscript (.Name x px) ix spos] e pos.line X.env = pure false := by rfl) (hw : swappedStores [.Subscript (.Name x px) ix spos] e X.env = pure none := by rfl)
    (h1 : (assignEach [.Subscript (.Name x px) ix spos] X.env).map (·.2) = [assign (.Subscript (.Name x px) ix spos) X.env] := by rfl) : Ws X H0 (.Assign [.Subscript (.Name x px) ix spos] e pos) δ E := fun B σ H own hB R =>
  toS (ps_asg pe_sem ha hs hw h1) ((h.at hB R).mono fun w H1 ⟨d, R1, id, q⟩ => by
    obtain ⟨x0, l, h1, h2, v, rfl, p, xs, rfl, rfl, h3, h4⟩ := R1.idx hi
    refine ⟨_, h1, (semE.frame R1.owned (q σ _ (R1.toS.weak hB))).mono fun n H2 ⟨G, eq, nn, e2, dn, inn, j, ej, hj, q2⟩ => ?_⟩
    have R2 := R1.step e2 nn
    rw [← eq] at R2
    have cH : cut H2 own.flatten = G := by rw [eq]; exact cut_mrg nn
    obtain ⟨x0, l, g1, g2, v', rfl, p', xs', ev, rfl, g3, g4⟩ := R2.idx hi
    rw [h1] at g1; cases g1
    rw [h2] at g2; cases g2
    subst ej
    cases inn
    refine ⟨p, xs', (j : Int), j, rfl, rfl, g3, ?_, _, _, R2.write (o' := .lst _) h2 (by simp) h1 ⟨p, xs'.set j w, rfl, rfl, upd_same, g4.set (by rw [cH]; exact id.mono e2)⟩, q2⟩
    unfold ixN
    have e1 : xs'.length = ds.length := g4.1
    rw [if_pos (by omega), if_pos (by omega)]
    simp)
/-! ### targets -/
structure semG (X : Cx) (tg : Expr) (v : V) (σ : L2.St) (H : Hp) (Q : L2.St → Hp → Prop) : Prop where
  run : ∀ pins s u, Inv X pins σ H s → RelV v u → wpAny (model X.prog X.w) X.A (assign tg X.env u) (fun _ s' => ∃ σ' H', Inv X pins σ' H' s' ∧ Q σ' H') X.xe s
theorem pg_sem {tg : Expr} : PG X tg (semG X tg) := ⟨fun pins s σ H v u Q I r h => h.run pins s u I r⟩
theorem toG {tg : Expr} {t : TG} {v : V} {Q : L2.St → Hp → Prop} (h : PG X tg t) (q : t v σ H Q) : semG X tg v σ H Q := .mk <| fun pins s u I r => h.run pins s σ H v u Q I r q
structure semGs (X : Cx) (ts : List Expr) (vs : List V) (σ : L2.St) (H : Hp) (Q : L2.St → Hp → Prop) : Prop where
  run : ∀ pins s us, Inv X pins σ H s → Vals vs us → wpAny (model X.prog X.w) X.A (assignInOrder ((assignEach ts X.env).map (·.2)) us) (fun _ s' => ∃ σ' H', Inv X pins σ' H' s' ∧ Q σ' H') X.xe s
theorem pgs_sem {ts : List Expr} : PGs X ts (semGs X ts) := ⟨fun pins s σ H v u Q I r h => h.run pins s u I r⟩
theorem toGs {ts : List Expr} {t : TGs} {vs : List V} {Q : L2.St → Hp → Prop} (h : PGs X ts t) (q : t vs σ H Q) : semGs X ts vs σ H Q := .mk <| fun pins s u I r => h.run pins s σ H vs u Q I r q
def Wg (X : Cx) (H0 : Hp) (tg : Expr) (d : D) (δ : List S) (kn : List S → Prop) : Prop := ∀ B σ H own v, Ex H0 B → Rel X.K B σ H δ own → Is X.K (cut H own.flatten) v d → semG X tg v σ H (fun σ' H' => ∃ δ' own', Rel X.K B σ' H' δ' own' ∧ kn δ')
def Wgs (X : Cx) (H0 : Hp) (ts : List Expr) (ds : List D) (δ : List S) (kn : List S → Prop) : Prop := ∀ B σ H own vs, Ex H0 B → Rel X.K B σ H δ own → IsL X.K (cut H own.flatten) vs ds → semGs X ts vs σ H (fun σ' H' => ∃ δ' own', Rel X.K B σ' H' δ' own' ∧ kn δ')
variable {kn : List S → Prop}
theorem wg_name (i : Nat) {x : Str} {d : D} (hN : X.N.Nodup) (h : kn (δ.set i (.sh d))) (hi : X.N[i]? = some x := by rfl) (hx : Loc X.env.scope x := by first | exact .inl rfl | exact .inr rfl) (hf : X.fn x = true ∨ X.env.scope.names.lookup x = some .local := by exact .inl rfl) : Wg X H0 (.Name x pos) d δ kn :=
  fun B σ H own v hB R iv => toG (pg_name hN hi hx hf) ⟨_, _, R.setSh iv, h⟩
theorem wgs_nil (h : kn δ) : Wgs X H0 [] [] δ kn := fun B σ H own vs hB R iv => toGs pgs_nil (by
  rw [iv.inv_nil]
  exact ⟨rfl, δ, own, R, h⟩)
theorem semG.mono {tg : Expr} {v : V} {Q Q' : L2.St → Hp → Prop} (h : semG X tg v σ H Q) (m : ∀ σ H, Q σ H → Q' σ H) : semG X tg v σ H Q' := .mk <| fun pins s u I r => thn (h.run pins s u I r) fun _ s' ⟨σ', H', J, q⟩ => ⟨σ', H', J, m _ _ q⟩
theorem semGs.mono {tg : List Expr} {v : List V} {Q Q' : L2.St → Hp → Prop} (h : semGs X tg v σ H Q) (m : ∀ σ H, Q σ H → Q' σ H) : semGs X tg v σ H Q' := .mk <| fun pins s u I r => thn (h.run pins s u I r) fun _ s' ⟨σ', H', J, q⟩ => ⟨σ', H', J, m _ _ q⟩
theorem ws_asg {tg : Expr} (h : We X H0 e δ (fun d => Wg X H0 tg d δ E.nx)) (hs : swapsWithSole [tg] e pos.line X.env = pure false := by rfl) (hw : swappedStores [tg] e X.env = pure none := by rfl)
    (h1 : (assignEach [tg] X.env).map (·.2) = [assign tg X.env] := by rfl) : Ws X H0 (.Assign [tg] e pos) δ E := fun B σ H own hB R => toS (ps_asg pe_sem pg_sem hs hw h1) ((h.at hB R).mono fun v H1 ⟨d, R1, id, q⟩ => q B σ H1 own v hB R1 id)
/-! ### loops -/
/-- what holds ahead of a turn, up to a view -/
def Upto (P : List S → Prop) (δ : List S) : Prop := ∃ δ', Vw δ δ' ∧ P δ'
theorem upto {P : List S → Prop} (h : P δ) : Upto P δ := ⟨δ, Vw.refl δ, h⟩
abbrev turnE (E : En) (P : List S → Prop) : En := { nx := Upto P, rt := E.rt, bk := E.nx, ct := Upto P }
theorem ws_forR (hm : X.mg "range" = none) (hp : PassesOwn (model X.prog X.w) X.A X.env X.xe) (hc : X.calm = true) {tg : Expr} {pr pc : Pos} (hv : Vw δ δ') (Iv : Nat → List S → Prop)
    (h : Wa X H0 [e] δ' (fun ds => A1 ds fun x => I1 x fun n => (-(2 ^ 62) ≤ n ∧ n < 2 ^ 62) ∧ Upto (Iv 0) δ ∧ (∀ (i : Nat) δ1, (i : Int) < n → Iv i δ1 → Wg X H0 tg (.int (i : Int)) δ1 fun δ2 => Wb X H0 sts δ2 (turnE E (Iv (i + 1)))) ∧ (∀ δ1, Iv n.toNat δ1 → E.nx δ1)))
    (hg : Gl X "range" := by rfl) (hs1 : notStar e = true := by rfl) (hs : ∀ x, foldedSetIterable (.Call (.Name "range" pr) [e] [] pc) X.env x = pure x := by intro _; rfl) : Ws X H0 (.For tg (.Call (.Name "range" pr) [e] [] pc) sts [] pos) δ E := fun B σ H own hB R =>
  toS (ps_for hp hc (pi_range1 hg hm pa_sem (star_of hs1)) pg_sem pb_sem hs) ((h.atV hv hB R).mono fun vs H1 ⟨ds, R1, is, x, ed, n, ex, ⟨b1, b2⟩, h0, ht, he⟩ => by
    subst ed ex
    obtain ⟨v, rfl, i⟩ := is.one
    cases i
    refine ⟨n, rfl, b1, b2, for_range (lo := 0) (n := n.toNat) (fun i σ H => ∃ δ own, Rel X.K B σ H δ own ∧ Upto (Iv i) δ) ⟨δ, own, R1, h0⟩ (fun i σ' H' hi ⟨δ1, own1, R', δ2, hv2, q⟩ => ?_) (fun σ' H' ⟨δ1, own1, R', δ2, hv2, q⟩ => ⟨_, _, (R'.view hv2).1, he _ q⟩)⟩
    rw [Int.zero_add]
    exact (ht i δ2 (by omega) q B σ' H' _ _ hB (R'.view hv2).1 (.int _)).mono fun σ3 H3 ⟨δ3, own3, R3, q3⟩ => q3 B σ3 H3 own3 hB R3)
theorem ws_forR2 (hm : X.mg "range" = none) (hp : PassesOwn (model X.prog X.w) X.A X.env X.xe) (hc : X.calm = true) {tg e2 : Expr} {pr pc : Pos} (hv : Vw δ δ') (Iv : Nat → List S → Prop)
    (h : Wa X H0 [e, e2] δ' (fun ds => A2 ds fun x y => I2 x y fun m n => (-(2 ^ 62) ≤ m ∧ m < 2 ^ 62 ∧ -(2 ^ 62) ≤ n ∧ n < 2 ^ 62) ∧ Upto (Iv 0) δ ∧ (∀ (i : Nat) δ1, m + (i : Int) < n → Iv i δ1 → Wg X H0 tg (.int (m + (i : Int))) δ1 fun δ2 => Wb X H0 sts δ2 (turnE E (Iv (i + 1)))) ∧ (∀ δ1, Iv (n - m).toNat δ1 → E.nx δ1)))
    (hg : Gl X "range" := by rfl) (hs1 : notStar e = true := by rfl) (hs2 : notStar e2 = true := by rfl) (hs : ∀ x, foldedSetIterable (.Call (.Name "range" pr) [e, e2] [] pc) X.env x = pure x := by intro _; rfl) : Ws X H0 (.For tg (.Call (.Name "range" pr) [e, e2] [] pc) sts [] pos) δ E := fun B σ H own hB R =>
  toS (ps_for hp hc (pi_range2 hg hm pa_sem ((star_of hs1).trans (congrArg _ (star_of hs2))) (star_of hs2)) pg_sem pb_sem hs) ((h.atV hv hB R).mono fun vs H1 ⟨ds, R1, is, x, y, ed, m, n, ex, ey, bb, h0, ht, he⟩ => by
    subst ed ex ey
    obtain ⟨v, w, rfl, i, j⟩ := is.two
    cases i
    cases j
    refine ⟨m, n, rfl, bb, for_range (lo := m) (n := (n - m).toNat) (fun i σ H => ∃ δ own, Rel X.K B σ H δ own ∧ Upto (Iv i) δ) ⟨δ, own, R1, h0⟩ (fun i σ' H' hi ⟨δ1, own1, R', δ2, hv2, q⟩ => ?_) (fun σ' H' ⟨δ1, own1, R', δ2, hv2, q⟩ => ⟨_, _, (R'.view hv2).1, he _ q⟩)⟩
    exact (ht i δ2 (by omega) q B σ' H' _ _ hB (R'.view hv2).1 (.int _)).mono fun σ3 H3 ⟨δ3, own3, R3, q3⟩ => q3 B σ3 H3 own3 hB R3)
def loopOf (X : Cx) (l : Bool) (tg : Expr) (sts : List Stmt) (D : Ends) (x : V) (σ : L2.St) (H : Hp) : Prop := match l with
  | true => ∃ a, x = .ref a ∧ (∃ xs, SqL X.K H a xs) ∧ ∃ W : Nat → Nat → L2.St → Hp → Prop, (∃ m, W 0 m σ H) ∧ ∀ i m σ H, W i m σ H →
    ((Itl X.K a).stop i H ∧ D.nx σ H) ∨ ((Itl X.K a).go i H ∧ ∃ N : L2.St → Hp → Prop, (∀ σ' H', N σ' H' → ∃ m', m' < m ∧ W (i + 1) m' σ' H') ∧ ∀ x H', (Itl X.K a).yld i H x H' → semG X tg x σ H' fun σ2 H2 => semB X sts { D with nx := N, ct := N, bk := D.nx } σ2 H2)
  | false => ∃ a, x = .ref a ∧ (∃ xs, SqT X.K H a xs) ∧ ∃ W : Nat → Nat → L2.St → Hp → Prop, (∃ m, W 0 m σ H) ∧ ∀ i m σ H, W i m σ H →
    ((Itt X.K a).stop i H ∧ D.nx σ H) ∨ ((Itt X.K a).go i H ∧ ∃ N : L2.St → Hp → Prop, (∀ σ' H', N σ' H' → ∃ m', m' < m ∧ W (i + 1) m' σ' H') ∧ ∀ x H', (Itt X.K a).yld i H x H' → semG X tg x σ H' fun σ2 H2 => semB X sts { D with nx := N, ct := N, bk := D.nx } σ2 H2)
/-- over a list or a tuple of the shared heap -/
theorem ws_forS (hp : PassesOwn (model X.prog X.w) X.A X.env X.xe) (hc : X.calm = true) {tg it : Expr} (Iv : Nat → List S → Prop) (l : Bool)
    (h : We X H0 it δ (fun x => ∃ ds, x = .sq l ds ∧ Upto (Iv 0) δ ∧ (∀ (i : Nat) d δ1, ds[i]? = some d → Iv i δ1 → Wg X H0 tg d δ1 fun δ2 => Wb X H0 sts δ2 (turnE E (Iv (i + 1)))) ∧ (∀ δ1, Iv ds.length δ1 → E.nx δ1)))
    (hs : ∀ x, foldedSetIterable it X.env x = pure x := by intro _; rfl) : Ws X H0 (.For tg it sts [] pos) δ E := fun B σ H own hB R => by
  suffices step : ∀ H1 v, (∃ d, Rel X.K B σ H1 δ own ∧ Is X.K (cut H1 own.flatten) v d ∧ ∃ ds, d = .sq l ds ∧ Upto (Iv 0) δ ∧ (∀ (i : Nat) d δ1, ds[i]? = some d → Iv i δ1 → Wg X H0 tg d δ1 fun δ2 => Wb X H0 sts δ2 (turnE E (Iv (i + 1)))) ∧ (∀ δ1, Iv ds.length δ1 → E.nx δ1)) → loopOf X l tg sts (toEnds X.K B E) v σ H1 by
    cases l with
    | true => exact toS (ps_for hp hc (pi_list pe_sem) pg_sem pb_sem hs) ((h.at hB R).mono fun v H1 => step H1 v)
    | false => exact toS (ps_for hp hc (pi_tup pe_sem) pg_sem pb_sem hs) ((h.at hB R).mono fun v H1 => step H1 v)
  intro H1 v ⟨d, R1, iv, ds, ed, h0, ht, he⟩
  subst ed
  have hB1 : Ex B (cut H1 own.flatten) := R1.ex
  have R0 : Rel X.K (cut H1 own.flatten) σ H1 δ own := ⟨Same.refl _, R1.len1, R1.len2, R1.sl, R1.nd⟩
  obtain ⟨a, xs, rfl, hq, hl⟩ := iv.sq_inv
  have turn : ∀ i x σ' H', xs[i]? = some x → (∃ δ own', Rel X.K (cut H1 own.flatten) σ' H' δ own' ∧ Upto (Iv i) δ) → semG X tg x σ' H' fun σ2 H2 => semB X sts { toEnds X.K B E with nx := fun σ' H' => ∃ δ own', Rel X.K (cut H1 own.flatten) σ' H' δ own' ∧ Upto (Iv (i + 1)) δ, ct := fun σ' H' => ∃ δ own', Rel X.K (cut H1 own.flatten) σ' H' δ own' ∧ Upto (Iv (i + 1)) δ, bk := (toEnds X.K B E).nx } σ2 H2 := fun i x σ' H' hx ⟨δ1, own1, Ra, δ2, hv2, q⟩ => by
    obtain ⟨d, hd, id⟩ := hl.getV hx
    have Rw := (Ra.view hv2).1
    refine (ht i d δ2 hd q (cut H1 own.flatten) σ' H' _ _ (hB.trans hB1) Rw (id.mono Rw.ex)).mono fun σ3 H3 ⟨δ3, own3, R3, q3⟩ => ?_
    refine (q3 _ σ3 H3 own3 (hB.trans hB1) R3).mono (fun _ _ z => z) (fun v H ⟨σ, δ, own, r, Rr, ri, qq⟩ => ⟨σ, δ, own, r, Rr.weak hB1, ri.back hB1, qq⟩) (fun σ H ⟨δ, own, Rr, qq⟩ => ⟨δ, own, Rr.weak hB1, qq⟩) (fun _ _ z => z)
  have done : ∀ σ' H', (∃ δ own', Rel X.K (cut H1 own.flatten) σ' H' δ own' ∧ Upto (Iv xs.length) δ) → (toEnds X.K B E).nx σ' H' := fun σ' H' ⟨δ1, own1, Ra, δ2, hv2, q⟩ => by
    rw [hl.1] at q
    exact ⟨_, _, ((Ra.view hv2).1).weak hB1, he _ q⟩
  cases l with
  | true =>
    have hq : SqL X.K (cut H1 own.flatten) a xs := .inl hq
    exact ⟨a, rfl, ⟨xs, Ex.sqL cut_ex hq⟩, for_list (K := X.K) (xs := xs) (fun i σ H => ∃ δ own', Rel X.K (cut H1 own.flatten) σ H δ own' ∧ Upto (Iv i) δ) ⟨δ, own, R0, h0⟩ (fun i σ H _ ⟨δ1, own1, Ra, _⟩ => Ex.sqL Ra.toEx hq) (fun i x σ H hx hI => turn i x σ H hx hI) done⟩
  | false =>
    have hq : SqT X.K (cut H1 own.flatten) a xs := hq
    exact ⟨a, rfl, ⟨xs, Ex.sqT cut_ex hq⟩, for_tup (K := X.K) (xs := xs) (fun i σ H => ∃ δ own', Rel X.K (cut H1 own.flatten) σ H δ own' ∧ Upto (Iv i) δ) ⟨δ, own, R0, h0⟩ (fun i σ H _ ⟨δ1, own1, Ra, _⟩ => Ex.sqT Ra.toEx hq) (fun i x σ H hx hI => turn i x σ H hx hI) done⟩

/-- over the script -/
theorem ws_forSS (hp : PassesOwn (model X.prog X.w) X.A X.env X.xe) (hc : X.calm = true) {tg it : Expr} (Iv : Nat → List S → Prop)
    (h : We X H0 it δ (fun x => ∃ ns : List Int, x = .scr ns ∧ Upto (Iv 0) δ ∧ (∀ (i : Nat) n δ1, ns[i]? = some n → Iv i δ1 → Wg X H0 tg (.int n) δ1 fun δ2 => Wb X H0 sts δ2 (turnE E (Iv (i + 1)))) ∧ (∀ δ1, Iv ns.length δ1 → E.nx δ1)))
    (hs : ∀ x, foldedSetIterable it X.env x = pure x := by intro _; rfl) : Ws X H0 (.For tg it sts [] pos) δ E := fun B σ H own hB R =>
  toS (ps_for hp hc (pi_list pe_sem) pg_sem pb_sem hs) ((h.at hB R).mono fun v H1 ⟨d, R1, iv, ns, ed, h0, ht, he⟩ => by
    subst ed
    obtain ⟨a, rfl, hq⟩ := iv.scr_inv
    have hB1 : Ex B (cut H1 own.flatten) := R1.ex
    have R0 : Rel X.K (cut H1 own.flatten) σ H1 δ own := ⟨Same.refl _, R1.len1, R1.len2, R1.sl, R1.nd⟩
    refine ⟨a, rfl, ⟨_, Ex.sqL cut_ex hq⟩, for_list (K := X.K) (xs := ns.map V.int) (fun i σ H => ∃ δ own', Rel X.K (cut H1 own.flatten) σ H δ own' ∧ Upto (Iv i) δ) ⟨δ, own, R0, h0⟩ (fun i σ H _ ⟨δ1, own1, Ra, _⟩ => Ex.sqL Ra.toEx hq) (fun i x σ' H' hx ⟨δ1, own1, Ra, δ2, hv2, q⟩ => ?_) fun σ' H' ⟨δ1, own1, Ra, δ2, hv2, q⟩ => ?_⟩
    · rw [List.getElem?_map] at hx
      cases en : ns[i]? with
      | none => rw [en] at hx; cases hx
      | some n =>
        rw [en] at hx
        cases hx
        have Rw := (Ra.view hv2).1
        refine (ht i n δ2 en q (cut H1 own.flatten) σ' H' _ _ (hB.trans hB1) Rw (.int n)).mono fun σ3 H3 ⟨δ3, own3, R3, q3⟩ => ?_
        exact (q3 _ σ3 H3 own3 (hB.trans hB1) R3).mono (fun _ _ z => z) (fun v H ⟨σ, δ, own, r, Rr, ri, qq⟩ => ⟨σ, δ, own, r, Rr.weak hB1, ri.back hB1, qq⟩) (fun σ H ⟨δ, own, Rr, qq⟩ => ⟨δ, own, Rr.weak hB1, qq⟩) (fun _ _ z => z)
    · rw [List.length_map] at q
      exact ⟨_, _, ((Ra.view hv2).1).weak hB1, he _ q⟩)
theorem semT.mono' {Q Q' : Bool → Hp → Prop} (h : semT X c σ H Q) (m : ∀ b H1, Q b H1 → Q' b H1) : semT X c σ H Q' := h.mono m
/-- while c: body; m: a measure that falls -/
theorem ws_while (hp : PassesOwn (model X.prog X.w) X.A X.env X.xe) (Iv : Nat → List S → Prop) (m0 : Nat) (h0 : Upto (Iv m0) δ)
    (ht : ∀ m δ1, Iv m δ1 → ∃ δ2, Vw δ1 δ2 ∧ Wt X H0 c δ2 (fun r => (r = true → Wb X H0 sts δ1 { nx := fun δ' => ∃ m', m' < m ∧ Upto (Iv m') δ', rt := E.rt, bk := E.nx, ct := fun δ' => ∃ m', m' < m ∧ Upto (Iv m') δ' }) ∧ (r = false → E.nx δ1))) : Ws X H0 (.While c sts [] pos) δ E := fun B σ H own hB R => by
  refine toS (ps_while hp pt_sem pb_sem) ⟨fun m σ H => ∃ δ own, Rel X.K B σ H δ own ∧ Upto (Iv m) δ, ⟨m0, δ, own, R, h0⟩, fun m σ H ⟨δ1, own1, R1, δ2, hv, q⟩ => ?_⟩
  have R2 := (R1.view hv).1
  obtain ⟨δ3, hv3, w⟩ := ht m δ2 q
  refine (w.atV hv3 hB R2).mono fun r H1 ⟨R3, w1, w2⟩ => ?_
  cases r with
  | true =>
    rw [if_pos rfl]
    refine ⟨fun σ' H' => ∃ m', m' < m ∧ ∃ δ own, Rel X.K B σ' H' δ own ∧ Upto (Iv m') δ, fun σ' H' ⟨m', l, z⟩ => ⟨m', l, z⟩, ?_⟩
    refine (w1 rfl B σ H1 _ hB R3).mono (fun σ H ⟨δ, own, Rr, m', l, z⟩ => ⟨m', l, δ, own, Rr, z⟩) (fun _ _ z => z) (fun _ _ z => z) (fun σ H ⟨δ, own, Rr, m', l, z⟩ => ⟨m', l, δ, own, Rr, z⟩)
  | false =>
    rw [if_neg Bool.false_ne_true]
    exact ⟨_, _, R3, w2 rfl⟩
/-! ### several targets -/
theorem wgs_cons {tg : Expr} {ts : List Expr} {d : D} {ds : List D} (h : Wg X H0 tg d δ fun δ1 => Wgs X H0 ts ds δ1 kn)
    (hp : ∀ {t : TG} {u : TGs}, PG X tg t → PGs X ts u → PGs X (tg :: ts) (gCons t u)) : Wgs X H0 (tg :: ts) (d :: ds) δ kn := fun B σ H own vs hB R iv => by
  obtain ⟨v, r, rfl, i, il⟩ := iv.inv_cons
  have R0 : Rel X.K (cut H own.flatten) σ H δ own := ⟨Same.refl _, R.len1, R.len2, R.sl, R.nd⟩
  refine toGs (hp pg_sem pgs_sem) ⟨v, r, rfl, (h _ σ H own v (hB.trans R.ex) R0 i).mono fun σ1 H1 ⟨δ1, own1, R1, q⟩ => ?_⟩
  exact (q _ σ1 H1 own1 r (hB.trans R.ex) R1 (il.mono R1.ex)).mono fun σ2 H2 ⟨δ2, own2, R2, q2⟩ => ⟨δ2, own2, R2.weak R.ex, q2⟩
theorem wg_tup {ts : List Expr} {x1 : Nat} {ds : List D} (hc : X.calm = true) (h : Wgs X H0 ts ds δ kn) (hn : (assignEach ts X.env).length = ds.length := by rfl) (hst : (assignEach ts X.env).findIdx? (·.1) = none := by rfl) : Wg X H0 (.Tuple ts x1 pos) (.sq false ds) δ kn := fun B σ H own v hB R iv => by
  obtain ⟨a, xs, rfl, hq, il⟩ := iv.tup_inv
  exact toG (pg_tup hc pgs_sem hn hst) ⟨a, xs, rfl, Ex.sqT cut_ex hq, il.1, h B σ H own xs hB R il⟩
end
/-! ### a def -/
def startD (N : List Str) (ds : List D) : List S := ds.map .sh ++ List.replicate (N.length - ds.length) .no
theorem flat_rep : ∀ n : Nat, (List.replicate n ([] : List Addr)).flatten = []
  | 0 => rfl
  | n + 1 => by rw [List.replicate_succ, List.flatten_cons, flat_rep n] <;> rfl
theorem rel_start {K : PySem.W.Frag} {H : Hp} {N : List Str} {vs : List V} {ds : List D} (h : IsL K H vs ds) (hl : ds.length ≤ N.length) : Rel K H (start N vs) H (startD N ds) (List.replicate N.length []) := by
  have e0 : (List.replicate N.length ([] : List Addr)).flatten = [] := flat_rep _
  have e1 : (startD N ds).length = N.length := by simp [startD]; omega
  have hv := h.1
  refine ⟨by rw [e0, cut_nil]; exact Same.refl _, by simp [L2.start, startD, hv], by simp [e1], fun i s x l h1 h2 h3 => ?_, by rw [e0]; exact List.nodup_nil⟩
  have el : l = [] := by
    rw [List.getElem?_replicate] at h3
    split at h3 <;> cases h3
    rfl
  subst el
  rw [e0, cut_nil]
  unfold startD at h1
  unfold L2.start at h2
  by_cases hi : i < ds.length
  · rw [List.getElem?_append_left (by simpa using hi), List.getElem?_map] at h1
    rw [List.getElem?_append_left (by simpa [hv] using hi), List.getElem?_map] at h2
    cases ed : ds[i]? with
    | none => rw [ed] at h1; cases h1
    | some d =>
      rw [ed] at h1; cases h1
      obtain ⟨v, ev, iv⟩ := h.get ed
      rw [ev] at h2; cases h2
      exact ⟨rfl, v, rfl, iv⟩
  · rw [List.getElem?_append_right (by simpa using hi), List.getElem?_replicate] at h1
    split at h1 <;> cases h1
    exact rfl
section
variable {P : Program} {w : World} {K : PySem.W.Frag} {mg : Str → Option Value} {base : Heap} {x qual : Str} {params : Arguments} {body : List Stmt} {scope : Scope} {dvs : List V} {kws : List (Str × V)} {f : Addr} {fd : FuncData}
/-- THE RULE for a def, by data -/
theorem fn_ok {N ps : List Str} {k : Nat} {T : DSp} (F : FunD K x qual params body scope dvs kws f fd) (S : FnScope N ps scope) (hN : ps.length ≤ N.length) (hlen : ∀ ds k x, T ds k x → ds.length = ps.length)
    (hbody : ∀ (cdv : Value) (A : Around) (outer : List Env) (s : Shared) (H : Hp) (E : XK) (ds : List D) (kk : DL.S → Prop) (xx : XD), Room k (A.deeper (envOfC qual scope s.heap.objs.size f cdv)) → T ds kk xx →
      Xc (cxOf (L2.CX P w) P w K mg base N qual scope f cdv A outer s H E) H (fun _ => xx) →
      Wb (cxOf (L2.CX P w) P w K mg base N qual scope f cdv A outer s H E) H body (startD N ds) { nx := fun _ => kk (.sh .non), rt := fun _ r => kk r }) : FnOk P w K mg base (L2.CX P w) (k + 1) f fd ps (spD K T) := by
  refine F.ok S (fun vs H Q E ⟨ds, kk, xx, is, hT, _⟩ => by rw [is.1]; exact hlen _ _ _ hT) (fun cdv A outer s H vs Q E hr h => ?_)
  obtain ⟨ds, kk, xx, is, hT, hQ, hE⟩ := h
  have tk : Takes (cxOf (L2.CX P w) P w K mg base N qual scope f cdv A outer s H E) (fun cls d _ H' => E cls d H') := takes_of rfl rfl rfl rfl
  have xc : Xc (cxOf (L2.CX P w) P w K mg base N qual scope f cdv A outer s H E) H (fun _ => xx) := ⟨⟨_, tk, fun σ G δ c d fs R i q => hE c d G fs R.ex i q⟩⟩
  refine ⟨_, pb_sem, (hbody cdv A outer s H E ds kk xx hr hT xc H _ H _ (Same.refl H) (rel_start is (by rw [hlen _ _ _ hT]; exact hN))).mono (fun σ' H' ⟨δ, own, R, q⟩ => hQ _ _ _ (show RetIs K H .non H' (.sh .non) from ⟨R.toEx, .non⟩) q) (fun v H' ⟨σ', δ, own, r, R, i, q⟩ => hQ _ _ _ i q) (fun _ _ ⟨_, _, _, z⟩ => z) (fun _ _ ⟨_, _, _, z⟩ => z)⟩
end
end DL
set_option Elab.async false
set_option linter.all false
set_option maxRecDepth 100000
set_option maxHeartbeats 2000000
/-! Part e: closers, numbers, names of built-ins. -/
namespace DL
open PySem PySem.Spec PyProof.Rows L2
/-- the built-in names that the top leaves alone -/
structure Bi (mg : Str → Option Value) : Prop where
  len : mg "len" = none
  range : mg "range" = none
  int : mg "int" = none
  abs : mg "abs" = none
  tuple : mg "tuple" = none
  list : mg "list" = none
  isinstance : mg "isinstance" = none
  bool : mg "bool" = none
  sum : mg "sum" = none
theorem mul64 {i j : Int} (hi : -18446744073709551616 < i ∧ i < 18446744073709551616) (hj : -18446744073709551616 < j ∧ j < 18446744073709551616) : CMulW i j :=
  wide_mul (a := 64) (b := 64) (show i.natAbs < 18446744073709551616 by omega) (show j.natAbs < 18446744073709551616 by omega) (by decide) (by decide) (by decide)
theorem div64 {i j : Int} (h : 0 < j) (hj : j < 18446744073709551616) : CDivW i j := wide_div (b := 64) h (show j.natAbs < 18446744073709551616 by omega) (by decide) (by decide)
theorem lok {n : Nat} (h : Nat.ble n 100000 = true := by rfl) : n ≤ 100000 := Nat.le_of_ble_eq_true h
/-- of fewer than n bits -/
def Bd (n : Nat) (x : Int) : Prop := x.natAbs < 2 ^ n
theorem Bd.le {m n : Nat} {x : Int} (h : Bd m x) (l : m ≤ n) : Bd n x := Nat.lt_of_lt_of_le h (Nat.pow_le_pow_right (by decide) l)
theorem Bd.mulW {a b : Nat} {x y : Int} (h : Bd a x) (h' : Bd b y) (l : a + b ≤ 900000) : CMulW x y :=
  wide_mul (h.le (Nat.le_add_right a 1)) (h'.le (Nat.le_add_right b 1)) (by omega) (by omega) (by omega)
theorem Bd.mul {a b : Nat} {x y : Int} (h : Bd a x) (h' : Bd b y) : Bd (a + b) (x * y) := wide_lt h h'
theorem Bd.neg {a : Nat} {x : Int} (h : Bd a x) : Bd a (-x) := by
  unfold Bd at *
  rw [Int.natAbs_neg]
  exact h
theorem Bd.add {a b n : Nat} {x y : Int} (h : Bd a x) (h' : Bd b y) (l : a < n) (l' : b < n) : Bd n (x + y) := by
  unfold Bd at *
  have h1 : (x + y).natAbs ≤ x.natAbs + y.natAbs := Int.natAbs_add_le x y
  have h2 : 2 ^ a * 2 ≤ 2 ^ n := by rw [← Nat.pow_succ]; exact Nat.pow_le_pow_right (by decide) l
  have h3 : 2 ^ b * 2 ≤ 2 ^ n := by rw [← Nat.pow_succ]; exact Nat.pow_le_pow_right (by decide) l'
  omega
theorem Bd.sub {a b n : Nat} {x y : Int} (h : Bd a x) (h' : Bd b y) (l : a < n) (l' : b < n) : Bd n (x - y) := by
  rw [Int.sub_eq_add_neg]
  exact h.add h'.neg l l'
theorem Bd.div {b : Nat} {x y : Int} (h : 0 < y) (hy : Bd b y) (l : b ≤ 8999) : CDivW x y := wide_div h (hy.le (Nat.le_add_right b 1)) (by omega) (by omega)
/-- lookup in a list of ints told as data -/
theorem get_ints {ns : List Int} {i : Nat} {n : Int} (h : ns[i]? = some n) : (ns.map D.int)[i]? = some (.int n) := by
  rw [List.getElem?_map, h] <;> rfl
theorem of_get_ints {ns : List Int} {i : Nat} {d : D} (h : (ns.map D.int)[i]? = some d) : ∃ n, ns[i]? = some n ∧ d = .int n := by
  rw [List.getElem?_map] at h
  cases e : ns[i]? with
  | none => rw [e] at h; cases h
  | some n => rw [e] at h; exact ⟨n, rfl, (Option.some.inj h).symm⟩
theorem snoc_ints {ns : List Int} {n : Int} : ns.map D.int ++ [D.int n] = (ns ++ [n]).map D.int := by rw [List.map_append] <;> rfl
section
variable {X : Cx} {H0 : Hp} {δ : List S} {e e2 : Expr} {es : List Expr} {k : D → Prop} {pos p : Pos}
/-- gcd of the module math, by its name -/
theorem we_gcd (hm : X.mg "gcd" = some (.builtin "math.gcd")) (h : Wa X H0 [e, e2] δ (fun ds => A2 ds fun x y => I2 x y fun i j => k (.int ((Nat.gcd i.natAbs j.natAbs : Nat) : Int)))) (hg : Gl X "gcd" := by rfl)
    (he : notStar e = true := by rfl) (hpl : notStar e2 = true := by rfl) : We X H0 (.Call (.Name "gcd" p) [e, e2] [] pos) δ k := fun σ G R =>
  toE (pe_callBfun cr_gcd hg hm pa_sem (by decide) (star_of he) (star_any (by rw [List.all_cons, hpl]; rfl))) (call1 (ta := semA X [e, e2]) h (fun G vs ds is ⟨x, y, ed, i, j, ex, ey, hk⟩ Q q => by
    subst ed ex ey
    obtain ⟨v, w, rfl, a, b⟩ := is.two
    cases a
    cases b
    exact ⟨i, j, rfl, q _ G _ (Same.refl _) (.int _) hk⟩) σ G R)
end
end DL
set_option Elab.async false
set_option linter.all false
set_option maxRecDepth 100000
set_option maxHeartbeats 2000000
set_option pp.maxSteps 1200
/-! Part f: own errors: made, raised, caught, asked. -/
namespace DL
open PySem PySem.Spec PyProof.Rows L2
/-! ### an error class whose __init__ stores its one argument -/
/-- __init__(self, v): self.f = v -/
def spI1 (K : PySem.W.Frag) (f : Str) : Sp := fun vs H Q _ => ∃ (a C : Addr) (v : V), vs = [.ref a, v] ∧ H a = some (exo a C none) ∧ OexC K C ∧ PySem.W.findIn K (.ref C) f = some none ∧ ∀ dx, H dx = none → dx ≠ a → Q .non (upd (upd H dx (exd dx [(f, v)])) a (exo a C (some dx)))
structure Exc1 (P : Program) (w : World) (K : PySem.W.Frag) (mg : Str → Option Value) (base : Heap) (lvl : Nat) (x f : Str) (C : Addr) : Prop where
  ox : OexC K C
  no : PySem.W.findIn K (.ref C) f = some none
  gC : mg x = some (.ref C)
  ex : ∃ (fI : Addr) (fd : FuncData) (ps : List Str), PySem.W.findIn K (.ref C) "__init__" = some (some (.ref fI)) ∧ PySem.W.typeIn K (.ref fI) = some (.type "function") ∧ FnOk P w K mg base (L2.CX P w) lvl fI fd ps (spI1 K f) ∧ Binds K fd ps []
section
variable {P : Program} {w : World} {K : PySem.W.Frag} {mg : Str → Option Value} {base : Heap} {x qual : Str} {params : Arguments} {body : List Stmt} {scope : Scope} {dvs : List V} {kws : List (Str × V)} {f : Addr} {fd : FuncData}
/-- such an __init__ keeps its promise -/
theorem init1_ok {p fld : Str} {a1 a2 a3 : Pos} {pos : Pos} (F : FunD K x qual params [.Assign [.Attribute (.Name "self" a1) fld a2] (.Name p a3) pos] scope dvs kws f fd) (S : FnScope ["self", p] ["self", p] scope)
    (h0 : ∀ (cdv : Value) (A : Around) (outer : List Env) (s : Shared) (H : Hp) (E : XK), PE (cxOf (L2.CX P w) P w K mg base ["self", p] qual scope f cdv A outer s H E) (.Name "self" a1) (tVar 0))
    (h1 : ∀ (cdv : Value) (A : Around) (outer : List Env) (s : Shared) (H : Hp) (E : XK), PE (cxOf (L2.CX P w) P w K mg base ["self", p] qual scope f cdv A outer s H E) (.Name p a3) (tVar 1))
    (h2 : ∀ (cdv : Value) (A : Around) (outer : List Env) (s : Shared) (H : Hp) (E : XK), swapsWith (.Name p a3) (some (.Attribute (.Name "self" a1) fld a2)) pos.line (cxOf (L2.CX P w) P w K mg base ["self", p] qual scope f cdv A outer s H E).env = pure false) :
    FnOk P w K mg base (L2.CX P w) 1 f fd ["self", p] (spI1 K fld) := by
  refine F.ok S (fun vs H Q E h => by obtain ⟨_, _, _, rfl, _⟩ := h; rfl) (fun cdv A outer s H vs Q E hr h => ?_)
  obtain ⟨a, C, v, rfl, ha, T, no, q⟩ := h
  refine ⟨_, pss_one (ps_ost (h0 cdv A outer s H E) (h1 cdv A outer s H E) (h2 cdv A outer s H E)), ?_⟩
  exact ⟨v, rfl, .ref a, rfl, a, C, rfl, T, no, .inl ⟨ha, fun dx n ne => q dx n ne⟩⟩
end
section
variable {K : PySem.W.Frag} {X : Cx} {H0 B H H' : Hp} {σ : L2.St} {δ δ' : List S} {own : List (List Addr)} {a b c e : Expr} {es : List Expr} {k : D → Prop} {pos p : Pos} {E : En}
/-- raise x(e) -/
theorem ws_raise1 {lvl : Nat} {x f : Str} {C : Addr} {p1 : Pos} {xw : List S → XD} (T : Exc1 X.prog X.w X.K X.mg X.base lvl x f C) (hr : Room (lvl + 1) X.A) (hc : X.calm = true) (hx : Xc X H0 xw) (hv : Vw δ δ') (h : Wa X H0 [e] δ' (fun ds => A1 ds fun d => xw δ (.ref C) [(f, d)]))
    (hg : Gl X x := by rfl) (hdb : (x == ("__debug__" : Str)) = false := by decide) (he : notStar e = true := by rfl) :
    Ws X H0 (.Raise (some (.Call (.Name x p1) [e] [] pos)) none p) δ E := fun B σ H own hB R => by
  obtain ⟨fI, fd, ps, iC, tI, F, hb⟩ := T.ex
  obtain ⟨W, tk, hW⟩ := hx.ex
  refine toS (L2.ps_raise hc tk (pmk_oex T.ox iC tI F hr hb .nil passL hg T.gC pa_sem hdb (star_of he) rfl)) ((h.atV hv hB R).mono fun vs H1 ⟨ds, R1, is, d, ed, hq⟩ => ?_)
  subst ed
  obtain ⟨v, rfl, iv⟩ := is.one
  refine ⟨by show 1 ≤ 1000; decide, fun a na => ⟨a, C, v, rfl, upd_same, T.ox, T.no, fun dx ndx nea => ⟨rfl, dx, [(f, v)], upd_same, ?_, ?_, ?_⟩⟩⟩
  · rw [upd_ne nea, upd_same]
  · rw [upd_ne nea] at ndx; exact ndx
  · have e1 : Ex H1 (upd (del (upd (upd (upd H1 a (exo a C none)) dx (exd dx [(f, v)])) a (exo a C (some dx))) a) dx (.xd [(f, v)])) := fun b u hb => by
      have n1 : b ≠ a := ne_of_none hb na
      have n2 : b ≠ dx := by
        intro z
        subst z
        rw [upd_ne n1, hb] at ndx
        cases ndx
      rw [upd_ne n2, del_ne n1, upd_ne n1, upd_ne n2, upd_ne n1]
      exact hb
    have R2 : RelS X.K H0 σ H1 δ := (R1.weak hB).toS.mono cut_ex
    exact hW σ _ δ _ _ _ (R2.mono e1) ⟨[(f, v)], upd_same, rfl, fun i x d' q1 q2 => by
      cases i with
      | zero => cases q1; cases q2; exact iv.mono e1
      | succ i => cases q1⟩ hq
/-! ### caught -/
def noOw : List S → List S
  | [] => []
  | .ow _ :: r => .no :: noOw r
  | s :: r => s :: noOw r
theorem noOw_len : ∀ δ : List S, (noOw δ).length = δ.length
  | [] => rfl
  | .ow _ :: r => congrArg (· + 1) (noOw_len r)
  | .no :: r => congrArg (· + 1) (noOw_len r)
  | .sh _ :: r => congrArg (· + 1) (noOw_len r)
theorem noOw_get : ∀ (δ : List S) (i : Nat) (s : S), (noOw δ)[i]? = some s → s = .no ∨ ∃ d, s = .sh d ∧ δ[i]? = some (.sh d)
  | [], i, s, h => by cases h
  | .ow _ :: r, 0, s, h => by cases h; exact .inl rfl
  | .no :: r, 0, s, h => by cases h; exact .inl rfl
  | .sh d :: r, 0, s, h => by cases h; exact .inr ⟨d, rfl, rfl⟩
  | .ow _ :: r, i + 1, s, h => noOw_get r i s h
  | .no :: r, i + 1, s, h => noOw_get r i s h
  | .sh _ :: r, i + 1, s, h => noOw_get r i s h
theorem RelS.toRel {G : Hp} (R : RelS K H0 σ G δ) : Rel K H0 σ G (noOw δ) (List.replicate δ.length []) := by
  have e0 : (List.replicate δ.length ([] : List Addr)).flatten = [] := flat_rep _
  refine ⟨by rw [e0, cut_nil]; exact R.ex, by rw [noOw_len, R.len], by rw [noOw_len]; simp, fun i s x l h1 h2 h3 => ?_, by rw [e0]; exact List.nodup_nil⟩
  have el : l = [] := by
    rw [List.getElem?_replicate] at h3
    split at h3 <;> cases h3
    rfl
  subst el
  rw [e0, cut_nil]
  rcases noOw_get δ i s h1 with rfl | ⟨d, rfl, hd⟩
  · exact rfl
  · obtain ⟨v, hv, iv⟩ := R.sh i d hd
    rw [h2] at hv; cases hv
    exact ⟨rfl, v, rfl, iv⟩
/-- a name's slot is emptied -/
theorem Rel.setNo {i : Nat} (R : Rel K H0 σ H δ own) : Rel K H0 (σ.set i none) H (δ.set i .no) (own.set i []) := by
  have sub : ∀ a ∈ (own.set i []).flatten, a ∈ own.flatten := fun a ha => by
    rcases flat_set_sub ha with z | z
    · exact z
    · cases z
  have e : Ex (cut H own.flatten) (cut H (own.set i []).flatten) := cut_sub sub
  refine ⟨R.ex.trans e, by simp [R.len1], by simp [R.len2], fun j s x l h1 h2 h3 => ?_, flat_set_nd R.nd List.nodup_nil fun a ha => by cases ha⟩
  rcases set_get h1 with ⟨e1, rfl⟩ | ⟨n1, g1⟩
  · rcases set_get h3 with ⟨_, rfl⟩ | ⟨n3, _⟩
    · exact rfl
    · exact absurd e1 n3
  · rcases set_get h2 with ⟨e2, _⟩ | ⟨_, g2⟩
    · exact absurd e2 n1
    · rcases set_get h3 with ⟨e3, _⟩ | ⟨_, g3⟩
      · exact absurd e3 n1
      · exact (R.sl j s x l g1 g2 g3).mono e fun _ _ => rfl
theorem IsF.lookup {G : Hp} {n : Str} {u : D} : ∀ {vs : List (Str × V)} {fs : List (Str × D)}, IsF K G vs fs → fs.lookup n = some u → ∃ v, vs.lookup n = some v ∧ Is K G v u
  | [], [], _, h => by cases h
  | [], _ :: _, h, _ => by cases h.1
  | _ :: _, [], h, _ => by cases h.1
  | (a, v) :: vs, (b, d) :: fs, h, hl => by
    have h1 := h.1
    simp only [List.map_cons, List.cons.injEq] at h1
    obtain ⟨rfl, h2⟩ := h1
    have i0 : Is K G v d := h.2 0 (a, v) (a, d) rfl rfl
    have ir : IsF K G vs fs := ⟨h2, fun i x d q1 q2 => h.2 (i + 1) x d q1 q2⟩
    rw [List.lookup_cons] at hl ⊢
    by_cases e : n = a
    · subst e
      simp only [beq_self_eq_true] at hl ⊢
      cases hl
      exact ⟨v, rfl, i0⟩
    · have e' : (n == a) = false := beq_eq_false_iff_ne.mpr e
      simp only [e'] at hl ⊢
      exact IsF.lookup ir hl
/-- the caught error as data -/
def excD (a : Addr) : Option Addr → List (Str × D) → D
  | none, _ => .ob a
  | some dd, fs => .exc a dd fs
theorem excD_is {G : Hp} {a : Addr} {d : Option Addr} {fs : List (Str × D)} (h : ExcIs K G d fs) : Is K G (.ref a) (excD a d fs) := by
  cases d with
  | none => exact .ob a
  | some dd =>
    obtain ⟨vs, h1, h2⟩ := h
    exact .exc h1 h2.1 h2.2
/-- try: body / except x as n: suite; xb: what the body may let out, by data -/
theorem ws_try_as (i : Nat) {x n : Str} {cv : Value} {body suite : List Stmt} {b₀ : Stmt} {np pos' : Pos} (hs : X.stack = X.env :: X.outer) (hf : X.env.frame = some X.env.locals) (hN : X.N.Nodup) (hi : X.N[i]? = some n) (hln : X.env.kindOf n = some .local) (hcn : Names X x cv)
    (xb : List S → XD) (hx : Xc X H0 (fun _ _ _ => False))
    (hb : ∀ (pn : List (Addr × Obj)) (xe : Value → Shared → Prop) (B : Hp), Ex H0 B → PassesOwn (model X.prog X.w) X.A X.env xe → Xc (X.tr pn xe) B xb → Wb (X.tr pn xe) B body δ E)
    (hsu : ∀ (a : Addr) (oe : Obj) (pn : List (Addr × Obj)) (cls : Value) (d : Option Addr) (fs : List (Str × D)) δ1, xb δ1 cls fs → PySem.W.exmOne X.K cls cv = some true ∧
      (Zc cls d oe → (∃ vs, oe.data = .fields vs) → (fs ≠ [] → ∃ dd, d = some dd) → Wb (X.suite a ((a, oe) :: pn)) H0 (b₀ :: suite) ((noOw δ1).set i (.sh (excD a d fs))) { nx := fun δ => E.nx (δ.set i .no), rt := E.rt, bk := fun δ => E.bk (δ.set i .no), ct := fun δ => E.ct (δ.set i .no) })) :
    Ws X H0 (.Try body [.ExceptHandler (some (.Name x np)) (some n) (b₀ :: suite) pos'] [] [] pos) δ E := fun B σ H own hB R => by
  refine toS (ps_try_as (tb := fun W D σ H => ∀ pn xe, Takes (X.tr pn xe) W → PassesOwn (model X.prog X.w) X.A X.env xe → semB (X.tr pn xe) body D σ H)
    (ts := fun a cls d D σ H => ∀ oe pn, Zc cls d oe → (∃ vs, oe.data = .fields vs) → semB (X.suite a ((a, oe) :: pn)) (b₀ :: suite) D σ H) (Wout := fun _ _ _ _ => False) hs hf hN hi hln hcn takes0
    (fun W pn xe tk hp => ⟨fun pins s σ H D I h => (h pn xe tk hp).run pins s I⟩) (fun a oe cls d pn hz hv => ⟨fun pins s σ H D I h => (h oe pn hz hv).run pins s I⟩)) fun pn xe tk hp => ?_
  refine hb pn xe B hB hp ⟨⟨_, tk, fun σ1 G δ1 c d fs R1 ie hq => ?_⟩⟩ B σ H own (Same.refl B) R
  refine ⟨true, (hsu 0 ⟨.none, none, .fields #[], #[]⟩ [] c d fs δ1 hq).1, fun _ a na oe pn' hz hv => ?_, fun z => nomatch z⟩
  exact ((hsu a oe pn' c d fs δ1 hq).2 hz hv (fun hne => by cases d with | none => exact absurd ie hne | some dd => exact ⟨dd, rfl⟩) B _ G _ hB (R1.toRel.setSh (i := i) (by rw [flat_rep, cut_nil]; exact excD_is ie))).mono (fun σ2 H2 ⟨δ2, own2, R2, q2⟩ => ⟨_, _, R2.setNo, q2⟩) (fun _ _ z => z) (fun σ2 H2 ⟨δ2, own2, R2, q2⟩ => ⟨_, _, R2.setNo, q2⟩) (fun σ2 H2 ⟨δ2, own2, R2, q2⟩ => ⟨_, _, R2.setNo, q2⟩)
/-- e.f, e the error that the suite holds -/
theorem we_xf {C a : Addr} {oe : Obj} {d : Option Addr} {pn : List (Addr × Obj)} {n : Str} {x : Expr} {k : D → Prop} (T : XfC X.K C) (hno : PySem.W.findIn X.K (.ref C) n = some none) (hz : Zc (.ref C) d oe) (hf : ∃ vs, oe.data = .fields vs)
    (h : We (X.suite a ((a, oe) :: pn)) H0 x δ (fun y => ∃ dd fs v, d = some dd ∧ y = .exc a dd fs ∧ fs.lookup n = some v ∧ k v)) (hb : attributeBase x n X.env (eval x X.env) = eval x X.env := by rfl) : We (X.suite a ((a, oe) :: pn)) H0 (.Attribute x n pos) δ k := fun σ G R =>
  toE (pe_xf T hno hz hf pe_sem hb) ((h σ G R).mono fun v G1 ⟨e1, y, iy, dd, fs, u, ed, ey, hl, hk⟩ => by
    subst ed ey
    obtain ⟨vs, rfl, h1, hv⟩ : ∃ vs, v = .ref a ∧ G1 dd = some (.xd vs) ∧ IsF X.K G1 vs fs := by
      cases iy with
      | exc h1 h2 h3 => exact ⟨_, rfl, h1, h2, h3⟩
    obtain ⟨u', hu, iu⟩ := hv.lookup hl
    exact ⟨rfl, rfl, dd, vs, u', rfl, h1, hu, e1, u, iu, hk⟩)
end
end DL
/-! ### isinstance of a caught error that has a dict -/
namespace DL
open PySem PySem.W PySem.Calls PySem.Spec PyProof.Rows
section
variable {prog : Program} {w : World} {A : Around} {E : Value → Shared → Prop} {s : Shared} {K : Frag} {x C : Addr} {ox : Obj} {od : Option Obj}
/-- what the class must say -/
structure ExcQ (K : Frag) (C : Addr) : Prop where
  ga : findIn K (.ref C) "__getattribute__" = some (some (.builtin "BaseException.__getattribute__"))
  gg : findIn K (.ref C) "__getattr__" = some none
  sb : subIn K (.ref C) (.type "BaseException") = some true
  hd : hasDictIn K C = true
  cl : findIn K (.ref C) "__class__" = some (some (.builtin "object.__class__"))
  gt : specialIn K (.builtin "object.__class__") "__get__" = some (some (.builtin "getset_descriptor.__get__"))
  tk : takesIn K (.builtin "object.__class__") = some true
  mr : mroIn K C (.type "object") = some true
theorem excq_find (T : ExcQ K C) (od : Option Obj) : findObj K C od "__class__" = some (.bind (.builtin "getset_descriptor.__get__") (.builtin "object.__class__")) := by
  obtain ⟨cd, hc⟩ : ∃ cd, clsIn K C = some cd := by
    obtain ⟨cd, hc, _⟩ := any_some T.hd
    exact ⟨cd, hc⟩
  unfold findObj
  rw [hc, Option.bind_some, T.cl, Option.bind_some]
  simp [T.gt, T.tk]
theorem excq_cls {Q : Option Value → Shared → Prop} (T : ExcQ K C) (kin : K.In s.heap) (ia : InstAt s.heap x ox C od) (hq : Q (some (.ref C)) { s with toks := s.toks + 1 }) : wpAny (model prog w) A (getAttr? (.ref x) "__class__") Q E s := by
  obtain ⟨h0, gs, dr, tt, os⟩ := s
  have ty := ia.type (M := model prog w)
  have lg := looks_findIn (M := model prog w) kin T.ga
  have lh := looks_findIn (M := model prog w) kin T.gg
  have lf := looks_find (M := model prog w) kin ia (excq_find T od)
  have inst : Looks (model prog w) h0 (isInstance (.ref x) (.type "BaseException")) true := ty.andThen (looks_subIn kin T.sb)
  have neq : (Value.builtin "BaseException.__getattribute__" == Value.builtin "object.__getattribute__") = false := by decide +kernel
  have c1 : (onTheHeap (Value.ref C) && Value.builtin "BaseException.__getattribute__" == Value.builtin "object.__getattribute__") = false := by rw [neq, Bool.and_false]
  have c2 : (false && onTheHeap (Value.builtin "BaseException.__getattribute__")) = false := Bool.false_and _
  unfold getAttr? getAttrBy? getAttrBy
  refine wpAny_bind (wpAny_mkText (wpAny_bind (wpAny_attempt (wpAny_holding (wpAny_bind (ty.at (wpAny_bind (lg.at ?_))))))))
  show wpAny _ _ (if (onTheHeap (Value.ref C) && Value.builtin "BaseException.__getattribute__" == Value.builtin "object.__getattribute__") = true then _ else _) _ _ _
  rw [c1, if_neg Bool.false_ne_true]; unfold getAttrByItsOwn hookBefore; refine wpAny_bind ?_
  rw [if_pos (show onTheHeap (Value.ref C) = true by rfl)]; refine lh.at ?_
  refine wpAny_bind (wpAny_attempt (wpAny_holding ?_)); unfold callGetattribute
  rw [c2, if_neg Bool.false_ne_true]; unfold boundAndCalled
  rw [PySem.F.excAttr_ValueError.ga.bind (.ref x)]; refine wpAny_bind (wpAny_pure ?_)
  show wpAny _ _ (call (.builtin "BaseException.__getattribute__") [.ref x, .str "__class__" tt]) _ _ _
  refine wpAny_call (codeAny_call_builtin PySem.F.excAttr_ValueError.ga.plain PySem.F.entry_bexc_ga ?_)
  refine @check_slot (model prog w) _ _ ⟨h0, gs, dr, tt + 1, os⟩ "BaseException.__getattribute__" "BaseException" "__getattribute__" (.ref x) [.str "__class__" tt] [] _ (by decide +kernel) (by decide +kernel) inst (PySem.F.args_bexc_ga (.ref x) (.str "__class__" tt)) ?_
  unfold Builtin.«object.__getattribute__»
  refine wpAny_bind (wpAny_of_eq (a := ((Value.ref x : Value), [Value.str "__class__" tt])) (by first | rfl | (simp only [slotArgs]; rfl)) ?_)
  refine wpAny_bind (wpAny_pure (wpAny_bind (ty.at (wpAny_bind (lf.at ?_)))))
  show wpAny _ _ (holding [Value.builtin "object.__class__"] (call (.builtin "getset_descriptor.__get__") [.builtin "object.__class__", .ref x, .ref C]) >>= ret) _ _ _
  refine wpAny_bind (wpAny_holding (wpAny_call (class_get (s := ⟨h0, gs, dr, tt + 1, os⟩) (ox := ox) (od := od) kin ia T.mr (wpAny_pure ?_))))
  show wpAny _ _ (handedOut (.ref C)) _ _ _
  rw [handedOut_of (v := .ref C) rfl]
  first
    | exact wpAny_pure (wpAny_bind (wpAny_pure (wpAny_pure hq)))
    | exact wpAny_pure (wpAny_pure hq)
    | exact wpAny_pure hq
theorem excq_kit (T : ExcQ K C) : KitX K (.ref x) (.ref C) (fun h => ∃ od, InstAt h x ox C od) where
  ty := fun _ _ _ ⟨_, i⟩ => i.type
  it := fun _ _ kin _ => by
    obtain ⟨cd, hc, _⟩ := any_some T.hd
    unfold clsIn at hc
    split at hc
    · rename_i ho
      intro A' Q' E' s' kp q
      unfold isType loadHead
      exact wpAny_bind (wpAny_loadPart (kp _ _ (kin _ _ ho)) (wpAny_pure q))
    · cases hc
  ne := fun h tp dd its n sl kin htp => by
    obtain ⟨cd, hc, _⟩ := any_some T.hd
    refine Bool.eq_false_iff.mpr fun q => ?_
    obtain rfl : C = tp := Value.ref.inj (beq_iff_eq.mp q)
    unfold clsIn at hc
    split at hc
    · rename_i ho
      cases (kin _ _ ho).symm.trans htp
    · cases hc
  ca := fun kin ⟨_, i⟩ q => excq_cls T kin i q
end
end DL
namespace DL
open PySem PySem.Spec PyProof.Rows L2
section
variable {X : Cx} {H0 : Hp} {δ : List S} {k : D → Prop} {pos p : Pos} {a C : Addr} {oe : Obj} {d : Option Addr} {pn : List (Addr × Obj)}
theorem inst_of {H : Hp} {h : Heap} {P : Program} {w : World} (hz : Zc (.ref C) d oe) (hv : ∃ vs, oe.data = .fields vs) (ho : h.get? a = some oe) (hd : ∀ dd, d = some dd → ∃ o, h.get? dd = some o) : ∃ od, PySem.W.InstAt h a oe C od := by
  obtain ⟨oc, odt, oda, osl⟩ := oe
  obtain ⟨z1, z2⟩ := hz
  obtain ⟨vs, hv⟩ := hv
  dsimp only at z1 z2 hv
  subst z1 z2 hv
  cases odt with
  | none => exact ⟨none, ho, rfl, rfl, trivial⟩
  | some dd =>
    obtain ⟨o, hdo⟩ := hd dd rfl
    exact ⟨some o, ho, rfl, rfl, hdo⟩
/-- isinstance(e, c), e the error that the suite holds; its dict stands -/
theorem call_isX (T : ExcQ X.K C) (hz : Zc (.ref C) d oe) (hv : ∃ vs, oe.data = .fields vs) : CallR (X.suite a ((a, oe) :: pn)) (.builtin "isinstance") (fun xs H Q => ∃ (c : V) (cv : Value) (b : Bool), xs = [.ref a, c] ∧ ClsV c cv ∧ (∀ dd, d = some dd → ∃ o, H dd = some o) ∧ PySem.W.kitOne X.K (.ref C) cv = some b ∧ Q (.bl b) H) := by
  intro pins s σ H xs us Q I r h
  obtain ⟨c, cv, b, rfl, hc, hd, e, q⟩ := h
  obtain ⟨u1, u2, rfl, r1, r2⟩ := vals2 r
  cases r1
  have e2 := hc.eq r2
  subst e2
  obtain ⟨hget, _⟩ := I.pin (a, oe) (List.mem_append.mpr (.inl List.mem_cons_self))
  obtain ⟨od, ia⟩ := inst_of (H := H) (P := X.prog) (w := X.w) hz hv hget fun dd ed => by
    obtain ⟨o, ho⟩ := hd dd ed
    exact objOk_get (I.hok dd o ho)
  exact PySem.W.kia_one (excq_kit T) I.kIn ⟨od, ia⟩ e (fun z => nomatch z) fun tk => ⟨.bl b, H, I.kept (t' := tk) fun _ _ z => z, rfl, q⟩
/-- isinstance(e, (c1, c2, ..)) -/
theorem call_isXT (T : ExcQ X.K C) (hz : Zc (.ref C) d oe) (hv : ∃ vs, oe.data = .fields vs) : CallR (X.suite a ((a, oe) :: pn)) (.builtin "isinstance") (fun xs H Q => ∃ (tp : Addr) (cs : List V) (us : List Value) (b : Bool), xs = [.ref a, .ref tp] ∧ H tp = some (.tup cs) ∧ Paired ClsV cs us ∧ (∀ dd, d = some dd → ∃ o, H dd = some o) ∧ PySem.W.kitAny X.K (.ref C) us = some b ∧ Q (.bl b) H) := by
  intro pins s σ H xs us Q I r h
  obtain ⟨tp, cs, ws, b, rfl, hT, k, hd, e, q⟩ := h
  obtain ⟨u1, u2, rfl, r1, r2⟩ := vals2 r
  cases r1
  cases (show u2 = Value.ref tp from r2)
  obtain ⟨hget, _⟩ := I.pin (a, oe) (List.mem_append.mpr (.inl List.mem_cons_self))
  obtain ⟨od, ia⟩ := inst_of (H := H) (P := X.prog) (w := X.w) hz hv hget fun dd ed => by
    obtain ⟨o, ho⟩ := hd dd ed
    exact objOk_get (I.hok dd o ho)
  obtain ⟨_, its, rv, o, h1, h2, n, h3⟩ := (show ObjOk X.prog X.w H s.heap tp (.tup cs) from I.hok tp _ hT)
  have e3 := ClsV.all k rv
  subst e3
  obtain ⟨oc, od', dt, sl⟩ := o
  simp only at h2 h3
  subst h2 h3
  exact PySem.W.kia_tup (excq_kit T) I.kIn ⟨od, ia⟩ h1 e (fun z => nomatch z) fun tk => ⟨.bl b, H, I.kept (t' := tk) fun _ _ z => z, rfl, q⟩
theorem exc_there {G : Hp} {y : D} {v : V} {fs : List (Str × D)} (h : Is X.K G v (excD a d fs)) : v = .ref a ∧ ∀ dd, d = some dd → ∃ o, G dd = some o := by
  cases d with
  | none => cases h; exact ⟨rfl, fun dd e => nomatch e⟩
  | some d' =>
    cases h with
    | exc h1 h2 h3 => exact ⟨rfl, fun dd e => by cases e; exact ⟨_, h1⟩⟩
/-- the error's slot i; one class: c reads as cv -/
theorem we_isx {i : Nat} {nm x : Str} {p1 p2 : Pos} {cV : V} {cv : Value} {b : Bool} {fs : List (Str × D)} (T : ExcQ X.K C) (hz : Zc (.ref C) d oe) (hv : ∃ vs, oe.data = .fields vs) (hm : X.mg "isinstance" = none) (hi : δ[i]? = some (.sh (excD a d fs))) (hc : PE (X.suite a ((a, oe) :: pn)) (.Name x p2) (tC cV)) (hcv : ClsV cV cv)
    (hb : PySem.W.kitOne X.K (.ref C) cv = some b) (h : k (.bl b)) (hp : PE (X.suite a ((a, oe) :: pn)) (.Name nm p1) (tVar i) := by exact pv _) (hg : Gl (X.suite a ((a, oe) :: pn)) "isinstance" := by rfl) :
    We (X.suite a ((a, oe) :: pn)) H0 (.Call (.Name "isinstance" p) [.Name nm p1, .Name x p2] [] pos) δ k := fun σ G R => toE (pe_callB (call_isX T hz hv) hg hm (by decide +kernel) (pa_cons hp (pa_cons hc pa_nil (star_of rfl)) (star_of rfl)) (by decide) (by decide) (star_of rfl) (star_any rfl)) (by
  obtain ⟨v, e, iv⟩ := R.sh i _ hi
  obtain ⟨rfl, hd⟩ := exc_there (X := X) (y := .non) iv
  exact ⟨_, e, cV, cv, b, rfl, hcv, hd, hb, Same.refl _, _, .bl b, h⟩)
/-- a tuple of classes -/
inductive Clss (X : Cx) : List Expr → List V → List Value → Prop where
  | nil : Clss X [] [] []
  | cons {e : Expr} {es : List Expr} {v : V} {vs : List V} {u : Value} {us : List Value} : PE X e (tC v) → ClsV v u → (notStar e = true) → Clss X es vs us → Clss X (e :: es) (v :: vs) (u :: us)
theorem Clss.all {es : List Expr} {vs : List V} {us : List Value} (h : Clss X es vs us) : Paired ClsV vs us ∧ PA X es (fun _ H Q => Q vs H) := by
  induction h with
  | nil => exact ⟨.nil, pa_nil⟩
  | cons h1 h2 h3 _ ih => exact ⟨.cons h2 ih.1, pa_cons h1 ih.2 (star_of h3)⟩
theorem we_isxT {i x1 : Nat} {nm : Str} {p1 p2 : Pos} {es : List Expr} {vs : List V} {us : List Value} {b : Bool} {fs : List (Str × D)} (T : ExcQ X.K C) (hz : Zc (.ref C) d oe) (hv : ∃ vs, oe.data = .fields vs) (hm : X.mg "isinstance" = none) (hi : δ[i]? = some (.sh (excD a d fs))) (hc : Clss (X.suite a ((a, oe) :: pn)) es vs us) (hl : vs.length ≤ 1000)
    (hb : PySem.W.kitAny X.K (.ref C) us = some b) (h : k (.bl b)) (hp : PE (X.suite a ((a, oe) :: pn)) (.Name nm p1) (tVar i) := by exact pv _) (hg : Gl (X.suite a ((a, oe) :: pn)) "isinstance" := by rfl) :
    We (X.suite a ((a, oe) :: pn)) H0 (.Call (.Name "isinstance" p) [.Name nm p1, .Tuple es x1 p2] [] pos) δ k := fun σ G R => toE (pe_callB (call_isXT T hz hv) hg hm (by decide +kernel) (pa_cons hp (pa_cons (pe_tup hc.all.2) pa_nil (star_of rfl)) (star_of rfl)) (by decide) (by decide) (star_of rfl) (star_any rfl)) (by
  obtain ⟨v, e, iv⟩ := R.sh i _ hi
  obtain ⟨rfl, hd⟩ := exc_there (X := X) (y := .non) iv
  refine ⟨_, e, Nat.le_trans hl (by decide), fun tp ht => ⟨tp, vs, us, b, rfl, upd_same, hc.all.1, fun dd ed => ?_, hb, Ex.new ht, _, .bl b, h⟩⟩
  obtain ⟨o, ho⟩ := hd dd ed
  exact ⟨o, (Ex.new ht) dd o ho⟩)
end
end DL
set_option Elab.async false
set_option linter.all false
set_option maxRecDepth 100000
set_option maxHeartbeats 2000000
set_option pp.maxSteps 1200
/-! Part g: more operations. -/
namespace DL
open PySem PySem.Spec PyProof.Rows L2
section
variable {X : Cx} {H0 : Hp} {δ δ' : List S} {a b c e e2 : Expr} {es : List Expr} {k : D → Prop} {ko : Ow → Prop} {kt : Bool → Prop} {pos p : Pos} {E : En}
/-- // by any divisor but zero, below 2 ^ 9000 in size -/
def CDivX (_ j : Int) : Prop := j ≠ 0 ∧ j.natAbs.log2 < 9000
theorem op_fdivX : OpR X (binaryOp .FloorDiv) (rI CDivX fun i j => .int (i.fdiv j)) := opI fun _ _ _ _ _ _ _ hc q => floordiv_int hc.1 q (.inl (PyProof.noPylong_of_log2 hc.2))
theorem Bd.divX {n : Nat} {x y : Int} (h : y ≠ 0) (hy : Bd n y) (l : n ≤ 8999) : CDivX x y := ⟨h, Nat.lt_of_lt_of_le (PySem.Flt.log2_lt_of (by omega) (hy.le (Nat.le_add_right n 1))) (by omega)⟩
theorem we_fdiv (h : We X H0 a δ (fun x => We X H0 b δ (fun y => I2 x y (fun i j => CDivX i j ∧ k (.int (i.fdiv j)))))) : We X H0 (.BinOp a .FloorDiv b pos) δ k := fun σ G R => toE (pe_op op_fdivX pe_sem pe_sem) (two h (ii fun G i j => .int _) σ G R)
/-! ### list + list, list * int -/
def CAT (x y : D) (P : List D → Prop) : Prop := ∃ xs ys, x = .sq true xs ∧ y = .sq true ys ∧ xs.length + ys.length ≤ 100000 ∧ P (xs ++ ys)
theorem cat {xs ys : List D} {P : List D → Prop} (h : xs.length + ys.length ≤ 100000) (q : P (xs ++ ys)) : CAT (.sq true xs) (.sq true ys) P := ⟨xs, ys, rfl, rfl, h, q⟩
def REP (o : Ow) (y : D) (P : List D → Prop) : Prop := ∃ xs n, o = .lst xs ∧ y = .int n ∧ -1000000 ≤ n ∧ n ≤ 1000000 ∧ xs.length * n.toNat ≤ 100000 ∧ P (List.replicate n.toNat xs).flatten
theorem rep {xs : List D} {n : Int} {P : List D → Prop} (h : -1000000 ≤ n ∧ n ≤ 1000000 ∧ xs.length * n.toNat ≤ 100000) (q : P (List.replicate n.toNat xs).flatten) : REP (.lst xs) (.int n) P := ⟨xs, n, rfl, rfl, h.1, h.2.1, h.2.2, q⟩
theorem ObjOk.lstR {P : Program} {w : World} {H : Hp} {h : Heap} {l : Addr} {xs : List V} (r : Rd H l (.lst xs)) (ok : HOk P w H h) : xs.length ≤ sizeLine ∧ ∃ (its : List Value) (n : Nat), Vals xs its ∧ h.get? l = some { cls := .type "list", data := .seq its.toArray n } := r.ok ok
def rCatR : R2 := fun x y H Q => ∃ l b xs zs, x = .ref l ∧ y = .ref b ∧ Rd H l (.lst xs) ∧ Rd H b (.lst zs) ∧ xs.length + zs.length ≤ sizeLine ∧ ∀ p, H p = none → Q (.ref p) (upd H p (.lst (xs ++ zs)))
theorem op_catR : OpR X (binaryOp .Add) rCatR := by
  intro pins s σ H x y v u Q I rx ry h
  obtain ⟨l, b, xs, zs, rfl, rfl, hH, hB, hz, q⟩ := h
  cases rx; cases ry
  obtain ⟨z, its, n, r, e⟩ := ObjOk.lstR hH I.hok
  obtain ⟨z2, its2, n2, r2, e2⟩ := ObjOk.lstR hB I.hok
  refine PySem.P.add_list e e2 ?_ (by rw [List.size_toArray, List.size_toArray, ← r.length, ← r2.length]; exact hz)
  rw [show its.toArray ++ its2.toArray = (its ++ its2).toArray by simp]
  exact ⟨.ref _, _, I.lnew (t' := s.toks) (r.append r2) (by rw [List.length_append]; omega), rfl, q _ I.fresh⟩
theorem flat_len {α : Type} (n : Nat) (xs : List α) : (List.replicate n xs).flatten.length = n * xs.length := by
  induction n with
  | zero => simp
  | succ n ih => rw [List.replicate_succ, List.flatten_cons, List.length_append, ih, Nat.succ_mul, Nat.add_comm]
theorem IsL.rep {K : PySem.W.Frag} {G : Hp} {xs : List V} {ds : List D} (h : IsL K G xs ds) : ∀ n : Nat, IsL K G (List.replicate n xs).flatten (List.replicate n ds).flatten
  | 0 => .nil
  | n + 1 => by
    rw [List.replicate_succ, List.replicate_succ, List.flatten_cons, List.flatten_cons]
    exact h.app (IsL.rep h n)
theorem wo_cat (h : We X H0 a δ (fun x => We X H0 b δ (fun y => CAT x y fun zs => ko (.lst zs)))) : Wo X H0 (.BinOp a .Add b pos) δ ko := fun σ G R => toE (pe_op op_catR pe_sem pe_sem) ((h σ G R).mono fun v G1 ⟨e1, x, ix, q1⟩ => (q1 σ G1 (R.mono e1)).mono fun w G2 ⟨e2, y, iy, xs, ys, ex, ey, hl, hk⟩ => by
  subst ex ey
  obtain ⟨l, us, rfl, r1, l1⟩ := (ix.mono e2).lst_inv
  obtain ⟨l', ws, rfl, r2, l2⟩ := iy.lst_inv
  exact ⟨l, l', us, ws, rfl, rfl, r1, r2, Nat.le_trans (by rw [l1.1, l2.1]; exact hl) (by decide), fun t ht => ⟨_, (NewIs.lst ht (l1.app l2)).back (e1.trans e2), hk⟩⟩)
/-- [..] * n, a new list times an int -/
theorem wo_rep (h : Wo X H0 a δ (fun o => We X H0 b δ (fun y => REP o y fun zs => ko (.lst zs)))) : Wo X H0 (.BinOp a .Mult b pos) δ ko := fun σ G R => toE (pe_op op_rep pe_sem pe_sem) ((h σ G R).mono fun v G1 ⟨o, N, q1⟩ => (q1 σ G1 (R.mono N.ex)).mono fun w G2 ⟨e2, y, iy, xs, n, eo, ey, n1, n2, hl, hk⟩ => by
  subst eo ey
  cases iy
  have e1 := N.ex
  obtain ⟨l, ⟨p, us, rfl, rfl, hp, il⟩, fr, ee, nd⟩ := N
  have iG : IsL X.K G2 us xs := il.mono (cut_ex.trans e2)
  have hn : xs.length * n.toNat ≤ sizeLine := Nat.le_trans hl (by decide)
  exact ⟨p, n, us, rfl, rfl, e2 _ _ hp, by omega, by omega, by rw [il.1]; exact hn, fun t ht => ⟨_, (NewIs.lst ht (iG.rep _)).back (e1.trans e2), hk⟩⟩)
/-! ### == of data at any depth -/
inductive Pd : D → PyData → Prop
  | non : Pd .non .none
  | bl (b : Bool) : Pd (.bl b) (.bool b)
  | int (i : Int) : Pd (.int i) (.int i)
  | str (x : Str) : Pd (.str x) (.str x)
  | lst {ds : List D} {ps : List PyData} : ds.length = ps.length → (∀ (i : Nat) d q, ds[i]? = some d → ps[i]? = some q → Pd d q) → Pd (.sq true ds) (.list ps)
  | tup {ds : List D} {ps : List PyData} : ds.length = ps.length → (∀ (i : Nat) d q, ds[i]? = some d → ps[i]? = some q → Pd d q) → Pd (.sq false ds) (.tuple ps)
theorem dpAll {K : PySem.W.Frag} {H : Hp} : ∀ {vs : List V} {ps : List PyData}, vs.length = ps.length → (∀ (i : Nat) v q, vs[i]? = some v → ps[i]? = some q → Dp K H v q) → DpAll K H vs ps
  | [], [], _, _ => .nil
  | [], _ :: _, h, _ => by cases h
  | _ :: _, [], h, _ => by cases h
  | v :: vs, q :: ps, h, g => .cons (g 0 v q rfl rfl) (dpAll (Nat.succ.inj h) fun i v q a b => g (i + 1) v q a b)
theorem Pd.dp {K : PySem.W.Frag} {H : Hp} {d : D} {q : PyData} (h : Pd d q) : ∀ {v : V}, Is K H v d → Dp K H v q := by
  induction h with
  | non => intro v i; cases i; exact .non
  | bl b => intro v i; cases i; exact .bl b
  | int b => intro v i; cases i; exact .int b
  | str b => intro v i; cases i; exact .str b
  | lst hl _ ih =>
    intro v i
    obtain ⟨a, xs, rfl, r, l⟩ := i.lst_inv
    refine .lst (.inl r) (dpAll (l.1.trans hl) fun j v q h1 h2 => ?_)
    obtain ⟨d, hd, id⟩ := l.getV h1
    exact ih j d q hd h2 id
  | tup hl _ ih =>
    intro v i
    obtain ⟨a, xs, rfl, r, l⟩ := i.tup_inv
    refine .tup r (dpAll (l.1.trans hl) fun j v q h1 h2 => ?_)
    obtain ⟨d, hd, id⟩ := l.getV h1
    exact ih j d q hd h2 id
theorem Pd.nilL : Pd (.sq true []) (.list []) := .lst rfl fun i d q h => by cases h
theorem Pd.nilT : Pd (.sq false []) (.tuple []) := .tup rfl fun i d q h => by cases h
theorem Pd.consL {d : D} {q : PyData} {ds : List D} {ps : List PyData} (h : Pd d q) (r : Pd (.sq true ds) (.list ps)) : Pd (.sq true (d :: ds)) (.list (q :: ps)) := by
  cases r with
  | lst hl g =>
    refine .lst (congrArg (· + 1) hl) fun i d' q' h1 h2 => ?_
    cases i with
    | zero => cases h1; cases h2; exact h
    | succ i => exact g i d' q' h1 h2
theorem Pd.consT {d : D} {q : PyData} {ds : List D} {ps : List PyData} (h : Pd d q) (r : Pd (.sq false ds) (.tuple ps)) : Pd (.sq false (d :: ds)) (.tuple (q :: ps)) := by
  cases r with
  | tup hl g =>
    refine .tup (congrArg (· + 1) hl) fun i d' q' h1 h2 => ?_
    cases i with
    | zero => cases h1; cases h2; exact h
    | succ i => exact g i d' q' h1 h2
/-- the data on both sides, and what == says of them -/
def EQ (x y : D) (P : Bool → Prop) : Prop := ∃ p q, Pd x p ∧ Pd y q ∧ SeqAt.shaped p = true ∧ SeqAt.shaped q = true ∧ P (PyData.eqv p q)
theorem wt_eqD (hu : X.A.units + 64 < cLine) (h : We X H0 a δ (fun x => We X H0 b δ (fun y => EQ x y kt))) : Wt X H0 (.Compare a [.Eq] [b] pos) δ kt := fun σ G R => toT (pt_cmpR (op_eqD hu) pe_sem pe_sem (nomark _)) (twoT h (fun G v w x y iv iw ⟨p, q, hp, hq, sp, sq, hk⟩ Q qq => ⟨p, q, hp.dp iv, hq.dp iw, sp, sq, qq _ hk⟩) σ G R)
theorem we_eqD (hu : X.A.units + 64 < cLine) (h : We X H0 a δ (fun x => We X H0 b δ (fun y => EQ x y fun r => k (.bl r)))) : We X H0 (.Compare a [.Eq] [b] pos) δ k := fun σ G R => toE (pe_cmpR (op_eqD hu) pe_sem pe_sem (nomark _)) (two h (fun G v w x y iv iw ⟨p, q, hp, hq, sp, sq, hk⟩ Q qq => ⟨p, q, hp.dp iv, hq.dp iw, sp, sq, qq _ G _ (Same.refl _) (.bl _) hk⟩) σ G R)
theorem wt_neD (hu : X.A.units + 64 < cLine) (h : We X H0 a δ (fun x => We X H0 b δ (fun y => EQ x y fun r => kt (!r)))) : Wt X H0 (.Compare a [.NotEq] [b] pos) δ kt := fun σ G R => toT (pt_cmpR (op_neD hu) pe_sem pe_sem (nomark _)) (twoT h (fun G v w x y iv iw ⟨p, q, hp, hq, sp, sq, hk⟩ Q qq => ⟨p, q, hp.dp iv, hq.dp iw, sp, sq, qq _ hk⟩) σ G R)
/-- x = xs[i], xs a list that the frame alone holds -/
theorem ws_setIx (i j : Nat) {x y : Str} {px p1 ps : Pos} {ix : Expr} {ds : List D} (hN : X.N.Nodup) (hj : δ[j]? = some (.ow (.lst ds))) (hv : Vw δ δ') (h : We X H0 ix δ' (fun n => ∃ m d, n = .int m ∧ atI ds m = some d ∧ E.nx (δ.set i (.sh d)))) (hi : X.N[i]? = some x := by rfl) (hx : Loc X.env.scope x := by first | exact .inl rfl | exact .inr rfl) (hp : PE X (.Name y p1) (tVar j) := by exact pv _) (hpl : PlainIx ix := by exact fun _ _ => rfl)
    (hs : swapsWith (.Subscript (.Name y p1) ix ps) (some (.Name x px)) pos.line X.env = pure false := by rfl) (hf : X.fn x = true ∨ X.env.scope.names.lookup x = some .local := by exact .inl rfl) : Ws X H0 (.Assign [.Name x px] (.Subscript (.Name y p1) ix ps) pos) δ E := fun B σ H own hB R =>
  toS (ps_set hN hi hx (pe_ix ix_list hp pe_sem hpl) hs hf) (by
    obtain ⟨x0, l, h1, h2, v, rfl, p, xs, rfl, rfl, h3, h4⟩ := R.idx hj
    refine ⟨_, h1, (h.atV hv hB R).mono fun n H1 ⟨d, R1, inn, m, d', em, hat, q⟩ => ?_⟩
    subst em
    cases inn
    obtain ⟨x0, l, g1, g2, v', rfl, p', xs', ev, rfl, g3, g4⟩ := R1.idx hj
    rw [h1] at g1; cases g1
    cases ev
    obtain ⟨z, hz, iz⟩ := g4.atI hat
    exact ⟨p, xs', m, z, rfl, rfl, SqL.of g3, hz, _, _, R1.setSh iz, q⟩)
/-- an if whose ways meet -/
theorem wb_ifj {sts els rest : List Stmt} (M : List S → Prop) (hv : Vw δ δ') (hM : ∀ δ1, M δ1 → Wb X H0 rest δ1 E) (h : Wt X H0 c δ' (fun r => (r = true → Wb X H0 sts δ { E with nx := Upto M }) ∧ (r = false → Wb X H0 els δ { E with nx := Upto M }))) : Wb X H0 (.If c sts els pos :: rest) δ E :=
  wb_cons (ws_if hv (h.mono fun r ⟨h1, h2⟩ => ⟨fun hr => (h1 hr).mono (fun δ1 ⟨δ2, v, q⟩ => wb_view v (hM δ2 q)) (fun _ _ q => q) (fun _ q => q) (fun _ q => q), fun hr => (h2 hr).mono (fun δ1 ⟨δ2, v, q⟩ => wb_view v (hM δ2 q)) (fun _ _ q => q) (fun _ q => q) (fun _ q => q)⟩))
end
end DL
set_option Elab.async false
set_option linter.all false
set_option maxRecDepth 100000
set_option maxHeartbeats 2000000
set_option pp.maxSteps 1200
/-! Part h: defs that an except suite calls. -/
namespace DL
open PySem PySem.Spec PyProof.Rows L2
/-- the promise of a def, whatever is handled; p stays pinned -/
structure FnC (P : Program) (w : World) (K : PySem.W.Frag) (mg : Str → Option Value) (base : Heap) (k : Nat) (f : Addr) (fd : FuncData) (ps : List Str) (sp : Sp) : Prop where
  len : ∀ vs H Q E, sp vs H Q E → vs.length = ps.length
  go : ∀ (A : Around) (outer : List Env) (s : Shared) (H : Hp) (as : Args) (us : List Value) (vs : List V) (Q : VK) (E : XK) (q : Addr × Obj), L2H.RoomH k A → L2H.PinOk outer H s q → Env0 P w K mg base A outer s H → BindsTo s fd as (ps.zip us) → Vals vs us → sp vs H Q E → codeAny (model P w) A (.call (.ref f) as) (CR (L2.CX P w) outer P w H s Q E) s
section
variable {P : Program} {w : World} {K : PySem.W.Frag} {mg : Str → Option Value} {base : Heap} {x qual : Str} {params : Arguments} {body : List Stmt} {scope : Scope} {dvs : List V} {kws : List (Str × V)} {f : Addr} {fd : FuncData}
theorem fn_okC {N ps : List Str} {k : Nat} {T : DSp} (F : FunD K x qual params body scope dvs kws f fd) (S : FnScope N ps scope) (hN : ps.length ≤ N.length) (hlen : ∀ ds k x, T ds k x → ds.length = ps.length)
    (hbody : ∀ (cdv : Value) (A : Around) (outer : List Env) (s : Shared) (H : Hp) (E : XK) (q : Addr × Obj) (ds : List D) (kk : DL.S → Prop) (xx : XD), L2H.RoomH k (A.deeper (envOfC qual scope s.heap.objs.size f cdv)) → T ds kk xx →
      Xc (L2H.cxH (L2.CX P w) P w K mg base N qual scope f cdv A outer s H E q) H (fun _ => xx) →
      Wb (L2H.cxH (L2.CX P w) P w K mg base N qual scope f cdv A outer s H E q) H body (startD N ds) { nx := fun _ => kk (.sh .non), rt := fun _ r => kk r }) : FnC P w K mg base (k + 1) f fd ps (spD K T) := by
  obtain ⟨oc, od, dV, kV, doc, pm, an, cdv, ct, osl, rfl, lk, hcd, _, _⟩ := F.ex
  refine ⟨fun vs H Q E ⟨ds, kk, xx, is, hT, _⟩ => by rw [is.1]; exact hlen _ _ _ hT, fun A outer s H as us vs Q E q rm pin e0 bd rv hsp => ?_⟩
  obtain ⟨ds, kk, xx, is, hT, hQ, hE⟩ := hsp
  have nL : vs.length = ps.length := by rw [is.1]; exact hlen _ _ _ hT
  have kin : K.In s.heap := e0.mod.kin.keeps fun b o z => (e0.bs b o z).1
  have nl : s.heap.NoLimit := e0.mod.nolimit.keeps fun b o z => (e0.bs b o z).1
  have par : ∀ y ∈ ps.zip us, scope.names.lookup y.1 = some .local ∨ (scope.names.lookup y.1 = some .cell ∧ ((cellsFrom (s.heap.objs.size + 1) scope.names []).lookup y.1).isSome = true) := fun y hy =>
    (S.par y.1 (List.of_mem_zip (show (y.1, y.2) ∈ ps.zip us from hy)).1).elim .inl fun z => .inr ⟨z, PySem.W.cellsFrom_some _ _ _ (.inl z)⟩
  have tk : Takes (L2H.cxH (L2.CX P w) P w K mg base N qual scope f cdv A outer s H E q) (fun cls d _ H' => E cls d H') := takes_of rfl rfl rfl rfl
  have xc : Xc (L2H.cxH (L2.CX P w) P w K mg base N qual scope f cdv A outer s H E q) H (fun _ => xx) := ⟨⟨_, tk, fun σ G δ c d fs R i z => hE c d G fs R.ex i z⟩⟩
  refine codeAny_call_function rm.depth (kin _ _ lk) rfl S.co S.gen rfl (PySem.W.codeRec_of kin hcd) (bd _ _ _ _ (wpAny_newFunctionEnv_cells S.kind par fun env he s1 z => ?_))
  subst he
  refine ⟨nl.keeps z.toInCall.keep, codeAny_func ?_⟩
  have sb := (hbody cdv A outer s H E q ds kk xx (rm.deeper _) hT xc H _ H _ (Same.refl H) (rel_start is (by rw [hlen _ _ _ hT]; exact hN))).mono (D' := { nx := fun _ H' => Q .non H', rt := Q }) (fun σ' H' ⟨δ, own, R, g⟩ => hQ _ _ _ (show RetIs K H .non H' (.sh .non) from ⟨R.toEx, .non⟩) g) (fun v H' ⟨σ', δ, own, r, R, i, g⟩ => hQ _ _ _ i g) (fun _ _ ⟨_, _, _, z⟩ => z) (fun _ _ ⟨_, _, _, z⟩ => z)
  have I0 := L2H.inv_startH (CX := L2.CX P w) (E := E) S pin e0 nL rv z
  refine wpAny_mono (pb_sem.run [] s1 _ H _ I0 sb) (fun fl s' hs => ?_) fun _ _ hs => hs
  cases fl with
  | ret u =>
    obtain ⟨v, σ', H', J, r, g⟩ := hs
    exact ⟨v, H', J.os, J.bare, J.base, J.hok, r, g⟩
  | next =>
    obtain ⟨σ', H', J, g⟩ := hs
    exact ⟨.non, H', J.os, J.bare, J.base, J.hok, rfl, g⟩
  | brk =>
    obtain ⟨_, _, _, g⟩ := hs
    exact g.elim
  | cont =>
    obtain ⟨_, _, _, g⟩ := hs
    exact g.elim
end
/-- such a def, known -/
structure Fc (P : Program) (w : World) (K : PySem.W.Frag) (mg : Str → Option Value) (base : Heap) (lvl : Nat) (x : Str) (ps : List Str) (T : DSp) : Prop where
  ex : ∃ (f : Addr) (fd : FuncData), FnC P w K mg base lvl f fd ps (spD K T) ∧ mg x = some (.ref f) ∧ PySem.W.keepIn K (.ref f) = true ∧ Binds K fd ps []
theorem roomH_suite {k : Nat} {A : Around} {v : Option Value} (r : Room k A) : L2H.RoomH k (A.mark v) := ⟨r.dp, r.un⟩
section
variable {X : Cx} {H0 : Hp} {δ : List S} {e : Expr} {es : List Expr} {k : D → Prop} {pos p : Pos} {a : Addr} {oe : Obj} {pn : List (Addr × Obj)}
/-- a call in an except suite, where nothing is let out -/
theorem we_callC {lvl : Nat} {x : Str} {ps : List Str} {T : DSp} (F : Fc X.prog X.w X.K X.mg X.base lvl x ps T) (hr : Room lvl X.A) (h : Wa (X.suite a ((a, oe) :: pn)) H0 (e :: es) δ (fun as => T as (fun r => k r.d) (fun _ _ => False)))
    (hg : Gl (X.suite a ((a, oe) :: pn)) x := by rfl) (hdb : (x == ("__debug__" : Str)) = false := by decide) (he : notStar e = true := by rfl) (hpl : es.all notStar = true := by rfl) : We (X.suite a ((a, oe) :: pn)) H0 (.Call (.Name x p) (e :: es) [] pos) δ k := by
  intro σ G R
  obtain ⟨f, fd, Fk, hm, hk, hb⟩ := F.ex
  have h := h σ G R
  refine .mk fun pins s I => ?_
  refine wpAny_Call_Name_kw (ld_glob I hg hm ?_ hdb)
  refine PySem.W.callWith_K I.ok.mod.kin hk (thn (h.run pos pins s I) fun us s1 ⟨vs, G1, I1, rv, e1, as, is, hT⟩ => ⟨I1.kIn, ?_⟩) (star_of he) (star_any hpl)
  have nl : vs.length = ps.length := Fk.len vs G1 (fun _ _ => True) (fun _ _ _ => True) ⟨as, _, _, is, hT, fun _ _ _ _ _ => trivial, fun _ _ _ _ _ _ _ => trivial⟩
  have bd := hb s1 us I1.kIn (by rw [List.append_nil, ← rv.length]; exact nl)
  rw [List.append_nil] at bd
  have pn1 := I1.pin (a, oe) (List.mem_append_left _ List.mem_cons_self)
  have pin : L2H.PinOk X.stack G1 s1 (a, oe) := ⟨pn1.1, pn1.2.1, fun hm => (List.mem_cons.mp (I1.stkSub a hm)).elim pn1.2.2.1 pn1.2.2.2.1, pn1.2.2.2.2⟩
  refine wpAny_call (codeAny_mono (Fk.go _ X.stack s1 G1 ⟨us, []⟩ us vs (fun v G2 => Ex G G2 ∧ ∃ d, Is X.K G2 v d ∧ k d) (fun _ _ _ => False) (a, oe) (roomH_suite hr) pin I1.env0 bd rv ⟨as, _, _, is, hT, fun v G2 r ir kr => ⟨e1.trans ir.ex.1, _, ir.ex.2, kr⟩, fun _ _ _ _ _ _ z => z⟩) fun r s2 hq => ?_)
  cases r with
  | error z => exact (passAt (X := X.suite a ((a, oe) :: pn)) takes0 σ pins G1 s1 z s2 I1 hq : False).elim
  | ok fl =>
    cases fl with
    | ret u => exact I1.after hq
    | next => exact False.elim hq
    | brk => exact False.elim hq
    | cont => exact False.elim hq
end
/-! ### a call's tuple, kept beside an object that was lent -/
def FlatT : D → Prop
  | .sq false ds => ∀ (i : Nat) d, ds[i]? = some d → Flat d
  | d => Flat d
theorem FlatT.two {a b : D} (h : Flat a) (h' : Flat b) : FlatT (.sq false [a, b]) := fun i d e => by
  match i, e with
  | 0, e => cases e; exact h
  | 1, e => cases e; exact h'
theorem FlatT.is {K : PySem.W.Frag} {H0 H : Hp} {σ : L2.St} {δ : List S} {own : List (List Addr)} {v : V} {d : D} (R : Rel K H0 σ H δ own) (f : FlatT d) (h : Is K H v d) : Is K (cut H own.flatten) v d := by
  cases h with
  | non => exact .non
  | bl b => exact .bl b
  | int i => exact .int i
  | str x => exact .str x
  | tup h1 h2 h3 =>
    refine .tup ?_ h2 fun i x d hx hd => (h3 i x d hx hd).flat (f i d hd)
    rcases h1 with z | z
    · refine .inl ?_
      have no : ∀ (p : Addr) (xs : List V), p ∈ own.flatten → ¬ Rd H p (.tup xs) := fun p xs hp r => by
        rcases R.owned p hp with ⟨_, e⟩ | ⟨_, e⟩ | ⟨_, _, _, e, _⟩ | ⟨_, _, _, e, _⟩
        all_goals (rcases r with r | ⟨_, r⟩ <;> rw [e] at r <;> cases r)
      have na := fun hp => no _ _ hp z
      rcases z with z | ⟨ob, z⟩
      · exact .inl (by rw [cut_out na]; exact z)
      · exact .inr ⟨ob, by rw [cut_out na]; exact z⟩
    · exact .inr z
  | _ => exact f.elim
theorem ws_setT {X : Cx} {H0 : Hp} {δ δ' : List S} {e : Expr} {pos : Pos} {E : En} (i : Nat) {x : Str} {pos' : Pos} (hN : X.N.Nodup) (hv : Vw δ δ') (h : We X H0 e δ' (fun d => FlatT d ∧ E.nx (δ.set i (.sh d)))) (hi : X.N[i]? = some x := by rfl) (hx : Loc X.env.scope x := by first | exact .inl rfl | exact .inr rfl) (hs : swapsWith e (some (.Name x pos')) pos.line X.env = pure false := by rfl) (hf : X.fn x = true ∨ X.env.scope.names.lookup x = some .local := by exact .inl rfl) :
    Ws X H0 (.Assign [.Name x pos'] e pos) δ E := fun B σ H own hB R => toS (ps_set hN hi hx pe_sem hs hf) ((h.atV hv hB R).mono fun v H' ⟨d, R', i, f, q⟩ => ⟨_, _, R'.setSh (f.is R' i), q⟩)
/-- a block of one statement (elif) -/
theorem Ws.mono {X : Cx} {H0 : Hp} {st : Stmt} {δ : List S} {E E' : En} (h : Ws X H0 st δ E) (nx : ∀ δ, E.nx δ → E'.nx δ) (rt : ∀ δ r, E.rt δ r → E'.rt δ r) (bk : ∀ δ, E.bk δ → E'.bk δ) (ct : ∀ δ, E.ct δ → E'.ct δ) : Ws X H0 st δ E' := fun B σ H own hB R =>
  semS.mono (h B σ H own hB R) (fun σ H ⟨δ, own, R, q⟩ => ⟨δ, own, R, nx _ q⟩) (fun v H ⟨σ, δ, own, r, R, i, q⟩ => ⟨σ, δ, own, r, R, i, rt _ _ q⟩) (fun σ H ⟨δ, own, R, q⟩ => ⟨δ, own, R, bk _ q⟩) (fun σ H ⟨δ, own, R, q⟩ => ⟨δ, own, R, ct _ q⟩)
theorem wb_one {X : Cx} {H0 : Hp} {st : Stmt} {δ : List S} {E : En} (h : Ws X H0 st δ E) : Wb X H0 [st] δ E := wb_cons (h.mono (fun _ q => wb_nil q) (fun _ _ q => q) (fun _ q => q) (fun _ q => q))
end DL
set_option Elab.async false
set_option linter.all false
set_option maxRecDepth 100000
set_option maxHeartbeats 2000000
/-! Part i: a law's head by facts; the end. -/
namespace DL
open PySem PySem.Spec PyProof.Rows L2 He
/-! ### the hook: names, any other facts, defs -/
def obsM (fa : List Fa) (ex : List (PySem.W.Frag → Bool)) (fn : List DefD) (K : PySem.W.Frag) : AlD := (((fa.all fun f => f.ok K) && ex.all fun e => e K) && fn.all fun d => d.ok K, fn.map fun d => fnW K d.at_)
def SaysM (fa : List Fa) (ex : List (PySem.W.Frag → Bool)) (fn : List DefD) (K : PySem.W.Frag) : Prop := obsM fa ex fn K = valD fn
def obsMG (n : Nat) (fa : List Fa) (ex : List (PySem.W.Frag → Bool)) (fn : List DefD) (g : Addr → Option Obj) : AlD := obsM fa ex fn (frG g (asD g n))
def hookM (n : Nat) (fa : List Fa) (ex : List (PySem.W.Frag → Bool)) (fn : List DefD) : PySem.W.Hook :=
  { α := AlD, obs := fun s => obsMG n fa ex fn s.heap.get?, val := fun _ => valD fn, says := fun _ h => ∃ K : PySem.W.Frag, K.In h ∧ SaysM fa ex fn K, of := fun _ _ e => ⟨_, frG_in, e⟩, keeps := fun _ _ _ ⟨K, a, c⟩ k => ⟨K, PySem.W.Frag.In.keeps a k, c⟩ }
theorem obsMG_eq {n : Nat} {fa : List Fa} {ex : List (PySem.W.Frag → Bool)} {fn : List DefD} {g : Addr → Option Obj} {s : Shared} (h : ∀ a, g a = s.heap.get? a) : obsMG n fa ex fn g = (hookM n fa ex fn).obs s := by
  obtain rfl : g = s.heap.get? := funext h
  rfl
section
variable {fa : List Fa} {ex : List (PySem.W.Frag → Bool)} {fn : List DefD} {K : PySem.W.Frag}
theorem SaysM.b (c : SaysM fa ex fn K) : (((fa.all fun f => f.ok K) && ex.all fun e => e K) && fn.all fun d => d.ok K) = true := congrArg Prod.fst c
theorem SaysM.fact (c : SaysM fa ex fn K) (i : Nat) {f : Fa} (h : fa[i]? = some f := by rfl) : f.ok K = true :=
  List.all_eq_true.mp (ba (ba c.b).1).1 f (List.mem_of_getElem? h)
theorem SaysM.glo (c : SaysM fa ex fn K) {f : Fa} (h : f ∈ fa) : f.ok K = true := List.all_eq_true.mp (ba (ba c.b).1).1 f h
theorem SaysM.xt (c : SaysM fa ex fn K) (i : Nat) {f : PySem.W.Frag → Bool} (h : ex[i]? = some f := by rfl) : f K = true :=
  List.all_eq_true.mp (ba (ba c.b).1).2 f (List.mem_of_getElem? h)
theorem SaysM.def_ (c : SaysM fa ex fn K) (i : Nat) {d : DefD} (h : fn[i]? = some d := by rfl) : ∃ fd, FunD K d.name d.qual d.params d.body d.scope (d.dvs K) (d.kws K) (fAd K d.at_) fd := by
  have e : (fn.map fun d => fnW K d.at_) = fn.map DefD.val := congrArg Prod.snd c
  have q : (fn.map fun d => fnW K d.at_)[i]? = (fn.map DefD.val)[i]? := congrArg (·[i]?) e
  rw [List.getElem?_map, List.getElem?_map, h] at q
  exact DefD.funD (Option.some.inj q) (List.all_eq_true.mp (ba c.b).2 d (List.mem_of_getElem? h))
end
/-! ### class facts that can be reckoned -/
/-- C is an exception class with a dict, above it classes of its own and then ValueError -/
def oexB (K : PySem.W.Frag) (C : Addr) : Bool := (match K.lookup C with
  | some ⟨.type ty, _, .cls z, zs⟩ => (match z.mro, zs.toList with
    | .ref B :: up, [_, _, _, _, some (.builtin nw), _] => decide (ty = "type") && (decide (B = C) && (decide (nw = "ValueError.__new__") && (!z.hasDel && (z.hasDict && PySem.HandSPX.refsVE up))))
    | _, _ => false)
  | _ => false) && (eqO (PySem.W.findIn K (.ref C) "__setattr__") (some (some (.builtin "object.__setattr__"))) && (decide (PySem.W.subIn K (.ref C) (.type "BaseException") = some true) && (decide (PySem.W.typeIn K (.ref C) = some (.type "type")) && PySem.W.keepIn K (.ref C))))
theorem oexB_ok {K : PySem.W.Frag} {C : Addr} (h : oexB K C = true) : OexC K C := by
  obtain ⟨h0, h⟩ := ba h
  obtain ⟨h1, h⟩ := ba h
  obtain ⟨h2, h⟩ := ba h
  obtain ⟨h3, h4⟩ := ba h
  refine ⟨?_, eqO_ok h1, of_decide_eq_true h2, of_decide_eq_true h3, h4⟩
  split at h0
  · rename_i ty dd z zs lk
    split at h0
    · rename_i B up k0 k1 k2 k3 nw k5 e1 e2
      obtain ⟨t0, h0⟩ := ba h0
      obtain ⟨t1, h0⟩ := ba h0
      obtain ⟨t2, h0⟩ := ba h0
      obtain ⟨t3, h0⟩ := ba h0
      obtain ⟨t4, t5⟩ := ba h0
      have t0 := of_decide_eq_true t0
      have t1 := of_decide_eq_true t1
      have t2 := of_decide_eq_true t2
      obtain ⟨nm, bs, mro, ns, qn, hd, sn, sub, ab, col, del⟩ := z
      obtain ⟨zs⟩ := zs
      dsimp only at e1 e2 t3 t4
      cases del with
      | true => cases t3
      | false =>
        subst t0 t1 t2 e1 e2 t4
        exact ⟨nm, qn, ns, bs, up, sn, sub, ab, col, dd, k0, k1, k2, k3, k5, lk, t5⟩
    · cases h0
  · cases h0
def excqB (K : PySem.W.Frag) (C : Addr) : Bool := eqO (PySem.W.findIn K (.ref C) "__getattribute__") (some (some (.builtin "BaseException.__getattribute__"))) && (eqO (PySem.W.findIn K (.ref C) "__getattr__") (some none) && (decide (PySem.W.subIn K (.ref C) (.type "BaseException") = some true) && (PySem.W.hasDictIn K C &&
  (eqO (PySem.W.findIn K (.ref C) "__class__") (some (some (.builtin "object.__class__"))) && (eqO (PySem.W.specialIn K (.builtin "object.__class__") "__get__") (some (some (.builtin "getset_descriptor.__get__"))) && (decide (PySem.W.takesIn K (.builtin "object.__class__") = some true) && decide (PySem.W.mroIn K C (.type "object") = some true)))))))
theorem excqB_ok {K : PySem.W.Frag} {C : Addr} (h : excqB K C = true) : ExcQ K C := by
  obtain ⟨h1, h⟩ := ba h
  obtain ⟨h2, h⟩ := ba h
  obtain ⟨h3, h⟩ := ba h
  obtain ⟨h4, h⟩ := ba h
  obtain ⟨h5, h⟩ := ba h
  obtain ⟨h6, h⟩ := ba h
  obtain ⟨h7, h8⟩ := ba h
  exact ⟨eqO_ok h1, eqO_ok h2, of_decide_eq_true h3, h4, eqO_ok h5, eqO_ok h6, of_decide_eq_true h7, of_decide_eq_true h8⟩
/-! ### a def, known -/
section
variable {P : Program} {w : World} {K : PySem.W.Frag} {mg : Str → Option Value} {base : Heap} {lvl : Nat} {f : Addr} {fd : FuncData} {x qual : Str} {params : Arguments} {body : List Stmt} {scope : Scope} {dvs : List V} {kws : List (Str × V)} {ps : List Str} {T : DSp}
theorem mk_fn (F : FunD K x qual params body scope [] kws f fd) (ok : FnOk P w K mg base (L2.CX P w) lvl f fd ps (spD K T)) (g : mg x = some (.ref f))
    (h : ∀ (kV doc pm : Value) (an : Option Addr) (cdv ct : Value) (us : List Value), us.length = ps.length → bindArgs (PySem.W.fnOf x qual params body scope .none kV doc pm an cdv ct) ⟨us, []⟩ = pure (ps.zip us)) : Fn P w K mg base lvl x ps T [] :=
  ⟨f, fd, [], [], ok, g, F.kp, F.bindsN h, .nil, fun _ => .nil⟩
theorem mk_fc (F : FunD K x qual params body scope [] kws f fd) (ok : FnC P w K mg base lvl f fd ps (spD K T)) (g : mg x = some (.ref f))
    (h : ∀ (kV doc pm : Value) (an : Option Addr) (cdv ct : Value) (us : List Value), us.length = ps.length → bindArgs (PySem.W.fnOf x qual params body scope .none kV doc pm an cdv ct) ⟨us, []⟩ = pure (ps.zip us)) : Fc P w K mg base lvl x ps T :=
  ⟨f, fd, ok, g, F.kp, F.bindsN h⟩
/-- from the j-th default on they fill up -/
theorem mk_fnD {dds : List D} (F : FunD K x qual params body scope dvs kws f fd) (ok : FnOk P w K mg base (L2.CX P w) lvl f fd ps (spD K T)) (g : mg x = some (.ref f)) (n j : Nat) (hd : dvs ≠ []) (hn : n + (dvs.length - j) = ps.length) (hdd : ∀ G, IsL K G (dvs.drop j) dds)
    (h : ∀ (D : Addr) (kV doc pm : Value) (an : Option Addr) (cdv ct : Value) (us its : List Value), us.length = n → its.length = dvs.length →
      ∃ k, bindArgs (PySem.W.fnOf x qual params body scope (.ref D) kV doc pm an cdv ct) ⟨us, []⟩ = seqItems? (.ref D) >>= k ∧ k (some its.toArray) = pure (ps.zip (us ++ its.drop j))) : Fn P w K mg base lvl x ps T dds := by
  obtain ⟨ds, hv, hb⟩ := F.binds1 (ps := ps) n j hd hn h
  exact ⟨f, fd, ds, dvs.drop j, ok, g, F.kp, hb, hv, hdd⟩
end
/-! ### the law's end -/
theorem cx_none {P : Program} {w : World} {H : Hp} {s : Shared} {e : Value} {s' : Shared} (h : L2.CX P w [] H s (fun _ _ _ => False) e s') : False := by
  obtain ⟨_, _, _, _, _, _, _, _, _, _, _, _, z⟩ := h
  exact z
theorem law_sp {K : PySem.W.Frag} {T : DSp} {H : Hp} {a : Addr} {ns : List Int} (hT : ∀ kk xx, kk (.sh (.bl true)) → T [.scr ns] kk xx) (hS : SqL K H a (ns.map V.int)) : spD K T [.ref a] H (fun v _ => v = .bl true) fun _ _ _ => False :=
  ⟨[.scr ns], fun r => r = .sh (.bl true), fun _ _ => False, .cons (.scr hS) .nil, hT _ _ rfl, fun v H' r ir er => by subst er; exact ir.2.bl_inv, fun _ _ _ _ _ _ z => z⟩
theorem walk_ofM {l : PySem.W.OpenLaw} {n k : Nat} {q : Program} {loose : List Str} {XP : (Str → Option Value) → Heap → Prop} {YP : World → Heap → Prop} {d : DefRec} {x : Str} {T : DSp} (hn : l.most = some n) (hn2 : n ≤ sizeLine) (hdf : d.params.defaults = []) (hr : Room k callerA) (hT : ∀ ns kk xx, kk (.sh (.bl true)) → T [.scr ns] kk xx)
    (F : ∀ (w : World) (mg : Str → Option Value) (fa : Addr) (h : Heap), YP w h → h.Ns mainGlobals mg → mg d.name = some (.ref fa) → ∃ (K : PySem.W.Frag) (fd : FuncData), K.In h ∧ (∀ (s : Shared) (u : Value), BindsTo s fd ⟨[u], []⟩ [(x, u)]) ∧ ∀ base : Heap, K.In base → base.Ns mainGlobals mg → FnOk l.prog w K mg base (L2.CX l.prog w) k fa fd [x] (spD K T)) :
    PySem.W.WalkO q loose XP YP l.row.toRowW d [] (fun f vs => PySem.call f vs) := by
  refine Att.attach_call hn hdf fun w s₀ s₁ mg mb fa o pm cd doc a vs ns G Y _ _ _ hmg hobj hi hl hg => ?_
  obtain ⟨K, fd, inK, bd, ok⟩ := F w mg fa _ Y G.T.g hmg
  exact law_call inK G.T.g G.T.b G.T.builtins G.T.nolimit hg hobj hi (Nat.le_trans hl hn2) hr ok bd (fun H _ hS => law_sp (hT ns) hS) fun H e s' z => cx_none z
end DL
set_option Elab.async false
set_option linter.all false
set_option maxRecDepth 100000
set_option maxHeartbeats 2000000
/-! Part j: list comprehensions of one clause. -/
namespace DL
open PySem PySem.Spec PyProof.Rows L2
section
variable {X : Cx} {H0 : Hp}
/-- in the block's context, whatever it is -/
def bE (X : Cx) (sc : Scope) (e : Expr) : TE := fun σ H Q => ∀ (s : Shared) (h : Hp) (C : Addr) (cl : List (Str × Addr)) (fp : List Addr), semE (X.blk s h sc (compEnvC sc cl C X.env) fp) e σ H Q
def bT (X : Cx) (sc : Scope) (e : Expr) : TT := fun σ H Q => ∀ (s : Shared) (h : Hp) (C : Addr) (cl : List (Str × Addr)) (fp : List Addr), semT (X.blk s h sc (compEnvC sc cl C X.env) fp) e σ H Q
def BWe (X : Cx) (sc : Scope) (H0 : Hp) (e : Expr) (δ : List S) (k : D → Prop) : Prop := ∀ (s : Shared) (h : Hp) (C : Addr) (cl : List (Str × Addr)) (fp : List Addr), We (X.blk s h sc (compEnvC sc cl C X.env) fp) H0 e δ k
def BWt (X : Cx) (sc : Scope) (H0 : Hp) (e : Expr) (δ : List S) (k : Bool → Prop) : Prop := ∀ (s : Shared) (h : Hp) (C : Addr) (cl : List (Str × Addr)) (fp : List Addr), Wt (X.blk s h sc (compEnvC sc cl C X.env) fp) H0 e δ k
/-- owned objects beside it stay as they are -/
def FrE (te : TE) : Prop := ∀ (σ : L2.St) (H : Hp) (ps : List Addr) (Q Q' : VK), (∀ a ∈ ps, OwnAt H ps a) → te σ (cut H ps) Q → (∀ v G, (∀ a ∈ ps, G a = none) → Q v G → Q' v (mrg H ps G)) → te σ H Q'
def FrT (tt : TT) : Prop := ∀ (σ : L2.St) (H : Hp) (ps : List Addr) (Q Q' : Bool → Hp → Prop), (∀ a ∈ ps, OwnAt H ps a) → tt σ (cut H ps) Q → (∀ v G, (∀ a ∈ ps, G a = none) → Q v G → Q' v (mrg H ps G)) → tt σ H Q'
theorem fr_bE {sc : Scope} {e : Expr} : FrE (bE X sc e) := fun σ H ps Q Q' hp h m s h' C cl fp =>
  ((h s h' C cl fp).frame hp).mono fun v H' ⟨G, e, n, q⟩ => by rw [e]; exact m v G n q
theorem fr_bT {sc : Scope} {e : Expr} : FrT (bT X sc e) := fun σ H ps Q Q' hp h m s h' C cl fp =>
  ((h s h' C cl fp).frame hp).mono fun v H' ⟨G, e, n, q⟩ => by rw [e]; exact m v G n q
theorem mrg_cut {H : Hp} {ps : List Addr} : mrg H ps (cut H ps) = H := by
  funext a
  by_cases z : a ∈ ps
  · rw [mrg_in z]
  · rw [mrg_out z, cut_out z]
theorem fr_yes : FrT tYes := fun σ H ps Q Q' hp h m => by
  have h1 := m true (cut H ps) (fun a ha => cut_in ha) h
  rw [mrg_cut] at h1
  exact h1
/-- the whole heap: Hf with its owned objects at ps, the new list at A, the shared rest G -/
def lcH (Hf : Hp) (ps : List Addr) (A : Addr) (as : List V) (G : Hp) : Hp := mrg Hf ps (upd G A (.lst as))
section
variable {Hf G G' : Hp} {ps : List Addr} {A : Addr} {as : List V}
theorem lcH_cut (nA : A ∉ ps) (hA : G A = none) (hp : ∀ a ∈ ps, G a = none) : cut (lcH Hf ps A as G) (A :: ps) = G := by
  funext a
  by_cases e : a = A
  · subst e; rw [cut_in (by simp)]; exact hA.symm
  · by_cases z : a ∈ ps
    · rw [cut_in (by simp [z])]; exact (hp a z).symm
    · rw [cut_out (by simp [z, e])]
      unfold lcH
      rw [mrg_out z, upd_ne e]
theorem lcH_mrg (nA : A ∉ ps) : mrg (lcH Hf ps A as G) (A :: ps) G' = lcH Hf ps A as G' := by
  funext a
  by_cases e : a = A
  · subst e
    rw [mrg_in (by simp)]
    unfold lcH
    rw [mrg_out nA, mrg_out nA, upd_same, upd_same]
  · by_cases z : a ∈ ps
    · rw [mrg_in (by simp [z])]
      unfold lcH
      rw [mrg_in z, mrg_in z]
    · rw [mrg_out (by simp [z, e])]
      unfold lcH
      rw [mrg_out z, upd_ne e]
theorem lcH_at (nA : A ∉ ps) : lcH Hf ps A as G A = some (.lst as) := by
  unfold lcH
  rw [mrg_out nA, upd_same]
theorem lcH_upd (nA : A ∉ ps) {bs : List V} : upd (lcH Hf ps A as G) A (.lst bs) = lcH Hf ps A bs G := by
  funext a
  by_cases e : a = A
  · subst e; rw [upd_same, lcH_at nA]
  · rw [upd_ne e]
    unfold lcH
    by_cases z : a ∈ ps
    · rw [mrg_in z, mrg_in z]
    · rw [mrg_out z, mrg_out z, upd_ne e, upd_ne e]
theorem lcH_own (nA : A ∉ ps) (hp : ∀ a ∈ ps, OwnAt Hf ps a) : ∀ a ∈ A :: ps, OwnAt (lcH Hf ps A as G) (A :: ps) a := fun a ha => by
  have same : ∀ b ∈ ps, lcH Hf ps A as G b = Hf b := fun b hb => mrg_in hb
  rcases List.mem_cons.mp ha with rfl | z
  · exact .inl ⟨as, lcH_at nA⟩
  · rcases hp a z with ⟨xs, e⟩ | ⟨k, e⟩ | ⟨C, dx, fs, e, m⟩ | ⟨x, C, fs, e, m, e2⟩
    · exact .inl ⟨xs, by rw [same a z]; exact e⟩
    · exact .inr (.inl ⟨k, by rw [same a z]; exact e⟩)
    · exact .inr (.inr (.inl ⟨C, dx, fs, by rw [same a z]; exact e, List.mem_cons_of_mem _ m⟩))
    · exact .inr (.inr (.inr ⟨x, C, fs, by rw [same a z]; exact e, List.mem_cons_of_mem _ m, by rw [same x m]; exact e2⟩))
theorem lcH_ex (hA : G A = none) (hp : ∀ a ∈ ps, G a = none) : Ex G (lcH Hf ps A as G) := fun b u q => by
  unfold lcH
  rw [mrg_out (fun z => by rw [hp b z] at q; cases q), upd_ne (ne_of_none q hA)]
  exact q
theorem lcH_start : lcH Hf ps A [] (cut Hf ps) = upd Hf A (.lst []) ∨ A ∈ ps := by
  by_cases nA : A ∈ ps
  · exact .inr nA
  · refine .inl ?_
    funext a
    unfold lcH
    by_cases z : a ∈ ps
    · have e : a ≠ A := fun e => nA (e ▸ z)
      rw [mrg_in z, upd_ne e]
    · rw [mrg_out z]
      by_cases e : a = A
      · subst e; rw [upd_same, upd_same]
      · rw [upd_ne e, upd_ne e, cut_out z]
end
theorem RelS.set {K : PySem.W.Frag} {σ : L2.St} {G : Hp} {δ : List S} {v : V} {d : D} {i : Nat} (R : RelS K H0 σ G δ) (h : Is K G v d) : RelS K H0 (σ.set i (some v)) G (δ.set i (.sh d)) := by
  refine ⟨R.ex, by simp [R.len], fun j d' hj => ?_⟩
  rw [List.getElem?_set] at hj ⊢
  by_cases e : i = j
  · rw [if_pos e] at hj ⊢
    split at hj
    · rename_i hl
      cases hj
      rw [if_pos (by rw [R.len]; exact hl)]
      exact ⟨v, rfl, h⟩
    · cases hj
  · rw [if_neg e] at hj ⊢
    exact R.sh j d' hj
theorem lc_sem {te : TE} {tt : TT} {wv n : Nat} {J : It} {item : Nat → D} {P : Nat → List D → Prop} {σ : L2.St} {Hf : Hp} {ps : List Addr} {δ : List S} {Q : VK} (fe : FrE te) (ft : FrT tt) (hps : ∀ a ∈ ps, OwnAt Hf ps a) (R1 : RelS X.K H0 σ (cut Hf ps) δ)
    (hJ : ∀ i H, Ex (cut Hf ps) H → (i < n → J.go i H ∧ ∀ x H', J.yld i H x H' → H' = H ∧ Is X.K (cut Hf ps) x (item i)) ∧ (n ≤ i → J.stop i H)) (hP : P 0 [])
    (turn : ∀ i es, i < n → P i es → ∀ G σ', Ex (cut Hf ps) G → RelS X.K H0 σ' G (δ.set wv (.sh (item i))) → tt σ' G fun b G' => Ex G G' ∧ (b = true → te σ' G' fun y G'' => Ex G' G'' ∧ ∃ e, Is X.K G'' y e ∧ es.length < 100000 ∧ P (i + 1) (es ++ [e])) ∧ (b = false → P (i + 1) es))
    (done : ∀ A G as es, NewIs X.K (cut Hf ps) (.ref A) (upd G A (.lst as)) (.lst es) → (∀ a ∈ ps, upd G A (.lst as) a = none) → P n es → Q (.ref A) (lcH Hf ps A as G)) : ∀ A, Hf A = none → ∃ W : Nat → Nat → Hp → Prop, (∃ m, W 0 m (upd Hf A (.lst []))) ∧ ∀ i m H, W i m H →
      (J.stop i H ∧ Q (.ref A) H) ∨ (J.go i H ∧ ∃ Nx : Hp → Prop, (∀ H', Nx H' → ∃ m', m' < m ∧ W (i + 1) m' H') ∧ ∀ x H', J.yld i H x H' → gName wv x (wipe σ [wv]) H' fun σ2 H2 => wipe σ2 [wv] = wipe σ [wv] ∧ tt σ2 H2 fun b H3 =>
        if b = true then te σ2 H3 fun y H4 => ∃ acc, H4 A = some (.lst acc) ∧ acc.length < sizeLine ∧ Nx (upd H4 A (.lst (acc ++ [y]))) else Nx H3) := fun A hA => by
  have nA : A ∉ ps := fun z => by
    obtain ⟨u, hu⟩ := (hps A z).some
    rw [hA] at hu; cases hu
  refine ⟨fun i m H => m = n - i ∧ i ≤ n ∧ ∃ (G : Hp) (as : List V) (es : List D), H = lcH Hf ps A as G ∧ (G A = none ∧ ∀ a ∈ ps, G a = none) ∧ Ex (cut Hf ps) G ∧ IsL X.K G as es ∧ P i es, ⟨n, by simp, Nat.zero_le _, cut Hf ps, [], [], ((lcH_start (Hf := Hf)).resolve_right nA).symm, ⟨by rw [cut_out nA]; exact hA, fun a ha => cut_in ha⟩, Same.refl _, .nil, hP⟩, ?_⟩
  rintro i m H ⟨rfl, hi, G, as, es, rfl, ⟨hG, hGp⟩, e1, il, p⟩
  obtain ⟨j1, j2⟩ := hJ i _ (e1.trans (lcH_ex (Hf := Hf) (as := as) hG hGp))
  by_cases hlt : i < n
  · obtain ⟨g1, g2⟩ := j1 hlt
    refine .inr ⟨g1, fun H' => ∃ (G : Hp) (as : List V) (es : List D), H' = lcH Hf ps A as G ∧ (G A = none ∧ ∀ a ∈ ps, G a = none) ∧ Ex (cut Hf ps) G ∧ IsL X.K G as es ∧ P (i + 1) es, fun H' h => ⟨n - (i + 1), by omega, rfl, hlt, h⟩, fun x H' y => ?_⟩
    obtain ⟨rfl, ix⟩ := g2 x H' y
    have w1 : (wipe σ [wv]).set wv (some x) = σ.set wv (some x) := by
      show (σ.set wv none).set wv (some x) = _
      rw [List.set_set]
    show wipe ((wipe σ [wv]).set wv (some x)) [wv] = wipe σ [wv] ∧ tt ((wipe σ [wv]).set wv (some x)) _ _
    rw [w1]
    refine ⟨by show (σ.set wv (some x)).set wv none = σ.set wv none; rw [List.set_set], ?_⟩
    have R2 : RelS X.K H0 (σ.set wv (some x)) G (δ.set wv (.sh (item i))) := RelS.set (R1.mono e1) (ix.mono e1)
    have t1 := turn i es hlt p G _ e1 R2
    rw [← lcH_cut (Hf := Hf) (as := as) nA hG hGp] at t1
    refine ft _ (lcH Hf ps A as G) (A :: ps) _ _ (lcH_own nA hps) t1 fun b G3 n3 ⟨e3, y3, z3⟩ => ?_
    rw [lcH_cut nA hG hGp] at e3
    rw [lcH_mrg nA]
    have nA3 := n3 A (by simp)
    have np3 : ∀ a ∈ ps, G3 a = none := fun a ha => n3 a (List.mem_cons_of_mem _ ha)
    cases b with
    | false => exact ⟨G3, as, es, rfl, ⟨nA3, np3⟩, e1.trans e3, il.mono e3, z3 rfl⟩
    | true =>
      have t3 := y3 rfl
      rw [← lcH_cut (Hf := Hf) (as := as) nA nA3 np3] at t3
      refine fe _ (lcH Hf ps A as G3) (A :: ps) _ _ (lcH_own nA hps) t3 fun y G4 n4 ⟨e4, d, id, hl, hp⟩ => ?_
      rw [lcH_cut nA nA3 np3] at e4
      rw [lcH_mrg nA]
      exact ⟨as, lcH_at nA, Nat.lt_of_lt_of_le (by rw [il.1]; exact hl) (by decide), G4, as ++ [y], es ++ [d], lcH_upd nA, ⟨n4 A (by simp), fun a ha => n4 a (List.mem_cons_of_mem _ ha)⟩, e1.trans (e3.trans e4), (il.mono (e3.trans e4)).snoc id, hp⟩
  · have e : i = n := by omega
    subst e
    refine .inl ⟨j2 (Nat.le_refl _), done A G as es ((NewIs.lst hG il).back e1) (fun a ha => ?_) p⟩
    rw [upd_ne (by intro e; subst e; exact nA ha)]
    exact hGp a ha
end
/-! ### the rules -/
theorem lcH_nil {Hf G : Hp} {A : Addr} {as : List V} : lcH Hf [] A as G = upd G A (.lst as) := by
  funext a
  exact mrg_out (by simp)
theorem jl {K : PySem.W.Frag} {G1 : Hp} {a : Addr} {xs : List V} {ds : List D} (hq : SqL K G1 a xs) (il : IsL K G1 xs ds) : ∀ i H, Ex G1 H → (i < ds.length → (Itl K a).go i H ∧ ∀ x H', (Itl K a).yld i H x H' → H' = H ∧ Is K G1 x (ds.getD i .non)) ∧ (ds.length ≤ i → (Itl K a).stop i H) := fun i H e => by
  have hq' : SqL K H a xs := Ex.sqL e hq
  refine ⟨fun hi => ⟨⟨xs, xs[i]'(by rw [il.1]; exact hi), hq', List.getElem?_eq_getElem _⟩, fun x H' ⟨e2, y⟩ => ⟨e2, ?_⟩⟩, fun hi => ⟨xs, hq', by rw [il.1]; exact hi⟩⟩
  rw [List.getD_eq_getElem?_getD, List.getElem?_eq_getElem hi]
  exact il.2 i x _ (y xs hq') (List.getElem?_eq_getElem hi)
theorem jt {K : PySem.W.Frag} {G1 : Hp} {a : Addr} {xs : List V} {ds : List D} (hq : SqT K G1 a xs) (il : IsL K G1 xs ds) : ∀ i H, Ex G1 H → (i < ds.length → (Itt K a).go i H ∧ ∀ x H', (Itt K a).yld i H x H' → H' = H ∧ Is K G1 x (ds.getD i .non)) ∧ (ds.length ≤ i → (Itt K a).stop i H) := fun i H e => by
  have hq' : SqT K H a xs := Ex.sqT e hq
  refine ⟨fun hi => ⟨⟨xs, xs[i]'(by rw [il.1]; exact hi), hq', List.getElem?_eq_getElem _⟩, fun x H' ⟨e2, y⟩ => ⟨e2, ?_⟩⟩, fun hi => ⟨xs, hq', by rw [il.1]; exact hi⟩⟩
  rw [List.getD_eq_getElem?_getD, List.getElem?_eq_getElem hi]
  exact il.2 i x _ (y xs hq') (List.getElem?_eq_getElem hi)
theorem jr {K : PySem.W.Frag} {G1 : Hp} {lo : Int} {n : Nat} : ∀ i H, Ex G1 H → (i < n → (Itr lo n).go i H ∧ ∀ x H', (Itr lo n).yld i H x H' → H' = H ∧ Is K G1 x (.int (lo + (i : Int)))) ∧ (n ≤ i → (Itr lo n).stop i H) := fun i H e =>
  ⟨fun hi => ⟨hi, fun x H' ⟨e1, e2⟩ => ⟨e1, by rw [e2]; exact .int _⟩⟩, fun hi => hi⟩
/-- results, one for each -/
def Each (R : D → D → Prop) (ds es : List D) : Prop := ds.length = es.length ∧ ∀ (i : Nat) d e, ds[i]? = some d → es[i]? = some e → R d e
theorem Each.map {g : D → D} : ∀ {ds es : List D}, Each (fun d e => e = g d) ds es → es = ds.map g
  | [], [], _ => rfl
  | [], _ :: _, h => by cases h.1
  | _ :: _, [], h => by cases h.1
  | d :: ds, e :: es, h => by
    rw [List.map_cons, ← Each.map (ds := ds) (es := es) ⟨Nat.succ.inj h.1, fun i d e a b => h.2 (i + 1) d e a b⟩, h.2 0 d e rfl rfl]
theorem Each.ints {f : Int → Int} {ns : List Int} {es : List D} (h : Each (fun d e => ∃ n, d = .int n ∧ e = .int (f n)) (ns.map .int) es) : es = (ns.map f).map .int := by
  have h2 : Each (fun d e => e = (match d with | .int n => .int (f n) | _ => .non)) (ns.map .int) es := ⟨h.1, fun i d e a b => by
    obtain ⟨n, rfl, rfl⟩ := h.2 i d e a b
    rfl⟩
  rw [h2.map, List.map_map, List.map_map]
  rfl
/-- results by place -/
def EachN (R : Nat → D → Prop) (n : Nat) (es : List D) : Prop := es.length = n ∧ ∀ (i : Nat) e, es[i]? = some e → R i e
theorem EachN.nil {R : Nat → D → Prop} : EachN R 0 [] := ⟨rfl, fun i e h => by cases h⟩
theorem EachN.snoc {R : Nat → D → Prop} {n : Nat} {es : List D} {e : D} (h : EachN R n es) (he : R n e) : EachN R (n + 1) (es ++ [e]) := by
  refine ⟨by rw [List.length_append, h.1]; rfl, fun i x hx => ?_⟩
  by_cases hi : i < es.length
  · rw [List.getElem?_append_left hi] at hx
    exact h.2 i x hx
  · rw [List.getElem?_append_right (by omega)] at hx
    have e0 : i - es.length = 0 := by
      cases q : i - es.length with
      | zero => rfl
      | succ m => rw [q] at hx; cases hx
    rw [e0] at hx
    cases hx
    have : i = n := by rw [← h.1]; omega
    rw [this]
    exact he
theorem EachN.map {f : Nat → D} {n : Nat} {es : List D} (h : EachN (fun i e => e = f i) n es) : es = (List.range n).map f := by
  refine List.ext_getElem? fun i => ?_
  by_cases hi : i < n
  · rw [List.getElem?_map, List.getElem?_range hi, List.getElem?_eq_getElem (by rw [h.1]; exact hi)]
    exact congrArg some (h.2 i _ (List.getElem?_eq_getElem _))
  · rw [List.getElem?_eq_none (by rw [h.1]; omega), List.getElem?_eq_none (by simp; omega)]
section
variable {X : Cx} {H0 : Hp} {δ : List S} {x : Str} {elt it c e : Expr} {sc : Scope} {pos p pr pc : Pos} {ko : Ow → Prop}
theorem pe_b {elt : Expr} : ∀ (s : Shared) (H : Hp) (C : Addr) (cl : List (Str × Addr)) (fp : List Addr), PE (X.blk s H sc (compEnvC sc cl C X.env) fp) elt (bE X sc elt) := fun s H C cl fp => ⟨fun pins s' σ H' Q I h => (h s H C cl fp).run pins s' I⟩
theorem pt_b {c : Expr} : ∀ (s : Shared) (H : Hp) (C : Addr) (cl : List (Str × Addr)) (fp : List Addr), PTs (X.blk s H sc (compEnvC sc cl C X.env) fp) [c] (bT X sc c) := fun s H C cl fp => pts_one ⟨fun pins s' σ H' Q I h => (h s H C cl fp).run pins s' I⟩
/-- what a turn without a test does -/
theorem turn_no {v n : Nat} {item : Nat → D} {R : Nat → D → Prop} {Hf : Hp} {ps : List Addr} (hl : n ≤ 100000) (h : ∀ i, i < n → BWe X sc H0 elt (δ.set v (.sh (item i))) (R i)) : ∀ i es, i < n → EachN R i es → ∀ G σ', Ex (cut Hf ps) G → RelS X.K H0 σ' G (δ.set v (.sh (item i))) → tYes σ' G fun b G' => Ex G G' ∧ (b = true → bE X sc elt σ' G' fun y G'' => Ex G' G'' ∧ ∃ e, Is X.K G'' y e ∧ es.length < 100000 ∧ EachN R (i + 1) (es ++ [e])) ∧ (b = false → EachN R (i + 1) es) := fun i es hi p G σ' _ R' =>
  ⟨Same.refl _, fun _ s h' C cl fp => (h i hi s h' C cl fp σ' G R').mono fun y G2 ⟨e2, d, id, hd⟩ => ⟨e2, d, id, by rw [p.1]; omega, p.snoc hd⟩, fun z => nomatch z⟩
theorem getD_lt {ds : List D} {i : Nat} (h : i < ds.length) : ds[i]? = some (ds.getD i .non) ∧ ds.getD i .non ∈ ds := by
  rw [List.getD_eq_getElem?_getD, List.getElem?_eq_getElem h]
  exact ⟨rfl, List.getElem_mem h⟩
theorem each_of {R : D → D → Prop} {ds es : List D} (h : EachN (fun i e => R (ds.getD i .non) e) ds.length es) : Each R ds es := ⟨h.1.symm, fun i d e a b => by
  have q : R (ds.getD i .non) e := h.2 i e b
  rw [List.getD_eq_getElem?_getD, a] at q
  exact q⟩
/-! ### what is gone through -/
def FrI (wi : TI) : Prop := ∀ (σ : L2.St) (H : Hp) (ps : List Addr) (R R' : It → Hp → Prop), (∀ a ∈ ps, OwnAt H ps a) → wi σ (cut H ps) R → (∀ J G, (∀ a ∈ ps, G a = none) → R J G → R' J (mrg H ps G)) → wi σ H R'
/-- J goes through n items, at any heap that is not less than G -/
def Goes (K : PySem.W.Frag) (J : It) (n : Nat) (item : Nat → D) (G : Hp) : Prop := ∀ i H, Ex G H → (i < n → J.go i H ∧ ∀ x H', J.yld i H x H' → H' = H ∧ Is K G x (item i)) ∧ (n ≤ i → J.stop i H)
def Wi (X : Cx) (H0 : Hp) (it : Expr) (δ : List S) (k : Nat → (Nat → D) → Prop) : Prop :=
  ∃ wi : TI, (∀ tg, PI X tg it wi) ∧ FrI wi ∧ ∀ σ G, RelS X.K H0 σ G δ → wi σ G fun J G1 => Ex G G1 ∧ ∃ n item, k n item ∧ Goes X.K J n item G1
theorem mrg_exG {H G : Hp} {ps : List Addr} (n : ∀ a ∈ ps, G a = none) : Ex G (mrg H ps G) := fun b u q => by
  rw [mrg_out fun z => by rw [n b z] at q; cases q]
  exact q
theorem wi_sq (l : Bool) {k : Nat → (Nat → D) → Prop} (h : We X H0 it δ (fun y => ∃ ds, y = .sq l ds ∧ k ds.length (fun i => ds.getD i .non))) : Wi X H0 it δ k := by
  cases l with
  | true =>
    refine ⟨_, fun tg => pi_list pe_sem, fun σ H ps R R' hp hw m => ?_, fun σ G R0 => (h σ G R0).mono fun y G1 ⟨e1, d, iv, ds, ed, q⟩ => ?_⟩
    · exact (semE.frame hp hw).mono fun v H' ⟨G, e, n, a, ea, ⟨xs, hq⟩, q⟩ => ⟨a, ea, ⟨xs, by rw [e]; exact Ex.sqL (mrg_exG n) hq⟩, by rw [e]; exact m _ G n q⟩
    · subst ed
      obtain ⟨a, xs, rfl, hq, il⟩ := iv.lst_inv
      exact ⟨a, rfl, ⟨xs, .inl hq⟩, e1, _, _, q, jl (.inl hq) il⟩
  | false =>
    refine ⟨_, fun tg => pi_tup pe_sem, fun σ H ps R R' hp hw m => ?_, fun σ G R0 => (h σ G R0).mono fun y G1 ⟨e1, d, iv, ds, ed, q⟩ => ?_⟩
    · exact (semE.frame hp hw).mono fun v H' ⟨G, e, n, a, ea, ⟨xs, hq⟩, q⟩ => ⟨a, ea, ⟨xs, by rw [e]; exact Ex.sqT (mrg_exG n) hq⟩, by rw [e]; exact m _ G n q⟩
    · subst ed
      obtain ⟨a, xs, rfl, hq, il⟩ := iv.tup_inv
      exact ⟨a, rfl, ⟨xs, hq⟩, e1, _, _, q, jt hq il⟩
theorem wi_rng (hm : X.mg "range" = none) {k : Nat → (Nat → D) → Prop} (h : Wa X H0 [e] δ (fun ds => A1 ds fun y => I1 y fun n => (-(2 ^ 62) ≤ n ∧ n < 2 ^ 62) ∧ k n.toNat (fun i => .int (i : Int))))
    (hgr : Gl X "range" := by rfl) (hs1 : notStar e = true := by rfl) : Wi X H0 (.Call (.Name "range" pr) [e] [] pc) δ k := by
  refine ⟨_, fun tg => pi_range1 hgr hm pa_sem (star_of hs1), fun σ H ps R R' hp hw m => ?_, fun σ G R0 => (h σ G R0).mono fun vs G1 ⟨e1, ds, is, y, ed, n, ey, bb, q⟩ => ?_⟩
  · exact (semA.frame hp hw).mono fun v H' ⟨G, e, n, j, ej, b1, b2, q⟩ => ⟨j, ej, b1, b2, by rw [e]; exact m _ G n q⟩
  · subst ed ey
    obtain ⟨w, rfl, iw⟩ := is.one
    cases iw
    have g : Goes X.K (Itr 0 n.toNat) n.toNat (fun i => .int (0 + (i : Int))) G1 := jr
    refine ⟨n, rfl, bb.1, bb.2, e1, _, _, q, ?_⟩
    have e0 : (fun i : Nat => D.int (0 + (i : Int))) = fun i : Nat => D.int (i : Int) := by funext i; rw [Int.zero_add]
    rw [← e0]
    exact g
theorem wi_rng2 {e2 : Expr} (hm : X.mg "range" = none) {k : Nat → (Nat → D) → Prop} (h : Wa X H0 [e, e2] δ (fun ds => A2 ds fun x y => I2 x y fun m n => (-(2 ^ 62) ≤ m ∧ m < 2 ^ 62 ∧ -(2 ^ 62) ≤ n ∧ n < 2 ^ 62) ∧ k (n - m).toNat (fun i => .int (m + (i : Int)))))
    (hgr : Gl X "range" := by rfl) (hs1 : notStar e = true := by rfl) (hs2 : notStar e2 = true := by rfl) : Wi X H0 (.Call (.Name "range" pr) [e, e2] [] pc) δ k := by
  refine ⟨_, fun tg => pi_range2 hgr hm pa_sem ((star_of hs1).trans (congrArg _ (star_of hs2))) (star_of hs2), fun σ H ps R R' hp hw m => ?_, fun σ G R0 => (h σ G R0).mono fun vs G1 ⟨e1, ds, is, x, y, ed, m, n, ex, ey, bb, q⟩ => ?_⟩
  · exact (semA.frame hp hw).mono fun v H' ⟨G, e, n, j, i, ej, b1, q⟩ => ⟨j, i, ej, b1, by rw [e]; exact m _ G n q⟩
  · subst ed ex ey
    obtain ⟨v, w, rfl, i, j⟩ := is.two
    cases i
    cases j
    exact ⟨m, n, rfl, bb, e1, _, _, q, jr⟩
/-! ### the comprehension -/
/-- what its turns do -/
def LC (X : Cx) (sc : Scope) (H0 : Hp) (elt : Expr) (δ : List S) (v : Nat) (ko : List D → Prop) (n : Nat) (item : Nat → D) : Prop := ∃ R : Nat → D → Prop, n ≤ 100000 ∧ (∀ i, i < n → BWe X sc H0 elt (δ.set v (.sh (item i))) (R i)) ∧ ∀ es, EachN R n es → ko es
theorem lcS {v : Nat} {ko : List D → Prop} {ds : List D} (R : D → D → Prop) (hl : ds.length ≤ 100000) (h : ∀ d ∈ ds, BWe X sc H0 elt (δ.set v (.sh d)) (R d)) (q : ∀ es, Each R ds es → ko es) : LC X sc H0 elt δ v ko ds.length (fun i => ds.getD i .non) :=
  ⟨fun i e => R (ds.getD i .non) e, hl, fun i hi => h _ (getD_lt hi).2, fun es p => q es (each_of p)⟩
theorem lcM {v : Nat} {ko : List D → Prop} {ds : List D} (g : D → D) (hl : ds.length ≤ 100000) (h : ∀ d ∈ ds, BWe X sc H0 elt (δ.set v (.sh d)) (fun e => e = g d)) (q : ko (ds.map g)) : LC X sc H0 elt δ v ko ds.length (fun i => ds.getD i .non) :=
  lcS (fun d e => e = g d) hl h fun es p => by rw [p.map]; exact q
/-- over ints, made of each -/
theorem lcI {v : Nat} {ko : List D → Prop} {ns : List Int} (g : Int → D) (hl : ns.length ≤ 100000) (h : ∀ n ∈ ns, BWe X sc H0 elt (δ.set v (.sh (.int n))) (fun e => e = g n)) (q : ko (ns.map g)) : LC X sc H0 elt δ v ko (ns.map D.int).length (fun i => (ns.map D.int).getD i .non) :=
  lcM (fun d => match d with | .int n => g n | _ => .non) (by rw [List.length_map]; exact hl) (fun d hd => by
    obtain ⟨n, hn, rfl⟩ := List.mem_map.mp hd
    exact h n hn) (by rw [List.map_map]; exact q)
theorem lcR {v n : Nat} {ko : List D → Prop} (R : Nat → D → Prop) (hl : n ≤ 100000) (h : ∀ i, i < n → BWe X sc H0 elt (δ.set v (.sh (.int (i : Int)))) (R i)) (q : ∀ es, EachN R n es → ko es) : LC X sc H0 elt δ v ko n (fun i => .int (i : Int)) := ⟨R, hl, h, q⟩
theorem lcRM {v n : Nat} {ko : List D → Prop} (g : Nat → D) (hl : n ≤ 100000) (h : ∀ i, i < n → BWe X sc H0 elt (δ.set v (.sh (.int (i : Int)))) (fun e => e = g i)) (q : ko ((List.range n).map g)) : LC X sc H0 elt δ v ko n (fun i => .int (i : Int)) :=
  ⟨_, hl, h, fun es p => by rw [EachN.map p]; exact q⟩
/-- with a test -/
def LCF (X : Cx) (sc : Scope) (H0 : Hp) (c elt : Expr) (δ : List S) (v : Nat) (ko : List D → Prop) (n : Nat) (item : Nat → D) : Prop := ∃ (t : D → Bool) (g : D → D), n ≤ 100000 ∧ (∀ i, i < n → BWt X sc H0 c (δ.set v (.sh (item i))) (fun b => b = t (item i) ∧ (b = true → BWe X sc H0 elt (δ.set v (.sh (item i))) (fun e => e = g (item i))))) ∧ ko ((((List.range n).map item).filter t).map g)
theorem range_getD (ds : List D) : (List.range ds.length).map (fun i => ds.getD i .non) = ds := by
  refine List.ext_getElem? fun i => ?_
  by_cases hi : i < ds.length
  · rw [List.getElem?_map, List.getElem?_range hi, (getD_lt hi).1]; rfl
  · rw [List.getElem?_eq_none (by simp; omega), List.getElem?_eq_none (by omega)]
theorem lcf {v : Nat} {ko : List D → Prop} {ds : List D} (t : D → Bool) (g : D → D) (hl : ds.length ≤ 100000) (h : ∀ d ∈ ds, BWt X sc H0 c (δ.set v (.sh d)) (fun b => b = t d ∧ (b = true → BWe X sc H0 elt (δ.set v (.sh d)) (fun e => e = g d)))) (q : ko ((ds.filter t).map g)) : LCF X sc H0 c elt δ v ko ds.length (fun i => ds.getD i .non) :=
  ⟨t, g, hl, fun i hi => h _ (getD_lt hi).2, by rw [range_getD]; exact q⟩
theorem turn_f {v n : Nat} {item : Nat → D} {t : D → Bool} {g : D → D} {Hf : Hp} {ps : List Addr} (hl : n ≤ 100000) (h : ∀ i, i < n → BWt X sc H0 c (δ.set v (.sh (item i))) (fun b => b = t (item i) ∧ (b = true → BWe X sc H0 elt (δ.set v (.sh (item i))) (fun e => e = g (item i))))) : ∀ i es, i < n → es = (((List.range i).map item).filter t).map g → ∀ G σ', Ex (cut Hf ps) G → RelS X.K H0 σ' G (δ.set v (.sh (item i))) →
    bT X sc c σ' G fun b G' => Ex G G' ∧ (b = true → bE X sc elt σ' G' fun y G'' => Ex G' G'' ∧ ∃ e, Is X.K G'' y e ∧ es.length < 100000 ∧ es ++ [e] = (((List.range (i + 1)).map item).filter t).map g) ∧ (b = false → es = (((List.range (i + 1)).map item).filter t).map g) := fun i es hi p G σ' _ R' s h' C cl fp => (h i hi s h' C cl fp σ' G R').mono fun b G1 ⟨e1, eb, q⟩ => by
  have step : (((List.range (i + 1)).map item).filter t).map g = es ++ (if t (item i) then [g (item i)] else []) := by
    rw [List.range_succ, List.map_append, List.filter_append, List.map_append, ← p]
    congr 1
    show ((List.filter t [item i]).map g) = _
    rw [List.filter_cons]
    split <;> rfl
  have hlen : es.length < 100000 := by
    have l1 := List.length_filter_le t ((List.range i).map item)
    rw [p, List.length_map]
    simp only [List.length_map, List.length_range] at l1
    omega
  refine ⟨e1, fun hb s2 h2 C2 cl2 fp2 => ?_, fun hb => ?_⟩
  · refine (q hb s2 h2 C2 cl2 fp2 σ' G1 (R'.mono e1)).mono fun y G2 ⟨e2, d, id, hd⟩ => ⟨e2, d, id, hlen, ?_⟩
    rw [step, ← eb, hb, hd, if_pos rfl]
  · rw [step, ← eb, hb, if_neg Bool.false_ne_true, List.append_nil]
/-- the block's scope fits -/
def blkB (N : List Str) (s1 s2 : Scope) (x : Str) (v : Nat) : Bool := decide (s2.kind = .function) && (s2.names.all (fun y => decide (s2.names.lookup y.1 = some y.2)) && (decide (N[v]? = some x) && (s2.names.all (fun y => decide (y.2 ≠ .free) || (decide (s1.names.lookup y.1 = some .cell) || decide (s1.names.lookup y.1 = some .free))) && s2.names.all (fun y => (decide (y.2 ≠ .local) && decide (y.2 ≠ .cell)) || (decide (y.1 = x) || decide (y.1 ∉ N))))))
theorem blkB_ok {N : List Str} {s1 s2 : Scope} {x : Str} {v : Nat} (h : blkB N s1 s2 x v = true) : BlkOk N s1 s2 [(x, v)] := by
  simp only [blkB, Bool.and_eq_true, List.all_eq_true, decide_eq_true_eq, Bool.or_eq_true] at h
  obtain ⟨h1, h2, h3, h4, h5⟩ := h
  refine ⟨h1, fun y hy => h2 y hy, fun p hp => ?_, fun y hy e => ?_, fun y hy e => ?_⟩
  · obtain rfl : p = (x, v) := by simpa using hp
    exact h3
  · rcases h4 y hy with z | z
    · exact absurd e z
    · exact z
  · rcases h5 y hy with ⟨z1, z2⟩ | z | z
    · rcases e with e | e
      · exact absurd e z1
      · exact absurd e z2
    · exact .inl (by simp [z])
    · exact .inr z
theorem fri_mono {wi : TI} (f : FrI wi) {σ : L2.St} {H : Hp} {R R' : It → Hp → Prop} (h : wi σ H R) (m : ∀ J G, R J G → R' J G) : wi σ H R' := f σ H [] R R' (fun a ha => by cases ha) (by rw [cut_nil]; exact h) fun J G _ q => by
  have e : mrg H [] G = G := by funext a; exact mrg_out (by simp)
  rw [e]
  exact m J G q
abbrev PGB (X : Cx) (sc : Scope) (x : Str) (p : Pos) (v : Nat) : Prop := ∀ (s : Shared) (H : Hp) (C : Addr) (cl : List (Str × Addr)) (fp : List Addr), PG (X.blk s H sc (compEnvC sc cl C X.env) fp) (.Name x p) (gName v)
theorem pgb {v : Nat} (hN : X.N.Nodup) (hi : X.N[v]? = some x) (hl : ∀ cl C, (compEnvC sc cl C X.env).scope.names.lookup x = some .local) : PGB X sc x p v := fun s H C cl fp => pg_name hN hi (.inl (hl cl C)) (.inr (hl cl C))
theorem wo_lc (v : Nat) (hN : X.N.Nodup) (h : Wi X H0 it δ (LC X sc H0 elt δ v fun es => ko (.lst es))) (hc : X.calm = true := by rfl) (ok : blkB X.N X.env.scope sc x v = true := by kernel_rfl) (hi : X.N[v]? = some x := by rfl) (hl : ∀ cl C, (compEnvC sc cl C X.env).scope.names.lookup x = some .local := by intro _ _; rfl)
    (hs : ∀ x, foldedSetIterable it X.env x = pure x := by intro _; rfl) : Wo X H0 (.ListComp elt [⟨.Name x p, it, [], 0⟩] sc pos) δ ko := fun σ G R0 => by
  obtain ⟨wi, hpi, fri, hw⟩ := h
  refine toE (pe_lc hc hN (hpi _) (blkB_ok ok) (pgb hN hi hl) (fun _ _ _ _ _ => pts_nil) pe_b hs) (fri_mono fri (hw σ G R0) fun J G1 ⟨e1, n, item, ⟨R, hl, hw, q⟩, g⟩ => ?_)
  refine lc_sem (X := X) (H0 := H0) (ps := []) (n := n) (wv := v) (item := item) (P := EachN R) (Q := fun v' G' => ∃ o, NewIs X.K G v' G' o ∧ ko o) fr_bE fr_yes (fun a ha => by cases ha) (by rw [cut_nil]; exact R0.mono e1) (by rw [cut_nil]; exact g) EachN.nil (turn_no hl hw) fun A G' as es N _ p => ?_
  rw [lcH_nil]
  rw [cut_nil] at N
  exact ⟨_, N.back e1, q es p⟩
theorem wo_lcf (v : Nat) (hN : X.N.Nodup) (h : Wi X H0 it δ (LCF X sc H0 c elt δ v fun es => ko (.lst es))) (hc : X.calm = true := by rfl) (ok : blkB X.N X.env.scope sc x v = true := by kernel_rfl) (hi : X.N[v]? = some x := by rfl) (hl : ∀ cl C, (compEnvC sc cl C X.env).scope.names.lookup x = some .local := by intro _ _; rfl)
    (hs : ∀ x, foldedSetIterable it X.env x = pure x := by intro _; rfl) : Wo X H0 (.ListComp elt [⟨.Name x p, it, [c], 0⟩] sc pos) δ ko := fun σ G R0 => by
  obtain ⟨wi, hpi, fri, hw⟩ := h
  refine toE (pe_lc hc hN (hpi _) (blkB_ok ok) (pgb hN hi hl) pt_b pe_b hs) (fri_mono fri (hw σ G R0) fun J G1 ⟨e1, n, item, ⟨t, g2, hl, hw, q⟩, g⟩ => ?_)
  refine lc_sem (X := X) (H0 := H0) (ps := []) (n := n) (wv := v) (item := item) (P := fun i es => es = (((List.range i).map item).filter t).map g2) (Q := fun v' G' => ∃ o, NewIs X.K G v' G' o ∧ ko o) fr_bE fr_bT (fun a ha => by cases ha) (by rw [cut_nil]; exact R0.mono e1) (by rw [cut_nil]; exact g) rfl (turn_f hl hw) fun A G' as es N _ p => ?_
  rw [lcH_nil]
  rw [cut_nil] at N
  exact ⟨_, N.back e1, by rw [p]; exact q⟩
/-! ### y = [..] on one line -/
theorem Vw.borAt : ∀ {δ : List S} {i : Nat} {o : Ow}, δ[i]? = some (.ow o) → Vw δ (δ.set i (.sh o.d))
  | [], _, _, h => by cases h
  | s :: r, 0, o, h => by cases h; exact .bor (Vw.refl r)
  | s :: r, i + 1, o, h => .keep (Vw.borAt (i := i) h)
theorem set_lc {te : TE} {tt : TT} {wi : TI} {i v : Nat} {P : Nat → (Nat → D) → Nat → List D → Prop} {k : Nat → (Nat → D) → Prop} {B H : Hp} {σ : L2.St} {own : List (List Addr)} {E : En} (fe : FrE te) (ft : FrT tt) (fri : FrI wi) (hB : Ex H0 B) (R : Rel X.K B σ H δ own)
    (hw : ∀ σ G, RelS X.K H0 σ G δ → wi σ G fun J G1 => Ex G G1 ∧ ∃ n item, k n item ∧ Goes X.K J n item G1) (hP : ∀ n item, k n item → P n item 0 [])
    (turn : ∀ n item (Hf : Hp) (ps : List Addr), k n item → ∀ i es, i < n → P n item i es → ∀ G σ', Ex (cut Hf ps) G → RelS X.K H0 σ' G (δ.set v (.sh (item i))) → tt σ' G fun b G' => Ex G G' ∧ (b = true → te σ' G' fun y G'' => Ex G' G'' ∧ ∃ e, Is X.K G'' y e ∧ es.length < 100000 ∧ P n item (i + 1) (es ++ [e])) ∧ (b = false → P n item (i + 1) es))
    (done : ∀ n item es, k n item → P n item n es → E.nx (δ.set i (.ow (.lst es)))) : tLc wi (gName v) tt te [v] σ H (fun x H1 => gName i x σ H1 (toEnds X.K B E).nx) := by
  refine fri σ H own.flatten _ _ R.owned (hw σ _ (R.toS.weak hB)) fun J G1 n1 ⟨e1, n, item, kk, g⟩ => ?_
  have R1 : Rel X.K B σ (mrg H own.flatten G1) δ own := R.step e1 n1
  have ec : cut (mrg H own.flatten G1) own.flatten = G1 := by
    funext a
    by_cases z : a ∈ own.flatten
    · rw [cut_in z, n1 a z]
    · rw [cut_out z, mrg_out z]
  refine lc_sem (X := X) (H0 := H0) (δ := δ) (ps := own.flatten) (n := n) (wv := v) (item := item) (P := P n item) (Q := fun x H1 => gName i x σ H1 (toEnds X.K B E).nx) fe ft R1.owned (R1.toS.weak hB) (by rw [ec]; exact g) (hP n item kk) (turn n item _ _ kk) fun A G as es N np p => ?_
  obtain ⟨l, hl, fr, ee, nd⟩ := N
  exact ⟨_, _, R1.setOw ee np nd hl, done n item es kk p⟩
theorem ws_setLcO (i v : Nat) {y : Str} {py spos : Pos} {E : En} (hN : X.N.Nodup) (h : Wi X H0 it δ (LC X sc H0 elt δ v fun es => E.nx (δ.set i (.ow (.lst es))))) (hc : X.calm = true := by rfl) (ok : blkB X.N X.env.scope sc x v = true := by kernel_rfl) (hi : X.N[v]? = some x := by rfl) (hl : ∀ cl C, (compEnvC sc cl C X.env).scope.names.lookup x = some .local := by intro _ _; rfl)
    (hy : X.N[i]? = some y := by rfl) (hyl : X.env.scope.names.lookup y = some .local := by rfl) (hsw : swapsWith (.ListComp elt [⟨.Name x p, it, [], 0⟩] sc pos) (some (.Name y py)) spos.line X.env = pure true := by rfl) (hs : ∀ x, foldedSetIterable it X.env x = pure x := by intro _; rfl) :
    Ws X H0 (.Assign [.Name y py] (.ListComp elt [⟨.Name x p, it, [], 0⟩] sc pos) spos) δ E := fun B σ H own hB R => by
  obtain ⟨wi, hpi, fri, hw⟩ := h
  refine toS (ps_setLc hc hN hy hyl hsw (hpi _) (blkB_ok ok) (pgb hN hi hl) (fun _ _ _ _ _ => pts_nil) pe_b hs) ?_
  exact set_lc (P := fun n item j es => ∃ R : Nat → D → Prop, n ≤ 100000 ∧ (∀ i, i < n → BWe X sc H0 elt (δ.set v (.sh (item i))) (R i)) ∧ (∀ es, EachN R n es → E.nx (δ.set i (.ow (.lst es)))) ∧ EachN R j es) fr_bE fr_yes fri hB R hw (fun n item ⟨R, a, b, c⟩ => ⟨R, a, b, c, EachN.nil⟩)
    (fun n item Hf ps _ i es hi ⟨R, a, b, c, q⟩ G σ' e R' => ⟨Same.refl _, fun _ s h' C cl fp => (b i hi s h' C cl fp σ' G R').mono fun y G2 ⟨e2, d, id, hd⟩ => ⟨e2, d, id, by rw [q.1]; omega, R, a, b, c, q.snoc hd⟩, fun z => nomatch z⟩) fun n item es _ ⟨R, a, b, c, q⟩ => c es q
theorem ws_setLcfO (i v : Nat) {y : Str} {py spos : Pos} {E : En} (hN : X.N.Nodup) (h : Wi X H0 it δ (LCF X sc H0 c elt δ v fun es => E.nx (δ.set i (.ow (.lst es))))) (hc : X.calm = true := by rfl) (ok : blkB X.N X.env.scope sc x v = true := by kernel_rfl) (hi : X.N[v]? = some x := by rfl) (hl : ∀ cl C, (compEnvC sc cl C X.env).scope.names.lookup x = some .local := by intro _ _; rfl)
    (hy : X.N[i]? = some y := by rfl) (hyl : X.env.scope.names.lookup y = some .local := by rfl) (hsw : swapsWith (.ListComp elt [⟨.Name x p, it, [c], 0⟩] sc pos) (some (.Name y py)) spos.line X.env = pure true := by rfl) (hs : ∀ x, foldedSetIterable it X.env x = pure x := by intro _; rfl) :
    Ws X H0 (.Assign [.Name y py] (.ListComp elt [⟨.Name x p, it, [c], 0⟩] sc pos) spos) δ E := fun B σ H own hB R => by
  obtain ⟨wi, hpi, fri, hw⟩ := h
  refine toS (ps_setLc hc hN hy hyl hsw (hpi _) (blkB_ok ok) (pgb hN hi hl) pt_b pe_b hs) ?_
  exact set_lc (P := fun n item j es => ∃ (t : D → Bool) (g : D → D), n ≤ 100000 ∧ (∀ i, i < n → BWt X sc H0 c (δ.set v (.sh (item i))) (fun b => b = t (item i) ∧ (b = true → BWe X sc H0 elt (δ.set v (.sh (item i))) (fun e => e = g (item i))))) ∧ E.nx (δ.set i (.ow (.lst ((((List.range n).map item).filter t).map g)))) ∧ es = (((List.range j).map item).filter t).map g) fr_bE fr_bT fri hB R hw (fun n item ⟨t, g, a, b, c⟩ => ⟨t, g, a, b, c, rfl⟩)
    (fun n item Hf ps _ i es hi ⟨t, g, a, b, c, q⟩ G σ' e R' s h' C cl fp => (turn_f (Hf := Hf) (ps := ps) a b i es hi q G σ' e R' s h' C cl fp).mono fun bb G1 ⟨e1, y1, z1⟩ => ⟨e1, fun hb s2 h2 C2 cl2 fp2 => (y1 hb s2 h2 C2 cl2 fp2).mono fun y G2 ⟨e2, d, id, hd, he⟩ => ⟨e2, d, id, hd, t, g, a, b, c, he⟩, fun hb => ⟨t, g, a, b, c, z1 hb⟩⟩) fun n item es _ ⟨t, g, a, b, c, q⟩ => by rw [q]; exact c
/-- a view behind a statement -/
theorem ws_post {st : Stmt} {E : En} (h : Ws X H0 st δ { E with nx := fun δ' => ∃ δ'', Vw δ' δ'' ∧ E.nx δ'' }) : Ws X H0 st δ E := fun B σ H own hB R =>
  semS.mono (h B σ H own hB R) (fun σ H ⟨δ', own, R, δ'', v, q⟩ => ⟨δ'', _, (R.view v).1, q⟩) (fun _ _ q => q) (fun _ _ q => q) (fun _ _ q => q)
theorem vw_set {i : Nat} {o : Ow} : Vw (δ.set i (.ow o)) (δ.set i (.sh o.d)) := by
  by_cases hi : i < δ.length
  · have h := Vw.borAt (δ := δ.set i (.ow o)) (i := i) (o := o) (by rw [List.getElem?_set_self hi])
    rw [List.set_set] at h
    exact h
  · rw [List.set_eq_of_length_le (by omega), List.set_eq_of_length_le (by omega)]
    exact Vw.refl _
theorem Wi.mono {k k' : Nat → (Nat → D) → Prop} (h : Wi X H0 it δ k) (m : ∀ n item, k n item → k' n item) : Wi X H0 it δ k' := by
  obtain ⟨wi, a, b, hw⟩ := h
  exact ⟨wi, a, b, fun σ G R => fri_mono b (hw σ G R) fun J G1 ⟨e1, n, item, q, g⟩ => ⟨e1, n, item, m _ _ q, g⟩⟩
/-- the new list read from now on, not written -/
theorem ws_setLc (i v : Nat) {y : Str} {py spos : Pos} {E : En} (hN : X.N.Nodup) (h : Wi X H0 it δ (LC X sc H0 elt δ v fun es => E.nx (δ.set i (.sh (.sq true es))))) (hc : X.calm = true := by rfl) (ok : blkB X.N X.env.scope sc x v = true := by kernel_rfl) (hi : X.N[v]? = some x := by rfl) (hl : ∀ cl C, (compEnvC sc cl C X.env).scope.names.lookup x = some .local := by intro _ _; rfl)
    (hy : X.N[i]? = some y := by rfl) (hyl : X.env.scope.names.lookup y = some .local := by rfl) (hsw : swapsWith (.ListComp elt [⟨.Name x p, it, [], 0⟩] sc pos) (some (.Name y py)) spos.line X.env = pure true := by rfl) (hs : ∀ x, foldedSetIterable it X.env x = pure x := by intro _; rfl) :
    Ws X H0 (.Assign [.Name y py] (.ListComp elt [⟨.Name x p, it, [], 0⟩] sc pos) spos) δ E :=
  ws_post (ws_setLcO i v hN (h.mono fun n item ⟨R, a, b, c⟩ => ⟨R, a, b, fun es p => ⟨_, vw_set, c es p⟩⟩) hc ok hi hl hy hyl hsw hs)
theorem ws_setLcf (i v : Nat) {y : Str} {py spos : Pos} {E : En} (hN : X.N.Nodup) (h : Wi X H0 it δ (LCF X sc H0 c elt δ v fun es => E.nx (δ.set i (.sh (.sq true es))))) (hc : X.calm = true := by rfl) (ok : blkB X.N X.env.scope sc x v = true := by kernel_rfl) (hi : X.N[v]? = some x := by rfl) (hl : ∀ cl C, (compEnvC sc cl C X.env).scope.names.lookup x = some .local := by intro _ _; rfl)
    (hy : X.N[i]? = some y := by rfl) (hyl : X.env.scope.names.lookup y = some .local := by rfl) (hsw : swapsWith (.ListComp elt [⟨.Name x p, it, [c], 0⟩] sc pos) (some (.Name y py)) spos.line X.env = pure true := by rfl) (hs : ∀ x, foldedSetIterable it X.env x = pure x := by intro _; rfl) :
    Ws X H0 (.Assign [.Name y py] (.ListComp elt [⟨.Name x p, it, [c], 0⟩] sc pos) spos) δ E :=
  ws_post (ws_setLcfO i v hN (h.mono fun n item ⟨t, g, a, b, c⟩ => ⟨t, g, a, b, _, vw_set, c⟩) hc ok hi hl hy hyl hsw hs)
end

end DL
set_option Elab.async false
set_option linter.all false
set_option maxRecDepth 100000
set_option maxHeartbeats 2000000
set_option exponentiation.threshold 50000
/-! Part k: lcm, sum, max and min of two. -/
namespace DL
open PySem PySem.Spec PyProof.Rows L2
section
variable {X : Cx} {H0 : Hp} {δ : List S} {e e2 : Expr} {es : List Expr} {k : D → Prop} {pos p : Pos}
theorem log_le {n m : Nat} (h : n < 2 ^ m) (hm : 0 < m) : n.log2 < m := PySem.Flt.log2_lt_of hm (Nat.lt_of_lt_of_le h (Nat.pow_le_pow_right (by decide) (Nat.le_refl _)))
theorem cr_lcm : CallR X (.builtin "math.lcm") (fun vs H Q => ∃ a b : Int, vs = [.int a, .int b] ∧ a.natAbs < 2 ^ 13000 ∧ b.natAbs < 2 ^ 13000 ∧ Q (.int ((Nat.lcm a.natAbs b.natAbs : Nat) : Int)) H) := by
  intro pins s σ H vs us Q I r h
  obtain ⟨a, b, rfl, ha, hb, q⟩ := h
  obtain ⟨t, u, rfl⟩ := Vals.int2 r
  have e1 : Nat.lcm 1 a.natAbs = a.natAbs := Nat.lcm_one_left _
  have l1 : (max 1 a.natAbs).log2 < 13000 := log_le (by have : 1 < 2 ^ 13000 := Nat.one_lt_two_pow (by decide); omega) (by decide)
  have l2 : (max a.natAbs b.natAbs).log2 < 13000 := log_le (by omega) (by decide)
  have l3 : (a.natAbs.lcm b.natAbs).log2 < 26000 := by
    refine log_le ?_ (by decide)
    by_cases z : a.natAbs = 0 ∨ b.natAbs = 0
    · have : a.natAbs.lcm b.natAbs = 0 := by rcases z with z | z <;> rw [z] <;> simp [Nat.lcm]
      rw [this]; exact Nat.pow_pos (by decide)
    · have h1 : a.natAbs.lcm b.natAbs ≤ a.natAbs * b.natAbs := Nat.le_of_dvd (Nat.mul_pos (by omega) (by omega)) (Nat.lcm_dvd (Nat.dvd_mul_right _ _) (Nat.dvd_mul_left _ _))
      have h2 : a.natAbs * b.natAbs < 2 ^ 13000 * 2 ^ 13000 := Nat.mul_lt_mul'' ha hb
      rw [← Nat.pow_add] at h2
      exact Nat.lt_of_le_of_lt h1 h2
  have g := PySem.W.mg_run_lcm a t b u (by omega) (by omega) (by rw [e1]; exact Nat.lt_of_lt_of_le l3 (by decide))
  rw [e1] at g
  exact call_function_meets PySem.W.MGF.kind_lcm PySem.W.MGF.plain_lcm PySem.W.MGF.entry_lcm (PySem.W.MGF.args_lcm _ _) g.meets ⟨.int _, H, I.tok _, ⟨_, rfl⟩, q⟩
theorem we_lcm (hm : X.mg "lcm" = some (.builtin "math.lcm")) (h : Wa X H0 [e, e2] δ (fun ds => A2 ds fun x y => I2 x y fun i j => (Bd 13000 i ∧ Bd 13000 j) ∧ k (.int ((Nat.lcm i.natAbs j.natAbs : Nat) : Int)))) (hg : Gl X "lcm" := by rfl)
    (he : notStar e = true := by rfl) (hpl : notStar e2 = true := by rfl) : We X H0 (.Call (.Name "lcm" p) [e, e2] [] pos) δ k := fun σ G R =>
  toE (pe_callBfun cr_lcm hg hm pa_sem (by decide) (star_of he) (star_any (by rw [List.all_cons, hpl]; rfl))) (call1 (ta := semA X [e, e2]) h (fun G vs ds is ⟨x, y, ed, i, j, ex, ey, ⟨b1, b2⟩, hk⟩ Q q => by
    subst ed ex ey
    obtain ⟨v, w, rfl, a, b⟩ := is.two
    cases a
    cases b
    exact ⟨i, j, rfl, b1, b2, q _ G _ (Same.refl _) (.int _) hk⟩) σ G R)
def IL (x : D) (P : List Int → Prop) : Prop := ∃ ns, x = .sq true (ns.map .int) ∧ P ns
theorem il {ns : List Int} {P : List Int → Prop} (h : P ns) : IL (.sq true (ns.map .int)) P := ⟨ns, rfl, h⟩
theorem ilE {xs : List D} {ns : List Int} {P : List Int → Prop} (e : xs = ns.map .int) (h : P ns) : IL (.sq true xs) P := ⟨ns, by rw [e], h⟩
theorem ints_of {K : PySem.W.Frag} {G : Hp} {xs : List V} {ns : List Int} (h : IsL K G xs (ns.map .int)) : xs = ns.map .int := by
  refine List.ext_getElem? fun i => ?_
  by_cases hi : i < ns.length
  · have hx : i < xs.length := by rw [h.1, List.length_map]; exact hi
    have z := h.2 i _ (.int ns[i]) (List.getElem?_eq_getElem hx) (by rw [List.getElem?_map, List.getElem?_eq_getElem hi]; rfl)
    rw [List.getElem?_eq_getElem hx, List.getElem?_map, List.getElem?_eq_getElem hi]
    exact congrArg some z.int_inv
  · rw [List.getElem?_eq_none (by rw [h.1, List.length_map]; omega), List.getElem?_eq_none (by rw [List.length_map]; omega)]
/-- sum(e), e a list of ints -/
theorem we_sum (hm : X.mg "sum" = none) (h : Wa X H0 [e] δ (fun ds => A1 ds fun x => IL x fun ns => k (.int ns.sum))) (hc : X.calm = true := by rfl) (hg : Gl X "sum" := by rfl) (he : notStar e = true := by rfl) :
    We X H0 (.Call (.Name "sum" p) [e] [] pos) δ k := we_callB (cr_sum hc) (by decide +kernel) (by decide) (by decide) (fun G vs ds is ⟨x, ed, ns, ex, hk⟩ Q q => by
  subst ed ex
  obtain ⟨v, rfl, i⟩ := is.one
  obtain ⟨a, xs, rfl, hq, il⟩ := i.lst_inv
  rw [ints_of il] at hq
  exact ⟨a, ns, rfl, .inl hq, q _ G _ (Same.refl _) (.int _) hk⟩) hm h hg he rfl
theorem we_max2 (hm : X.mg "max" = none) (h : Wa X H0 [e, e2] δ (fun ds => A2 ds fun x y => I2 x y fun i j => k (.int (if j > i then j else i)))) (hc : X.calm = true := by rfl) (hg : Gl X "max" := by rfl) (he : notStar e = true := by rfl) (hpl : notStar e2 = true := by rfl) :
    We X H0 (.Call (.Name "max" p) [e, e2] [] pos) δ k := we_callB (call_max2 hc) (by decide +kernel) (by decide) (by decide) (fun G vs ds is ⟨x, y, ed, i, j, ex, ey, hk⟩ Q q => by
  subst ed ex ey
  obtain ⟨v, w, rfl, a, b⟩ := is.two
  cases a
  cases b
  exact ⟨i, j, rfl, q _ G _ (Same.refl _) (.int _) hk⟩) hm h hg he (by rw [List.all_cons, hpl]; rfl)
theorem we_min2 (hm : X.mg "min" = none) (h : Wa X H0 [e, e2] δ (fun ds => A2 ds fun x y => I2 x y fun i j => k (.int (if j < i then j else i)))) (hc : X.calm = true := by rfl) (hg : Gl X "min" := by rfl) (he : notStar e = true := by rfl) (hpl : notStar e2 = true := by rfl) :
    We X H0 (.Call (.Name "min" p) [e, e2] [] pos) δ k := we_callB (call_min2 hc) (by decide +kernel) (by decide) (by decide) (fun G vs ds is ⟨x, y, ed, i, j, ex, ey, hk⟩ Q q => by
  subst ed ex ey
  obtain ⟨v, w, rfl, a, b⟩ := is.two
  cases a
  cases b
  exact ⟨i, j, rfl, q _ G _ (Same.refl _) (.int _) hk⟩) hm h hg he (by rw [List.all_cons, hpl]; rfl)
end
/-! ### comprehensions over things told by α -/
section
variable {X : Cx} {H0 : Hp} {δ : List S} {elt : Expr} {sc : Scope} {α : Type}
theorem lcA {v : Nat} {ko : List D → Prop} {xs : List α} (emb g : α → D) (hl : xs.length ≤ 100000) (h : ∀ x ∈ xs, BWe X sc H0 elt (δ.set v (.sh (emb x))) (fun e => e = g x)) (q : ko (xs.map g)) : LC X sc H0 elt δ v ko (xs.map emb).length (fun i => (xs.map emb).getD i .non) :=
  ⟨fun i e => ∀ x, xs[i]? = some x → e = g x, by rw [List.length_map]; exact hl, fun i hi => by
    rw [List.length_map] at hi
    have e1 : (xs.map emb).getD i .non = emb xs[i] := by rw [List.getD_eq_getElem?_getD, List.getElem?_map, List.getElem?_eq_getElem hi]; rfl
    show BWe X sc H0 elt (δ.set v (.sh ((xs.map emb).getD i .non))) _
    rw [e1]
    intro s hh C cl fp σ G R
    exact (h _ (List.getElem_mem hi) s hh C cl fp σ G R).mono fun y G2 ⟨e2, d, id, hd⟩ => ⟨e2, d, id, fun x hx => by rw [List.getElem?_eq_getElem hi] at hx; cases hx; exact hd⟩, fun es p => by
    have e : es = xs.map g := by
      refine List.ext_getElem? fun i => ?_
      have hl := p.1
      rw [List.length_map] at hl
      by_cases hi : i < xs.length
      · rw [List.getElem?_map, List.getElem?_eq_getElem hi, List.getElem?_eq_getElem (show i < es.length by omega)]
        exact congrArg some (p.2 i _ (List.getElem?_eq_getElem (by omega)) _ (List.getElem?_eq_getElem hi))
      · rw [List.getElem?_eq_none (by omega), List.getElem?_eq_none (by rw [List.length_map]; omega)]
    rw [e]; exact q⟩
/-- each told by something -/
theorem each_ex {emb : α → D} {Q : Nat → α → Prop} : ∀ {n : Nat} {es : List D}, EachN (fun i e => ∃ x, e = emb x ∧ Q i x) n es → ∃ xs : List α, xs.length = n ∧ es = xs.map emb ∧ ∀ (i : Nat) x, xs[i]? = some x → Q i x := fun {n} => by
  induction n generalizing Q with
  | zero =>
    intro es h
    have : es = [] := List.length_eq_zero_iff.mp h.1
    exact ⟨[], rfl, this, fun i x hx => by cases hx⟩
  | succ n ih =>
    intro es h
    cases es with
    | nil => cases h.1
    | cons e es =>
      obtain ⟨x, rfl, q⟩ := h.2 0 e rfl
      obtain ⟨xs, h1, rfl, h3⟩ := ih (Q := fun i x => Q (i + 1) x) (es := es) ⟨Nat.succ.inj h.1, fun i e he => h.2 (i + 1) e he⟩
      refine ⟨x :: xs, congrArg (· + 1) h1, rfl, fun i y hy => ?_⟩
      cases i with
      | zero => cases hy; exact q
      | succ i => exact h3 i y hy
/-- each made into something told by β -/
theorem lcAE {β : Type} {v : Nat} {ko : List D → Prop} {xs : List α} (emb : α → D) (embB : β → D) (Q : α → β → Prop) (hl : xs.length ≤ 100000) (h : ∀ x ∈ xs, BWe X sc H0 elt (δ.set v (.sh (emb x))) (fun e => ∃ y, e = embB y ∧ Q x y))
    (q : ∀ ys : List β, ys.length = xs.length → (∀ (i : Nat) x y, xs[i]? = some x → ys[i]? = some y → Q x y) → ko (ys.map embB)) : LC X sc H0 elt δ v ko (xs.map emb).length (fun i => (xs.map emb).getD i .non) :=
  ⟨fun i e => ∃ y, e = embB y ∧ ∀ x, xs[i]? = some x → Q x y, by rw [List.length_map]; exact hl, fun i hi => by
    rw [List.length_map] at hi
    have e1 : (xs.map emb).getD i .non = emb xs[i] := by rw [List.getD_eq_getElem?_getD, List.getElem?_map, List.getElem?_eq_getElem hi]; rfl
    show BWe X sc H0 elt (δ.set v (.sh ((xs.map emb).getD i .non))) _
    rw [e1]
    intro s hh C cl fp σ G R
    exact (h _ (List.getElem_mem hi) s hh C cl fp σ G R).mono fun y G2 ⟨e2, d, id, z, ez, hd⟩ => ⟨e2, d, id, z, ez, fun x hx => by rw [List.getElem?_eq_getElem hi] at hx; cases hx; exact hd⟩, fun es p => by
    obtain ⟨ys, h1, rfl, h3⟩ := each_ex p
    rw [List.length_map] at h1
    exact q ys h1 fun i x y hx hy => h3 i y hy x hx⟩
theorem sum_bd {m k : Nat} : ∀ {xs : List Int}, (∀ x ∈ xs, Bd m x) → xs.length ≤ 2 ^ k → Bd (m + k) xs.sum := fun {xs} h hl => by
  have key : ∀ {xs : List Int}, (∀ x ∈ xs, Bd m x) → xs.sum.natAbs + xs.length ≤ xs.length * 2 ^ m ∨ xs = [] := fun {xs} => by
    induction xs with
    | nil => intro _; exact .inr rfl
    | cons x xs ih =>
      intro h
      refine .inl ?_
      have hx : x.natAbs < 2 ^ m := h x List.mem_cons_self
      have h1 := Int.natAbs_add_le x xs.sum
      rw [List.sum_cons, List.length_cons, Nat.succ_mul]
      rcases ih fun y hy => h y (List.mem_cons_of_mem _ hy) with z | z
      · omega
      · subst z
        simp only [List.sum_nil, List.length_nil] at *
        omega
  rcases key h with z | z
  · unfold Bd
    have h2 : xs.length * 2 ^ m ≤ 2 ^ k * 2 ^ m := Nat.mul_le_mul_right _ hl
    rw [Nat.pow_add, Nat.mul_comm (2 ^ m)]
    by_cases e : xs.length = 0
    · have : xs = [] := List.length_eq_zero_iff.mp e
      subst this
      exact Nat.mul_pos (Nat.pow_pos (by decide)) (Nat.pow_pos (by decide))
    · omega
  · subst z
    exact Nat.pow_pos (by decide)
end
end DL
set_option Elab.async false
set_option linter.all false
set_option maxRecDepth 100000
set_option maxHeartbeats 2000000
/-! Part l: == of plain data (ints, None, lists and tuples of them, at any depth to 64). -/
namespace DL
open PySem PySem.Spec PyProof.Rows L2
mutual
def toPy : D → PyData
  | .int i => .int i
  | .sq true ds => .list (toPys ds)
  | .sq false ds => .tuple (toPys ds)
  | _ => .none
def toPys : List D → List PyData
  | [] => []
  | d :: ds => toPy d :: toPys ds
end
mutual
/-- plain, no deeper than n -/
def plB : Nat → D → Bool
  | _, .int _ => true
  | _, .non => true
  | n + 1, .sq _ ds => plBs n ds
  | _, _ => false
def plBs : Nat → List D → Bool
  | _, [] => true
  | n, d :: ds => plB n d && plBs n ds
end
mutual
theorem pl_pd : ∀ (n : Nat) (d : D), plB n d = true → Pd d (toPy d) ∧ (toPy d).canLay0 = true ∧ (toPy d).depth ≤ n
  | n, .int i, _ => ⟨.int i, rfl, Nat.zero_le _⟩
  | n, .non, _ => ⟨.non, rfl, Nat.zero_le _⟩
  | n + 1, .sq true ds, h => by
    obtain ⟨h1, h2, h3⟩ := pl_pds n ds (by simpa [plB] using h)
    exact ⟨h1.1, h2, Nat.succ_le_succ h3⟩
  | n + 1, .sq false ds, h => by
    obtain ⟨h1, h2, h3⟩ := pl_pds n ds (by simpa [plB] using h)
    exact ⟨h1.2, h2, Nat.succ_le_succ h3⟩
  | 0, .sq _ _, h => by simp [plB] at h
  | n, .bl _, h => by cases n <;> simp [plB] at h
  | n, .str _, h => by cases n <;> simp [plB] at h
  | n, .dic _, h => by cases n <;> simp [plB] at h
  | n, .ins _ _, h => by cases n <;> simp [plB] at h
  | n, .ob _, h => by cases n <;> simp [plB] at h
  | n, .exc _ _ _, h => by cases n <;> simp [plB] at h
  | n, .scr _, h => by cases n <;> simp [plB] at h
theorem pl_pds : ∀ (n : Nat) (ds : List D), plBs n ds = true → (Pd (.sq true ds) (.list (toPys ds)) ∧ Pd (.sq false ds) (.tuple (toPys ds))) ∧ PyData.canLayAll0 (toPys ds) = true ∧ PyData.depthAll (toPys ds) ≤ n
  | n, [], _ => ⟨⟨.nilL, .nilT⟩, rfl, Nat.zero_le _⟩
  | n, d :: ds, h => by
    obtain ⟨h1, h2⟩ := Bool.and_eq_true_iff.mp (by simpa [plBs] using h : (plB n d && plBs n ds) = true)
    obtain ⟨a1, a2, a3⟩ := pl_pd n d h1
    obtain ⟨b1, b2, b3⟩ := pl_pds n ds h2
    refine ⟨⟨.consL a1 b1.1, .consT a1 b1.2⟩, ?_, ?_⟩
    · show (PyData.canLay0 (toPy d) && PyData.canLayAll0 (toPys ds)) = true
      rw [a2, b2]; rfl
    · show max (PyData.depth (toPy d)) (PyData.depthAll (toPys ds)) ≤ n
      omega
end
mutual
theorem pl_eqv : ∀ (n m : Nat) (d d' : D), plB n d = true → plB m d' = true → (PyData.eqv (toPy d) (toPy d') = true ↔ d = d')
  | n, m, .int i, .int j, _, _ => by
    show ((i == j) = true) ↔ _
    simp
  | n, m, .non, .non, _, _ => by simp [toPy, PyData.eqv]
  | n, m, .int i, .non, _, _ => by simp [toPy, PyData.eqv]
  | n, m, .non, .int i, _, _ => by simp [toPy, PyData.eqv]
  | n + 1, m + 1, .sq true ds, .sq true es, h, h' => by
    have := pl_eqvs n m ds es (by simpa [plB] using h) (by simpa [plB] using h')
    show (PyData.eqvAll (toPys ds) (toPys es) = true) ↔ _
    rw [this]; simp
  | n + 1, m + 1, .sq false ds, .sq false es, h, h' => by
    have := pl_eqvs n m ds es (by simpa [plB] using h) (by simpa [plB] using h')
    show (PyData.eqvAll (toPys ds) (toPys es) = true) ↔ _
    rw [this]; simp
  | n + 1, m + 1, .sq true ds, .sq false es, h, h' => by simp [toPy, PyData.eqv]
  | n + 1, m + 1, .sq false ds, .sq true es, h, h' => by simp [toPy, PyData.eqv]
  | n, m + 1, .int i, .sq l es, h, h' => by cases l <;> simp [toPy, PyData.eqv]
  | n, m + 1, .non, .sq l es, h, h' => by cases l <;> simp [toPy, PyData.eqv]
  | n + 1, m, .sq l es, .int i, h, h' => by cases l <;> simp [toPy, PyData.eqv]
  | n + 1, m, .sq l es, .non, h, h' => by cases l <;> simp [toPy, PyData.eqv]
  | 0, m, .sq _ _, _, h, _ => by simp [plB] at h
  | n, 0, _, .sq _ _, _, h => by simp [plB] at h
  | n, m, .bl _, _, h, _ => by cases n <;> simp [plB] at h
  | n, m, .str _, _, h, _ => by cases n <;> simp [plB] at h
  | n, m, .dic _, _, h, _ => by cases n <;> simp [plB] at h
  | n, m, .ins _ _, _, h, _ => by cases n <;> simp [plB] at h
  | n, m, .ob _, _, h, _ => by cases n <;> simp [plB] at h
  | n, m, .exc _ _ _, _, h, _ => by cases n <;> simp [plB] at h
  | n, m, .scr _, _, h, _ => by cases n <;> simp [plB] at h
  | n, m, _, .bl _, _, h => by cases m <;> simp [plB] at h
  | n, m, _, .str _, _, h => by cases m <;> simp [plB] at h
  | n, m, _, .dic _, _, h => by cases m <;> simp [plB] at h
  | n, m, _, .ins _ _, _, h => by cases m <;> simp [plB] at h
  | n, m, _, .ob _, _, h => by cases m <;> simp [plB] at h
  | n, m, _, .exc _ _ _, _, h => by cases m <;> simp [plB] at h
  | n, m, _, .scr _, _, h => by cases m <;> simp [plB] at h
theorem pl_eqvs : ∀ (n m : Nat) (ds es : List D), plBs n ds = true → plBs m es = true → (PyData.eqvAll (toPys ds) (toPys es) = true ↔ ds = es)
  | n, m, [], [], _, _ => by simp [toPys, PyData.eqvAll]
  | n, m, [], _ :: _, _, _ => by simp [toPys, PyData.eqvAll]
  | n, m, _ :: _, [], _, _ => by simp [toPys, PyData.eqvAll]
  | n, m, d :: ds, e :: es, h, h' => by
    obtain ⟨h1, h2⟩ := Bool.and_eq_true_iff.mp (by simpa [plBs] using h : (plB n d && plBs n ds) = true)
    obtain ⟨g1, g2⟩ := Bool.and_eq_true_iff.mp (by simpa [plBs] using h' : (plB m e && plBs m es) = true)
    have a := pl_eqv n m d e h1 g1
    have b := pl_eqvs n m ds es h2 g2
    show ((PyData.eqv (toPy d) (toPy e) && PyData.eqvAll (toPys ds) (toPys es)) = true) ↔ _
    rw [Bool.and_eq_true_iff, a, b]
    simp
end
/-- == of plain data -/
theorem eqP {x y : D} {P : Bool → Prop} (hx : plB 60 x = true) (hy : plB 60 y = true) (h : ∀ b : Bool, (b = true ↔ x = y) → P b) : EQ x y P := by
  obtain ⟨a1, a2, a3⟩ := pl_pd 60 x hx
  obtain ⟨b1, b2, b3⟩ := pl_pd 60 y hy
  exact ⟨_, _, a1, b1, Bool.and_eq_true_iff.mpr ⟨a2, decide_eq_true (by omega)⟩, Bool.and_eq_true_iff.mpr ⟨b2, decide_eq_true (by omega)⟩, h _ (pl_eqv 60 60 x y hx hy)⟩
theorem plBs_of {n : Nat} : ∀ {ds : List D}, (∀ d ∈ ds, plB n d = true) → plBs n ds = true
  | [], _ => by simp [plBs]
  | d :: ds, h => by
    simp only [plBs, Bool.and_eq_true]
    exact ⟨h d List.mem_cons_self, plBs_of fun e he => h e (List.mem_cons_of_mem _ he)⟩
theorem plB_int {n : Nat} {i : Int} : plB n (.int i) = true := by cases n <;> simp [plB]
theorem plB_sq {n : Nat} {l : Bool} {ds : List D} (h : ∀ d ∈ ds, plB n d = true) : plB (n + 1) (.sq l ds) = true := by
  simp only [plB]
  exact plBs_of h
theorem plB_ints {n : Nat} {l : Bool} {ns : List Int} : plB (n + 1) (.sq l (ns.map .int)) = true := plB_sq fun d hd => by
  obtain ⟨i, _, rfl⟩ := List.mem_map.mp hd
  exact plB_int
/-! ### tuples within tuples, kept beside an object that was lent -/
inductive FlatN : D → Prop
  | flat {d : D} : Flat d → FlatN d
  | tup {ds : List D} : (∀ (i : Nat) d, ds[i]? = some d → FlatN d) → FlatN (.sq false ds)
theorem FlatN.ints {ns : List Int} : FlatN (.sq false (ns.map .int)) := .tup fun i d h => by
  rw [List.getElem?_map] at h
  cases e : ns[i]? with
  | none => rw [e] at h; cases h
  | some n => rw [e] at h; cases h; exact .flat trivial
theorem FlatN.two {a b : D} (h : FlatN a) (h' : FlatN b) : FlatN (.sq false [a, b]) := .tup fun i d e => by
  match i, e with
  | 0, e => cases e; exact h
  | 1, e => cases e; exact h'
theorem FlatN.is {K : PySem.W.Frag} {H0 H : Hp} {σ : L2.St} {δ : List S} {own : List (List Addr)} {d : D} (R : Rel K H0 σ H δ own) (f : FlatN d) : ∀ {v : V}, Is K H v d → Is K (cut H own.flatten) v d := by
  induction f with
  | flat f => intro v h; exact h.flat f
  | tup _ ih =>
    intro v h
    obtain ⟨a, xs, rfl, h1, il⟩ := h.tup_inv
    refine .mkT ?_ (IsL.of_get il.1 fun i x d hx hd => ih i d hd (il.2 i x d hx hd))
    rcases h1 with z | z
    · refine .inl ?_
      have no : ∀ (p : Addr) (ys : List V), p ∈ own.flatten → ¬ Rd H p (.tup ys) := fun p ys hp r => by
        rcases R.owned p hp with ⟨_, e⟩ | ⟨_, e⟩ | ⟨_, _, _, e, _⟩ | ⟨_, _, _, e, _⟩
        all_goals (rcases r with r | ⟨_, r⟩ <;> rw [e] at r <;> cases r)
      have na := fun hp => no _ _ hp z
      rcases z with z | ⟨ob, z⟩
      · exact .inl (by rw [cut_out na]; exact z)
      · exact .inr ⟨ob, by rw [cut_out na]; exact z⟩
    · exact .inr z
theorem ws_setN {X : Cx} {H0 : Hp} {δ δ' : List S} {e : Expr} {pos : Pos} {E : En} (i : Nat) {x : Str} {pos' : Pos} (hN : X.N.Nodup) (hv : Vw δ δ') (h : We X H0 e δ' (fun d => FlatN d ∧ E.nx (δ.set i (.sh d)))) (hi : X.N[i]? = some x := by rfl) (hx : Loc X.env.scope x := by first | exact .inl rfl | exact .inr rfl) (hs : swapsWith e (some (.Name x pos')) pos.line X.env = pure false := by rfl) (hf : X.fn x = true ∨ X.env.scope.names.lookup x = some .local := by exact .inl rfl) :
    Ws X H0 (.Assign [.Name x pos'] e pos) δ E := fun B σ H own hB R => toS (ps_set hN hi hx pe_sem hs hf) ((h.atV hv hB R).mono fun v H' ⟨d, R', i, f, q⟩ => ⟨_, _, R'.setSh (f.is R' i), q⟩)
theorem we_neD {X : Cx} {H0 : Hp} {δ : List S} {a b : Expr} {k : D → Prop} {pos : Pos} (hu : X.A.units + 64 < cLine) (h : We X H0 a δ (fun x => We X H0 b δ (fun y => EQ x y fun r => k (.bl (!r))))) : We X H0 (.Compare a [.NotEq] [b] pos) δ k := fun σ G R => toE (pe_cmpR (op_neD hu) pe_sem pe_sem (nomark _)) (two h (fun G v w x y iv iw ⟨p, q, hp, hq, sp, sq, hk⟩ Q qq => ⟨p, q, hp.dp iv, hq.dp iw, sp, sq, qq _ G _ (Same.refl _) (.bl _) hk⟩) σ G R)
end DL
set_option Elab.async false
set_option linter.all false
set_option maxRecDepth 100000
set_option maxHeartbeats 2000000
/-! Part m: trees of owned lists: what comes as one, several values at once, a comprehension of them, a write within. -/
namespace DL
open PySem PySem.Spec PyProof.Rows L2
/-- a value that has come, as a tree -/
def asT : S → Tr
  | .no => .sh .non
  | .sh d => .sh d
  | .ow (.lst ds) => .lst (ds.map .sh)
  | .ow (.tr ts) => .lst ts
  | .ow o => .sh o.d
theorem ds_sh : ∀ ds : List D, Tr.ds (ds.map .sh) = ds
  | [] => rfl
  | d :: ds => by
    show d :: Tr.ds (ds.map .sh) = _
    rw [ds_sh ds]
theorem ds_map : ∀ ts : List Tr, Tr.ds ts = ts.map Tr.d
  | [] => rfl
  | t :: ts => by
    show t.d :: Tr.ds ts = _
    rw [ds_map ts]; rfl
theorem ds_len (ts : List Tr) : (Tr.ds ts).length = ts.length := by rw [ds_map, List.length_map]
theorem asT_d {r : S} : (asT r).d = r.d := by
  cases r with
  | no => rfl
  | sh d => rfl
  | ow o =>
    cases o with
    | lst ds => show D.sq true (Tr.ds (ds.map .sh)) = .sq true ds; rw [ds_sh]
    | tr ts => rfl
    | _ => rfl
section
variable {K : PySem.W.Frag} {H H' G G' H0 B : Hp} {v : V} {r : S} {σ : L2.St} {δ : List S} {own : List (List Addr)}
theorem trs_sh : ∀ {xs : List V} {ds : List D}, IsL K G xs ds → TrsIs K H G (ds.map .sh) xs (List.replicate xs.length [])
  | xs, [], h => by
    rw [h.inv_nil]
    exact ⟨rfl, rfl⟩
  | xs, d :: ds, h => by
    obtain ⟨x, r, rfl, i, il⟩ := h.inv_cons
    exact ⟨x, r, [], _, rfl, rfl, ⟨rfl, i⟩, trs_sh il⟩
theorem flat_reps : ∀ n : Nat, (List.replicate n ([] : List Addr)).flatten = []
  | 0 => rfl
  | n + 1 => by rw [List.replicate_succ, List.flatten_cons, flat_reps n]; rfl
/-- new, as a tree -/
def NewT (K : PySem.W.Frag) (G : Hp) (v : V) (G' : Hp) (t : Tr) : Prop := ∃ l, TrIs K G' (cut G' l) t v l ∧ (∀ a ∈ l, G a = none) ∧ Ex G (cut G' l) ∧ l.Nodup
theorem RetIs.newT (h : RetIs K G v G' r) : NewT K G v G' (asT r) := by
  have sh : ∀ {d : D}, Ex G G' → Is K G' v d → NewT K G v G' (.sh d) := fun e i => ⟨[], ⟨rfl, by rw [cut_nil]; exact i⟩, fun a ha => (by cases ha), by rw [cut_nil]; exact e, List.nodup_nil⟩
  cases r with
  | no => exact h.elim
  | sh d => exact sh h.1 h.2
  | ow o =>
    cases o with
    | lst ds =>
      obtain ⟨l, ⟨p, xs, rfl, rfl, hp, il⟩, fr, ee, nd⟩ := h
      exact ⟨[p], ⟨p, xs, List.replicate xs.length [], rfl, by rw [flat_reps], hp, trs_sh il⟩, fr, ee, nd⟩
    | tr ts => exact h
    | dic kvs => exact sh h.ex.1 h.ex.2
    | ins C fs => exact sh h.ex.1 h.ex.2
    | self a C ks fs => exact sh h.ex.1 h.ex.2
theorem NewT.tr {ts : List Tr} (h : NewT K G v G' (.lst ts)) : NewIs K G v G' (.tr ts) := h
/-! ### several values, each a tree of its own, beside the frame's state -/
structure RT (K : PySem.W.Frag) (H0 : Hp) (σ : L2.St) (H : Hp) (δ : List S) (own : List (List Addr)) (vs : List V) (ts : List Tr) (ls : List (List Addr)) : Prop where
  ex : Ex H0 (cut H (own.flatten ++ ls.flatten))
  len1 : σ.length = δ.length
  len2 : own.length = δ.length
  sl : ∀ (i : Nat) s x l, δ[i]? = some s → σ[i]? = some x → own[i]? = some l → SlotIs K H (cut H (own.flatten ++ ls.flatten)) x l s
  tr : TrsIs K H (cut H (own.flatten ++ ls.flatten)) ts vs ls
  nd : (own.flatten ++ ls.flatten).Nodup
theorem trs_snoc {t : Tr} {x : V} {l : List Addr} : ∀ {ts : List Tr} {xs : List V} {ls : List (List Addr)}, TrsIs K H G ts xs ls → TrIs K H G t x l → TrsIs K H G (ts ++ [t]) (xs ++ [x]) (ls ++ [l])
  | [], xs, ls, h, i => by
    obtain ⟨rfl, rfl⟩ := h
    exact ⟨x, [], l, [], rfl, rfl, i, rfl, rfl⟩
  | t :: ts, xs, ls, h, i => by
    obtain ⟨y, xs', m, ls', rfl, rfl, h1, h2⟩ := h
    exact ⟨y, _, m, _, rfl, rfl, h1, trs_snoc h2 i⟩
theorem trs_len : ∀ {ts : List Tr} {xs : List V} {ls : List (List Addr)}, TrsIs K H G ts xs ls → xs.length = ts.length ∧ ls.length = ts.length
  | [], xs, ls, h => by
    obtain ⟨rfl, rfl⟩ := h
    exact ⟨rfl, rfl⟩
  | t :: ts, xs, ls, h => by
    obtain ⟨y, xs', m, ls', rfl, rfl, h1, h2⟩ := h
    obtain ⟨a, b⟩ := trs_len h2
    exact ⟨congrArg (· + 1) a, congrArg (· + 1) b⟩
theorem Rel.rt (R : Rel K H0 σ H δ own) : RT K H0 σ H δ own [] [] [] := by
  have e : own.flatten ++ ([] : List (List Addr)).flatten = own.flatten := by simp
  exact ⟨by rw [e]; exact R.ex, R.len1, R.len2, by rw [e]; exact R.sl, ⟨rfl, rfl⟩, by rw [e]; exact R.nd⟩
theorem RT.idx {vs : List V} {ts : List Tr} {ls : List (List Addr)} (R : RT K H0 σ H δ own vs ts ls) {i : Nat} {s : S} (h : δ[i]? = some s) : ∃ x l, σ[i]? = some x ∧ own[i]? = some l ∧ SlotIs K H (cut H (own.flatten ++ ls.flatten)) x l s := by
  have hi : i < δ.length := (List.getElem?_eq_some_iff.mp h).1
  have h1 : i < σ.length := by rw [R.len1]; exact hi
  have h2 : i < own.length := by rw [R.len2]; exact hi
  exact ⟨_, _, List.getElem?_eq_getElem h1, List.getElem?_eq_getElem h2, R.sl i s _ _ h (List.getElem?_eq_getElem h1) (List.getElem?_eq_getElem h2)⟩
theorem RT.owned {vs : List V} {ts : List Tr} {ls : List (List Addr)} (R : RT K H0 σ H δ own vs ts ls) : ∀ a ∈ own.flatten ++ ls.flatten, OwnAt H (own.flatten ++ ls.flatten) a := fun a ha => by
  rcases List.mem_append.mp ha with ha | ha
  · obtain ⟨l, hl, hal⟩ := List.mem_flatten.mp ha
    obtain ⟨i, hi⟩ := List.mem_iff_getElem?.mp hl
    have hd : i < δ.length := by rw [← R.len2]; exact (List.getElem?_eq_some_iff.mp hi).1
    obtain ⟨x, l', _, e, q⟩ := R.idx (List.getElem?_eq_getElem hd)
    rw [hi] at e; cases e
    cases hs : δ[i] with
    | no => rw [hs] at q; have q : l = [] := q; rw [q] at hal; cases hal
    | sh d => rw [hs] at q; obtain ⟨q, _⟩ := q; rw [q] at hal; cases hal
    | ow o => rw [hs] at q; obtain ⟨v, _, q⟩ := q; exact q.at (fun a h => List.mem_append_left _ (mem_flat hi h)) a hal
  · obtain ⟨xs, e⟩ := TrsIs.lst_at ts vs ls R.tr a ha
    exact .inl ⟨xs, e⟩
theorem RT.toS {vs : List V} {ts : List Tr} {ls : List (List Addr)} (R : RT K H0 σ H δ own vs ts ls) : RelS K H0 σ (cut H (own.flatten ++ ls.flatten)) δ := ⟨R.ex, R.len1, fun i d h => by
  obtain ⟨x, l, a, b, _, v, rfl, q⟩ := R.idx h
  exact ⟨v, a, q⟩⟩
/-- one more value has come: new -/
theorem RT.push {vs : List V} {ts : List Tr} {ls : List (List Addr)} {t : Tr} (R : RT K H0 σ H δ own vs ts ls) (n : ∀ a ∈ own.flatten ++ ls.flatten, G a = none) (h : NewT K (cut H (own.flatten ++ ls.flatten)) v G t) :
    ∃ l, RT K H0 σ (mrg H (own.flatten ++ ls.flatten) G) δ own (vs ++ [v]) (ts ++ [t]) (ls ++ [l]) := by
  obtain ⟨l, hl, fr, ee, nd⟩ := h
  have hlG : ∀ a ∈ l, ∃ u, G a = some u := fun a ha => by
    obtain ⟨xs, e⟩ := TrIs.lst_at t v l hl a ha
    exact ⟨_, e⟩
  have dis : ∀ a ∈ l, a ∉ own.flatten ++ ls.flatten := fun a ha z => by
    obtain ⟨u, e⟩ := hlG a ha
    rw [n a z] at e; cases e
  have eO : own.flatten ++ (ls ++ [l]).flatten = (own.flatten ++ ls.flatten) ++ l := by simp [List.append_assoc]
  have cc : cut (mrg H (own.flatten ++ ls.flatten) G) ((own.flatten ++ ls.flatten) ++ l) = cut G l := by
    funext a
    by_cases z : a ∈ own.flatten ++ ls.flatten
    · rw [cut_in (List.mem_append_left _ z)]
      by_cases y : a ∈ l
      · rw [cut_in y]
      · rw [cut_out y, n a z]
    · by_cases y : a ∈ l
      · rw [cut_in (List.mem_append_right _ y), cut_in y]
      · rw [cut_out (by simp only [List.mem_append] at z ⊢; intro w; rcases w with w | w; exact z w; exact y w), cut_out y, mrg_out z]
  refine ⟨l, ?_⟩
  have ex2 : Ex (cut H (own.flatten ++ ls.flatten)) (cut G l) := ee
  refine ⟨by rw [eO, cc]; exact R.ex.trans ex2, R.len1, R.len2, fun i s x m h1 h2 h3 => ?_, ?_, ?_⟩
  · rw [eO, cc]
    exact (R.sl i s x m h1 h2 h3).mono ex2 fun a ha => mrg_in (List.mem_append_left _ (mem_flat h3 ha))
  · rw [eO, cc]
    refine trs_snoc (TrsIs.mono ex2 ts vs ls (fun a ha => mrg_in (List.mem_append_right _ ha)) R.tr) (TrIs.mono (Same.refl _) t v l (fun a ha => mrg_out (dis a ha)) hl)
  · rw [eO, List.nodup_append]
    exact ⟨R.nd, nd, fun a ha b hb e => dis b hb (e ▸ ha)⟩
theorem flat_set_perm : ∀ {own : List (List Addr)} {i : Nat} {l : List Addr}, own[i]? = some l → own.flatten.Perm ((own.set i []).flatten ++ l)
  | [], _, _, h => by cases h
  | l0 :: r, 0, l, h => by
    cases h
    simp only [List.set_cons_zero, List.flatten_cons, List.nil_append]
    exact List.perm_append_comm
  | l0 :: r, i + 1, l, h => by
    simp only [List.set_cons_succ, List.flatten_cons, List.append_assoc]
    exact List.Perm.append_left _ (flat_set_perm (i := i) h)
theorem cut_congr {ps qs : List Addr} (h : ∀ a, a ∈ ps ↔ a ∈ qs) : cut H ps = cut H qs := by
  funext a
  by_cases z : a ∈ ps
  · rw [cut_in z, cut_in ((h a).mp z)]
  · rw [cut_out z, cut_out fun y => z ((h a).mpr y)]
/-- one more value: the frame's own object, given up -/
theorem RT.move {vs : List V} {ts : List Tr} {ls : List (List Addr)} {i : Nat} {o : Ow} (R : RT K H0 σ H δ own vs ts ls) (hi : δ[i]? = some (.ow o)) (ho : (∃ ds, o = .lst ds) ∨ ∃ us, o = .tr us) :
    ∃ v l, σ[i]? = some (some v) ∧ RT K H0 σ H (δ.set i .no) (own.set i []) (vs ++ [v]) (ts ++ [asT (.ow o)]) (ls ++ [l]) := by
  obtain ⟨x, l, h1, h2, v, rfl, q⟩ := R.idx hi
  have pm : ((own.set i []).flatten ++ (ls ++ [l]).flatten).Perm (own.flatten ++ ls.flatten) := by
    have e : (ls ++ [l]).flatten = ls.flatten ++ l := by simp
    rw [e]
    refine List.Perm.trans ?_ (List.Perm.append_right _ (flat_set_perm h2).symm)
    rw [← List.append_assoc]
    refine List.Perm.trans ?_ (by rw [List.append_assoc])
    rw [List.append_assoc]
    exact List.Perm.append_left _ List.perm_append_comm
  have cc : cut H ((own.set i []).flatten ++ (ls ++ [l]).flatten) = cut H (own.flatten ++ ls.flatten) := cut_congr fun a => pm.mem_iff
  refine ⟨v, l, h1, by rw [cc]; exact R.ex, by simp [R.len1], by simp [R.len2], fun j s x m g1 g2 g3 => ?_, ?_, pm.symm.nodup R.nd⟩
  · rw [cc]
    rcases set_get g1 with ⟨e1, rfl⟩ | ⟨n1, g1⟩
    · rcases set_get g3 with ⟨_, rfl⟩ | ⟨n3, _⟩
      · exact rfl
      · exact absurd e1 n3
    · rcases set_get g3 with ⟨e3, _⟩ | ⟨_, g3⟩
      · exact absurd e3 n1
      · exact R.sl j s x m g1 g2 g3
  · rw [cc]
    refine trs_snoc R.tr ?_
    rcases ho with ⟨ds, rfl⟩ | ⟨us, rfl⟩
    · obtain ⟨p, xs, rfl, rfl, hp, il⟩ := q
      exact ⟨p, xs, List.replicate xs.length [], rfl, by rw [flat_reps], hp, trs_sh il⟩
    · exact q
end
end DL
set_option Elab.async false
set_option linter.all false
set_option maxRecDepth 100000
set_option maxHeartbeats 2000000
/-! Part n: expressions that come as trees; statements with them. -/
namespace DL
open PySem PySem.Spec PyProof.Rows L2
section
variable {K : PySem.W.Frag} {H H' G G' H0 B : Hp} {v : V} {r : S} {σ : L2.St} {δ : List S} {own : List (List Addr)}
theorem NewT.ex {t : Tr} (h : NewT K G v G' t) : Ex G G' := by
  obtain ⟨l, _, _, e, _⟩ := h
  exact e.trans cut_ex
theorem RT.free {vs : List V} {ts : List Tr} {ls : List (List Addr)} (R : RT K B σ H δ own vs ts ls) : ∀ a ∈ own.flatten ++ ls.flatten, B a = none := fun a ha => R.ex.free (cut_in ha)
theorem trs_split {K : PySem.W.Frag} {H G : Hp} : ∀ {ts us : List Tr} {vs ws : List V} {ls ls2 : List (List Addr)}, TrsIs K H G (ts ++ us) (vs ++ ws) (ls ++ ls2) → vs.length = ts.length → ls.length = ts.length → TrsIs K H G ts vs ls ∧ TrsIs K H G us ws ls2
  | [], us, [], ws, [], ls2, h, _, _ => ⟨⟨rfl, rfl⟩, h⟩
  | t :: ts, us, v :: vs, ws, l :: ls, ls2, h, h1, h2 => by
    obtain ⟨x, xs', l', ls', e1, e2, a, b⟩ := h
    simp only [List.cons_append, List.cons.injEq] at e1 e2
    obtain ⟨rfl, rfl⟩ := e1
    obtain ⟨rfl, rfl⟩ := e2
    obtain ⟨c, d⟩ := trs_split b (Nat.succ.inj h1) (Nat.succ.inj h2)
    exact ⟨⟨v, vs, l, ls, rfl, rfl, a, c⟩, d⟩
  | [], us, v :: vs, ws, ls, ls2, h, h1, _ => by cases h1
  | [], us, [], ws, l :: ls, ls2, h, _, h2 => by cases h2
  | t :: ts, us, [], ws, ls, ls2, h, h1, _ => by cases h1
  | t :: ts, us, v :: vs, ws, [], ls2, h, _, h2 => by cases h2
/-- the last values become a list's items -/
theorem RT.pack {vs ws : List V} {ts us : List Tr} {ls ls2 : List (List Addr)} {p : Addr} (R : RT K B σ H δ own (vs ++ ws) (ts ++ us) (ls ++ ls2)) (h1 : vs.length = ts.length) (h2 : ls.length = ts.length) (hp : H p = none) :
    RT K B σ (upd H p (.lst ws)) δ own (vs ++ [.ref p]) (ts ++ [.lst us]) (ls ++ [p :: ls2.flatten]) := by
  have np : ∀ a ∈ own.flatten ++ (ls ++ ls2).flatten, a ≠ p := fun a ha e => by
    obtain ⟨u, hu⟩ := (R.owned a ha).some
    rw [e, hp] at hu; cases hu
  have eF : (ls ++ [p :: ls2.flatten]).flatten = ls.flatten ++ p :: ls2.flatten := by simp
  have eF2 : (ls ++ ls2).flatten = ls.flatten ++ ls2.flatten := by simp
  have pm : (own.flatten ++ (ls ++ [p :: ls2.flatten]).flatten).Perm (p :: (own.flatten ++ (ls ++ ls2).flatten)) := by
    rw [eF, eF2, ← List.append_assoc, ← List.append_assoc]
    exact List.perm_middle
  have cc : cut (upd H p (.lst ws)) (own.flatten ++ (ls ++ [p :: ls2.flatten]).flatten) = cut H (own.flatten ++ (ls ++ ls2).flatten) := by
    rw [cut_congr (H := upd H p (.lst ws)) (fun a => pm.mem_iff)]
    funext a
    by_cases z : a = p
    · subst z
      rw [cut_in (by simp)]
      by_cases y : a ∈ own.flatten ++ (ls ++ ls2).flatten
      · rw [cut_in y]
      · rw [cut_out y, hp]
    · by_cases y : a ∈ own.flatten ++ (ls ++ ls2).flatten
      · rw [cut_in y, cut_in (List.mem_cons_of_mem _ y)]
      · rw [cut_out y, cut_out (by rw [List.mem_cons]; rintro (w | w); exact z w; exact y w), upd_ne z]
  obtain ⟨t1, t2⟩ := trs_split R.tr h1 h2
  have nf : ∀ a ∈ (ls ++ ls2).flatten, a ≠ p := fun a ha => np a (List.mem_append_right _ ha)
  refine ⟨by rw [cc]; exact R.ex, R.len1, R.len2, fun i s x l g1 g2 g3 => ?_, ?_, ?_⟩
  · rw [cc]
    exact (R.sl i s x l g1 g2 g3).mono (Same.refl _) fun a ha => upd_ne (np a (List.mem_append_left _ (mem_flat g3 ha)))
  · rw [cc]
    refine trs_snoc (TrsIs.mono (Same.refl _) ts vs ls (fun a ha => upd_ne (nf a (by rw [eF2]; exact List.mem_append_left _ ha))) t1) ⟨p, ws, ls2, rfl, rfl, upd_same, TrsIs.mono (Same.refl _) us ws ls2 (fun a ha => upd_ne (nf a (by rw [eF2]; exact List.mem_append_right _ ha))) t2⟩
  · exact pm.symm.nodup (List.nodup_cons.mpr ⟨fun z => np p z rfl, R.nd⟩)
theorem RT.rel {vs : List V} {ts : List Tr} {ls : List (List Addr)} (R : RT K B σ H δ own vs ts ls) : Rel K B σ H δ own := by
  have e : Ex (cut H (own.flatten ++ ls.flatten)) (cut H own.flatten) := cut_sub fun a ha => List.mem_append_left _ ha
  exact ⟨R.ex.trans e, R.len1, R.len2, fun i s x l h1 h2 h3 => (R.sl i s x l h1 h2 h3).mono e fun _ _ => rfl, (List.nodup_append.mp R.nd).1⟩
/-- one value, into a slot -/
theorem RT.set {t : Tr} {l : List Addr} {i : Nat} {us : List Tr} (R : RT K B σ H δ own [v] [t] [l]) (ht : t = .lst us) : Rel K B (σ.set i (some v)) H (δ.set i (.ow (.tr us))) (own.set i l) := by
  subst ht
  have el : ([l] : List (List Addr)).flatten = l := by simp
  have R1 := R
  obtain ⟨x, xs', l', ls', e1, e2, tr, e3, e4⟩ := R.tr
  cases e1; cases e2
  rw [el] at tr
  have nd := R.nd
  rw [el, List.nodup_append] at nd
  have sub : ∀ a ∈ (own.set i l).flatten, a ∈ own.flatten ++ l := fun a ha => List.mem_append.mpr (flat_set_sub ha)
  have e : Ex (cut H (own.flatten ++ l)) (cut H (own.set i l).flatten) := cut_sub sub
  have ex := R.ex
  rw [el] at ex
  refine ⟨ex.trans e, by simp [R.len1], by simp [R.len2], fun j s x m h1 h2 h3 => ?_, flat_set_nd nd.1 nd.2.1 fun a ha hb => nd.2.2 a hb a ha rfl⟩
  rcases set_get h1 with ⟨e1, rfl⟩ | ⟨n1, g1⟩
  · rcases set_get h2 with ⟨_, rfl⟩ | ⟨n2, _⟩
    · rcases set_get h3 with ⟨_, rfl⟩ | ⟨n3, _⟩
      · exact ⟨v, rfl, TrIs.mono e _ v _ (fun _ _ => rfl) tr⟩
      · exact absurd e1 n3
    · exact absurd e1 n2
  · rcases set_get h2 with ⟨e2, _⟩ | ⟨_, g2⟩
    · exact absurd e2 n1
    · rcases set_get h3 with ⟨e3, _⟩ | ⟨_, g3⟩
      · exact absurd e3 n1
      · have q := R.sl j s x m g1 g2 g3
        rw [el] at q
        exact q.mono e fun _ _ => rfl
theorem RT.ret {t : Tr} {l : List Addr} {us : List Tr} (R : RT K B σ H δ own [v] [t] [l]) (ht : t = .lst us) : RetIs K B v H (.ow (.tr us)) := by
  subst ht
  have el : ([l] : List (List Addr)).flatten = l := by simp
  obtain ⟨x, xs', l', ls', e1, e2, tr, e3, e4⟩ := R.tr
  cases e1; cases e2
  rw [el] at tr
  have e : Ex (cut H (own.flatten ++ l)) (cut H l) := cut_sub fun a ha => List.mem_append_right _ ha
  have ex := R.ex
  rw [el] at ex
  have nd := R.nd
  rw [el, List.nodup_append] at nd
  refine ⟨l, TrIs.mono e _ v l (fun _ _ => rfl) tr, fun a ha => R.free a (by rw [el]; exact List.mem_append_right _ ha), ex.trans e, nd.2.1⟩
end
section
variable (X : Cx) (H0 : Hp)
/-- a new tree -/
def WN (e : Expr) (δ : List S) (k : Tr → Prop) : Prop := ∀ σ G, RelS X.K H0 σ G δ → semE X e σ G (fun v G' => ∃ t, NewT X.K G v G' t ∧ k t)
/-- a tree; slots may be given up to it -/
def WT (e : Expr) (δ : List S) (k : Tr → List S → Prop) : Prop := ∀ B σ H own vs ts ls, Ex H0 B → RT X.K B σ H δ own vs ts ls → semE X e σ H (fun v H' => ∃ t δ' own' l, RT X.K B σ H' δ' own' (vs ++ [v]) (ts ++ [t]) (ls ++ [l]) ∧ Ex H H' ∧ k t δ')
def WTs (es : List Expr) (δ : List S) (k : List Tr → List S → Prop) : Prop := ∀ B σ H own vs ts ls, Ex H0 B → RT X.K B σ H δ own vs ts ls → semA X es σ H (fun ws H' => ∃ us δ' own' ls', RT X.K B σ H' δ' own' (vs ++ ws) (ts ++ us) (ls ++ ls') ∧ Ex H H' ∧ us.length = es.length ∧ k us δ')
def WNs (es : List Expr) (δ : List S) (k : List Tr → Prop) : Prop := ∀ σ G H vs ts ls, RelS X.K H0 σ G δ → RT X.K G [] H [] [] vs ts ls → semA X es σ H (fun ws H' => ∃ us ls', RT X.K G [] H' [] [] (vs ++ ws) (ts ++ us) (ls ++ ls') ∧ k us)
end
section
variable {X : Cx} {H0 : Hp} {δ : List S} {e : Expr} {es : List Expr} {pos p : Pos} {E : En}
theorem RelS.base {K : PySem.W.Frag} {σ : L2.St} {G : Hp} (R : RelS K H0 σ G δ) : RelS K H0 σ G δ := R
theorem wn_wu {k : Tr → Prop} (h : ∀ {σ G}, RelS X.K H0 σ G δ → semE X e σ G (fun v G' => ∃ r, RetIs X.K G v G' r ∧ k (asT r))) : WN X H0 e δ k := fun σ G R => (h R).mono fun v G' ⟨r, i, q⟩ => ⟨asT r, i.newT, q⟩
theorem wt_wn {k : Tr → List S → Prop} (h : WN X H0 e δ fun t => k t δ) : WT X H0 e δ k := fun B σ H own vs ts ls hB R =>
  (semE.frame R.owned (h σ _ (R.toS.weak hB))).mono fun v H' ⟨G, eq, n, t, nt, q⟩ => by
    subst eq
    obtain ⟨l, R'⟩ := R.push n nt
    exact ⟨t, δ, own, l, R', mrg_ex nt.ex, q⟩
def mvT : Ow → Option Tr
  | .lst ds => some (.lst (ds.map .sh))
  | .tr ts => some (.lst ts)
  | _ => none
theorem wt_mv {k : Tr → List S → Prop} {x : Str} (i : Nat) {o : Ow} {t : Tr} (hi : δ[i]? = some (.ow o)) (ho : mvT o = some t) (h : k t (δ.set i .no)) (hp : PE X (.Name x pos) (tVar i)) : WT X H0 (.Name x pos) δ k := fun B σ H own vs ts ls hB R => by
  have ho2 : (∃ ds, o = .lst ds) ∨ ∃ us, o = .tr us := by
    cases o with
    | lst ds => exact .inl ⟨ds, rfl⟩
    | tr us => exact .inr ⟨us, rfl⟩
    | _ => cases ho
  have et : asT (.ow o) = t := by
    cases o with
    | lst ds => cases ho; rfl
    | tr us => cases ho; rfl
    | _ => cases ho
  obtain ⟨v, l, h1, R'⟩ := R.move hi ho2
  rw [et] at R'
  exact toE hp ⟨v, h1, t, _, _, l, R', Same.refl _, h⟩
theorem wts_nil {k : List Tr → List S → Prop} (h : k [] δ) : WTs X H0 [] δ k := fun B σ H own vs ts ls hB R => toA pa_nil ⟨[], δ, own, [], by rw [List.append_nil, List.append_nil, List.append_nil]; exact R, Same.refl _, rfl, h⟩
theorem wts_cons {k : List Tr → List S → Prop} (h : WT X H0 e δ fun t δ' => WTs X H0 es δ' fun us δ'' => k (t :: us) δ'') (hs : notStar e = true) : WTs X H0 (e :: es) δ k := fun B σ H own vs ts ls hB R => toA (pa_cons pe_sem pa_sem (star_of hs)) ((h B σ H own vs ts ls hB R).mono fun v H' ⟨t, δ', own', l, R', e1, q⟩ =>
  (q B σ H' own' _ _ _ hB R').mono fun ws H'' ⟨us, δ'', own'', ls'', R'', e2, n2, q2⟩ => ⟨t :: us, δ'', own'', l :: ls'', by simpa using R'', e1.trans e2, by rw [List.length_cons, List.length_cons, n2], q2⟩)
theorem wt_lst {k : Tr → List S → Prop} (h : WTs X H0 es δ fun ts δ' => k (.lst ts) δ') (hl : Nat.ble es.length 100000 = true) : WT X H0 (.List es pos) δ k := fun B σ H own vs ts ls hB R =>
  toE (pe_lst pa_sem) ((h B σ H own vs ts ls hB R).mono fun ws H' ⟨us, δ', own', ls', R', e1, n, q⟩ => by
    obtain ⟨l1, l2⟩ := trs_len R.tr
    obtain ⟨_, t2⟩ := trs_split R'.tr l1 l2
    refine ⟨Nat.le_trans (by rw [(trs_len t2).1, n]; exact Nat.le_of_ble_eq_true hl) (by decide), fun p hp => ?_⟩
    exact ⟨.lst us, δ', own', _, R'.pack l1 l2 hp, e1.trans (Ex.new hp), q⟩)
/-! a new tree: displays, comprehensions -/
theorem RT.newT {K : PySem.W.Frag} {G H : Hp} {v : V} {t : Tr} {l : List Addr} (R : RT K G [] H [] [] [v] [t] [l]) : NewT K G v H t := by
  have el : (([] : List (List Addr)).flatten ++ [l].flatten) = l := by simp
  obtain ⟨x, xs', l', ls', e1, e2, tr, e3, e4⟩ := R.tr
  cases e1; cases e2
  have fr := R.free
  have ex := R.ex
  have nd := R.nd
  rw [el] at tr fr ex nd
  exact ⟨l, tr, fr, ex, nd⟩
theorem RT.nil {K : PySem.W.Frag} {G H : Hp} (e : Ex G H) : RT K G [] H [] [] [] [] [] := by
  have el : (([] : List (List Addr)).flatten ++ ([] : List (List Addr)).flatten) = [] := by simp
  exact ⟨by rw [el, cut_nil]; exact e, rfl, rfl, fun i s x l h => (by cases h), ⟨rfl, rfl⟩, by rw [el]; exact List.nodup_nil⟩
theorem wns_nil {k : List Tr → Prop} (h : k []) : WNs X H0 [] δ k := fun σ G H vs ts ls R0 R => toA pa_nil ⟨[], [], by rw [List.append_nil, List.append_nil, List.append_nil]; exact R, h⟩
theorem wns_cons {k : List Tr → Prop} (h : WN X H0 e δ fun t => WNs X H0 es δ fun us => k (t :: us)) (hs : notStar e = true) : WNs X H0 (e :: es) δ k := fun σ G H vs ts ls R0 R => toA (pa_cons pe_sem pa_sem (star_of hs)) ((semE.frame R.owned (h σ _ (R0.mono R.ex))).mono fun v H' ⟨G', eq, n, t, nt, q⟩ => by
  subst eq
  obtain ⟨l, R'⟩ := R.push n nt
  exact (q σ G _ _ _ _ R0 R').mono fun ws H'' ⟨us, ls'', R'', q2⟩ => ⟨t :: us, l :: ls'', by simpa using R'', q2⟩)
theorem wn_lst {k : Tr → Prop} (h : WNs X H0 es δ fun ts => ts.length = es.length ∧ k (.lst ts)) (hl : Nat.ble es.length 100000 = true) : WN X H0 (.List es pos) δ k := fun σ G R0 =>
  toE (pe_lst pa_sem) ((h σ G G [] [] [] R0 (RT.nil (Same.refl G))).mono fun ws H' ⟨us, ls', R', n, q⟩ => by
    have lw : ws.length = es.length := by have := (trs_len R'.tr).1; rw [List.nil_append, List.nil_append] at this; rw [this, n]
    refine ⟨Nat.le_trans (by rw [lw]; exact Nat.le_of_ble_eq_true hl) (by decide), fun p hp => ?_⟩
    exact ⟨.lst us, (RT.pack (vs := []) (ts := []) (ls := []) R' rfl rfl hp).newT, q⟩)
theorem wns_len {k : List Tr → Prop} (h : WNs X H0 es δ k) : True := trivial
/-- what a comprehension's turns do, by trees -/
def LCT (X : Cx) (sc : Scope) (H0 : Hp) (elt : Expr) (δ : List S) (v : Nat) (ko : List Tr → Prop) (n : Nat) (item : Nat → D) : Prop := ∃ R : Nat → Tr → Prop, n ≤ 100000 ∧ (∀ i, i < n → ∀ (s : Shared) (h : Hp) (C : Addr) (cl : List (Str × Addr)) (fp : List Addr), WN (X.blk s h sc (compEnvC sc cl C X.env) fp) H0 elt (δ.set v (.sh (item i))) (R i)) ∧
  ∀ ts : List Tr, ts.length = n → (∀ (i : Nat) t, ts[i]? = some t → R i t) → ko ts
theorem own_lst {H : Hp} {O : List Addr} (h : ∀ a ∈ O, ∃ xs, H a = some (.lst xs)) : ∀ a ∈ O, OwnAt H O a := fun a ha => .inl (h a ha)
theorem mrg_cutH {H0 H : Hp} {ps : List Addr} (k : ∀ a ∈ ps, H a = H0 a) : mrg H0 ps (cut H ps) = H := by
  funext a
  by_cases z : a ∈ ps
  · rw [mrg_in z, k a z]
  · rw [mrg_out z, cut_out z]
theorem lct_sem {te : TE} {wv n : Nat} {J : It} {item : Nat → D} {P : Nat → List Tr → Prop} {σ : L2.St} {Hf : Hp} {ps : List Addr} {δ : List S} {Q : VK} (fe : FrE te) (hps : ∀ a ∈ ps, OwnAt Hf ps a) (R1 : RelS X.K H0 σ (cut Hf ps) δ)
    (hJ : ∀ i H, Ex (cut Hf ps) H → (i < n → J.go i H ∧ ∀ x H', J.yld i H x H' → H' = H ∧ Is X.K (cut Hf ps) x (item i)) ∧ (n ≤ i → J.stop i H)) (hP : P 0 []) (hn : n ≤ 100000)
    (turn : ∀ i ts, i < n → P i ts → ts.length = i → ∀ G1 σ', Ex (cut Hf ps) G1 → RelS X.K H0 σ' G1 (δ.set wv (.sh (item i))) → te σ' G1 fun y G2 => ∃ t, NewT X.K G1 y G2 t ∧ P (i + 1) (ts ++ [t]))
    (done : ∀ A G ts, NewT X.K (cut Hf ps) (.ref A) G (.lst ts) → (∀ a ∈ ps, G a = none) → ts.length = n → P n ts → Q (.ref A) (mrg Hf ps G)) : ∀ A, Hf A = none → ∃ W : Nat → Nat → Hp → Prop, (∃ m, W 0 m (upd Hf A (.lst []))) ∧ ∀ i m H, W i m H →
      (J.stop i H ∧ Q (.ref A) H) ∨ (J.go i H ∧ ∃ Nx : Hp → Prop, (∀ H', Nx H' → ∃ m', m' < m ∧ W (i + 1) m' H') ∧ ∀ x H', J.yld i H x H' → gName wv x (wipe σ [wv]) H' fun σ2 H2 => wipe σ2 [wv] = wipe σ [wv] ∧ tYes σ2 H2 fun b H3 =>
        if b = true then te σ2 H3 fun y H4 => ∃ acc, H4 A = some (.lst acc) ∧ acc.length < sizeLine ∧ Nx (upd H4 A (.lst (acc ++ [y]))) else Nx H3) := fun A hA => by
  have nA : A ∉ ps := fun z => by
    obtain ⟨u, hu⟩ := (hps A z).some
    rw [hA] at hu; cases hu
  refine ⟨fun i m H => m = n - i ∧ i ≤ n ∧ ∃ (as : List V) (ts : List Tr) (ls : List (List Addr)), H A = some (.lst as) ∧ (∀ a ∈ ps, H a = Hf a) ∧ Ex (cut Hf ps) (cut H (A :: (ls.flatten ++ ps))) ∧ TrsIs X.K H (cut H (A :: (ls.flatten ++ ps))) ts as ls ∧ (A :: ls.flatten).Nodup ∧ (∀ a ∈ ls.flatten, a ∉ ps) ∧ ts.length = i ∧ P i ts, ⟨n, by simp, Nat.zero_le _, [], [], [], upd_same, fun a ha => upd_ne (by rintro rfl; exact nA ha), ?_, ⟨rfl, rfl⟩, by simp, fun a ha => (by cases ha), rfl, hP⟩, ?_⟩
  · intro a u q
    obtain ⟨n1, n2⟩ := cut_some q
    have ne : a ≠ A := ne_of_none n2 hA
    rw [cut_out (by simp [ne, n1]), upd_ne ne]
    exact n2
  rintro i m H ⟨rfl, hi, as, ts, ls, hH, kps, e1, tr, nd, dps, hlen, p⟩
  have e2 : Ex (cut Hf ps) H := e1.trans cut_ex
  obtain ⟨j1, j2⟩ := hJ i H e2
  by_cases hlt : i < n
  · obtain ⟨g1, g2⟩ := j1 hlt
    refine .inr ⟨g1, fun H' => ∃ (as : List V) (ts : List Tr) (ls : List (List Addr)), H' A = some (.lst as) ∧ (∀ a ∈ ps, H' a = Hf a) ∧ Ex (cut Hf ps) (cut H' (A :: (ls.flatten ++ ps))) ∧ TrsIs X.K H' (cut H' (A :: (ls.flatten ++ ps))) ts as ls ∧ (A :: ls.flatten).Nodup ∧ (∀ a ∈ ls.flatten, a ∉ ps) ∧ ts.length = i + 1 ∧ P (i + 1) ts, fun H' h => ⟨n - (i + 1), by omega, rfl, hlt, h⟩, fun x H' y => ?_⟩
    obtain ⟨rfl, ix⟩ := g2 x H' y
    have w1 : (wipe σ [wv]).set wv (some x) = σ.set wv (some x) := by
      show (σ.set wv none).set wv (some x) = _
      rw [List.set_set]
    show wipe ((wipe σ [wv]).set wv (some x)) [wv] = wipe σ [wv] ∧ tYes ((wipe σ [wv]).set wv (some x)) _ _
    rw [w1]
    refine ⟨by show (σ.set wv (some x)).set wv none = σ.set wv none; rw [List.set_set], ?_⟩
    unfold tYes
    refine iteT ?_
    have R2 : RelS X.K H0 (σ.set wv (some x)) (cut H' (A :: (ls.flatten ++ ps))) (δ.set wv (.sh (item i))) := RelS.set (R1.mono e1) (ix.mono e1)
    have owned : ∀ a ∈ A :: (ls.flatten ++ ps), OwnAt H' (A :: (ls.flatten ++ ps)) a := fun a ha => by
      rcases List.mem_cons.mp ha with rfl | ha
      · exact .inl ⟨_, hH⟩
      · rcases List.mem_append.mp ha with ha | ha
        · exact .inl (TrsIs.lst_at ts as ls tr a ha)
        · have up : ∀ b ∈ ps, b ∈ A :: (ls.flatten ++ ps) := fun b hb => List.mem_cons_of_mem _ (List.mem_append_right _ hb)
          rcases hps a ha with ⟨xs, e⟩ | ⟨k, e⟩ | ⟨C, dx, fs, e, y⟩ | ⟨x, C, fs, e, y, e2⟩
          · exact .inl ⟨xs, by rw [kps a ha]; exact e⟩
          · exact .inr (.inl ⟨k, by rw [kps a ha]; exact e⟩)
          · exact .inr (.inr (.inl ⟨C, dx, fs, by rw [kps a ha]; exact e, up _ y⟩))
          · exact .inr (.inr (.inr ⟨x, C, fs, by rw [kps a ha]; exact e, up _ y, by rw [kps x y]; exact e2⟩))
    refine fe _ H' (A :: (ls.flatten ++ ps)) _ _ owned (turn i ts hlt p hlen _ _ e1 R2) fun y G2 n2 ⟨t, nt, pt⟩ => ?_
    obtain ⟨l, hl, fr, ee, ndl⟩ := nt
    refine ⟨as, by rw [mrg_in (by simp)]; exact hH, Nat.lt_of_le_of_lt (by rw [(trs_len tr).1, hlen]; omega : as.length ≤ 100000) (by decide), as ++ [y], ts ++ [t], ls ++ [l], upd_same, ?_⟩
    have eF : (ls ++ [l]).flatten = ls.flatten ++ l := by simp
    have lG : ∀ a ∈ l, ∃ u, G2 a = some u := fun a ha => by
      obtain ⟨xs, e⟩ := TrIs.lst_at t y l hl a ha
      exact ⟨_, e⟩
    have lO : ∀ a ∈ l, a ∉ A :: (ls.flatten ++ ps) := fun a ha z => by obtain ⟨u, e⟩ := lG a ha; rw [n2 a z] at e; cases e
    have lA : A ∉ l := fun z => lO A z (by simp)
    have lls : ∀ a ∈ l, a ∉ ls.flatten := fun a ha z => lO a ha (List.mem_cons_of_mem _ (List.mem_append_left _ z))
    have lps : ∀ a ∈ l, a ∉ ps := fun a ha z => lO a ha (List.mem_cons_of_mem _ (List.mem_append_right _ z))
    have nAls : A ∉ ls.flatten := (List.nodup_cons.mp nd).1
    have cc : cut (upd (mrg H' (A :: (ls.flatten ++ ps)) G2) A (.lst (as ++ [y]))) (A :: ((ls ++ [l]).flatten ++ ps)) = cut G2 l := by
      rw [eF]
      funext a
      by_cases z : a = A
      · subst z; rw [cut_in (by simp), cut_out lA, n2 a (by simp)]
      · by_cases y1 : a ∈ ls.flatten ++ ps
        · rw [cut_in (by simp only [List.mem_cons, List.mem_append] at y1 ⊢; rcases y1 with y1 | y1; exact .inr (.inl (.inl y1)); exact .inr (.inr y1))]
          by_cases y2 : a ∈ l
          · rw [cut_in y2]
          · rw [cut_out y2, n2 a (List.mem_cons_of_mem _ y1)]
        · by_cases y2 : a ∈ l
          · rw [cut_in (by simp [y2]), cut_in y2]
          · rw [cut_out (by simp only [List.mem_cons, List.mem_append] at y1 ⊢; rintro (w | (w | w) | w); exact z w; exact y1 (.inl w); exact y2 w; exact y1 (.inr w)), cut_out y2, upd_ne z, mrg_out (by rw [List.mem_cons]; rintro (w | w); exact z w; exact y1 w)]
    rw [cc]
    refine ⟨fun a ha => by rw [upd_ne (by rintro rfl; exact nA ha), mrg_in (List.mem_cons_of_mem _ (List.mem_append_right _ ha))]; exact kps a ha, e1.trans ee, trs_snoc (TrsIs.mono ee ts as ls (fun a ha => ?_) tr) (TrIs.mono (Same.refl _) t y l (fun a ha => ?_) hl), ?_, fun a ha => ?_, by rw [List.length_append, hlen]; rfl, pt⟩
    · rw [upd_ne (by rintro rfl; exact nAls ha), mrg_in (List.mem_cons_of_mem _ (List.mem_append_left _ ha))]
    · rw [upd_ne (by rintro rfl; exact lA ha), mrg_out (lO a ha)]
    · rw [eF]
      refine List.nodup_cons.mpr ⟨by rw [List.mem_append]; rintro (z | z); exact nAls z; exact lA z, List.nodup_append.mpr ⟨(List.nodup_cons.mp nd).2, ndl, fun a ha b hb e => lls b hb (e ▸ ha)⟩⟩
    · rw [eF] at ha
      rcases List.mem_append.mp ha with z | z
      · exact dps a z
      · exact lps a z
  · have e : i = n := by omega
    subst e
    have dA : ∀ a ∈ A :: ls.flatten, a ∉ ps := fun a ha => by
      rcases List.mem_cons.mp ha with rfl | ha
      · exact nA
      · exact dps a ha
    have cc : cut (cut H ps) (A :: ls.flatten) = cut H (A :: (ls.flatten ++ ps)) := by
      funext a
      by_cases z : a ∈ A :: ls.flatten
      · rw [cut_in z, cut_in (by simp only [List.mem_cons, List.mem_append] at z ⊢; rcases z with z | z; exact .inl z; exact .inr (.inl z))]
      · by_cases y : a ∈ ps
        · rw [cut_out z, cut_in y, cut_in (by simp [y])]
        · rw [cut_out z, cut_out y, cut_out (by simp only [List.mem_cons, List.mem_append] at z ⊢; rintro (w | w | w); exact z (.inl w); exact z (.inr w); exact y w)]
    have q := done A (cut H ps) ts ⟨A :: ls.flatten, ⟨A, as, ls, rfl, rfl, by rw [cut_out nA]; exact hH, by rw [cc]; exact TrsIs.mono (Same.refl _) ts as ls (fun a ha => cut_out (dps a ha)) tr⟩, fun a ha => e1.free (cut_in (by
      rcases List.mem_cons.mp ha with rfl | ha
      · simp
      · exact List.mem_cons_of_mem _ (List.mem_append_left _ ha))), by rw [cc]; exact e1, nd⟩ (fun a ha => cut_in ha) hlen p
    rw [mrg_cutH kps] at q
    exact .inl ⟨j2 (Nat.le_refl _), q⟩
theorem wn_lc {x : Str} {elt it : Expr} {sc : Scope} (v : Nat) (hN : X.N.Nodup) {k : Tr → Prop} (h : Wi X H0 it δ (LCT X sc H0 elt δ v fun ts => k (.lst ts))) (hc : X.calm = true) (ok : blkB X.N X.env.scope sc x v = true) (hi : X.N[v]? = some x) (hl : ∀ cl C, (compEnvC sc cl C X.env).scope.names.lookup x = some .local)
    (hs : ∀ x, foldedSetIterable it X.env x = pure x) : WN X H0 (.ListComp elt [⟨.Name x p, it, [], 0⟩] sc pos) δ k := fun σ G R0 => by
  obtain ⟨wi, hpi, fri, hw⟩ := h
  refine toE (pe_lc hc hN (hpi _) (blkB_ok ok) (pgb hN hi hl) (fun _ _ _ _ _ => pts_nil) pe_b hs) (fri_mono fri (hw σ G R0) fun J G1 ⟨e1, n, item, ⟨R, hl, hw, q⟩, g⟩ => ?_)
  refine lct_sem (X := X) (H0 := H0) (n := n) (wv := v) (item := item) (P := fun i ts => ∀ (j : Nat) t, ts[j]? = some t → R j t) (Q := fun v' G' => ∃ t, NewT X.K G v' G' t ∧ k t) (ps := []) fr_bE (fun a ha => by cases ha) (by rw [cut_nil]; exact R0.mono e1) (by rw [cut_nil]; exact g) (fun j t z => by cases z) hl (fun i ts hi p hlen G2 σ' e2 R' s h' C cl fp => ?_) fun A H ts N _ hlen p => ?_
  · refine (hw i hi s h' C cl fp σ' G2 R').mono fun y G3 ⟨t, nt, rt⟩ => ⟨t, nt, fun j u z => ?_⟩
    by_cases hj : j < ts.length
    · rw [List.getElem?_append_left hj] at z
      exact p j u z
    · rw [List.getElem?_append_right (by omega)] at z
      have e0 : j - ts.length = 0 := by
        cases w : j - ts.length with
        | zero => rfl
        | succ m => rw [w] at z; cases z
      rw [e0] at z
      cases z
      have : j = i := by omega
      rw [this]; exact rt
  · rw [show mrg G1 [] H = H from by funext a; exact mrg_out (by simp)]
    rw [cut_nil] at N
    obtain ⟨l, a, b, c, d⟩ := N
    exact ⟨.lst ts, ⟨l, a, fun z hz => e1.free (b z hz), e1.trans c, d⟩, q ts hlen p⟩
end
end DL
set_option Elab.async false
set_option linter.all false
set_option maxRecDepth 100000
set_option maxHeartbeats 2000000
/-! Part o: a write within a tree. -/
namespace DL
open PySem PySem.Spec PyProof.Rows L2
/-- from v down the places π stands the list at q -/
def AtP (H : Hp) : V → List Nat → Addr → Prop
  | v, [], q => v = .ref q
  | v, j :: π, q => ∃ p xs x, v = .ref p ∧ H p = some (.lst xs) ∧ xs[j]? = some x ∧ AtP H x π q
def subAt : List Tr → List Nat → Option (List Tr)
  | ts, [] => some ts
  | ts, j :: π => match ts[j]? with
    | some (.lst us) => subAt us π
    | _ => none
def updAt : List Tr → List Nat → List Tr → List Tr
  | _, [], us => us
  | ts, j :: π, us => match ts[j]? with
    | some (.lst vs) => ts.set j (.lst (updAt vs π us))
    | _ => ts
section
variable {K : PySem.W.Frag} {H H' G G' H0 B : Hp} {v : V} {σ : L2.St} {δ : List S} {own : List (List Addr)}
theorem AtP.mono (e : Ex H H') : ∀ {π : List Nat} {v : V} {q : Addr}, AtP H v π q → AtP H' v π q
  | [], v, q, h => h
  | j :: π, v, q, ⟨p, xs, x, a, b, c, d⟩ => ⟨p, xs, x, a, e _ _ b, c, AtP.mono e d⟩
theorem AtP.snoc {j : Nat} {q' : Addr} {xs : List V} : ∀ {π : List Nat} {v : V} {q : Addr}, AtP H v π q → H q = some (.lst xs) → xs[j]? = some (.ref q') → AtP H v (π ++ [j]) q'
  | [], v, q, h, h1, h2 => ⟨q, xs, .ref q', h, h1, h2, rfl⟩
  | k :: π, v, q, ⟨p, ys, y, a, b, c, d⟩, h1, h2 => ⟨p, ys, y, a, b, c, AtP.snoc d h1 h2⟩
theorem subAt_snoc {j : Nat} {us vs : List Tr} : ∀ {π : List Nat} {ts : List Tr}, subAt ts π = some us → us[j]? = some (.lst vs) → subAt ts (π ++ [j]) = some vs
  | [], ts, h, h2 => by
    cases h
    show (match us[j]? with | some (.lst us) => subAt us [] | _ => none) = _
    rw [h2]; rfl
  | k :: π, ts, h, h2 => by
    show (match ts[k]? with | some (.lst us) => subAt us (π ++ [j]) | _ => none) = _
    have h : (match ts[k]? with | some (.lst us) => subAt us π | _ => none) = some us := h
    cases e : ts[k]? with
    | none => rw [e] at h; cases h
    | some t =>
      rw [e] at h
      cases t with
      | sh d => cases h
      | lst ws => exact subAt_snoc (π := π) h h2
/-- one child -/
theorem trs_get : ∀ {ts : List Tr} {xs : List V} {ls : List (List Addr)} {j : Nat} {t : Tr}, TrsIs K H G ts xs ls → ts[j]? = some t → ∃ x l, xs[j]? = some x ∧ ls[j]? = some l ∧ TrIs K H G t x l
  | [], xs, ls, j, t, h, e => by cases e
  | t :: ts, xs, ls, j, u, h, e => by
    obtain ⟨x, xs', l, ls', rfl, rfl, a, b⟩ := h
    cases j with
    | zero => cases e; exact ⟨x, l, rfl, rfl, a⟩
    | succ j => exact trs_get (ts := ts) (j := j) b e
theorem trs_set {t : Tr} {x : V} {l : List Addr} : ∀ {ts : List Tr} {xs : List V} {ls : List (List Addr)} {j : Nat}, TrsIs K H G ts xs ls → TrIs K H G t x l → TrsIs K H G (ts.set j t) (xs.set j x) (ls.set j l)
  | [], xs, ls, j, h, i => by
    obtain ⟨rfl, rfl⟩ := h
    exact ⟨rfl, rfl⟩
  | t' :: ts, xs, ls, j, h, i => by
    obtain ⟨y, xs', m, ls', rfl, rfl, a, b⟩ := h
    cases j with
    | zero => exact ⟨x, xs', l, ls', rfl, rfl, i, b⟩
    | succ j => exact ⟨y, _, m, _, rfl, rfl, a, trs_set b i⟩
/-- an edit of one child, the others' objects as they are -/
theorem trs_upd {t : Tr} {x : V} {l' : List Addr} : ∀ {ts : List Tr} {xs : List V} {ls : List (List Addr)} {j : Nat} {l : List Addr}, TrsIs K H G ts xs ls → ls[j]? = some l → xs[j]? = some x → ls.flatten.Nodup → (∀ a ∈ ls.flatten, a ∉ l → H' a = H a) → TrIs K H' G t x l' → TrsIs K H' G (ts.set j t) xs (ls.set j l')
  | [], xs, ls, j, l, h, e, _, _, _, _ => by
    obtain ⟨rfl, rfl⟩ := h
    cases e
  | t' :: ts, xs, ls, j, l, h, e, e2, nd, k, i => by
    obtain ⟨y, xs', m, ls', rfl, rfl, a, b⟩ := h
    rw [List.flatten_cons, List.nodup_append] at nd
    cases j with
    | zero =>
      cases e; cases e2
      exact ⟨x, xs', l', ls', rfl, rfl, i, TrsIs.mono (Same.refl _) ts xs' ls' (fun a ha => k a (by rw [List.flatten_cons]; exact List.mem_append_right _ ha) fun z => nd.2.2 a z a ha rfl) b⟩
    | succ j =>
      have hl : ∀ a ∈ l, a ∈ ls'.flatten := fun a ha => mem_flat (i := j) e ha
      exact ⟨y, xs', m, _, rfl, rfl, TrIs.mono (Same.refl _) t' y m (fun a ha => k a (by rw [List.flatten_cons]; exact List.mem_append_left _ ha) fun z => nd.2.2 a ha a (hl a z) rfl) a, trs_upd b e e2 nd.2.1 (fun a ha hn => k a (by rw [List.flatten_cons]; exact List.mem_append_right _ ha) hn) i⟩
/-- THE EDIT: the list at q, reached by π, gets new items -/
theorem tr_edit {xs' : List V} {us' : List Tr} {ls' : List (List Addr)} : ∀ (π : List Nat) {ts us : List Tr} {v : V} {L : List Addr} {q : Addr}, TrIs K H G (.lst ts) v L → L.Nodup → subAt ts π = some us → AtP H v π q →
    q ∈ L ∧ ∃ xs ls, H q = some (.lst xs) ∧ TrsIs K H G us xs ls ∧ ls.flatten.Nodup ∧ q ∉ ls.flatten ∧ (∀ a ∈ ls.flatten, a ∈ L) ∧
      (TrsIs K (upd H q (.lst xs')) G us' xs' ls' → ls'.flatten.Nodup → (∀ a ∈ ls'.flatten, a ≠ q ∧ (a ∈ L → a ∈ ls.flatten)) → ∃ L', TrIs K (upd H q (.lst xs')) G (.lst (updAt ts π us')) v L' ∧ L'.Nodup ∧ ∀ a ∈ L', a ∈ L ∨ a ∈ ls'.flatten)
  | [], ts, us, v, L, q, h, nd, hs, hp => by
    obtain ⟨p, xs, ls, rfl, rfl, hH, tr⟩ := h
    obtain rfl : q = p := by cases hp; rfl
    cases hs
    obtain ⟨n1, n2⟩ := List.nodup_cons.mp nd
    refine ⟨by simp, xs, ls, hH, tr, n2, n1, fun a ha => List.mem_cons_of_mem _ ha, fun h2 nd' k => ⟨q :: ls'.flatten, ⟨q, xs', ls', rfl, rfl, upd_same, h2⟩, List.nodup_cons.mpr ⟨fun z => (k q z).1 rfl, nd'⟩, fun a ha => ?_⟩⟩
    rcases List.mem_cons.mp ha with rfl | ha
    · exact .inl (by simp)
    · exact .inr ha
  | j :: π, ts, us, v, L, q, h, nd, hs, hp => by
    obtain ⟨p, xs, ls, rfl, rfl, hH, tr⟩ := h
    obtain ⟨p', ys, x, e1, e2, e3, hp⟩ := hp
    cases e1
    rw [hH] at e2; cases e2
    have hs : (match ts[j]? with | some (.lst us) => subAt us π | _ => none) = some us := hs
    cases et : ts[j]? with
    | none => rw [et] at hs; cases hs
    | some t =>
      rw [et] at hs
      cases t with
      | sh d => cases hs
      | lst ws =>
        have hs : subAt ws π = some us := hs
        obtain ⟨x', l, f1, f2, tx⟩ := trs_get tr et
        rw [e3] at f1; cases f1
        obtain ⟨n1, n2⟩ := List.nodup_cons.mp nd
        have ndl : l.Nodup := nd_part n2 f2
        have lsub : ∀ a ∈ l, a ∈ ls.flatten := fun a ha => mem_flat f2 ha
        obtain ⟨hq, zs, ms, g1, g2, g3, g4, g5, g6⟩ := tr_edit π tx ndl hs hp
        refine ⟨List.mem_cons_of_mem _ (lsub q hq), zs, ms, g1, g2, g3, g4, fun a ha => List.mem_cons_of_mem _ (lsub a (g5 a ha)), fun h2 nd' k => ?_⟩
        obtain ⟨L', t', nL, sub⟩ := g6 h2 nd' fun a ha => ⟨(k a ha).1, fun z => (k a ha).2 (List.mem_cons_of_mem _ (lsub a z))⟩
        have pq : p ≠ q := fun e => n1 (e ▸ lsub q hq)
        have apart : ∀ a ∈ L', a ∉ (ls.set j []).flatten := fun a ha z => by
          have pm := flat_set_perm f2
          have ndp := pm.nodup n2
          rw [List.nodup_append] at ndp
          rcases sub a ha with y | y
          · exact ndp.2.2 a z a y rfl
          · have w := (k a y).2 (List.mem_cons_of_mem _ (pm.mem_iff.mpr (List.mem_append_left _ z)))
            exact ndp.2.2 a z a (g5 a w) rfl
        have eu : updAt ts (j :: π) us' = ts.set j (.lst (updAt ws π us')) := by
          show (match ts[j]? with | some (.lst vs) => ts.set j (.lst (updAt vs π us')) | _ => ts) = _
          rw [et]
        rw [eu]
        have pm2 : (ls.set j L').flatten.Perm ((ls.set j []).flatten ++ L') := by
          have f3 : (ls.set j L')[j]? = some L' := List.getElem?_set_self (List.getElem?_eq_some_iff.mp f2).1
          have := flat_set_perm f3
          rw [List.set_set] at this
          exact this
        refine ⟨p :: (ls.set j L').flatten, ⟨p, xs, ls.set j L', rfl, rfl, by rw [upd_ne pq]; exact hH, trs_upd tr f2 e3 n2 (fun a ha hn => upd_ne fun e => hn (e ▸ hq)) t'⟩, ?_, fun a ha => ?_⟩
        · refine List.nodup_cons.mpr ⟨fun z => ?_, pm2.symm.nodup (List.nodup_append.mpr ⟨?_, nL, fun a ha b hb e => apart b hb (e ▸ ha)⟩)⟩
          · rcases List.mem_append.mp (pm2.mem_iff.mp z) with z | z
            · exact n1 ((flat_set_perm f2).mem_iff.mpr (List.mem_append_left _ z))
            · rcases sub p z with y | y
              · exact n1 (lsub p y)
              · exact n1 (lsub p (g5 p ((k p y).2 (by simp))))
          · have := (flat_set_perm f2).nodup n2
            exact (List.nodup_append.mp this).1
        · rcases List.mem_cons.mp ha with rfl | ha
          · exact .inl (by simp)
          · rcases List.mem_append.mp (pm2.mem_iff.mp ha) with z | z
            · exact .inl (List.mem_cons_of_mem _ ((flat_set_perm f2).mem_iff.mpr (List.mem_append_left _ z)))
            · rcases sub a z with y | y
              · exact .inl (List.mem_cons_of_mem _ (lsub a y))
              · exact .inr y
end
end DL
set_option Elab.async false
set_option linter.all false
set_option maxRecDepth 100000
set_option maxHeartbeats 2000000
/-! Part p: statements with trees. -/
namespace DL
open PySem PySem.Spec PyProof.Rows L2
/-! the same items: the same objects -/
mutual
theorem tr_addr {K : PySem.W.Frag} {H G : Hp} : ∀ (t : Tr) {v : V} {l l' : List Addr}, TrIs K H G t v l → TrIs K H G t v l' → l = l'
  | .sh d, v, l, l', h, h' => by rw [h.1, h'.1]
  | .lst ts, v, l, l', h, h' => by
    obtain ⟨p, xs, ls, rfl, rfl, hp, tr⟩ := h
    obtain ⟨p', xs', ls', e, rfl, hp', tr'⟩ := h'
    cases e
    rw [hp] at hp'; cases hp'
    rw [trs_addrs ts tr tr']
theorem trs_addrs {K : PySem.W.Frag} {H G : Hp} : ∀ (ts : List Tr) {xs : List V} {ls ls' : List (List Addr)}, TrsIs K H G ts xs ls → TrsIs K H G ts xs ls' → ls = ls'
  | [], xs, ls, ls', h, h' => by rw [h.2, h'.2]
  | t :: ts, xs, ls, ls', h, h' => by
    obtain ⟨x, xs', l, r, rfl, rfl, a, b⟩ := h
    obtain ⟨x', xs'', l', r', e, rfl, a', b'⟩ := h'
    cases e
    rw [tr_addr t a a', trs_addrs ts b b']
end
theorem trs_addr {K : PySem.W.Frag} {H G : Hp} {ts : List Tr} {xs : List V} {ls ls' : List (List Addr)} {a : Addr} (h : TrsIs K H G ts xs ls) (h' : TrsIs K H G ts xs ls') (m : a ∈ ls.flatten) : a ∈ ls'.flatten := by
  rw [← trs_addrs ts h h']; exact m
section
variable {K : PySem.W.Frag} {H H' G G' H0 B : Hp} {v w : V} {t : Tr} {l : List Addr} {σ : L2.St} {δ δ' : List S} {own : List (List Addr)}
theorem RT.grow {vs : List V} {ts : List Tr} {ls : List (List Addr)} (R : RT K B σ H δ own vs ts ls) (e : Ex H H') : RT K B σ H' δ own vs ts ls := by
  have same : ∀ a ∈ own.flatten ++ ls.flatten, H' a = H a := fun a ha => by
    obtain ⟨o, ho⟩ := (R.owned a ha).some
    rw [ho, e a o ho]
  exact ⟨R.ex.trans (cut_mono e), R.len1, R.len2, fun i s x m h1 h2 h3 => (R.sl i s x m h1 h2 h3).mono (cut_mono e) fun a ha => same a (List.mem_append_left _ (mem_flat h3 ha)), TrsIs.mono (cut_mono e) ts vs ls (fun a ha => same a (List.mem_append_right _ ha)) R.tr, R.nd⟩
theorem RT.edit0 {i : Nat} {ts0 us us' : List Tr} {π : List Nat} {root : V} {q : Addr} {xs' : List V} (R : RT K B σ H δ own [w] [t] [l]) (hi : δ[i]? = some (.ow (.tr ts0))) (hr : σ[i]? = some (some root)) (hs : subAt ts0 π = some us) (hp : AtP H root π q)
    (hn : ∀ xs ls, H q = some (.lst xs) → TrsIs K H (cut H (own.flatten ++ l)) us xs ls → TrIs K H (cut H (own.flatten ++ l)) t w l → ls.flatten.Nodup → q ∉ ls.flatten → l.Nodup → q ∉ l → (∀ a ∈ l, a ∉ ls.flatten) →
      ∃ ls', TrsIs K (upd H q (.lst xs')) (cut H (own.flatten ++ l)) us' xs' ls' ∧ ls'.flatten.Nodup ∧ ∀ a ∈ ls'.flatten, a ∈ ls.flatten ∨ a ∈ l) :
    ∃ own', Rel K B σ (upd H q (.lst xs')) (δ.set i (.ow (.tr (updAt ts0 π us')))) own' := by
  have el : ([l] : List (List Addr)).flatten = l := by simp
  have ex := R.ex
  have nd := R.nd
  have tr := R.tr
  rw [el] at ex nd tr
  obtain ⟨y, ys', m, ms', e1, e2, tw, _, _⟩ := tr
  cases e1; cases e2
  rw [List.nodup_append] at nd
  obtain ⟨x0, L, g1, g2, root', e3, tx⟩ := R.idx hi
  rw [hr] at g1; cases g1
  cases e3
  rw [el] at tx
  have ndL : L.Nodup := nd_part nd.1 g2
  have Lsub : ∀ a ∈ L, a ∈ own.flatten := fun a ha => mem_flat g2 ha
  obtain ⟨hq, xs, ls, f1, f2, f3, f4, f5, -⟩ := tr_edit (xs' := xs') (us' := us') (ls' := []) π tx ndL hs hp
  have ql : q ∉ l := fun z => nd.2.2 q (Lsub q hq) q z rfl
  have dl : ∀ a ∈ l, a ∉ ls.flatten := fun a ha z => nd.2.2 a (Lsub a (f5 a z)) a ha rfl
  obtain ⟨ls', t1, t2, t3⟩ := hn xs ls f1 f2 tw f3 f4 nd.2.1 ql dl
  obtain ⟨_, xs2, ls2, f1', f2', f3', f4', f5', f6⟩ := tr_edit (xs' := xs') (us' := us') (ls' := ls') π tx ndL hs hp
  obtain ⟨L', h1, h2, h3⟩ := f6 t1 t2 fun a ha => by
    rcases t3 a ha with z | z
    · refine ⟨fun e => f4 (e ▸ z), fun _ => ?_⟩
      rw [f1] at f1'; cases f1'
      exact trs_addr f2 f2' z
    · exact ⟨fun e => ql (e ▸ z), fun y => absurd rfl (nd.2.2 a (Lsub a y) a z)⟩
  have pm := flat_set_perm g2
  have ndp := pm.nodup nd.1
  rw [List.nodup_append] at ndp
  have sub : ∀ a ∈ L', a ∈ L ∨ a ∈ l := fun a ha => by
    rcases h3 a ha with z | z
    · exact .inl z
    · rcases t3 a z with y | y
      · exact .inl (f5 a y)
      · exact .inr y
  have apart : ∀ a ∈ L', a ∉ (own.set i []).flatten := fun a ha z => by
    rcases sub a ha with y | y
    · exact ndp.2.2 a z a y rfl
    · exact nd.2.2 a (pm.mem_iff.mpr (List.mem_append_left _ z)) a y rfl
  have eset : (own.set i []).set i L' = own.set i L' := by rw [List.set_set]
  have newO : ∀ a ∈ (own.set i L').flatten, a ∈ own.flatten ++ l := fun a ha => by
    rcases flat_set_sub ha with z | z
    · exact List.mem_append_left _ z
    · rcases sub a z with y | y
      · exact List.mem_append_left _ (Lsub a y)
      · exact List.mem_append_right _ y
  have e : Ex (cut H (own.flatten ++ l)) (cut (upd H q (.lst xs')) (own.set i L').flatten) := fun a u z => by
    obtain ⟨n1, n2⟩ := cut_some z
    rw [cut_out fun y => n1 (newO a y), upd_ne fun y => n1 (by rw [y]; exact List.mem_append_left _ (Lsub q hq))]
    exact n2
  refine ⟨own.set i L', ex.trans e, by simp [R.len1], by simp [R.len2], fun j s x m k1 k2 k3 => ?_, ?_⟩
  · rcases set_get k1 with ⟨rfl, rfl⟩ | ⟨n1, k1⟩
    · rcases set_get k3 with ⟨_, rfl⟩ | ⟨n3, _⟩
      · rw [hr] at k2; cases k2
        exact ⟨root, rfl, TrIs.mono e _ root _ (fun _ _ => rfl) h1⟩
      · exact absurd rfl n3
    · rcases set_get k3 with ⟨e3, _⟩ | ⟨_, k3⟩
      · exact absurd e3 n1
      · have q3 := R.sl j s x m k1 k2 k3
        rw [el] at q3
        exact q3.mono e fun a ha => upd_ne fun z => nd_apart nd.1 g2 k3 n1 hq (z ▸ ha)
  · rw [← eset]
    exact flat_set_nd ndp.1 h2 apart
theorem RT.node {i : Nat} {ts0 us : List Tr} {π : List Nat} {root : V} {q : Addr} {vs : List V} {ts : List Tr} {ls0 : List (List Addr)} (R : RT K B σ H δ own vs ts ls0) (hi : δ[i]? = some (.ow (.tr ts0))) (hr : σ[i]? = some (some root)) (hs : subAt ts0 π = some us) (hp : AtP H root π q) :
    ∃ xs, H q = some (.lst xs) ∧ xs.length = us.length := by
  obtain ⟨x0, L, g1, g2, root', e3, tx⟩ := R.idx hi
  rw [hr] at g1; cases g1
  cases e3
  obtain ⟨hq, xs, ls, f1, f2, -⟩ := tr_edit (xs' := []) (us' := []) (ls' := []) π tx (nd_part (List.nodup_append.mp R.nd).1 g2) hs hp
  exact ⟨xs, f1, (trs_len f2).1⟩
/-- a child more -/
theorem RT.editApp {i : Nat} {ts0 us : List Tr} {π : List Nat} {root : V} {q : Addr} (R : RT K B σ H δ own [w] [t] [l]) (hi : δ[i]? = some (.ow (.tr ts0))) (hr : σ[i]? = some (some root)) (hs : subAt ts0 π = some us) (hp : AtP H root π q) :
    ∃ xs, H q = some (.lst xs) ∧ xs.length = us.length ∧ ∃ own', Rel K B σ (upd H q (.lst (xs ++ [w]))) (δ.set i (.ow (.tr (updAt ts0 π (us ++ [t]))))) own' := by
  obtain ⟨xs, hq, hl⟩ := R.node hi hr hs hp
  refine ⟨xs, hq, hl, R.edit0 hi hr hs hp fun xs1 ls h1 tr tw nd1 nq ndl ql dl => ⟨ls ++ [l], ?_, ?_, ?_⟩⟩
  · rw [hq] at h1; cases h1
    exact trs_snoc (TrsIs.mono (Same.refl _) us xs ls (fun a ha => upd_ne fun e => nq (e ▸ ha)) tr) (TrIs.mono (Same.refl _) t w l (fun a ha => upd_ne fun e => ql (e ▸ ha)) tw)
  · rw [show (ls ++ [l]).flatten = ls.flatten ++ l by simp]
    exact List.nodup_append.mpr ⟨nd1, ndl, fun a ha b hb e => dl b hb (e ▸ ha)⟩
  · intro a ha
    rw [show (ls ++ [l]).flatten = ls.flatten ++ l by simp] at ha
    exact List.mem_append.mp ha
/-- another child at j -/
theorem RT.editSet {i j : Nat} {ts0 us : List Tr} {π : List Nat} {root : V} {q : Addr} (R : RT K B σ H δ own [w] [t] [l]) (hi : δ[i]? = some (.ow (.tr ts0))) (hr : σ[i]? = some (some root)) (hs : subAt ts0 π = some us) (hp : AtP H root π q) :
    ∃ xs, H q = some (.lst xs) ∧ xs.length = us.length ∧ ∃ own', Rel K B σ (upd H q (.lst (xs.set j w))) (δ.set i (.ow (.tr (updAt ts0 π (us.set j t))))) own' := by
  obtain ⟨xs, hq, hl⟩ := R.node hi hr hs hp
  refine ⟨xs, hq, hl, R.edit0 hi hr hs hp fun xs1 ls h1 tr tw nd1 nq ndl ql dl => ⟨ls.set j l, ?_, flat_set_nd nd1 ndl dl, fun a ha => flat_set_sub ha⟩⟩
  rw [hq] at h1; cases h1
  exact trs_set (TrsIs.mono (Same.refl _) us xs ls (fun a ha => upd_ne fun e => nq (e ▸ ha)) tr) (TrIs.mono (Same.refl _) t w l (fun a ha => upd_ne fun e => ql (e ▸ ha)) tw)
end
end DL
set_option Elab.async false
set_option linter.all false
set_option maxRecDepth 100000
set_option maxHeartbeats 2000000
/-! The deep machine, part a: a small language of resolved defs, and what each of its texts asks for (a weakest precondition over data). -/
namespace DL
open PySem PySem.Spec PyProof.Rows L2
inductive Bop where
  | add | sub | mul | div | mod | pow
  deriving DecidableEq
inductive Cop where
  | eq | ne | lt | le | gt | ge | is | isnot
  deriving DecidableEq
inductive Ty where
  | int | bool | str | list | tuple
  deriving DecidableEq
inductive Bf where
  | len | int | abs | tuple | list | sum | max | min | gcd | lcm
  deriving DecidableEq
mutual
/-- an expression; names are slots, defs stand by their number -/
inductive Xe where
  | var (i : Nat) | int (i : Int) | bl (b : Bool) | non | str (s : Str)
  | bin (o : Bop) (a b : Xe) | rep (a b : Xe) | neg (a : Xe) | not (a : Xe) | cmp (o : Cop) (a b : Xe)
  | and (as : Xl) | or (as : Xl) | ite (c a b : Xe) | itu (c a b : Xe)
  | ix (a b : Xe) | ixn (a : Xe) (n : Nat)
  | tup (as : Xl) | lst (as : Xl)
  | call (i : Nat) (as : Xl) | bi (f : Bf) (as : Xl) | isi (a : Xe) (t : Ty)
  | lc (v : Nat) (elt : Xe) (it : Xi) | lcf (v : Nat) (elt : Xe) (it : Xi) (c : Xe)
inductive Xl where
  | nil | cons (a : Xe) (as : Xl)
inductive Xi where
  | rng (a : Xe) | rng2 (a b : Xe) | sq (a : Xe)
end
def Xl.none_ : Xl → Bool
  | .nil => true
  | .cons .. => false
/-! ### what operations ask, by data -/
def binD : Bop → D → D → (S → Prop) → Prop
  | .add, .int i, .int j, k => k (.sh (.int (i + j)))
  | .add, .sq true xs, .sq true ys, k => xs.length + ys.length ≤ 100000 ∧ k (.ow (.lst (xs ++ ys)))
  | .sub, .int i, .int j, k => k (.sh (.int (i - j)))
  | .mul, .int i, .int j, k => CMulW i j ∧ k (.sh (.int (i * j)))
  | .div, .int i, .int j, k => (CDivW i j ∧ k (.sh (.int (i / j)))) ∨ (CDivX i j ∧ k (.sh (.int (i.fdiv j))))
  | .mod, .int i, .int j, k => 0 < j ∧ k (.sh (.int (i % j)))
  | .pow, .int i, .int j, k => (0 ≤ j ∧ j ≤ 1000000 ∧ i.natAbs < 2 ^ 64) ∧ k (.sh (.int (i ^ j.toNat)))
  | _, _, _, _ => False
def repD : S → D → (S → Prop) → Prop
  | .ow (.lst xs), .int n, k => (-1000000 ≤ n ∧ n ≤ 1000000 ∧ xs.length * n.toNat ≤ 100000) ∧ k (.ow (.lst (List.replicate n.toNat xs).flatten))
  | _, _, _ => False
def negD : D → (S → Prop) → Prop
  | .int i, k => k (.sh (.int (-i)))
  | _, _ => False
/-- == of two things: ints, texts, bools; else plain data -/
def eqD : D → D → (Bool → Prop) → Prop
  | .int i, .int j, k => k (decide (i = j))
  | .bl i, .bl j, k => k (decide (i = j))
  | .str i, .str j, k => k (decide (i = j))
  | x, y, k => (plB 60 x = true ∧ plB 60 y = true) ∧ ∀ b : Bool, (b = true ↔ x = y) → k b
def eqT : D → D → Prop → Prop → Prop
  | .int i, .int j, y, n => (i = j → y) ∧ (i ≠ j → n)
  | .bl i, .bl j, y, n => (i = j → y) ∧ (i ≠ j → n)
  | .str i, .str j, y, n => (i = j → y) ∧ (i ≠ j → n)
  | a, b, y, n => (plB 60 a = true ∧ plB 60 b = true) ∧ (a = b → y) ∧ (a ≠ b → n)
def cmpB : Cop → D → D → (Bool → Prop) → Prop
  | .eq, x, y, k => eqD x y k
  | .ne, x, y, k => eqD x y fun b => k (!b)
  | .lt, .int i, .int j, k => k (decide (i < j))
  | .le, .int i, .int j, k => k (decide (i ≤ j))
  | .gt, .int i, .int j, k => k (decide (j < i))
  | .ge, .int i, .int j, k => k (decide (j ≤ i))
  | .is, x, .non, k => k (isNon x)
  | .isnot, x, .non, k => k (!isNon x)
  | _, _, _, _ => False
def cmpT : Cop → D → D → Prop → Prop → Prop
  | .eq, x, y, a, b => eqT x y a b
  | .ne, x, y, a, b => eqT x y b a
  | .lt, .int i, .int j, a, b => (i < j → a) ∧ (¬ i < j → b)
  | .le, .int i, .int j, a, b => (i ≤ j → a) ∧ (¬ i ≤ j → b)
  | .gt, .int i, .int j, a, b => (j < i → a) ∧ (¬ j < i → b)
  | .ge, .int i, .int j, a, b => (j ≤ i → a) ∧ (¬ j ≤ i → b)
  | .is, x, .non, a, b => match isNon x with | true => a | false => b
  | .isnot, x, .non, a, b => match isNon x with | true => b | false => a
  | _, _, _, _, _ => False
/-- the truth of a value -/
def truT : D → Prop → Prop → Prop
  | .bl b, y, n => (b = true → y) ∧ (b = false → n)
  | .int i, y, n => (i ≠ 0 → y) ∧ (i = 0 → n)
  | .sq _ xs, y, n => (xs ≠ [] → y) ∧ (xs = [] → n)
  | .non, _, n => n
  | _, _, _ => False
def ixD : D → D → (D → Prop) → Prop
  | .sq _ ds, .int i, k => ∃ d, atI ds i = some d ∧ k d
  | .scr ns, .int i, k => ∃ n, atI ns i = some n ∧ k (.int n)
  | _, _, _ => False
/-- at a written place from the left -/
def ixN' : D → Nat → (D → Prop) → Prop
  | .sq _ ds, n, k => match ds[n]? with
    | some d => k d
    | none => False
  | _, _, _ => False
def isiD : D → Ty → Option Bool
  | .int _, .int => some true | .int _, _ => some false
  | .bl _, .int => some true | .bl _, .bool => some true | .bl _, _ => some false
  | .str _, .str => some true | .str _, _ => some false
  | .sq true _, .list => some true | .sq true _, _ => some false
  | .sq false _, .tuple => some true | .sq false _, _ => some false
  | .non, _ => some false
  | _, _ => none
structure SumW (xs : List D) (k : Int → Prop) : Prop where
  ex : ∃ ns : List Int, xs = ns.map .int ∧ k ns.sum
def bfD : Bf → List D → (S → Prop) → Prop
  | .len, [.sq _ xs], k => k (.sh (.int (xs.length : Int)))
  | .len, [.scr ns], k => k (.sh (.int (ns.length : Int)))
  | .int, [.int i], k => k (.sh (.int i))
  | .int, [.bl b], k => k (.sh (.int (if b then 1 else 0)))
  | .abs, [.int i], k => k (.sh (.int (i.natAbs : Int)))
  | .tuple, [.sq _ xs], k => k (.sh (.sq false xs))
  | .list, [.sq _ xs], k => k (.ow (.lst xs))
  | .sum, [.sq true xs], k => SumW xs fun i => k (.sh (.int i))
  | .max, [.int i, .int j], k => k (.sh (.int (if j > i then j else i)))
  | .min, [.int i, .int j], k => k (.sh (.int (if j < i then j else i)))
  | .gcd, [.int i, .int j], k => k (.sh (.int ((Nat.gcd i.natAbs j.natAbs : Nat) : Int)))
  | .lcm, [.int i, .int j], k => (Bd 13000 i ∧ Bd 13000 j) ∧ k (.sh (.int ((Nat.lcm i.natAbs j.natAbs : Nat) : Int)))
  | _, _, _ => False
/-- a comprehension: what each item becomes -/
structure LcW (n : Nat) (item : Nat → D) (body : D → (D → Prop) → Prop) (k : List D → Prop) : Prop where
  ex : ∃ R : Nat → D → Prop, n ≤ 100000 ∧ (∀ i, i < n → body (item i) (R i)) ∧ ∀ es, EachN R n es → k es
structure LcfW (n : Nat) (item : Nat → D) (test : D → (Bool → Prop) → Prop) (body : D → (D → Prop) → Prop) (k : List D → Prop) : Prop where
  ex : ∃ (t : D → Bool) (g : D → D), n ≤ 100000 ∧ (∀ i, i < n → test (item i) fun b => b = t (item i) ∧ (b = true → body (item i) fun e => e = g (item i))) ∧ k ((((List.range n).map item).filter t).map g)
/-- a call: the def's promise -/
structure CallW (T : DSp) (ds : List D) (k : S → Prop) (x : XD) : Prop where
  ex : T ds k x
def noX : XD := fun _ _ => False
/-- two ways that meet: what is known of the value behind them -/
structure UpW (p : (S → Prop) → Prop) (k : S → Prop) : Prop where
  ex : ∃ M : S → Prop, p M ∧ ∀ r, M r → k r
/-- what is wanted of an expression: of its value; as a test, both ways -/
inductive Cn where
  | e (k : S → Prop) | t (y n : Prop)
def Cn.fn : Cn → S → Prop
  | .e k => k
  | .t y n => fun r => truT r.d y n
/-- of several: their values; joined by and, by or -/
inductive Cl where
  | a (k : List D → Prop) | and (c : Cn) | or (c : Cn)
def blK : D → Prop → Prop → Prop
  | .bl r, y, n => (r = true → y) ∧ (r = false → n)
  | _, _, _ => False
def rngI (m n : Int) (k : Nat → (Nat → D) → Prop) : Prop := (-(2 ^ 62) ≤ m ∧ m < 2 ^ 62 ∧ -(2 ^ 62) ≤ n ∧ n < 2 ^ 62) ∧ k (n - m).toNat (fun i => .int (m + (i : Int)))
def notD : D → (S → Prop) → Prop
  | .bl b, k => k (.sh (.bl (!b)))
  | _, _ => False
def isiT : Option Bool → Cn → Prop
  | some b, .e k => k (.sh (.bl b))
  | some true, .t y _ => y
  | some false, .t _ n => n
  | none, _ => False
def varD : Option S → (S → Prop) → Prop
  | some (.sh d), k => k (.sh d)
  | _, _ => False
def rng1 : D → (Nat → (Nat → D) → Prop) → Prop
  | .int n, k => (-(2 ^ 62) ≤ n ∧ n < 2 ^ 62) ∧ k n.toNat (fun i => .int (i : Int))
  | _, _ => False
def rng2D : D → D → (Nat → (Nat → D) → Prop) → Prop
  | .int m, .int n, k => rngI m n k
  | _, _, _ => False
def seqD : D → (Nat → (Nat → D) → Prop) → Prop
  | .sq _ ds, k => k ds.length (fun i => ds.getD i .non)
  | .scr ns, k => k ns.length (fun i => .int (ns.getD i 0))
  | _, _ => False
def callD : Option DSp → List D → (S → Prop) → XD → Prop
  | some T, ds, k, x => CallW T ds k x
  | none, _, _, _ => False
mutual
def wpe (Γ : List DSp) : Xe → List S → XD → Cn → Prop
  | .var i, δ, _, c => varD δ[i]? c.fn
  | .int i, _, _, c => c.fn (.sh (.int i))
  | .bl b, _, _, c => c.fn (.sh (.bl b))
  | .non, _, _, c => c.fn (.sh .non)
  | .str s, _, _, c => c.fn (.sh (.str s))
  | .bin o a b, δ, x, c => wpe Γ a δ x (.e fun r => wpe Γ b δ x (.e fun q => binD o r.d q.d c.fn))
  | .rep a b, δ, x, c => wpe Γ a δ x (.e fun r => wpe Γ b δ x (.e fun q => repD r q.d c.fn))
  | .neg a, δ, x, c => wpe Γ a δ x (.e fun r => negD r.d c.fn)
  | .not a, δ, x, c => match c with
    | .e k => wpe Γ a δ x (.e fun r => notD r.d k)
    | .t y n => wpe Γ a δ x (.t n y)
  | .cmp o a b, δ, x, c => match c with
    | .e k => wpe Γ a δ x (.e fun r => wpe Γ b δ x (.e fun q => cmpB o r.d q.d fun c => k (.sh (.bl c))))
    | .t y n => wpe Γ a δ x (.e fun r => wpe Γ b δ x (.e fun q => cmpT o r.d q.d y n))
  | .and as, δ, x, c => wpl Γ as δ x (.and c)
  | .or as, δ, x, c => wpl Γ as δ x (.or c)
  | .ite t a b, δ, x, c => match c with
    | .e k => wpe Γ t δ x (.t (wpe Γ a δ x (.e k)) (wpe Γ b δ x (.e k)))
    | .t _ _ => False
  | .itu t a b, δ, x, c => match c with
    | .e k => UpW (fun M => wpe Γ t δ x (.t (wpe Γ a δ x (.e M)) (wpe Γ b δ x (.e M)))) k
    | .t _ _ => False
  | .ix a b, δ, x, c => wpe Γ a δ x (.e fun r => wpe Γ b δ x (.e fun q => ixD r.d q.d fun d => c.fn (.sh d)))
  | .ixn a n, δ, x, c => wpe Γ a δ x (.e fun r => ixN' r.d n fun d => c.fn (.sh d))
  | .tup as, δ, x, c => wpl Γ as δ x (.a fun ds => c.fn (.sh (.sq false ds)))
  | .lst as, δ, x, c => wpl Γ as δ x (.a fun ds => c.fn (.ow (.lst ds)))
  | .call i as, δ, x, c => wpl Γ as δ x (.a fun ds => callD Γ[i]? ds c.fn x)
  | .bi f as, δ, x, c => wpl Γ as δ x (.a fun ds => bfD f ds c.fn)
  | .isi a t, δ, x, c => wpe Γ a δ x (.e fun r => isiT (isiD r.d t) c)
  | .lc v elt it, δ, x, c => wpi Γ it δ x fun n item => LcW n item (fun d q => wpe Γ elt (δ.set v (.sh d)) noX (.e fun r => q r.d)) fun es => c.fn (.ow (.lst es))
  | .lcf v elt it t, δ, x, c => wpi Γ it δ x fun n item => LcfW n item (fun d q => wpe Γ t (δ.set v (.sh d)) noX (.t (q true) (q false))) (fun d q => wpe Γ elt (δ.set v (.sh d)) noX (.e fun r => q r.d)) fun es => c.fn (.ow (.lst es))
def wpl (Γ : List DSp) : Xl → List S → XD → Cl → Prop
  | .nil, _, _, c => match c with
    | .a k => k []
    | _ => False
  | .cons a as, δ, x, c => match c with
    | .a k => wpe Γ a δ x (.e fun r => wpl Γ as δ x (.a fun ds => k (r.d :: ds)))
    | .and c => match as.none_ with
      | true => wpe Γ a δ x c
      | false => match c with
        | .e k => wpe Γ a δ x (.e fun r => blK r.d (wpl Γ as δ x (.and (.e k))) (k (.sh (.bl false))))
        | .t y n => wpe Γ a δ x (.t (wpl Γ as δ x (.and (.t y n))) n)
    | .or c => match as.none_ with
      | true => wpe Γ a δ x c
      | false => match c with
        | .e k => wpe Γ a δ x (.e fun r => blK r.d (k (.sh (.bl true))) (wpl Γ as δ x (.or (.e k))))
        | .t y n => wpe Γ a δ x (.t y (wpl Γ as δ x (.or (.t y n))))
def wpi (Γ : List DSp) : Xi → List S → XD → (Nat → (Nat → D) → Prop) → Prop
  | .rng a, δ, x, k => wpe Γ a δ x (.e fun r => rng1 r.d k)
  | .rng2 a b, δ, x, k => wpe Γ a δ x (.e fun r => wpe Γ b δ x (.e fun q => rng2D r.d q.d k))
  | .sq a, δ, x, k => wpe Γ a δ x (.e fun r => seqD r.d k)
end
/-! ### statements -/
inductive Xt where
  | nm (i : Nat) | tup (is : List Nat)
def isComp : Xe → Bool
  | .lc .. => true
  | .lcf .. => true
  | _ => false
mutual
inductive Xs where
  | set (i : Nat) (own : Bool) (bs : List Nat) (e : Xe)
  | setIx (i j : Nat) (e : Xe)
  | asg (t : Xt) (bs : List Nat) (e : Xe)
  | ite (bs : List Nat) (c : Xe) (t e : Xb)
  | itj (dd bs : List Nat) (c : Xe) (t e : Xb)
  | ret (bs : List Nat) (e : Xe) | retO (i : Nat) | retN
  | app (i : Nat) (bs : List Nat) (e : Xe)
  | sti (i : Nat) (bs : List Nat) (e ix : Xe)
  | expr (bs : List Nat) (e : Xe)
  | for_ (dd bs : List Nat) (t : Xt) (it : Xi) (body : Xb)
  | whl (dd bs : List Nat) (c : Xe) (body : Xb)
  | brk | cnt | pass
inductive Xb where
  | nil | cons (s : Xs) (r : Xb)
end
/-- where a text ends: behind it, by return, by break, by continue; what may be raised -/
structure Ed where
  nx : List S → Prop
  rt : S → Prop
  bk : List S → Prop
  ct : List S → Prop
  xw : List S → XD
/-- slots lent for good -/
def bor1 (i : Nat) (δ : List S) : List S := match δ[i]? with
  | some (.ow o) => δ.set i (.sh o.d)
  | _ => δ
def bor : List Nat → List S → List S
  | [], δ => δ
  | i :: is, δ => bor is (bor1 i δ)
/-- slots forgotten -/
def drp : List Nat → List S → List S
  | [], δ => δ
  | i :: is, δ => drp is (δ.set i .no)
def SafeR : S → Prop
  | .no => False
  | .sh d => FlatN d
  | .ow (.lst ds) => ∀ d ∈ ds, FlatN d
  | .ow _ => False
def S.un : S → S
  | .no => .no
  | s => .sh s.d
/-- a value comes into a slot: as it is (own), or to be read alone -/
def putS (own : Bool) (r : S) : S := match own with
  | true => r
  | false => r.un
/-- the value was made while the slots bs were lent -/
structure KeepW (bs : List Nat) (r : S) (δ : List S) (k : List S → Prop) : Prop where
  ex : (SafeR r ∧ k δ) ∨ k (bor bs δ)
def keepW (bs : List Nat) (r : S) (δ : List S) (k : List S → Prop) : Prop := match bs with
  | [] => k δ
  | bs => KeepW bs r δ k
def setAll : List Nat → List D → List S → (List S → Prop) → Prop
  | [], [], δ, k => k δ
  | i :: is, d :: ds, δ, k => setAll is ds (δ.set i (.sh d)) k
  | _, _, _, _ => False
def wpt : Xt → D → List S → (List S → Prop) → Prop
  | .nm i, d, δ, k => k (δ.set i (.sh d))
  | .tup is, .sq false ds, δ, k => setAll is ds δ k
  | _, _, _, _ => False
structure ForW (n : Nat) (item : Nat → D) (dd : List Nat) (tg : D → List S → (List S → Prop) → Prop) (body : List S → Ed → Prop) (δ : List S) (E : Ed) : Prop where
  ex : ∃ Iv : Nat → List S → Prop, Iv 0 (drp dd δ) ∧ (∀ i δ1, i < n → Iv i δ1 → tg (item i) δ1 fun δ2 => body δ2 ⟨fun δ => Iv (i + 1) (drp dd δ), E.rt, E.nx, fun δ => Iv (i + 1) (drp dd δ), E.xw⟩) ∧ ∀ δ1, Iv n δ1 → E.nx δ1
structure WhlW (dd bs : List Nat) (test : List S → XD → Prop → Prop → Prop) (body : List S → Ed → Prop) (δ : List S) (E : Ed) : Prop where
  ex : ∃ (Iv : Nat → List S → Prop) (m0 : Nat), Iv m0 (drp dd δ) ∧ ∀ m δ1, Iv m δ1 → test (bor bs δ1) (E.xw (bor bs δ1)) (body δ1 ⟨fun δ => ∃ m', m' < m ∧ Iv m' (drp dd δ), E.rt, E.nx, fun δ => ∃ m', m' < m ∧ Iv m' (drp dd δ), E.xw⟩) (E.nx δ1)
structure JoinW (p : (List S → Prop) → Prop) (q : List S → Prop) : Prop where
  ex : ∃ M : List S → Prop, p M ∧ ∀ δ, M δ → q δ
def appD (i : Nat) (d : D) (δ : List S) (k : List S → Prop) : Prop := match δ[i]? with
  | some (.ow (.lst ds)) => ds.length < 100000 ∧ k (δ.set i (.ow (.lst (ds ++ [d]))))
  | _ => False
def stiD (i : Nat) (ds : List D) (d : D) (q : D) (δ : List S) (k : List S → Prop) : Prop := match q with
  | .int n => ∃ j : Nat, n = j ∧ j < ds.length ∧ k (δ.set i (.ow (.lst (ds.set j d))))
  | _ => False
def owL : Option S → (List D → Prop) → Prop
  | some (.ow (.lst ds)), k => k ds
  | _, _ => False
def retD (bs : List Nat) (r : S) (k : S → Prop) : Prop := match bs with
  | [] => k r
  | _ => k r.un
def retV : Option S → (S → Prop) → Prop
  | some (.ow o), k => k (.ow o)
  | some (.sh d), k => k (.sh d)
  | _, _ => False
mutual
def wps (Γ : List DSp) : Xs → List S → Ed → Prop
  | .set i own bs e, δ, E => match isComp e with
    | true => wpe Γ e (bor bs δ) (E.xw (bor bs δ)) (.e fun r => E.nx ((bor bs δ).set i (putS own r)))
    | false => wpe Γ e (bor bs δ) (E.xw (bor bs δ)) (.e fun r => keepW bs r δ fun δ' => E.nx (δ'.set i (putS own r)))
  | .setIx i j e, δ, E => owL δ[j]? fun ds => wpe Γ e (bor [j] δ) (E.xw (bor [j] δ)) (.e fun q => ixD (.sq true ds) q.d fun d => E.nx (δ.set i (.sh d)))
  | .asg t bs e, δ, E => wpe Γ e (bor bs δ) (E.xw (bor bs δ)) (.e fun r => keepW bs r δ fun δ' => wpt t r.d δ' E.nx)
  | .ite bs c t e, δ, E => wpe Γ c (bor bs δ) (E.xw (bor bs δ)) (.t (wpb Γ t δ E) (wpb Γ e δ E))
  | .itj dd bs c t e, δ, E => JoinW (fun M => wpe Γ c (bor bs δ) (E.xw (bor bs δ)) (.t (wpb Γ t δ { E with nx := fun δ => M (drp dd δ) }) (wpb Γ e δ { E with nx := fun δ => M (drp dd δ) }))) E.nx
  | .ret bs e, δ, E => wpe Γ e (bor bs δ) (E.xw (bor bs δ)) (.e fun r => retD bs r E.rt)
  | .retO i, δ, E => retV δ[i]? E.rt
  | .retN, _, E => E.rt (.sh .non)
  | .app i bs e, δ, E => owL δ[i]? fun _ => wpe Γ e (bor bs δ) (E.xw (bor bs δ)) (.e fun r => keepW bs r δ fun δ' => appD i r.d δ' E.nx)
  | .sti i bs e ix, δ, E => wpe Γ e (bor bs δ) (E.xw (bor bs δ)) (.e fun r => keepW bs r δ fun δ' => owL δ'[i]? fun ds => wpe Γ ix (bor bs δ') (E.xw (bor bs δ')) (.e fun q => stiD i ds r.d q.d δ' E.nx))
  | .expr bs e, δ, E => wpe Γ e (bor bs δ) (E.xw (bor bs δ)) (.e fun _ => E.nx δ)
  | .for_ dd bs t it body, δ, E => wpi Γ it (bor bs δ) (E.xw (bor bs δ)) fun n item => match it with
    | .sq _ => ForW n item dd (wpt t) (wpb Γ body) (bor bs δ) E
    | _ => ForW n item dd (wpt t) (wpb Γ body) δ E
  | .whl dd bs c body, δ, E => WhlW dd bs (fun δ x y n => wpe Γ c δ x (.t y n)) (wpb Γ body) δ E
  | .brk, δ, E => E.bk δ
  | .cnt, δ, E => E.ct δ
  | .pass, δ, E => E.nx δ
def wpb (Γ : List DSp) : Xb → List S → Ed → Prop
  | .nil, δ, E => E.nx δ
  | .cons s r, δ, E => wps Γ s δ { E with nx := fun δ' => wpb Γ r δ' E }
end
end DL
set_option Elab.async false
set_option linter.all false
set_option maxRecDepth 100000
set_option maxHeartbeats 4000000
/-! The deep machine, part b: expressions are what they are said to be. -/
namespace DL
open PySem PySem.Spec PyProof.Rows L2
def Wu (X : Cx) (H0 : Hp) (e : Expr) (δ : List S) (k : S → Prop) : Prop := ∀ σ G, RelS X.K H0 σ G δ → semE X e σ G (fun v G' => ∃ r, RetIs X.K G v G' r ∧ k r)
section
variable {X : Cx} {H0 : Hp} {δ : List S} {a b c e : Expr} {es : List Expr} {k : S → Prop} {pos : Pos}
theorem Wu.mono {k' : S → Prop} (h : Wu X H0 e δ k) (m : ∀ r, k r → k' r) : Wu X H0 e δ k' := fun σ G R => (h σ G R).mono fun v G' ⟨r, i, q⟩ => ⟨r, i, m r q⟩
theorem wu_we (h : We X H0 e δ fun d => k (.sh d)) : Wu X H0 e δ k := fun σ G R => (h σ G R).mono fun v G' ⟨e, d, i, q⟩ => ⟨.sh d, ⟨e, i⟩, q⟩
theorem wu_wo (h : Wo X H0 e δ fun o => k (.ow o)) : Wu X H0 e δ k := fun σ G R => (h σ G R).mono fun v G' ⟨o, n, q⟩ => ⟨.ow o, n, q⟩
theorem we_wu {k : D → Prop} (h : Wu X H0 e δ fun r => k r.d) : We X H0 e δ k := fun σ G R => (h σ G R).mono fun v G' ⟨r, i, q⟩ => ⟨i.ex.1, _, i.ex.2, q⟩
theorem wo_wu {ko : Ow → Prop} (h : Wu X H0 e δ fun r => ∃ o, r = .ow o ∧ ko o) : Wo X H0 e δ ko := fun σ G R => (h σ G R).mono fun v G' ⟨r, i, o, eo, q⟩ => by subst eo; exact ⟨o, i, q⟩
/-- two operands, by data -/
theorem twoU {f : V → V → Hp → VK → Prop} {P : D → D → Prop} (h : We X H0 a δ (fun x => We X H0 b δ (fun y => P x y))) (hf : ∀ G v w x y, Is X.K G v x → Is X.K G w y → P x y → ∀ Q : VK, (∀ z G' r, RetIs X.K G z G' r → k r → Q z G') → f v w G Q) :
    ∀ σ G, RelS X.K H0 σ G δ → tOp f (semE X a) (semE X b) σ G (fun v G' => ∃ r, RetIs X.K G v G' r ∧ k r) := fun σ G R =>
  (h σ G R).mono fun v G1 ⟨e1, x, ix, q1⟩ => (q1 σ G1 (R.mono e1)).mono fun w G2 ⟨e2, y, iy, q2⟩ => hf G2 v w x y (ix.mono e2) iy q2 _ fun z G' r i kr => ⟨r, i.back (e1.trans e2), kr⟩
theorem op_or {f : Value → Value → Sem Value} {r1 r2 : R2} (h1 : OpR X f r1) (h2 : OpR X f r2) : OpR X f (fun v w H Q => r1 v w H Q ∨ r2 v w H Q) := fun pins s σ H x y v u Q I rx ry h =>
  h.elim (h1 pins s σ H x y v u Q I rx ry) (h2 pins s σ H x y v u Q I rx ry)
theorem sh_ret {K : PySem.W.Frag} {G : Hp} {v : V} {d : D} (i : Is K G v d) : RetIs K G v G (.sh d) := ⟨Same.refl _, i⟩
theorem wu_add (h : We X H0 a δ (fun x => We X H0 b δ (fun y => binD .add x y k))) : Wu X H0 (.BinOp a .Add b pos) δ k := fun σ G R => toE (pe_op (op_or op_add op_catR) pe_sem pe_sem) (twoU h (fun G v w x y iv iw h Q q => by
  unfold binD at h
  split at h
  · cases iv; cases iw; exact .inl ⟨_, _, rfl, rfl, q _ _ _ (sh_ret (.int _)) h⟩
  · obtain ⟨hl, hk⟩ := h
    obtain ⟨l, us, rfl, r1, l1⟩ := iv.lst_inv
    obtain ⟨l', ws, rfl, r2, l2⟩ := iw.lst_inv
    exact .inr ⟨l, l', us, ws, rfl, rfl, r1, r2, Nat.le_trans (by rw [l1.1, l2.1]; exact hl) (by decide), fun t ht => q _ _ (.ow (.lst _)) (NewIs.lst ht (l1.app l2)) hk⟩
  all_goals (first | (rename_i z; cases z; done) | exact h.elim | contradiction)) σ G R)
theorem wu_sub (h : We X H0 a δ (fun x => We X H0 b δ (fun y => binD .sub x y k))) : Wu X H0 (.BinOp a .Sub b pos) δ k := wu_we (we_sub (h.mono fun x hx => hx.mono fun y hy => by
  unfold binD at hy
  split at hy
  any_goals (first | exact hy.elim | contradiction)
  exact i2 hy))
theorem wu_mul (h : We X H0 a δ (fun x => We X H0 b δ (fun y => binD .mul x y k))) : Wu X H0 (.BinOp a .Mult b pos) δ k := wu_we (we_mul (h.mono fun x hx => hx.mono fun y hy => by
  unfold binD at hy
  split at hy
  any_goals (first | exact hy.elim | contradiction)
  exact i2 hy))
theorem wu_mod (h : We X H0 a δ (fun x => We X H0 b δ (fun y => binD .mod x y k))) : Wu X H0 (.BinOp a .Mod b pos) δ k := wu_we (we_mod (h.mono fun x hx => hx.mono fun y hy => by
  unfold binD at hy
  split at hy
  any_goals (first | exact hy.elim | contradiction)
  exact i2 hy))
theorem wu_pow (h : We X H0 a δ (fun x => We X H0 b δ (fun y => binD .pow x y k))) : Wu X H0 (.BinOp a .Pow b pos) δ k := wu_we (we_pow (h.mono fun x hx => hx.mono fun y hy => by
  unfold binD at hy
  split at hy
  any_goals (first | exact hy.elim | contradiction)
  exact i2 hy))
theorem wu_div (h : We X H0 a δ (fun x => We X H0 b δ (fun y => binD .div x y k))) : Wu X H0 (.BinOp a .FloorDiv b pos) δ k := fun σ G R => toE (pe_op (op_or op_fdivW op_fdivX) pe_sem pe_sem) (twoU h (fun G v w x y iv iw h Q q => by
  unfold binD at h
  split at h
  any_goals (first | exact h.elim | contradiction)
  cases iv; cases iw
  rcases h with ⟨h1, h2⟩ | ⟨h1, h2⟩
  · exact .inl ⟨_, _, rfl, rfl, h1, q _ _ _ (sh_ret (.int _)) h2⟩
  · exact .inr ⟨_, _, rfl, rfl, h1, q _ _ _ (sh_ret (.int _)) h2⟩) σ G R)
theorem wu_rep (h : Wu X H0 a δ (fun x => We X H0 b δ (fun y => repD x y k))) : Wu X H0 (.BinOp a .Mult b pos) δ k := fun σ G R => toE (pe_op op_rep pe_sem pe_sem) ((h σ G R).mono fun v G1 ⟨r, N, q1⟩ => (q1 σ G1 (R.mono N.ex.1)).mono fun w G2 ⟨e2, y, iy, hy⟩ => by
  have hy : repD r y k := hy
  unfold repD at hy
  split at hy
  any_goals (first | exact hy.elim | contradiction)
  obtain ⟨⟨n1, n2, hl⟩, hk⟩ := hy
  cases iy
  have e1 := N.ex.1
  obtain ⟨l, ⟨p, us, rfl, rfl, hp, il⟩, fr, ee, nd⟩ := N
  have iG := IsL.mono (cut_ex.trans e2) il
  exact ⟨p, _, us, rfl, rfl, e2 _ _ hp, by omega, by omega, by rw [il.1]; exact Nat.le_trans hl (by decide), fun t ht => ⟨.ow (.lst _), (NewIs.lst ht (iG.rep _)).back (e1.trans e2), hk⟩⟩)
theorem wu_neg (h : We X H0 a δ (fun x => negD x k)) : Wu X H0 (.UnaryOp .USub a pos) δ k := wu_we (we_neg (h.mono fun x hx => by
  cases x <;> first | exact i1 hx | exact hx.elim))
theorem wu_not (h : We X H0 a δ (fun x => notD x k)) : Wu X H0 (.UnaryOp .Not a pos) δ k := wu_we (we_not (h.mono fun x hx => by
  cases x <;> first | exact b1 hx | exact hx.elim))
/-! comparisons -/
theorem eqD_sem {x y : D} {kb : Bool → Prop} {G : Hp} {v w : V} (iv : Is X.K G v x) (iw : Is X.K G w y) (h : eqD x y kb) :
    (scal v w = true ∧ kb (decide (v = w))) ∨ ∃ p q, Pd x p ∧ Pd y q ∧ SeqAt.shaped p = true ∧ SeqAt.shaped q = true ∧ kb (PyData.eqv p q) := by
  unfold eqD at h
  split at h
  · cases iv; cases iw; exact .inl ⟨rfl, by simp only [V.int.injEq]; exact h⟩
  · cases iv; cases iw; exact .inl ⟨rfl, by simp only [V.bl.injEq]; exact h⟩
  · cases iv; cases iw; exact .inl ⟨rfl, by simp only [V.str.injEq]; exact h⟩
  · obtain ⟨⟨h1, h2⟩, h3⟩ := h
    obtain ⟨p, q, a1, a2, a3, a4, a5⟩ := eqP h1 h2 h3
    exact .inr ⟨p, q, a1, a2, a3, a4, a5⟩
theorem wu_eq (hu : X.A.units + 64 < cLine) (h : We X H0 a δ (fun x => We X H0 b δ (fun y => eqD x y fun r => k (.sh (.bl r))))) : Wu X H0 (.Compare a [.Eq] [b] pos) δ k := fun σ G R => toE (pe_cmpR (op_or op_eq (op_eqD hu)) pe_sem pe_sem (nomark _)) (twoU h (fun G v w x y iv iw h Q q => by
  rcases eqD_sem iv iw h with ⟨h1, h2⟩ | ⟨p, p', a1, a2, a3, a4, a5⟩
  · exact .inl ⟨h1, q _ _ _ (sh_ret (.bl _)) h2⟩
  · exact .inr ⟨p, p', a1.dp iv, a2.dp iw, a3, a4, q _ _ _ (sh_ret (.bl _)) a5⟩) σ G R)
theorem wu_ne (hu : X.A.units + 64 < cLine) (h : We X H0 a δ (fun x => We X H0 b δ (fun y => eqD x y fun r => k (.sh (.bl (!r)))))) : Wu X H0 (.Compare a [.NotEq] [b] pos) δ k := fun σ G R => toE (pe_cmpR (op_or op_ne (op_neD hu)) pe_sem pe_sem (nomark _)) (twoU h (fun G v w x y iv iw h Q q => by
  rcases eqD_sem iv iw h with ⟨h1, h2⟩ | ⟨p, p', a1, a2, a3, a4, a5⟩
  · exact .inl ⟨h1, q _ _ _ (sh_ret (.bl _)) h2⟩
  · exact .inr ⟨p, p', a1.dp iv, a2.dp iw, a3, a4, q _ _ _ (sh_ret (.bl _)) a5⟩) σ G R)
def copB : Cop → CmpOp → Bool
  | .eq, .Eq => true | .ne, .NotEq => true | .lt, .Lt => true | .le, .LtE => true | .gt, .Gt => true | .ge, .GtE => true | .is, .Is => true | .isnot, .IsNot => true
  | _, _ => false
theorem wu_cmp (hu : X.A.units + 64 < cLine) {o : Cop} {op : CmpOp} (ho : copB o op = true) (h : We X H0 a δ (fun x => We X H0 b δ (fun y => cmpB o x y fun r => k (.sh (.bl r))))) : Wu X H0 (.Compare a [op] [b] pos) δ k := by
  unfold copB at ho
  split at ho
  · exact wu_eq hu h
  · exact wu_ne hu h
  · exact wu_we (we_lt (h.mono fun x hx => hx.mono fun y hy => by
      unfold cmpB at hy
      split at hy
      any_goals (first | exact hy.elim | contradiction)
      exact i2 hy))
  · exact wu_we (we_le (h.mono fun x hx => hx.mono fun y hy => by
      unfold cmpB at hy
      split at hy
      any_goals (first | exact hy.elim | contradiction)
      exact i2 hy))
  · exact wu_we (we_gt (h.mono fun x hx => hx.mono fun y hy => by
      unfold cmpB at hy
      split at hy
      any_goals (first | exact hy.elim | contradiction)
      exact i2 hy))
  · exact wu_we (we_ge (h.mono fun x hx => hx.mono fun y hy => by
      unfold cmpB at hy
      split at hy
      any_goals (first | exact hy.elim | contradiction)
      exact i2 hy))
  · exact wu_we (we_isN (h.mono fun x hx => hx.mono fun y hy => by
      unfold cmpB at hy
      split at hy
      any_goals (first | exact hy.elim | contradiction)
      exact nn hy))
  · exact wu_we (we_notN (h.mono fun x hx => hx.mono fun y hy => by
      unfold cmpB at hy
      split at hy
      any_goals (first | exact hy.elim | contradiction)
      exact nn hy))
  · cases ho
/-- a test of a value that is a bool -/
def tk (y n : Prop) (b : Bool) : Prop := (b = true → y) ∧ (b = false → n)
theorem eqT_D {x y : D} {p n : Prop} (h : eqT x y p n) : eqD x y (tk p n) := by
  unfold eqT at h
  split at h
  · exact ⟨fun e => h.1 (of_decide_eq_true e), fun e => h.2 (of_decide_eq_false e)⟩
  · exact ⟨fun e => h.1 (of_decide_eq_true e), fun e => h.2 (of_decide_eq_false e)⟩
  · exact ⟨fun e => h.1 (of_decide_eq_true e), fun e => h.2 (of_decide_eq_false e)⟩
  · rename_i n1 n2 n3
    obtain ⟨h1, h2, h3⟩ := h
    unfold eqD
    split
    · exact absurd rfl (n1 _ _ rfl)
    · exact absurd rfl (n2 _ _ rfl)
    · exact absurd rfl (n3 _ _ rfl)
    · exact ⟨h1, fun b hb => ⟨fun e => h2 (hb.mp e), fun e => h3 fun z => by rw [hb.mpr z] at e; cases e⟩⟩
theorem eqD_mono {x y : D} {k k' : Bool → Prop} (h : eqD x y k) (m : ∀ b, k b → k' b) : eqD x y k' := by
  unfold eqD at h ⊢
  split at h
  · exact m _ h
  · exact m _ h
  · exact m _ h
  · exact ⟨h.1, fun b hb => m b (h.2 b hb)⟩
theorem cmpT_B {o : Cop} {x y : D} {p n : Prop} (h : cmpT o x y p n) : cmpB o x y (tk p n) := by
  unfold cmpT at h
  split at h
  · exact eqT_D h
  · exact eqD_mono (eqT_D h) fun b q => ⟨fun e => q.2 (by simpa using e), fun e => q.1 (by simpa using e)⟩
  · exact ⟨fun e => h.1 (of_decide_eq_true e), fun e => h.2 (of_decide_eq_false e)⟩
  · exact ⟨fun e => h.1 (of_decide_eq_true e), fun e => h.2 (of_decide_eq_false e)⟩
  · exact ⟨fun e => h.1 (of_decide_eq_true e), fun e => h.2 (of_decide_eq_false e)⟩
  · exact ⟨fun e => h.1 (of_decide_eq_true e), fun e => h.2 (of_decide_eq_false e)⟩
  · split at h
    · rename_i e; show tk _ _ (isNon _); rw [e]; exact ⟨fun _ => h, fun z => nomatch z⟩
    · rename_i e; show tk _ _ (isNon _); rw [e]; exact ⟨fun z => (nomatch z), fun _ => h⟩
  · split at h
    · rename_i e; show tk _ _ (!isNon _); rw [e]; exact ⟨fun z => (nomatch z), fun _ => h⟩
    · rename_i e; show tk _ _ (!isNon _); rw [e]; exact ⟨fun _ => h, fun z => nomatch z⟩
  · exact h.elim
theorem wtD_eq {kt : Bool → Prop} (hu : X.A.units + 64 < cLine) (h : We X H0 a δ (fun x => We X H0 b δ (fun y => eqD x y kt))) : Wt X H0 (.Compare a [.Eq] [b] pos) δ kt := fun σ G R => toT (pt_cmpR (op_or op_eq (op_eqD hu)) pe_sem pe_sem (nomark _)) (twoT h (fun G v w x y iv iw h Q qq => by
  rcases eqD_sem iv iw h with ⟨h1, h2⟩ | ⟨p, p', a1, a2, a3, a4, a5⟩
  · exact .inl ⟨h1, qq _ h2⟩
  · exact .inr ⟨p, p', a1.dp iv, a2.dp iw, a3, a4, qq _ a5⟩) σ G R)
theorem wtD_ne {kt : Bool → Prop} (hu : X.A.units + 64 < cLine) (h : We X H0 a δ (fun x => We X H0 b δ (fun y => eqD x y fun r => kt (!r)))) : Wt X H0 (.Compare a [.NotEq] [b] pos) δ kt := fun σ G R => toT (pt_cmpR (op_or op_ne (op_neD hu)) pe_sem pe_sem (nomark _)) (twoT h (fun G v w x y iv iw h Q qq => by
  rcases eqD_sem iv iw h with ⟨h1, h2⟩ | ⟨p, p', a1, a2, a3, a4, a5⟩
  · exact .inl ⟨h1, qq _ h2⟩
  · exact .inr ⟨p, p', a1.dp iv, a2.dp iw, a3, a4, qq _ a5⟩) σ G R)
theorem wtD_cmp (hu : X.A.units + 64 < cLine) {o : Cop} {op : CmpOp} {kt : Bool → Prop} (ho : copB o op = true) (h : We X H0 a δ (fun x => We X H0 b δ (fun y => cmpB o x y kt))) : Wt X H0 (.Compare a [op] [b] pos) δ kt := by
  unfold copB at ho
  split at ho
  · exact wtD_eq hu h
  · exact wtD_ne hu h
  · exact wt_lt (h.mono fun x hx => hx.mono fun y hy => by
      unfold cmpB at hy
      split at hy
      any_goals (first | exact hy.elim | contradiction)
      exact i2 hy)
  · exact wt_le (h.mono fun x hx => hx.mono fun y hy => by
      unfold cmpB at hy
      split at hy
      any_goals (first | exact hy.elim | contradiction)
      exact i2 hy)
  · exact wt_gt (h.mono fun x hx => hx.mono fun y hy => by
      unfold cmpB at hy
      split at hy
      any_goals (first | exact hy.elim | contradiction)
      exact i2 hy)
  · exact wt_ge (h.mono fun x hx => hx.mono fun y hy => by
      unfold cmpB at hy
      split at hy
      any_goals (first | exact hy.elim | contradiction)
      exact i2 hy)
  · exact wt_isN (h.mono fun x hx => hx.mono fun y hy => by
      unfold cmpB at hy
      split at hy
      any_goals (first | exact hy.elim | contradiction)
      exact nn hy)
  · exact wt_notN (h.mono fun x hx => hx.mono fun y hy => by
      unfold cmpB at hy
      split at hy
      any_goals (first | exact hy.elim | contradiction)
      exact nn hy)
  · cases ho
theorem truT_TR {d : D} {y n : Prop} (h : truT d y n) : TR d (tk y n) := by
  unfold truT at h
  split at h
  · exact tr rfl h
  · refine tr (r := _ != 0) rfl ⟨fun e => h.1 (by simpa using e), fun e => h.2 (by simpa using e)⟩
  · refine tr (r := !List.isEmpty _) rfl ⟨fun e => h.1 (by simpa using e), fun e => h.2 (by simpa using e)⟩
  · exact tr rfl ⟨fun z => (nomatch z), fun _ => h⟩
  · exact h.elim
theorem wtD_tru {y n : Prop} (h : Wu X H0 e δ (fun r => truT r.d y n)) (he : ∀ whole, isTrue e X.env whole = (do let v ← whole; standAt e.pos; holding [v] (truthy v))) : Wt X H0 e δ (tk y n) := wt_tru ((we_wu h).mono fun d hd => truT_TR hd) he
/-! and, or of values -/
theorem wu_one {op} (h : Wu X H0 a δ k) : Wu X H0 (.BoolOp op [a] pos) δ k := fun σ G R => toE (pe_one pe_sem) (h σ G R)
theorem wu_and (h : Wu X H0 a δ (fun r => blK r.d (Wu X H0 (.BoolOp .And (b :: es) pos) δ k) (k (.sh (.bl false))))) : Wu X H0 (.BoolOp .And (a :: b :: es) pos) δ k := fun σ G R => toE (pe_and pe_sem pe_sem) ((we_wu (k := fun d => blK d _ _) h σ G R).mono fun v G1 ⟨e1, d, i, hd⟩ => by
  have hd : blK d _ _ := hd
  cases d with
  | bl r =>
    cases i
    refine ⟨r, rfl, ?_⟩
    cases r with
    | true =>
      show semE X _ σ G1 _
      exact (hd.1 rfl σ G1 (R.mono e1)).mono fun _ _ ⟨r, i, q⟩ => ⟨r, i.back e1, q⟩
    | false => exact ⟨.sh _, ⟨e1, .bl false⟩, hd.2 rfl⟩
  | _ => exact hd.elim)
theorem wu_or (h : Wu X H0 a δ (fun r => blK r.d (k (.sh (.bl true))) (Wu X H0 (.BoolOp .Or (b :: es) pos) δ k))) : Wu X H0 (.BoolOp .Or (a :: b :: es) pos) δ k := fun σ G R => toE (pe_or pe_sem pe_sem) ((we_wu (k := fun d => blK d _ _) h σ G R).mono fun v G1 ⟨e1, d, i, hd⟩ => by
  have hd : blK d _ _ := hd
  cases d with
  | bl r =>
    cases i
    refine ⟨r, rfl, ?_⟩
    cases r with
    | false =>
      show semE X _ σ G1 _
      exact (hd.2 rfl σ G1 (R.mono e1)).mono fun _ _ ⟨r, i, q⟩ => ⟨r, i.back e1, q⟩
    | true => exact ⟨.sh _, ⟨e1, .bl true⟩, hd.1 rfl⟩
  | _ => exact hd.elim)
theorem wu_if {y n : Prop} (h : Wt X H0 c δ (tk y n)) (ha : y → Wu X H0 a δ k) (hb : n → Wu X H0 b δ k) : Wu X H0 (.IfExp c a b pos) δ k := fun σ G R => toE (pe_ifExp pt_sem pe_sem pe_sem) ((h σ G R).mono fun r G1 ⟨e1, h1, h2⟩ => by
  cases r with
  | true =>
    show semE X _ σ G1 _
    exact (ha (h1 rfl) σ G1 (R.mono e1)).mono fun _ _ ⟨r, i, q⟩ => ⟨r, i.back e1, q⟩
  | false =>
    show semE X _ σ G1 _
    exact (hb (h2 rfl) σ G1 (R.mono e1)).mono fun _ _ ⟨r, i, q⟩ => ⟨r, i.back e1, q⟩)
/-! subscripts -/
theorem wu_ix {k : D → Prop} (h : We X H0 a δ (fun x => We X H0 b δ (fun y => ixD x y k))) (hs : PlainIx b) : We X H0 (.Subscript a b pos) δ k := fun σ G R => toE (pe_ix ix_seq pe_sem pe_sem hs) (two h (fun G v w x y iv iw h Q q => by
  cases x with
  | sq l ds =>
    cases y with
    | int i =>
      obtain ⟨d, he, hk⟩ := h
      cases iw
      cases l with
      | true =>
        obtain ⟨p, xs, rfl, hq, hl⟩ := iv.lst_inv
        obtain ⟨z, hz, iz⟩ := hl.atI he
        exact .inl ⟨p, xs, i, z, rfl, rfl, .inl hq, hz, q _ G _ (Same.refl _) iz hk⟩
      | false =>
        obtain ⟨p, xs, rfl, hq, hl⟩ := iv.tup_inv
        obtain ⟨z, hz, iz⟩ := hl.atI he
        exact .inr (.inl ⟨p, xs, i, z, rfl, rfl, hq, hz, q _ G _ (Same.refl _) iz hk⟩)
    | _ => exact h.elim
  | scr ns =>
    cases y with
    | int i =>
      obtain ⟨n, he, hk⟩ := h
      cases iw
      obtain ⟨p, rfl, hq⟩ := iv.scr_inv
      refine .inl ⟨p, _, i, .int n, rfl, rfl, hq, ?_, q _ G _ (Same.refl _) (.int _) hk⟩
      unfold L2.atI at he ⊢
      rw [List.length_map]
      cases e : ixN ns.length i with
      | none => rw [e] at he; cases he
      | some j =>
        rw [e] at he
        show (ns.map V.int)[j]? = some (.int n)
        rw [List.getElem?_map, show ns[j]? = some n from he] <;> rfl
    | _ => exact h.elim
  | _ => exact h.elim) σ G R)
end
end DL
set_option Elab.async false
set_option linter.all false
set_option maxRecDepth 100000
set_option maxHeartbeats 4000000
/-! The deep machine, part c: a text and what it resolves to; expressions are sound. -/
namespace DL
open PySem PySem.Spec PyProof.Rows L2
/-- the built-in names that the top leaves alone -/
structure Bm (mg : Str → Option Value) : Prop where
  len : mg "len" = none
  range : mg "range" = none
  int : mg "int" = none
  abs : mg "abs" = none
  tuple : mg "tuple" = none
  list : mg "list" = none
  isinstance : mg "isinstance" = none
  bool : mg "bool" = none
  sum : mg "sum" = none
  min : mg "min" = none
  max : mg "max" = none
  str : mg "str" = none
/-- where a text stands: slots, scope, the names of defs that it calls -/
structure Ct where
  N : List Str
  sc : Scope
  fs : List Str
  math : Bool
def visB (C : Ct) (i : Nat) (x : Str) : Bool := decide (C.N[i]? = some x) && ((match C.sc.names.lookup x with
  | some .local => true
  | some .cell => true
  | some .free => true
  | _ => false) && (decide ((x == ("__debug__" : Str)) = false) && decide ((x == ("__classdict__" : Str)) = false)))
def gloB (C : Ct) (x : Str) : Bool := decide (C.sc.names.lookup x = some .globalImplicit) && decide ((x == ("__debug__" : Str)) = false)
def bfName : Bf → Str
  | .len => "len" | .int => "int" | .abs => "abs" | .tuple => "tuple" | .list => "list" | .sum => "sum" | .max => "max" | .min => "min" | .gcd => "gcd" | .lcm => "lcm"
def bfAr : Bf → Nat
  | .max => 2 | .min => 2 | .gcd => 2 | .lcm => 2 | _ => 1
def bfMath : Bf → Bool
  | .gcd => true | .lcm => true | _ => false
def tyName : Ty → Str
  | .int => "int" | .bool => "bool" | .str => "str" | .list => "list" | .tuple => "tuple"
def bopB : Bop → Operator → Bool
  | .add, .Add => true | .sub, .Sub => true | .mul, .Mult => true | .div, .FloorDiv => true | .mod, .Mod => true | .pow, .Pow => true
  | _, _ => false
mutual
def chE (C : Ct) : Xe → Expr → Bool
  | .var i, e => match e with
    | .Name x _ => visB C i x
    | _ => false
  | .int i, e => match e with
    | .Constant (.int j) _ _ => decide (i = j)
    | _ => false
  | .bl i, e => match e with
    | .Constant (.bool j) _ _ => decide (i = j)
    | _ => false
  | .non, e => match e with
    | .Constant .none _ _ => true
    | _ => false
  | .str i, e => match e with
    | .Constant (.str j) _ _ => decide (i = j)
    | _ => false
  | .bin o a b, e => match e with
    | .BinOp l op r _ => bopB o op && (chE C a l && chE C b r)
    | _ => false
  | .rep a b, e => match e with
    | .BinOp l .Mult r _ => chE C a l && chE C b r
    | _ => false
  | .neg a, e => match e with
    | .UnaryOp .USub l _ => chE C a l
    | _ => false
  | .not a, e => match e with
    | .UnaryOp .Not l _ => chE C a l
    | _ => false
  | .cmp o a b, e => match e with
    | .Compare l [op] [r] _ => copB o op && (chE C a l && chE C b r)
    | _ => false
  | .and as, e => match e with
    | .BoolOp .And es _ => !es.isEmpty && chL C as es
    | _ => false
  | .or as, e => match e with
    | .BoolOp .Or es _ => !es.isEmpty && chL C as es
    | _ => false
  | .ite c a b, e => match e with
    | .IfExp t l r _ => chE C c t && (chE C a l && chE C b r)
    | _ => false
  | .itu c a b, e => match e with
    | .IfExp t l r _ => chE C c t && (chE C a l && chE C b r)
    | _ => false
  | .ix a b, e => match e with
    | .Subscript l r _ => chE C a l && chE C b r
    | _ => false
  | .ixn a n, e => match e with
    | .Subscript l (.Constant (.int j) _ _) _ => chE C a l && decide (j = (n : Int))
    | _ => false
  | .tup as, e => match e with
    | .Tuple es _ _ => Nat.ble es.length 100000 && chL C as es
    | _ => false
  | .lst as, e => match e with
    | .List es _ => Nat.ble es.length 100000 && chL C as es
    | _ => false
  | .call i as, e => match e with
    | .Call (.Name x _) es [] _ => decide (C.fs[i]? = some x) && (gloB C x && (!es.isEmpty && chL C as es))
    | _ => false
  | .bi f as, e => match e with
    | .Call (.Name x _) es [] _ => decide (x = bfName f) && (gloB C x && ((C.math || !bfMath f) && (decide (es.length = bfAr f) && chL C as es)))
    | _ => false
  | .isi a t, e => match e with
    | .Call (.Name x _) [l, .Name y _] [] _ => decide (x = ("isinstance" : Str)) && (decide (y = tyName t) && (gloB C x && (gloB C y && chE C a l)))
    | _ => false
  | .lc v elt it, e => match e with
    | .ListComp l [⟨.Name x _, itr, [], 0⟩] sc _ => blkB C.N C.sc sc x v && (decide (C.N[v]? = some x) && (decide ((relS sc C.sc).names.lookup x = some .local) && (chI C it itr && chE { C with sc := relS sc C.sc } elt l)))
    | _ => false
  | .lcf v elt it c, e => match e with
    | .ListComp l [⟨.Name x _, itr, [t], 0⟩] sc _ => blkB C.N C.sc sc x v && (decide (C.N[v]? = some x) && (decide ((relS sc C.sc).names.lookup x = some .local) && (chI C it itr && (chE { C with sc := relS sc C.sc } elt l && chE { C with sc := relS sc C.sc } c t))))
    | _ => false
def chL (C : Ct) : Xl → List Expr → Bool
  | .nil, es => es.isEmpty
  | .cons a as, es => match es with
    | e :: r => chE C a e && chL C as r
    | [] => false
def chI (C : Ct) : Xi → Expr → Bool
  | .rng a, e => match e with
    | .Call (.Name x _) [l] [] _ => decide (x = ("range" : Str)) && (gloB C x && chE C a l)
    | _ => false
  | .rng2 a b, e => match e with
    | .Call (.Name x _) [l, r] [] _ => decide (x = ("range" : Str)) && (gloB C x && (chE C a l && chE C b r))
    | _ => false
  | .sq a, e => chE C a e
end
/-- the context is the one that the text was resolved for -/
structure Ev (X : Cx) (C : Ct) (Γ : List DSp) : Prop where
  N : X.N = C.N
  nd : C.N.Nodup
  sc : X.env.scope = C.sc
  calm : X.calm = true
  bi : Bm X.mg
  math : C.math = true → X.mg "gcd" = some (.builtin "math.gcd") ∧ X.mg "lcm" = some (.builtin "math.lcm")
  units : X.A.units + 64 < cLine
  cov : ∀ (i : Nat) x, C.fs[i]? = some x → ∃ T, Γ[i]? = some T
  fns : ∀ (i : Nat) x T, C.fs[i]? = some x → Γ[i]? = some T → ∃ lvl ps T0 dds, Fn X.prog X.w X.K X.mg X.base lvl x ps T0 dds ∧ Room lvl X.A ∧ ∀ as k x, T as k x → T0 (as ++ dds) k x
section
variable {X : Cx} {C : Ct} {Γ : List DSp} {H0 : Hp} {δ : List S} {e : Expr}
theorem Ev.blk (E : Ev X C Γ) {sc : Scope} {s : Shared} {h : Hp} {C' : Addr} {cl : List (Str × Addr)} {fp : List Addr} : Ev (X.blk s h sc (compEnvC sc cl C' X.env) fp) { C with sc := relS sc C.sc } Γ :=
  ⟨E.N, E.nd, by rw [← E.sc]; rfl, E.calm, E.bi, E.math, E.units, E.cov, E.fns⟩
theorem and3 {a b : Bool} (h : (a && b) = true) : a = true ∧ b = true := Bool.and_eq_true_iff.mp h
theorem chE_star {a : Xe} (h : chE C a e = true) : notStar e = true := by
  cases e with
  | Starred v p => cases a <;> (simp only [chE] at h; cases h)
  | _ => rfl
theorem chE_set {a : Xe} (h : chE C a e = true) : ∀ (env : Env) x, foldedSetIterable e env x = pure x := by
  cases e with
  | Set v p q => cases a <;> (simp only [chE] at h; cases h)
  | _ => intro env x; rfl
theorem chE_ix {a : Xe} (h : chE C a e = true) : PlainIx e := by
  cases e with
  | Slice v p q => cases a <;> (simp only [chE] at h; cases h)
  | _ => exact fun _ _ => rfl
theorem chI_set {a : Xi} (h : chI C a e = true) : ∀ (env : Env) x, foldedSetIterable e env x = pure x := by
  cases a with
  | sq a => rw [chI] at h; exact chE_set h
  | _ =>
    cases e with
    | Set v p q => simp only [chI] at h; cases h
    | _ => intro env x; rfl
theorem chL_star : ∀ {as : Xl} {es : List Expr}, chL C as es = true → es.all notStar = true
  | .nil, es, h => by
    rw [chL, List.isEmpty_iff] at h
    rw [h]; rfl
  | .cons a as, [], h => by rw [chL] at h; cases h
  | .cons a as, e :: es, h => by
    rw [chL] at h
    obtain ⟨h1, h2⟩ := and3 h
    rw [List.all_cons, chE_star h1, chL_star h2]; rfl
theorem Ev.glo (E : Ev X C Γ) {x : Str} (h : gloB C x = true) : Gl X x ∧ (x == ("__debug__" : Str)) = false := by
  obtain ⟨h1, h2⟩ := and3 h
  refine ⟨?_, of_decide_eq_true h2⟩
  show X.env.scope.names.lookup x = _
  rw [E.sc]
  exact of_decide_eq_true h1
theorem Ev.vis (E : Ev X C Γ) {i : Nat} {x : Str} {p : Pos} (h : visB C i x = true) : PE X (.Name x p) (tVar i) := by
  obtain ⟨h1, h⟩ := and3 h
  obtain ⟨h2, h⟩ := and3 h
  obtain ⟨h3, h4⟩ := and3 h
  refine pv i (by rw [E.N]; exact of_decide_eq_true h1) ?_ (of_decide_eq_true h3) (of_decide_eq_true h4)
  show X.env.scope.names.lookup x = _ ∨ X.env.scope.names.lookup x = _ ∨ X.env.scope.names.lookup x = _
  rw [E.sc]
  split at h2
  · rename_i e; exact .inl e
  · rename_i e; exact .inr (.inl e)
  · rename_i e; exact .inr (.inr e)
  · cases h2
structure SoE (a : Xe) : Prop where
  run : ∀ {X : Cx} {C : Ct} {Γ : List DSp} {H0 : Hp} {e : Expr}, Ev X C Γ → chE C a e = true → ∀ {xw : List S → XD} {δ : List S}, Xc X H0 xw →
  (∀ k, wpe Γ a δ (xw δ) (.e k) → Wu X H0 e δ k) ∧ ∀ y n, wpe Γ a δ (xw δ) (.t y n) → Wt X H0 e δ (tk y n)
structure SoL (as : Xl) : Prop where
  run : ∀ {X : Cx} {C : Ct} {Γ : List DSp} {H0 : Hp} {es : List Expr}, Ev X C Γ → chL C as es = true → ∀ {xw : List S → XD} {δ : List S}, Xc X H0 xw →
  (∀ k, wpl Γ as δ (xw δ) (.a k) → Wa X H0 es δ fun ds => ds.length = es.length ∧ k ds) ∧ (es ≠ [] → ∀ pos, (∀ k, wpl Γ as δ (xw δ) (.and (.e k)) → Wu X H0 (.BoolOp .And es pos) δ k) ∧ (∀ k, wpl Γ as δ (xw δ) (.or (.e k)) → Wu X H0 (.BoolOp .Or es pos) δ k) ∧
    (∀ y n, wpl Γ as δ (xw δ) (.and (.t y n)) → Ww X H0 (.BoolOp .And es pos) δ (tk y n)) ∧ (∀ y n, wpl Γ as δ (xw δ) (.or (.t y n)) → Ww X H0 (.BoolOp .Or es pos) δ (tk y n)))
structure SoI (a : Xi) : Prop where
  run : ∀ {X : Cx} {C : Ct} {Γ : List DSp} {H0 : Hp} {e : Expr}, Ev X C Γ → chI C a e = true → ∀ {xw : List S → XD} {δ : List S}, Xc X H0 xw →
  ∀ k, wpi Γ a δ (xw δ) k → Wi X H0 e δ k
theorem so_mk {P : Cn → Prop} (h : ∀ c, P c → Wu X H0 e δ c.fn) (he : ∀ whole, isTrue e X.env whole = (do let v ← whole; standAt e.pos; holding [v] (truthy v))) :
    (∀ k, P (.e k) → Wu X H0 e δ k) ∧ ∀ y n, P (.t y n) → Wt X H0 e δ (tk y n) := ⟨fun k q => h (.e k) q, fun y n q => wtD_tru (h (.t y n) q) he⟩
/-! what is gone through: a list or a tuple -/
def iSeq (K : PySem.W.Frag) (tl : TE) : TI := fun σ H R => tl σ H fun x H1 => ∃ a, x = .ref a ∧ (((∃ xs, SqL K H1 a xs) ∧ R (Itl K a) H1) ∨ ((∃ xs, SqT K H1 a xs) ∧ R (Itt K a) H1))
theorem pi_seq {tg l : Expr} {tl : TE} (hl : PE X l tl) : PI X tg l (iSeq X.K tl) := by
  refine ⟨fun pins s σ H R I h => ?_⟩
  refine thn (hl.run pins s σ H _ I h) fun v s1 ⟨x, H1, I1, r1, q1⟩ => ?_
  obtain ⟨a, e, q⟩ := q1
  subst e
  cases r1
  rcases q with ⟨⟨xs, hq⟩, q⟩ | ⟨⟨xs, hq⟩, q⟩
  · obtain ⟨its, rv, p, hz⟩ := I1.list hq
    refine wpAny_pyIter_list p.isList ?_
    refine ⟨s1.heap.objs.size, [s1.heap.objs.size], _, _, H1, rfl, I1.kept (t' := s1.toks) fun b o e => Heap.get?_push_of_some _ e, turn_list a _, ⟨_, Heap.get?_push_size _ rfl, rfl, rfl⟩, fun b hb => ?_, q⟩
    have e : b = s1.heap.objs.size := by simpa using hb
    subst e
    exact I1.fpOk (Nat.le_refl _) (I1.hok.fresh (Nat.le_refl _))
  · obtain ⟨its, rv, p, hz⟩ := I1.tuple hq
    refine wpAny_pyIter_tuple (show s1.heap.IsTuple a its.toArray from p) ?_
    refine ⟨s1.heap.objs.size, [s1.heap.objs.size], _, _, H1, rfl, I1.kept (t' := s1.toks) fun b o e => Heap.get?_push_of_some _ e, turn_tuple a _, ⟨_, Heap.get?_push_size _ rfl, rfl, rfl⟩, fun b hb => ?_, q⟩
    have e : b = s1.heap.objs.size := by simpa using hb
    subst e
    exact I1.fpOk (Nat.le_refl _) (I1.hok.fresh (Nat.le_refl _))
theorem scr_is {K : PySem.W.Frag} {G : Hp} (ns : List Int) : IsL K G (ns.map V.int) (ns.map D.int) := IsL.ints ns
theorem wi_seq {it : Expr} {k : Nat → (Nat → D) → Prop} (h : We X H0 it δ (fun d => seqD d k)) : Wi X H0 it δ k := by
  refine ⟨_, fun tg => pi_seq pe_sem, fun σ H ps R R' hp hw m => ?_, fun σ G R0 => (h σ G R0).mono fun y G1 ⟨e1, d, iv, q⟩ => ?_⟩
  · refine (semE.frame hp hw).mono fun v H' ⟨G, e, n, a, ea, q⟩ => ⟨a, ea, ?_⟩
    rcases q with ⟨⟨xs, hq⟩, q⟩ | ⟨⟨xs, hq⟩, q⟩
    · exact .inl ⟨⟨xs, by rw [e]; exact Ex.sqL (mrg_exG n) hq⟩, by rw [e]; exact m _ G n q⟩
    · exact .inr ⟨⟨xs, by rw [e]; exact Ex.sqT (mrg_exG n) hq⟩, by rw [e]; exact m _ G n q⟩
  · cases d with
    | sq l ds =>
      cases l with
      | true =>
        obtain ⟨a, xs, rfl, hq, il⟩ := iv.lst_inv
        exact ⟨a, rfl, .inl ⟨⟨xs, .inl hq⟩, e1, _, _, q, jl (.inl hq) il⟩⟩
      | false =>
        obtain ⟨a, xs, rfl, hq, il⟩ := iv.tup_inv
        exact ⟨a, rfl, .inr ⟨⟨xs, hq⟩, e1, _, _, q, jt hq il⟩⟩
    | scr ns =>
      obtain ⟨a, rfl, hq⟩ := iv.scr_inv
      refine ⟨a, rfl, .inl ⟨⟨_, hq⟩, e1, _, _, q, ?_⟩⟩
      have g := jl (K := X.K) (ds := ns.map D.int) hq (IsL.ints ns)
      intro i H eH
      obtain ⟨g1, g2⟩ := g i H eH
      rw [List.length_map] at g1 g2
      refine ⟨fun hi => ⟨(g1 hi).1, fun x H' y => ?_⟩, g2⟩
      obtain ⟨z1, z2⟩ := (g1 hi).2 x H' y
      refine ⟨z1, ?_⟩
      have e2 : (ns.map D.int).getD i .non = .int (ns.getD i 0) := by
        rw [List.getD_eq_getElem?_getD, List.getD_eq_getElem?_getD, List.getElem?_map, List.getElem?_eq_getElem hi]; rfl
      rw [e2] at z2
      exact z2
    | _ => exact q.elim
/-! built-in functions -/
theorem wu_bi (E : Ev X C Γ) {f : Bf} {x : Str} {es : List Expr} {pos p : Pos} {k : S → Prop} (hx : x = bfName f) (hg : gloB C x = true) (hm : (C.math || !bfMath f) = true) (hn : es.length = bfAr f) (hs : es.all notStar = true)
    (h : Wa X H0 es δ (fun ds => bfD f ds k)) : Wu X H0 (.Call (.Name x p) es [] pos) δ k := by
  subst hx
  have g := (E.glo hg).1
  cases f with
  | len =>
    obtain ⟨e, rfl⟩ := List.length_eq_one_iff.mp hn
    have s1 : notStar e = true := by simpa using hs
    refine wu_we (we_callB (r := fun vs H Q => ∃ a xs, vs = [V.ref a] ∧ (SqL X.K H a xs ∨ SqT X.K H a xs) ∧ Q (.int xs.length) H) (fun pins s σ H vs us Q I r q => ?_) boot_len (by decide) (by decide) (fun G vs ds is hk Q q => ?_) E.bi.len h g s1 rfl)
    · obtain ⟨a, xs, e1, e2, e3⟩ := q
      exact call_len_seq pins s σ H vs us Q I r ⟨a, xs, e1, e2, e3⟩
    · unfold bfD at hk
      split at hk
      any_goals (first | exact hk.elim | contradiction)
      · obtain ⟨v, rfl, i⟩ := is.one
        rename_i l xs _
        cases l with
        | true =>
          obtain ⟨a, ys, rfl, hq, hl⟩ := i.lst_inv
          exact ⟨a, ys, rfl, .inl (.inl hq), q _ G _ (Same.refl _) (by rw [hl.1]; exact .int _) hk⟩
        | false =>
          obtain ⟨a, ys, rfl, hq, hl⟩ := i.tup_inv
          exact ⟨a, ys, rfl, .inr hq, q _ G _ (Same.refl _) (by rw [hl.1]; exact .int _) hk⟩
      · obtain ⟨v, rfl, i⟩ := is.one
        obtain ⟨a, rfl, hq⟩ := i.scr_inv
        exact ⟨a, _, rfl, .inl hq, q _ G _ (Same.refl _) (by rw [List.length_map]; exact .int _) hk⟩
  | int =>
    obtain ⟨e, rfl⟩ := List.length_eq_one_iff.mp hn
    have s1 : notStar e = true := by simpa using hs
    refine wu_we (we_cint E.bi.int (fun σ G R => (h σ G R).mono fun vs G' ⟨a, ds, is, hk⟩ => ⟨a, ds, is, ?_⟩) g s1)
    have hk : bfD .int ds k := hk
    unfold bfD at hk
    split at hk
    any_goals (first | exact hk.elim | contradiction)
    · exact a1 (ci hk)
    · exact a1 (cb hk)
  | abs =>
    obtain ⟨e, rfl⟩ := List.length_eq_one_iff.mp hn
    have s1 : notStar e = true := by simpa using hs
    refine wu_we (we_abs E.bi.abs (fun σ G R => (h σ G R).mono fun vs G' ⟨a, ds, is, hk⟩ => ⟨a, ds, is, ?_⟩) g s1)
    have hk : bfD .abs ds k := hk
    unfold bfD at hk
    split at hk
    any_goals (first | exact hk.elim | contradiction)
    exact a1 (i1 hk)
  | tuple =>
    obtain ⟨e, rfl⟩ := List.length_eq_one_iff.mp hn
    have s1 : notStar e = true := by simpa using hs
    refine wu_we (we_tuple E.bi.tuple (fun σ G R => (h σ G R).mono fun vs G' ⟨a, ds, is, hk⟩ => ⟨a, ds, is, ?_⟩) g s1)
    have hk : bfD .tuple ds k := hk
    unfold bfD at hk
    split at hk
    any_goals (first | exact hk.elim | contradiction)
    exact a1 (sqk hk)
  | list =>
    obtain ⟨e, rfl⟩ := List.length_eq_one_iff.mp hn
    have s1 : notStar e = true := by simpa using hs
    refine wu_wo (wo_list E.bi.list (fun σ G R => (h σ G R).mono fun vs G' ⟨a, ds, is, hk⟩ => ⟨a, ds, is, ?_⟩) g s1)
    have hk : bfD .list ds k := hk
    unfold bfD at hk
    split at hk
    any_goals (first | exact hk.elim | contradiction)
    exact a1 (sqk hk)
  | sum =>
    obtain ⟨e, rfl⟩ := List.length_eq_one_iff.mp hn
    have s1 : notStar e = true := by simpa using hs
    refine wu_we (we_sum E.bi.sum (fun σ G R => (h σ G R).mono fun vs G' ⟨a, ds, is, hk⟩ => ⟨a, ds, is, ?_⟩) E.calm g s1)
    have hk : bfD .sum ds k := hk
    unfold bfD at hk
    split at hk
    any_goals (first | exact hk.elim | contradiction)
    obtain ⟨ns, e, q⟩ := hk
    exact a1 (ilE e q)
  | max =>
    match es, hn with
    | [e, e2], _ =>
      have s1 : notStar e = true ∧ notStar e2 = true := by simpa using hs
      refine wu_we (we_max2 E.bi.max (fun σ G R => (h σ G R).mono fun vs G' ⟨a, ds, is, hk⟩ => ⟨a, ds, is, ?_⟩) E.calm g s1.1 s1.2)
      have hk : bfD .max ds k := hk
      unfold bfD at hk
      split at hk
      any_goals (first | exact hk.elim | contradiction)
      exact a2 (i2 hk)
  | min =>
    match es, hn with
    | [e, e2], _ =>
      have s1 : notStar e = true ∧ notStar e2 = true := by simpa using hs
      refine wu_we (we_min2 E.bi.min (fun σ G R => (h σ G R).mono fun vs G' ⟨a, ds, is, hk⟩ => ⟨a, ds, is, ?_⟩) E.calm g s1.1 s1.2)
      have hk : bfD .min ds k := hk
      unfold bfD at hk
      split at hk
      any_goals (first | exact hk.elim | contradiction)
      exact a2 (i2 hk)
  | gcd =>
    have m := E.math (by simpa [bfMath] using hm)
    match es, hn with
    | [e, e2], _ =>
      have s1 : notStar e = true ∧ notStar e2 = true := by simpa using hs
      refine wu_we (we_gcd m.1 (fun σ G R => (h σ G R).mono fun vs G' ⟨a, ds, is, hk⟩ => ⟨a, ds, is, ?_⟩) g s1.1 s1.2)
      have hk : bfD .gcd ds k := hk
      unfold bfD at hk
      split at hk
      any_goals (first | exact hk.elim | contradiction)
      exact a2 (i2 hk)
  | lcm =>
    have m := E.math (by simpa [bfMath] using hm)
    match es, hn with
    | [e, e2], _ =>
      have s1 : notStar e = true ∧ notStar e2 = true := by simpa using hs
      refine wu_we (we_lcm m.2 (fun σ G R => (h σ G R).mono fun vs G' ⟨a, ds, is, hk⟩ => ⟨a, ds, is, ?_⟩) g s1.1 s1.2)
      have hk : bfD .lcm ds k := hk
      unfold bfD at hk
      split at hk
      any_goals (first | exact hk.elim | contradiction)
      exact a2 (i2 hk)
def tyStr : Ty → String
  | .int => "int" | .bool => "bool" | .str => "str" | .list => "list" | .tuple => "tuple"
theorem isiD_II {d : D} {t : Ty} {b : Bool} {k : Bool → Prop} (h : isiD d t = some b) (q : k b) : II d (tyStr t) k := by
  cases d with
  | sq l ds => cases l <;> cases t <;> cases h <;> exact ⟨_, _, rfl, by decide +kernel, q⟩
  | int i => cases t <;> cases h <;> exact ⟨_, _, rfl, by decide +kernel, q⟩
  | bl i => cases t <;> cases h <;> exact ⟨_, _, rfl, by decide +kernel, q⟩
  | str i => cases t <;> cases h <;> exact ⟨_, _, rfl, by decide +kernel, q⟩
  | non => cases t <;> cases h <;> exact ⟨_, _, rfl, by decide +kernel, q⟩
  | _ => cases t <;> cases h
theorem we_isiD (E : Ev X C Γ) {t : Ty} {e : Expr} {x y : Str} {pos p p2 : Pos} {k : D → Prop} (hx : x = "isinstance") (hy : y = tyName t) (hg : gloB C x = true) (hgy : gloB C y = true) (hs : notStar e = true) (h : We X H0 e δ (fun d => ∃ b, isiD d t = some b ∧ k (.bl b))) :
    We X H0 (.Call (.Name x p) [e, .Name y p2] [] pos) δ k := by
  subst hx hy
  have g := (E.glo hg).1
  have g2 := (E.glo hgy).1
  cases t with
  | int => exact we_isi E.bi.isinstance (isi_arg (T := "int") E.bi.int (by decide +kernel) g2 (by decide) (by decide)) (h.mono fun d ⟨b, h1, h2⟩ => isiD_II (k := fun b => k (.bl b)) h1 h2) g hs
  | bool => exact we_isi E.bi.isinstance (isi_arg (T := "bool") E.bi.bool (by decide +kernel) g2 (by decide) (by decide)) (h.mono fun d ⟨b, h1, h2⟩ => isiD_II (k := fun b => k (.bl b)) h1 h2) g hs
  | str => exact we_isi E.bi.isinstance (isi_arg (T := "str") E.bi.str (by decide +kernel) g2 (by decide) (by decide)) (h.mono fun d ⟨b, h1, h2⟩ => isiD_II (k := fun b => k (.bl b)) h1 h2) g hs
  | list => exact we_isi E.bi.isinstance (isi_arg (T := "list") E.bi.list (by decide +kernel) g2 (by decide) (by decide)) (h.mono fun d ⟨b, h1, h2⟩ => isiD_II (k := fun b => k (.bl b)) h1 h2) g hs
  | tuple => exact we_isi E.bi.isinstance (isi_arg (T := "tuple") E.bi.tuple (by decide +kernel) g2 (by decide) (by decide)) (h.mono fun d ⟨b, h1, h2⟩ => isiD_II (k := fun b => k (.bl b)) h1 h2) g hs
end
end DL
set_option Elab.async false
set_option linter.all false
set_option maxRecDepth 100000
set_option maxHeartbeats 4000000
/-! The deep machine, part d: expressions are sound. -/
namespace DL
open PySem PySem.Spec PyProof.Rows L2
section
variable {X : Cx} {C : Ct} {Γ : List DSp} {H0 : Hp} {δ : List S} {e : Expr}
theorem wi_mono2 {it : Expr} {k k' : Nat → (Nat → D) → Prop} (h : Wi X H0 it δ k) (m : ∀ n item, k n item → k' n item) : Wi X H0 it δ k' := Wi.mono h m
theorem wa_mono {es : List Expr} {k k' : List D → Prop} (h : Wa X H0 es δ k) (m : ∀ ds, k ds → k' ds) : Wa X H0 es δ k' := fun σ G R => (h σ G R).mono fun vs G' ⟨a, ds, is, q⟩ => ⟨a, ds, is, m ds q⟩
theorem wu_call (E : Ev X C Γ) {xw : List S → XD} {i : Nat} {x : Str} {es : List Expr} {pos p : Pos} {k : S → Prop} {T : DSp} (hx : Xc X H0 xw) (hf : C.fs[i]? = some x) (hg : gloB C x = true) (hT : Γ[i]? = some T) (hn : es ≠ []) (hs : es.all notStar = true)
    (h : Wa X H0 es δ (fun ds => T ds k (xw δ))) : Wu X H0 (.Call (.Name x p) es [] pos) δ k := by
  obtain ⟨lvl, ps, T0, dds, F, hr, hTT⟩ := E.fns i x T hf hT
  obtain ⟨g, hdb⟩ := E.glo hg
  cases es with
  | nil => exact absurd rfl hn
  | cons e es =>
    rw [List.all_cons, Bool.and_eq_true] at hs
    intro σ G R
    obtain ⟨f, fd, ds, dvs, Fk, hm, hk, hb, hd, hdd⟩ := F.ex
    obtain ⟨W, tk, hW⟩ := hx.ex
    refine toE (pe_callSD Fk hr g hm hk hb hd (fun σ => passAt tk σ) pa_sem hdb (star_of hs.1) (star_any hs.2)) ((h σ G R).mono fun vs G1 ⟨e1, as, is, hT⟩ => ?_)
    exact ⟨_, _, _, is.app (hdd G1), hTT _ _ _ hT, fun v H' r hr' hk' => ⟨r, hr'.back e1, hk'⟩, fun c d H' fs e2 i q => hW σ H' δ c d fs ((R.mono e1).mono e2) i q⟩
theorem wu_bin {o : Bop} {op : Operator} {a b : Expr} {pos : Pos} {k : S → Prop} (h1 : bopB o op = true) (w : We X H0 a δ (fun x => We X H0 b δ (fun y => binD o x y k))) : Wu X H0 (.BinOp a op b pos) δ k := by
  unfold bopB at h1
  split at h1
  · exact wu_add w
  · exact wu_sub w
  · exact wu_mul w
  · exact wu_div w
  · exact wu_mod w
  · exact wu_pow w
  · cases h1
theorem wl_ne {a : Xe} {as : Xl} {es : List Expr} (h : chL C (.cons a as) es = true) : ∃ e r, es = e :: r ∧ chE C a e = true ∧ chL C as r = true := by
  cases es with
  | nil => rw [chL] at h; cases h
  | cons e r =>
    rw [chL] at h
    obtain ⟨h1, h2⟩ := and3 h
    exact ⟨e, r, rfl, h1, h2⟩
end
mutual
theorem so_e : ∀ a : Xe, SoE a
  | .var i => .mk <| by
    intro X C Γ H0 e E h xw δ hx
    cases e with
    | Name x p =>
      rw [chE] at h
      refine so_mk (fun c q => ?_) (fun _ => rfl)
      have q : varD δ[i]? c.fn := q
      cases hd : δ[i]? with
      | none => rw [hd] at q; exact q.elim
      | some s =>
        rw [hd] at q
        cases s with
        | sh d => exact wu_we (we_var i hd q (E.vis h))
        | _ => exact q.elim
    | _ => rw [chE] at h <;> first | cases h | (intro _ _ z; cases z)
  | .int i => .mk <| by
    intro X C Γ H0 e E h xw δ hx
    unfold chE at h
    split at h
    · obtain rfl := of_decide_eq_true h
      exact so_mk (fun c q => wu_we (we_int q)) (fun _ => rfl)
    · cases h
  | .bl i => .mk <| by
    intro X C Γ H0 e E h xw δ hx
    unfold chE at h
    split at h
    · obtain rfl := of_decide_eq_true h
      exact so_mk (fun c q => wu_we (we_bl q)) (fun _ => rfl)
    · cases h
  | .non => .mk <| by
    intro X C Γ H0 e E h xw δ hx
    unfold chE at h
    split at h
    · exact so_mk (fun c q => wu_we (we_non q)) (fun _ => rfl)
    · cases h
  | .str i => .mk <| by
    intro X C Γ H0 e E h xw δ hx
    unfold chE at h
    split at h
    · obtain rfl := of_decide_eq_true h
      exact so_mk (fun c q => wu_we (we_str q)) (fun _ => rfl)
    · cases h
  | .bin o a b => .mk <| by
    intro X C Γ H0 e E h xw δ hx
    unfold chE at h
    split at h
    · obtain ⟨h1, h⟩ := and3 h
      obtain ⟨h2, h3⟩ := and3 h
      have A := ((so_e a).run E h2 hx (xw := xw) (δ := δ)).1
      have B := ((so_e b).run E h3 hx (xw := xw) (δ := δ)).1
      refine so_mk (fun c q => ?_) (fun _ => rfl)
      have w := we_wu (k := fun x => We _ H0 _ δ fun y => binD o x y c.fn) ((A _ q).mono fun r q => we_wu (k := fun y => binD o r.d y c.fn) (B _ q))
      exact wu_bin h1 w
    · cases h
  | .rep a b => .mk <| by
    intro X C Γ H0 e E h xw δ hx
    unfold chE at h
    split at h
    · obtain ⟨h2, h3⟩ := and3 h
      have A := ((so_e a).run E h2 hx (xw := xw) (δ := δ)).1
      have B := ((so_e b).run E h3 hx (xw := xw) (δ := δ)).1
      exact so_mk (fun c q => wu_rep ((A _ q).mono fun r q => we_wu (k := fun y => repD r y c.fn) (B _ q))) (fun _ => rfl)
    · cases h
  | .neg a => .mk <| by
    intro X C Γ H0 e E h xw δ hx
    unfold chE at h
    split at h
    · have A := ((so_e a).run E h hx (xw := xw) (δ := δ)).1
      exact so_mk (fun c q => wu_neg (we_wu (k := fun x => negD x c.fn) (A _ q))) (fun _ => rfl)
    · cases h
  | .not a => .mk <| by
    intro X C Γ H0 e E h xw δ hx
    unfold chE at h
    split at h
    · have A := (so_e a).run E h hx (xw := xw) (δ := δ)
      exact ⟨fun k q => wu_not (we_wu (k := fun x => notD x k) (A.1 _ q)), fun y n q => wt_not ((A.2 _ _ q).mono fun b z => ⟨fun e => z.2 (by simpa using e), fun e => z.1 (by simpa using e)⟩)⟩
    · cases h
  | .cmp o a b => .mk <| by
    intro X C Γ H0 e E h xw δ hx
    unfold chE at h
    split at h
    · obtain ⟨h1, h⟩ := and3 h
      obtain ⟨h2, h3⟩ := and3 h
      have A := ((so_e a).run E h2 hx (xw := xw) (δ := δ)).1
      have B := ((so_e b).run E h3 hx (xw := xw) (δ := δ)).1
      refine ⟨fun k q => ?_, fun y n q => ?_⟩
      · exact wu_cmp E.units h1 (we_wu (k := fun x => We _ H0 _ δ fun y => cmpB o x y fun r => k (.sh (.bl r))) ((A _ q).mono fun r q => we_wu (k := fun y => cmpB o r.d y fun r => k (.sh (.bl r))) (B _ q)))
      · exact wtD_cmp E.units h1 (we_wu (k := fun x => We _ H0 _ δ fun z => cmpB o x z (tk y n)) ((A _ q).mono fun r q => we_wu (k := fun z => cmpB o r.d z (tk y n)) ((B _ q).mono fun r' q' => cmpT_B q')))
    · cases h
  | .and as => .mk <| by
    intro X C Γ H0 e E h xw δ hx
    unfold chE at h
    split at h
    · obtain ⟨h1, h2⟩ := and3 h
      have A := ((so_l as).run E h2 hx (xw := xw) (δ := δ)).2 (by intro z; rw [z] at h1; cases h1)
      exact ⟨(A _).1, fun y n q => wt_w ((A _).2.2.1 y n q)⟩
    · cases h
  | .or as => .mk <| by
    intro X C Γ H0 e E h xw δ hx
    unfold chE at h
    split at h
    · obtain ⟨h1, h2⟩ := and3 h
      have A := ((so_l as).run E h2 hx (xw := xw) (δ := δ)).2 (by intro z; rw [z] at h1; cases h1)
      exact ⟨(A _).2.1, fun y n q => wt_w ((A _).2.2.2 y n q)⟩
    · cases h
  | .ite c a b => .mk <| by
    intro X C Γ H0 e E h xw δ hx
    unfold chE at h
    split at h
    · obtain ⟨h1, h⟩ := and3 h
      obtain ⟨h2, h3⟩ := and3 h
      have T := ((so_e c).run E h1 hx (xw := xw) (δ := δ)).2
      have A := ((so_e a).run E h2 hx (xw := xw) (δ := δ)).1
      have B := ((so_e b).run E h3 hx (xw := xw) (δ := δ)).1
      exact ⟨fun k q => wu_if (T _ _ q) (A k) (B k), fun y n q => q.elim⟩
    · cases h
  | .itu c a b => .mk <| by
    intro X C Γ H0 e E h xw δ hx
    unfold chE at h
    split at h
    · obtain ⟨h1, h⟩ := and3 h
      obtain ⟨h2, h3⟩ := and3 h
      have T := ((so_e c).run E h1 hx (xw := xw) (δ := δ)).2
      have A := ((so_e a).run E h2 hx (xw := xw) (δ := δ)).1
      have B := ((so_e b).run E h3 hx (xw := xw) (δ := δ)).1
      refine ⟨fun k q => ?_, fun y n q => q.elim⟩
      obtain ⟨M, q1, q2⟩ := UpW.ex q
      exact (wu_if (T _ _ q1) (A M) (B M)).mono q2
    · cases h
  | .ix a b => .mk <| by
    intro X C Γ H0 e E h xw δ hx
    unfold chE at h
    split at h
    · obtain ⟨h2, h3⟩ := and3 h
      have A := ((so_e a).run E h2 hx (xw := xw) (δ := δ)).1
      have B := ((so_e b).run E h3 hx (xw := xw) (δ := δ)).1
      exact so_mk (fun c q => wu_we (wu_ix (we_wu (k := fun x => We _ H0 _ δ fun y => ixD x y fun d => c.fn (.sh d)) ((A _ q).mono fun r q => we_wu (k := fun y => ixD r.d y fun d => c.fn (.sh d)) (B _ q))) (chE_ix h3))) (fun _ => rfl)
    · cases h
  | .ixn a n => .mk <| by
    intro X C Γ H0 e E h xw δ hx
    unfold chE at h
    split at h
    · obtain ⟨h2, h3⟩ := and3 h
      have A := ((so_e a).run E h2 hx (xw := xw) (δ := δ)).1
      have e3 := of_decide_eq_true h3
      subst e3
      refine so_mk (fun c q => wu_we (we_ix (we_wu (k := fun x => We _ H0 _ δ fun y => Ix x y fun d => c.fn (.sh d)) ((A _ q).mono fun r q => we_int ?_)) (fun _ _ => rfl))) (fun _ => rfl)
      cases hd : r.d with
      | sq l ds =>
        rw [hd] at q
        have q : (match ds[n]? with | some d => c.fn (.sh d) | none => False) := q
        cases hn : ds[n]? with
        | none => rw [hn] at q; exact q.elim
        | some d => rw [hn] at q; exact ixn n hn q
      | _ => rw [hd] at q; exact q.elim
    · cases h
  | .tup as => .mk <| by
    intro X C Γ H0 e E h xw δ hx
    unfold chE at h
    split at h
    · obtain ⟨h1, h⟩ := and3 h
      have A := ((so_l as).run E h hx (xw := xw) (δ := δ)).1
      exact so_mk (fun c q => wu_we (we_tup (wa_mono (A _ q) fun ds ⟨a, b⟩ => ⟨by rw [a]; exact Nat.le_of_ble_eq_true h1, b⟩))) (fun _ => rfl)
    · cases h
  | .lst as => .mk <| by
    intro X C Γ H0 e E h xw δ hx
    unfold chE at h
    split at h
    · obtain ⟨h1, h⟩ := and3 h
      have A := ((so_l as).run E h hx (xw := xw) (δ := δ)).1
      exact so_mk (fun c q => wu_wo (wo_lst (wa_mono (A _ q) fun ds ⟨a, b⟩ => ⟨by rw [a]; exact Nat.le_of_ble_eq_true h1, b⟩))) (fun _ => rfl)
    · cases h
  | .call i as => .mk <| by
    intro X C Γ H0 e E h xw δ hx
    unfold chE at h
    split at h
    · obtain ⟨h1, h⟩ := and3 h
      obtain ⟨h2, h⟩ := and3 h
      obtain ⟨h3, h4⟩ := and3 h
      have A := ((so_l as).run E h4 hx (xw := xw) (δ := δ)).1
      refine so_mk (fun c q => ?_) (fun _ => rfl)
      obtain ⟨T, hT⟩ := E.cov i _ (of_decide_eq_true h1)
      exact wu_call E hx (of_decide_eq_true h1) h2 hT (by intro z; rw [z] at h3; cases h3) (chL_star h4) (wa_mono (A (fun ds => callD Γ[i]? ds c.fn (xw δ)) q) fun _ z => by
        have z := z.2
        rw [hT] at z
        exact z.ex)
    · cases h
  | .bi f as => .mk <| by
    intro X C Γ H0 e E h xw δ hx
    unfold chE at h
    split at h
    · obtain ⟨h1, h⟩ := and3 h
      obtain ⟨h2, h⟩ := and3 h
      obtain ⟨h3, h⟩ := and3 h
      obtain ⟨h4, h5⟩ := and3 h
      have A := ((so_l as).run E h5 hx (xw := xw) (δ := δ)).1
      exact so_mk (fun c q => wu_bi E (of_decide_eq_true h1) h2 h3 (of_decide_eq_true h4) (chL_star h5) (wa_mono (A _ q) fun _ z => z.2)) (fun _ => rfl)
    · cases h
  | .isi a t => .mk <| by
    intro X C Γ H0 e E h xw δ hx
    unfold chE at h
    split at h
    · obtain ⟨h1, h⟩ := and3 h
      obtain ⟨h2, h⟩ := and3 h
      obtain ⟨h3, h⟩ := and3 h
      obtain ⟨h4, h5⟩ := and3 h
      have A := ((so_e a).run E h5 hx (xw := xw) (δ := δ)).1
      refine ⟨fun k q => ?_, fun y n q => ?_⟩
      · refine wu_we (we_isiD E (of_decide_eq_true h1) (of_decide_eq_true h2) h3 h4 (chE_star h5) ((we_wu (k := fun d => isiT (isiD d t) (.e k)) (A _ q)).mono fun d z => ?_))
        cases hd : isiD d t with
        | none => rw [hd] at z; exact z.elim
        | some b => rw [hd] at z; exact ⟨b, rfl, z⟩
      · refine wt_val (we_isiD E (of_decide_eq_true h1) (of_decide_eq_true h2) h3 h4 (chE_star h5) ((we_wu (k := fun d => isiT (isiD d t) (.t y n)) (A _ q)).mono fun d z => ?_)) (fun _ => rfl)
        cases hd : isiD d t with
        | none => rw [hd] at z; exact z.elim
        | some b =>
          rw [hd] at z
          cases b with
          | true => exact ⟨true, rfl, b1 ⟨fun _ => z, fun e => nomatch e⟩⟩
          | false => exact ⟨false, rfl, b1 ⟨fun e => (nomatch e), fun _ => z⟩⟩
    · cases h
  | .lc v elt it => .mk <| by
    intro X C Γ H0 e E h xw δ hx
    unfold chE at h
    split at h
    · obtain ⟨h1, h⟩ := and3 h
      obtain ⟨h2, h⟩ := and3 h
      obtain ⟨h3, h⟩ := and3 h
      obtain ⟨h4, h5⟩ := and3 h
      refine so_mk (fun c q => wu_wo (wo_lc v (by rw [E.N]; exact E.nd) (((so_i it).run E h4 hx (xw := xw) (δ := δ) _ q).mono fun n item z => ?_) E.calm (by rw [E.N, E.sc]; exact h1) (by rw [E.N]; exact of_decide_eq_true h2) (fun cl C' => by
        show (relS _ _).names.lookup _ = _
        rw [E.sc]
        exact of_decide_eq_true h3) (chI_set h4 _))) (fun _ => rfl)
      obtain ⟨R, a, b, c⟩ := z
      exact ⟨R, a, fun i hi s hh C' cl fp => we_wu (k := R i) (((so_e elt).run (E.blk) h5 (xw := fun _ => noX) (δ := δ.set v (.sh (item i))) xc0).1 _ (b i hi)), c⟩
    · cases h
  | .lcf v elt it c => .mk <| by
    intro X C Γ H0 e E h xw δ hx
    unfold chE at h
    split at h
    · obtain ⟨h1, h⟩ := and3 h
      obtain ⟨h2, h⟩ := and3 h
      obtain ⟨h3, h⟩ := and3 h
      obtain ⟨h4, h⟩ := and3 h
      obtain ⟨h5, h6⟩ := and3 h
      refine so_mk (fun c0 q => wu_wo (wo_lcf v (by rw [E.N]; exact E.nd) (((so_i it).run E h4 hx (xw := xw) (δ := δ) _ q).mono fun n item z => ?_) E.calm (by rw [E.N, E.sc]; exact h1) (by rw [E.N]; exact of_decide_eq_true h2) (fun cl C' => by
        show (relS _ _).names.lookup _ = _
        rw [E.sc]
        exact of_decide_eq_true h3) (chI_set h4 _))) (fun _ => rfl)
      obtain ⟨t, g, a, b, c'⟩ := z
      refine ⟨t, g, a, fun i hi s hh C' cl fp => (((so_e c).run (E.blk) h6 (xw := fun _ => noX) (δ := δ.set v (.sh (item i))) xc0).2 _ _ (b i hi)).mono fun r z => ?_, c'⟩
      have zz : r = t (item i) ∧ (r = true → wpe Γ elt (δ.set v (.sh (item i))) noX (.e fun r => r.d = g (item i))) := by
        cases r with
        | true => exact z.1 rfl
        | false => exact z.2 rfl
      exact ⟨zz.1, fun hr s2 hh2 C2 cl2 fp2 => we_wu (k := fun e => e = g (item i)) (((so_e elt).run (E.blk) h5 (xw := fun _ => noX) (δ := δ.set v (.sh (item i))) xc0).1 _ (zz.2 hr))⟩
    · cases h
theorem so_l : ∀ as : Xl, SoL as
  | .nil => .mk <| by
    intro X C Γ H0 es E h xw δ hx
    rw [chL, List.isEmpty_iff] at h
    subst h
    exact ⟨fun k q => wa_nil ⟨rfl, q⟩, fun z => absurd rfl z⟩
  | .cons a as => .mk <| by
    intro X C Γ H0 es E h xw δ hx
    obtain ⟨e, r, rfl, h1, h2⟩ := wl_ne h
    have A := (so_e a).run E h1 hx (xw := xw) (δ := δ)
    have B := (so_l as).run E h2 hx (xw := xw) (δ := δ)
    refine ⟨fun k q => wa_cons (we_wu (k := fun d => Wa _ H0 r δ fun ds => (d :: ds).length = (e :: r).length ∧ k (d :: ds)) ((A.1 _ q).mono fun x q => wa_mono (B.1 _ q) fun ds z => ⟨by rw [List.length_cons, List.length_cons, z.1], z.2⟩)) (chE_star h1), fun _ pos => ?_⟩
    cases as with
    | nil =>
      rw [chL, List.isEmpty_iff] at h2
      subst h2
      exact ⟨fun k q => wu_one (A.1 k q), fun k q => wu_one (A.1 k q), fun y n q => ww_and1 (A.2 y n q), fun y n q => ww_or1 (A.2 y n q)⟩
    | cons a' as' =>
      obtain ⟨e', r', rfl, h3, h4⟩ := wl_ne h2
      obtain ⟨b1', b2', b3', b4'⟩ := B.2 (by simp) pos
      refine ⟨fun k q => wu_and ((A.1 _ q).mono fun x q => ?_), fun k q => wu_or ((A.1 _ q).mono fun x q => ?_), fun y n q => ww_and ((A.2 _ _ q).mono fun b z => ⟨fun hb => b3' _ _ (z.1 hb), fun hb => ⟨fun e => (nomatch e), fun _ => z.2 hb⟩⟩), fun y n q => ww_or ((A.2 _ _ q).mono fun b z => ⟨fun hb => b4' _ _ (z.2 hb), fun hb => ⟨fun _ => z.1 hb, fun e => nomatch e⟩⟩)⟩
      · cases hd : x.d with
        | bl r => rw [hd] at q; exact ⟨fun hr => b1' k (q.1 hr), q.2⟩
        | _ => rw [hd] at q; exact q.elim
      · cases hd : x.d with
        | bl r => rw [hd] at q; exact ⟨q.1, fun hr => b2' k (q.2 hr)⟩
        | _ => rw [hd] at q; exact q.elim
theorem so_i : ∀ a : Xi, SoI a
  | .rng a => .mk <| by
    intro X C Γ H0 e E h xw δ hx k q
    unfold chI at h
    split at h
    · obtain ⟨h1, h⟩ := and3 h
      obtain ⟨h2, h3⟩ := and3 h
      obtain rfl := of_decide_eq_true h1
      have A := ((so_e a).run E h3 hx (xw := xw) (δ := δ)).1
      refine wi_rng E.bi.range (wa_cons (we_wu (k := fun d => Wa _ H0 [] δ fun ds => A1 (d :: ds) _) ((A _ q).mono fun r z => wa_nil (a1 ?_))) (chE_star h3)) (E.glo h2).1 (chE_star h3)
      cases hd : r.d with
      | int n => rw [hd] at z; exact i1 z
      | _ => rw [hd] at z; exact z.elim
    · cases h
  | .rng2 a b => .mk <| by
    intro X C Γ H0 e E h xw δ hx k q
    unfold chI at h
    split at h
    · obtain ⟨h1, h⟩ := and3 h
      obtain ⟨h2, h⟩ := and3 h
      obtain ⟨h3, h4⟩ := and3 h
      obtain rfl := of_decide_eq_true h1
      have A := ((so_e a).run E h3 hx (xw := xw) (δ := δ)).1
      have B := ((so_e b).run E h4 hx (xw := xw) (δ := δ)).1
      refine wi_rng2 E.bi.range (wa_cons (we_wu (k := fun d => Wa _ H0 _ δ fun ds => A2 (d :: ds) _) ((A _ q).mono fun r z => wa_cons (we_wu (k := fun d => Wa _ H0 [] δ fun ds => A2 (r.d :: d :: ds) _) ((B _ z).mono fun r' z' => wa_nil (a2 ?_))) (chE_star h4))) (chE_star h3)) (E.glo h2).1 (chE_star h3) (chE_star h4)
      cases hd : r.d with
      | int n =>
        rw [hd] at z'
        cases hd' : r'.d with
        | int m => rw [hd'] at z'; exact i2 z'
        | _ => rw [hd'] at z'; exact z'.elim
      | _ => rw [hd] at z'; exact z'.elim
    · cases h
  | .sq a => .mk <| by
    intro X C Γ H0 e E h xw δ hx k q
    rw [chI] at h
    exact wi_seq (we_wu (((so_e a).run E h hx (xw := xw) (δ := δ)).1 _ q))
end
end DL
set_option Elab.async false
set_option linter.all false
set_option maxRecDepth 100000
set_option maxHeartbeats 4000000
/-! The deep machine, part e: statements. -/
namespace DL
open PySem PySem.Spec PyProof.Rows L2
theorem Vw.trans {a b : List S} (h : Vw a b) : ∀ {c : List S}, Vw b c → Vw a c := by
  induction h with
  | nil => intro c h2; exact h2
  | keep _ ih => intro c h2; cases h2 with
    | keep h3 => exact .keep (ih h3)
    | drop h3 => exact .drop (ih h3)
    | bor h3 => exact .bor (ih h3)
  | drop _ ih => intro c h2; cases h2 with
    | keep h3 => exact .drop (ih h3)
    | drop h3 => exact .drop (ih h3)
  | bor _ ih => intro c h2; cases h2 with
    | keep h3 => exact .bor (ih h3)
    | drop h3 => exact .drop (ih h3)
theorem vw_bor1 {i : Nat} {δ : List S} : Vw δ (bor1 i δ) := by
  unfold bor1
  split
  · rename_i o e; exact Vw.borAt e
  · exact Vw.refl _
theorem vw_bor : ∀ {bs : List Nat} {δ : List S}, Vw δ (bor bs δ)
  | [], δ => Vw.refl _
  | i :: is, δ => vw_bor1.trans (vw_bor (bs := is))
theorem vw_no : ∀ {δ : List S} {i : Nat}, Vw δ (δ.set i .no)
  | [], _ => .nil
  | s :: r, 0 => .drop (Vw.refl r)
  | s :: r, i + 1 => .keep (vw_no (i := i))
theorem vw_drp : ∀ {dd : List Nat} {δ : List S}, Vw δ (drp dd δ)
  | [], δ => Vw.refl _
  | i :: is, δ => vw_no.trans (vw_drp (dd := is))
theorem FlatN.isP {K : PySem.W.Frag} {H : Hp} {ps : List Addr} {d : D} (no : ∀ p ∈ ps, ∀ ys, ¬ Rd H p (.tup ys)) (f : FlatN d) : ∀ {v : V}, Is K H v d → Is K (cut H ps) v d := by
  induction f with
  | flat f => intro v h; exact h.flat f
  | tup _ ih =>
    intro v h
    obtain ⟨a, xs, rfl, h1, il⟩ := h.tup_inv
    refine .mkT ?_ (IsL.of_get il.1 fun i x d hx hd => ih i d hd (il.2 i x d hx hd))
    rcases h1 with z | z
    · refine .inl ?_
      have na : a ∉ ps := fun hp => no a hp xs z
      rcases z with z | ⟨ob, z⟩
      · exact .inl (by rw [cut_out na]; exact z)
      · exact .inr ⟨ob, by rw [cut_out na]; exact z⟩
    · exact .inr z
section
variable {K : PySem.W.Frag} {X : Cx} {H0 B H G : Hp} {σ : L2.St} {δ δ' : List S} {own : List (List Addr)} {v : V} {r : S} {e c : Expr} {pos p : Pos}
theorem Rel.notup (R : Rel K B σ H δ own) : ∀ p ∈ own.flatten, ∀ ys, ¬ Rd H p (.tup ys) := fun p hp ys z => by
  rcases R.owned p hp with ⟨_, e⟩ | ⟨_, e⟩ | ⟨_, _, _, e, _⟩ | ⟨_, _, _, e, _⟩
  all_goals (rcases z with z | ⟨_, z⟩ <;> rw [e] at z <;> cases z)
/-- a value has come: it may be put into any slot -/
def PutOk (K : PySem.W.Frag) (B : Hp) (σ : L2.St) (H : Hp) (δ : List S) (v : V) (r : S) : Prop := ∀ i b, ∃ own', Rel K B (σ.set i (some v)) H (δ.set i (putS b r)) own'
theorem put_sh {d : D} (R : Rel K B σ H δ own) (h : Is K (cut H own.flatten) v d) : PutOk K B σ H δ v (.sh d) := fun i b => by
  cases b with
  | true => exact ⟨_, R.setSh h⟩
  | false => exact ⟨_, R.setSh h⟩
theorem put_ow {o : Ow} {G1 : Hp} {l0 : List Addr} (R : Rel K B σ H δ own) (e : Ex (cut H own.flatten) (cut G1 l0)) (n : ∀ a ∈ own.flatten, G1 a = none) (nd : l0.Nodup) (h : OwIs K G1 (cut G1 l0) v l0 o) : PutOk K B σ (mrg H own.flatten G1) δ v (.ow o) := fun i b => by
  cases b with
  | true => exact ⟨_, R.setOw e n nd h⟩
  | false =>
    have R' := R.step (e.trans cut_ex) n
    exact ⟨_, R'.setSh (by rw [cut_mrg n]; exact h.is cut_ex)⟩
theorem put_ok (R : Rel K B σ H δ own) (n : ∀ a ∈ own.flatten, G a = none) (i : RetIs K (cut H own.flatten) v G r) :
    Rel K B σ (mrg H own.flatten G) δ own ∧ PutOk K B σ (mrg H own.flatten G) δ v r ∧ RetIs K B v (mrg H own.flatten G) r ∧ Is K (cut (mrg H own.flatten G) own.flatten) v r.d := by
  have R' := R.step i.ex.1 n
  cases r with
  | no => exact i.elim
  | sh d => exact ⟨R', put_sh R' (by rw [cut_mrg n]; exact i.2), ⟨R'.toEx, i.2.mono fun a o ha => by
      rw [mrg_out fun z => by rw [n a z] at ha; cases ha]; exact ha⟩, by rw [cut_mrg n]; exact i.2⟩
  | ow o =>
    obtain ⟨l, hl, fr, ee, nd⟩ := i
    have eG : Ex G (mrg H own.flatten G) := fun a u ha => by
      rw [mrg_out fun z => by rw [n a z] at ha; cases ha]
      exact ha
    refine ⟨R', put_ow R ee n nd hl, ?_, by rw [cut_mrg n]; exact hl.is cut_ex⟩
    have dis : ∀ a ∈ l, mrg H own.flatten G a = G a := fun a ha => by
      obtain ⟨u, hu⟩ := (hl.at (fun a h => h) a ha).some
      rw [hu]
      exact eG a u hu
    have e2 : Ex (cut G l) (cut (mrg H own.flatten G) l) := cut_mono eG
    exact ⟨l, hl.mono e2 dis, fun a ha => R.ex.free (fr a ha), (R.ex.trans ee).trans e2, nd⟩
theorem Wu.at {k : S → Prop} (h : Wu X H0 e δ k) (hB : Ex H0 B) (R : Rel X.K B σ H δ own) : semE X e σ H (fun v H' => ∃ r, Rel X.K B σ H' δ own ∧ PutOk X.K B σ H' δ v r ∧ RetIs X.K B v H' r ∧ Is X.K (cut H' own.flatten) v r.d ∧ k r) :=
  (semE.frame R.owned (h σ _ (R.toS.weak hB))).mono fun v H' ⟨G, eq, n, r, i, q⟩ => by
    subst eq
    obtain ⟨a, b, c, d⟩ := put_ok R n i
    exact ⟨r, a, b, c, d, q⟩
/-- while slots were lent -/
theorem Wu.keep {bs : List Nat} {k : S → List S → Prop} (h : Wu X H0 e (bor bs δ) (fun r => keepW bs r δ (k r))) (hB : Ex H0 B) (R : Rel X.K B σ H δ own) :
    semE X e σ H (fun v H' => ∃ r δ1 own1, Rel X.K B σ H' δ1 own1 ∧ Is X.K (cut H' own1.flatten) v r.d ∧ PutOk X.K B σ H' δ1 v r ∧ k r δ1) := by
  cases bs with
  | nil => exact (Wu.at (k := fun r => k r δ) h hB R).mono fun v H' ⟨r, a, b, c, d, q⟩ => ⟨r, δ, own, a, d, b, q⟩
  | cons j js =>
    obtain ⟨R', sub⟩ := R.view (vw_bor (bs := j :: js))
    refine (semE.frame R'.owned (h σ _ (R'.toS.weak hB))).mono fun v H' ⟨G, eq, n, r, i, q⟩ => ?_
    obtain ⟨a, b, c, d⟩ := put_ok R' n i
    rw [← eq] at a b c d
    rcases q.ex with ⟨sf, q⟩ | q
    · refine ⟨r, δ, own, ?_⟩
      have gr : Ex H H' := by rw [eq]; exact mrg_ex i.ex.1
      have RH : Rel X.K B σ H' δ own := R.grow gr
      cases r with
      | no => exact sf.elim
      | sh dd =>
        have iv : Is X.K (cut H' own.flatten) v dd := FlatN.is RH sf (d.mono cut_ex)
        exact ⟨RH, iv, put_sh RH iv, q⟩
      | ow o =>
        cases o with
        | lst ds =>
          obtain ⟨l, ⟨p, xs, rfl, rfl, hp, il⟩, fr, ee, nd⟩ := i
          have hpG : H' p = some (.lst xs) := by
            rw [eq, mrg_out (fun z => by rw [n p z] at hp; cases hp)]
            exact hp
          have hpo : p ∉ own.flatten := fun z => by
            obtain ⟨u, hu⟩ := (R.owned p z).some
            have := fr p (by simp)
            by_cases hz : p ∈ (keepOw own (bor (j :: js) δ)).flatten
            · rw [n p hz] at hp; cases hp
            · rw [cut_out hz, hu] at this; cases this
          have same : ∀ a ∈ own.flatten, H' a = H a := fun a ha => by
            obtain ⟨u, hu⟩ := (R.owned a ha).some
            rw [hu]
            exact gr a u hu
          have eqm : mrg H own.flatten (cut H' own.flatten) = H' := by
            funext a
            by_cases z : a ∈ own.flatten
            · rw [mrg_in z, same a z]
            · rw [mrg_out z, cut_out z]
          have noT : ∀ q ∈ p :: own.flatten, ∀ ys, ¬ Rd H' q (.tup ys) := fun q hq ys z => by
            rcases List.mem_cons.mp hq with rfl | hq
            · rcases z with z | ⟨_, z⟩ <;> rw [hpG] at z <;> cases z
            · exact RH.notup q hq ys z
          have cc : cut (cut H' own.flatten) [p] = cut H' (p :: own.flatten) := by
            funext a
            by_cases z : a = p
            · subst z; rw [cut_in (by simp), cut_in (by simp)]
            · by_cases y : a ∈ own.flatten
              · rw [cut_out (by simpa using z), cut_in y, cut_in (by simp [y])]
              · rw [cut_out (by simpa using z), cut_out y, cut_out (by simp [z, y])]
          have items : IsL X.K (cut (cut H' own.flatten) [p]) xs ds := by
            rw [cc]
            refine IsL.of_get il.1 fun i x d hx hd => FlatN.isP noT (sf d (List.mem_of_getElem? hd)) ?_
            refine (il.2 i x d hx hd).mono ((cut_ex).trans ?_)
            rw [eq]
            intro a u ha
            rw [mrg_out fun z => by rw [n a z] at ha; cases ha]
            exact ha
          have ow : OwIs X.K (cut H' own.flatten) (cut (cut H' own.flatten) [p]) (.ref p) [p] (.lst ds) := ⟨p, xs, rfl, rfl, by rw [cut_out hpo]; exact hpG, items⟩
          have e1 : Ex (cut H own.flatten) (cut (cut H' own.flatten) [p]) := fun a u ha => by
            obtain ⟨n1, n2⟩ := cut_some ha
            have : a ≠ p := by
              rintro rfl
              have hz := fr a (by simp)
              by_cases hk : a ∈ (keepOw own (bor (j :: js) δ)).flatten
              · exact n1 (sub a hk)
              · rw [cut_out hk, n2] at hz; cases hz
            rw [cut_out (by simpa using this), cut_out n1]
            exact gr a u n2
          have P := put_ow R e1 (fun a ha => cut_in ha) nd ow
          rw [eqm] at P
          exact ⟨RH, ow.is cut_ex, P, q⟩
        | dic _ => exact sf.elim
        | ins _ _ => exact sf.elim
        | tr _ => exact sf.elim
        | self _ _ _ _ => exact sf.elim
    · exact ⟨r, bor (j :: js) δ, _, a, d, b, q⟩
end
/-- the ends, as the lower judgements read them -/
def toEn (E : Ed) : En := { nx := E.nx, rt := fun _ r => E.rt r, bk := E.bk, ct := E.ct }
section
variable {X : Cx} {C : Ct} {Γ : List DSp} {H0 : Hp} {δ δ' : List S} {e c it : Expr} {pos p : Pos} {E : En} {sts : List Stmt}
theorem ws_setU (i : Nat) {x : Str} {pos' : Pos} {own : Bool} {bs : List Nat} (hN : X.N.Nodup) (h : Wu X H0 e (bor bs δ) (fun r => keepW bs r δ fun δ' => E.nx (δ'.set i (putS own r)))) (hi : X.N[i]? = some x) (hx : Loc X.env.scope x) (hs : swapsWith e (some (.Name x pos')) pos.line X.env = pure false) (hf : X.fn x = true ∨ X.env.scope.names.lookup x = some .local) :
    Ws X H0 (.Assign [.Name x pos'] e pos) δ E := fun B σ H ow hB R => toS (ps_set hN hi hx pe_sem hs hf) ((Wu.keep (k := fun r δ' => E.nx (δ'.set i (putS own r))) h hB R).mono fun v H' ⟨r, δ1, own1, R1, iv, P, q⟩ => by
  obtain ⟨own', R'⟩ := P i own
  exact ⟨_, own', R', q⟩)
theorem ws_asgU {tg : Expr} {bs : List Nat} (h : Wu X H0 e (bor bs δ) (fun r => keepW bs r δ fun δ' => Wg X H0 tg r.d δ' E.nx)) (hs : swapsWithSole [tg] e pos.line X.env = pure false) (hw : swappedStores [tg] e X.env = pure none)
    (h1 : (assignEach [tg] X.env).map (·.2) = [assign tg X.env]) : Ws X H0 (.Assign [tg] e pos) δ E := fun B σ H own hB R => toS (ps_asg pe_sem pg_sem hs hw h1) ((Wu.keep (k := fun r δ' => Wg X H0 tg r.d δ' E.nx) h hB R).mono fun v H1 ⟨r, δ1, own1, R1, iv, P, q⟩ => q B σ H1 own1 v hB R1 iv)
theorem ws_retU {bs : List Nat} (h : Wu X H0 e (bor bs δ) (fun r => retD bs r (E.rt δ))) : Ws X H0 (.Return (some e) pos) δ E := fun B σ H own hB R => by
  cases bs with
  | nil => exact toS (ps_ret pe_sem) ((Wu.at (k := fun r => E.rt δ r) h hB R).mono fun v H' ⟨r, R', P, ir, id, q⟩ => ⟨σ, δ, own, r, R', ir, q⟩)
  | cons j js =>
    obtain ⟨R', sub⟩ := R.view (vw_bor (bs := j :: js))
    refine toS (ps_ret pe_sem) ((semE.frame R'.owned (h σ _ (R'.toS.weak hB))).mono fun v H' ⟨G, eq, n, r, i, q⟩ => ?_)
    subst eq
    have q : E.rt δ r.un := q
    have gr : Ex H (mrg H (keepOw own (bor (j :: js) δ)).flatten G) := mrg_ex i.ex.1
    have eG : Ex G (mrg H (keepOw own (bor (j :: js) δ)).flatten G) := fun a u ha => by
      rw [mrg_out fun z => by rw [n a z] at ha; cases ha]
      exact ha
    have RH := R.grow gr
    cases r with
    | no => exact i.elim
    | sh d => exact ⟨σ, δ, own, .sh d, RH, ⟨RH.toEx, i.2.mono eG⟩, q⟩
    | ow o => exact ⟨σ, δ, own, .sh o.d, RH, ⟨RH.toEx, i.ex.2.mono eG⟩, q⟩
theorem ws_appU (i : Nat) {x : Str} {px apos cpos : Pos} {bs : List Nat} (h : Wu X H0 e (bor bs δ) (fun r => keepW bs r δ fun δ' => appD i r.d δ' E.nx)) (hd : ∃ ds, δ[i]? = some (.ow (.lst ds))) (hp : PE X (.Name x px) (tVar i))
    (hline : (apos.endLine == cpos.line) = true) (hs : notStar e = true) : Ws X H0 (.Expr (.Call (.Attribute (.Name x px) "append" apos) [e] [] cpos) pos) δ E := fun B σ H own hB R =>
  toS (ps_expr (pe_bm PySem.F.plainAttrs_list PySem.F.slot_list_append PySem.F.type_list_append mt_append hp (pa_cons pe_sem pa_nil (star_of hs)) rfl (few_of hs) hline (star_of hs) rfl) rfl) (by
    obtain ⟨ds0, hi⟩ := hd
    obtain ⟨x0, l, h1, h2, v, rfl, p, xs, rfl, rfl, h3, h4⟩ := R.idx hi
    refine ⟨_, h1, .inl ⟨rfl, xs, SqL.of h3⟩, (Wu.keep (k := fun r δ' => appD i r.d δ' E.nx) h hB R).mono fun w H' ⟨r, δ1, own1, R', id, P, q⟩ => ?_⟩
    unfold appD at q
    split at q
    · rename_i ds hj
      obtain ⟨q1, q2⟩ := q
      obtain ⟨x0, l, g1, g2, v', rfl, p', xs', ev, rfl, g3, g4⟩ := R'.idx hj
      rw [h1] at g1; cases g1
      have e1 : xs'.length = ds.length := g4.1
      cases ev
      refine ⟨p, xs', w, rfl, rfl, g3, Nat.lt_trans (by rw [e1]; exact q1) (by decide), _, _, R'.write (o' := .lst _) g2 (by simp) h1 ⟨p, xs' ++ [w], rfl, rfl, upd_same, g4.snoc id⟩, q2⟩
    · exact q.elim)
theorem ws_stiU (i : Nat) {x : Str} {px spos : Pos} {ix : Expr} {bs : List Nat} {k : S → List S → Prop} (h : Wu X H0 e (bor bs δ) (fun r => keepW bs r δ (k r))) (hk : ∀ r δ', k r δ' → ∃ ds, δ'[i]? = some (.ow (.lst ds)) ∧ We X H0 ix (bor bs δ') fun q => stiD i ds r.d q δ' E.nx)
    (hg : PG X (.Subscript (.Name x px) ix spos) (gSub (tVar i) (semE X ix) rSetL))
    (hs : swapsWithSole [.Subscript (.Name x px) ix spos] e pos.line X.env = pure false) (hw : swappedStores [.Subscript (.Name x px) ix spos] e X.env = pure none) : Ws X H0 (.Assign [.Subscript (.Name x px) ix spos] e pos) δ E := fun B σ H own hB R =>
  toS (ps_asg pe_sem hg hs hw rfl) ((Wu.keep (k := k) h hB R).mono fun w H1 ⟨r, δ1, own1, R1, id, P, q⟩ => by
    obtain ⟨ds, hj, q⟩ := hk r δ1 q
    obtain ⟨x0, l, h1, h2, v, rfl, p, xs, rfl, rfl, h3, h4⟩ := R1.idx hj
    obtain ⟨R', sub⟩ := R1.view (vw_bor (bs := bs))
    refine ⟨_, h1, (semE.frame R'.owned (q σ _ (R'.toS.weak hB))).mono fun n H2 ⟨G, eq, nn, e2, dn, inn, q⟩ => ?_⟩
    have q : stiD i ds r.d dn δ1 E.nx := q
    cases dn with
    | int m =>
      obtain ⟨j, ej, hjl, q2⟩ := q
      have gr : Ex H1 H2 := by rw [eq]; exact mrg_ex e2
      have R2 : Rel X.K B σ H2 δ1 own1 := R1.grow gr
      have id2 : Is X.K (cut H2 own1.flatten) w r.d := id.mono (cut_mono gr)
      obtain ⟨x0, l, g1, g2, v', rfl, p', xs', ev, rfl, g3, g4⟩ := R2.idx hj
      rw [h1] at g1; cases g1
      subst ej
      cases inn
      refine ⟨p', xs', (j : Int), j, ev, rfl, g3, ?_, _, _, R2.write (o' := .lst _) g2 (by simp) h1 ⟨p', xs'.set j w, ev, rfl, upd_same, g4.set id2⟩, q2⟩
      unfold ixN
      have e1 : xs'.length = ds.length := g4.1
      rw [if_pos (by omega), if_pos (by omega)]
      simp
    | _ => exact q.elim)
/-! loops over a list or a tuple -/
theorem ws_forQ (hp : PassesOwn (model X.prog X.w) X.A X.env X.xe) (hc : X.calm = true) {tg it : Expr} (h : Wi X H0 it δ fun n item => ∃ Iv : Nat → List S → Prop, Upto (Iv 0) δ ∧ (∀ (i : Nat) δ1, i < n → Iv i δ1 → Wg X H0 tg (item i) δ1 fun δ2 => Wb X H0 sts δ2 (turnE E (Iv (i + 1)))) ∧ (∀ δ1, Iv n δ1 → E.nx δ1))
    (hs : ∀ x, foldedSetIterable it X.env x = pure x) : Ws X H0 (.For tg it sts [] pos) δ E := fun B σ H own hB R => by
  obtain ⟨wi, hpi, fri, hw⟩ := h
  refine toS (ps_for hp hc (hpi _) pg_sem pb_sem hs) (fri σ H own.flatten _ _ R.owned (hw σ _ (R.toS.weak hB)) fun J G nn ⟨e1, n, item, ⟨Iv, h0, ht, he⟩, g⟩ => ?_)
  have ec : cut (mrg H own.flatten G) own.flatten = G := cut_mrg nn
  have hB1 : Ex B G := R.ex.trans e1
  have R0 : Rel X.K G σ (mrg H own.flatten G) δ own := by
    have := R.step e1 nn
    exact ⟨by rw [ec]; exact Same.refl _, this.len1, this.len2, this.sl, this.nd⟩
  refine ⟨fun i m σ' H' => m = n - i ∧ i ≤ n ∧ ∃ δ own', Rel X.K G σ' H' δ own' ∧ Upto (Iv i) δ, ⟨n, by simp, Nat.zero_le _, δ, own, R0, h0⟩, ?_⟩
  rintro i m σ' H' ⟨rfl, hi, δ1, own1, Ra, δ2, hv2, q⟩
  obtain ⟨j1, j2⟩ := g i H' Ra.toEx
  have Rw := (Ra.view hv2).1
  by_cases hlt : i < n
  · obtain ⟨g1, g2⟩ := j1 hlt
    refine .inr ⟨g1, fun σ' H' => ∃ δ own', Rel X.K G σ' H' δ own' ∧ Upto (Iv (i + 1)) δ, fun σ' H' z => ⟨n - (i + 1), by omega, rfl, hlt, z⟩, fun x H2 y => ?_⟩
    obtain ⟨rfl, ix⟩ := g2 x H2 y
    refine (ht i δ2 hlt q G σ' _ _ x (hB.trans hB1) Rw (ix.mono Rw.ex)).mono fun σ3 H3 ⟨δ3, own3, R3, q3⟩ => ?_
    exact (q3 _ σ3 H3 own3 (hB.trans hB1) R3).mono (fun _ _ z => z) (fun v H ⟨σ, δ, own, r, Rr, ri, qq⟩ => ⟨σ, δ, own, r, Rr.weak hB1, ri.back hB1, qq⟩) (fun σ H ⟨δ, own, Rr, qq⟩ => ⟨δ, own, Rr.weak hB1, qq⟩) (fun _ _ z => z)
  · have e : i = n := by omega
    subst e
    exact .inl ⟨j2 (Nat.le_refl _), δ2, _, Rw.weak hB1, he δ2 q⟩
end
end DL
set_option Elab.async false
set_option linter.all false
set_option maxRecDepth 100000
set_option maxHeartbeats 4000000
/-! The deep machine, part f: statements are sound; a def. -/
namespace DL
open PySem PySem.Spec PyProof.Rows L2
def locB (C : Ct) (i : Nat) (x : Str) : Bool := decide (C.N[i]? = some x) && (decide (C.sc.names.lookup x = some .local) || decide (C.sc.names.lookup x = some .cell))
def locsB (C : Ct) : List Nat → List Expr → Bool
  | [], es => es.isEmpty
  | i :: is, es => match es with
    | .Name x _ :: r => locB C i x && locsB C is r
    | _ => false
def chT (C : Ct) : Xt → Expr → Bool
  | .nm i, e => match e with
    | .Name x _ => locB C i x
    | _ => false
  | .tup is, e => match e with
    | .Tuple es _ _ => locsB C is es
    | _ => false
def swB (C : Ct) (x : Str) (p : Pos) (e : Expr) : Bool := match e with
  | .ListComp _ _ s pos => (C.sc.kind == .function && C.sc.names.lookup x == some .local && p.line == pos.line && !(s.names.any fun (n, k) => n == x && (k == .local || k == .cell)))
  | _ => false
def notName : Expr → Bool
  | .Name .. => false
  | _ => true
def notTup : Expr → Bool
  | .Tuple .. => false
  | _ => true
mutual
def chS (C : Ct) : Xs → Stmt → Bool
  | .set i own bs e, st => match st with
    | .Assign [.Name x p] ex pos => locB C i x && (chE C e ex && decide (C.sc.names.lookup x = some .local ∨ isComp e = false))
    | _ => false
  | .setIx i j e, st => match st with
    | .Assign [.Name x p] (.Subscript (.Name y p1) ix ps) pos => locB C i x && (visB C j y && chE C e ix)
    | _ => false
  | .asg t bs e, st => match st with
    | .Assign [tg] ex pos => chT C t tg && (!notTup tg && (notTup ex && chE C e ex))
    | _ => false
  | .ite bs c t e, st => match st with
    | .If cx a b _ => chE C c cx && (chB C t a && chB C e b)
    | _ => false
  | .itj dd bs c t e, st => match st with
    | .If cx a b _ => chE C c cx && (chB C t a && chB C e b)
    | _ => false
  | .ret bs e, st => match st with
    | .Return (some ex) _ => chE C e ex
    | _ => false
  | .retO i, st => match st with
    | .Return (some (.Name x _)) _ => visB C i x
    | _ => false
  | .retN, st => match st with
    | .Return none _ => true
    | _ => false
  | .app i bs e, st => match st with
    | .Expr (.Call (.Attribute (.Name x px) at_ apos) [ex] [] cpos) _ => visB C i x && (decide (at_ = ("append" : Str)) && ((apos.endLine == cpos.line) && chE C e ex))
    | _ => false
  | .sti i bs e ix, st => match st with
    | .Assign [.Subscript (.Name x px) ixe spos] ex pos => visB C i x && (chE C e ex && chE C ix ixe)
    | _ => false
  | .expr bs e, st => match st with
    | .Expr ex _ => !isComp e && chE C e ex
    | _ => false
  | .for_ dd bs t it body, st => match st with
    | .For tg itx sts [] _ => chT C t tg && (chI C it itx && chB C body sts)
    | _ => false
  | .whl dd bs c body, st => match st with
    | .While cx sts [] _ => chE C c cx && chB C body sts
    | _ => false
  | .brk, st => match st with
    | .Break _ => true
    | _ => false
  | .cnt, st => match st with
    | .Continue _ => true
    | _ => false
  | .pass, st => match st with
    | .Pass _ => true
    | _ => false
def chB (C : Ct) : Xb → List Stmt → Bool
  | .nil, sts => sts.isEmpty
  | .cons s r, sts => match sts with
    | st :: rest => chS C s st && chB C r rest
    | [] => false
end
/-- a def's body runs -/
structure Es (X : Cx) (C : Ct) (Γ : List DSp) : Prop where
  ev : Ev X C Γ
  fn : ∀ x, X.fn x = true
  hp : PassesOwn (model X.prog X.w) X.A X.env X.xe
  kind : C.sc.kind = .function
section
variable {X : Cx} {C : Ct} {Γ : List DSp} {H0 : Hp} {δ δ' : List S} {e c it : Expr} {pos p : Pos} {E : Ed}
theorem owL_inv {o : Option S} {k : List D → Prop} (h : owL o k) : ∃ ds, o = some (.ow (.lst ds)) ∧ k ds := by
  unfold owL at h
  split at h
  · exact ⟨_, rfl, h⟩
  · exact h.elim
theorem keepW_mono {bs : List Nat} {r : S} {k k' : List S → Prop} (h : keepW bs r δ k) (m : ∀ δ, k δ → k' δ) : keepW bs r δ k' := by
  cases bs with
  | nil => exact m _ h
  | cons j js =>
    rcases h.ex with ⟨a, b⟩ | b
    · exact ⟨.inl ⟨a, m _ b⟩⟩
    · exact ⟨.inr (m _ b)⟩
theorem tup_name (h : notTup e = false) (h2 : notName e = false) : False := by cases e <;> first | (cases h; done) | cases h2
theorem nn_tup (h : notTup e = false) : notName e = true := by cases e <;> first | (cases h; done) | rfl
theorem sub_asg {a : Xe} {o ix : Expr} {p : Pos} {env : Env} {v : Value} (h : chE C a ix = true) : assign (.Subscript o ix p) env v = (do
    let ov ← holding [v] (eval o env)
    let iv ← holding [v, ov] (eval ix env)
    standAt p
    holding [v, ov, iv] (setItem ov iv v)
    release [v, ov, iv] []) := by
  cases ix with
  | Slice v p q => cases a <;> (simp only [chE] at h; cases h)
  | _ => rfl
theorem wg_mono {tg : Expr} {d : D} {k k' : List S → Prop} (h : Wg X H0 tg d δ k) (m : ∀ δ, k δ → k' δ) : Wg X H0 tg d δ k' := fun B σ H own v hB R iv => (h B σ H own v hB R iv).mono fun σ' H' ⟨δ', own', R', q⟩ => ⟨δ', own', R', m _ q⟩
theorem ws_forRx {e : Expr} {sts : List Stmt} {E : En} (hm : X.mg "range" = none) (hp : PassesOwn (model X.prog X.w) X.A X.env X.xe) (hc : X.calm = true) {tg : Expr} {pr pc : Pos} (hv : Vw δ δ')
    (h : Wa X H0 [e] δ' (fun ds => A1 ds fun x => I1 x fun n => (-(2 ^ 62) ≤ n ∧ n < 2 ^ 62) ∧ ∃ Iv : Nat → List S → Prop, Upto (Iv 0) δ ∧ (∀ (i : Nat) δ1, i < n.toNat → Iv i δ1 → Wg X H0 tg (.int (i : Int)) δ1 fun δ2 => Wb X H0 sts δ2 (turnE E (Iv (i + 1)))) ∧ (∀ δ1, Iv n.toNat δ1 → E.nx δ1)))
    (hg : Gl X "range") (hs1 : notStar e = true) : Ws X H0 (.For tg (.Call (.Name "range" pr) [e] [] pc) sts [] pos) δ E := fun B σ H own hB R =>
  toS (ps_for hp hc (pi_range1 hg hm pa_sem (star_of hs1)) pg_sem pb_sem (fun _ => rfl)) ((h.atV hv hB R).mono fun vs H1 ⟨ds, R1, is, x, ed, n, ex, ⟨b1, b2⟩, Iv, h0, ht, he⟩ => by
    subst ed ex
    obtain ⟨v, rfl, i⟩ := is.one
    cases i
    refine ⟨n, rfl, b1, b2, for_range (lo := 0) (n := n.toNat) (fun i σ H => ∃ δ own, Rel X.K B σ H δ own ∧ Upto (Iv i) δ) ⟨δ, own, R1, h0⟩ (fun i σ' H' hi ⟨δ1, own1, R', δ2, hv2, q⟩ => ?_) (fun σ' H' ⟨δ1, own1, R', δ2, hv2, q⟩ => ⟨_, _, (R'.view hv2).1, he _ q⟩)⟩
    rw [Int.zero_add]
    exact (ht i δ2 hi q B σ' H' _ _ hB (R'.view hv2).1 (.int _)).mono fun σ3 H3 ⟨δ3, own3, R3, q3⟩ => q3 B σ3 H3 own3 hB R3)
theorem ws_forRx2 {e e2 : Expr} {sts : List Stmt} {E : En} (hm : X.mg "range" = none) (hp : PassesOwn (model X.prog X.w) X.A X.env X.xe) (hc : X.calm = true) {tg : Expr} {pr pc : Pos} (hv : Vw δ δ')
    (h : Wa X H0 [e, e2] δ' (fun ds => A2 ds fun x y => I2 x y fun m n => (-(2 ^ 62) ≤ m ∧ m < 2 ^ 62 ∧ -(2 ^ 62) ≤ n ∧ n < 2 ^ 62) ∧ ∃ Iv : Nat → List S → Prop, Upto (Iv 0) δ ∧ (∀ (i : Nat) δ1, i < (n - m).toNat → Iv i δ1 → Wg X H0 tg (.int (m + (i : Int))) δ1 fun δ2 => Wb X H0 sts δ2 (turnE E (Iv (i + 1)))) ∧ (∀ δ1, Iv (n - m).toNat δ1 → E.nx δ1)))
    (hg : Gl X "range") (hs1 : notStar e = true) (hs2 : notStar e2 = true) : Ws X H0 (.For tg (.Call (.Name "range" pr) [e, e2] [] pc) sts [] pos) δ E := fun B σ H own hB R =>
  toS (ps_for hp hc (pi_range2 hg hm pa_sem ((star_of hs1).trans (congrArg _ (star_of hs2))) (star_of hs2)) pg_sem pb_sem (fun _ => rfl)) ((h.atV hv hB R).mono fun vs H1 ⟨ds, R1, is, x, y, ed, m, n, ex, ey, bb, Iv, h0, ht, he⟩ => by
    subst ed ex ey
    obtain ⟨v, w, rfl, i, j⟩ := is.two
    cases i
    cases j
    refine ⟨m, n, rfl, bb, for_range (lo := m) (n := (n - m).toNat) (fun i σ H => ∃ δ own, Rel X.K B σ H δ own ∧ Upto (Iv i) δ) ⟨δ, own, R1, h0⟩ (fun i σ' H' hi ⟨δ1, own1, R', δ2, hv2, q⟩ => ?_) (fun σ' H' ⟨δ1, own1, R', δ2, hv2, q⟩ => ⟨_, _, (R'.view hv2).1, he _ q⟩)⟩
    exact (ht i δ2 hi q B σ' H' _ _ hB (R'.view hv2).1 (.int _)).mono fun σ3 H3 ⟨δ3, own3, R3, q3⟩ => q3 B σ3 H3 own3 hB R3)
theorem Es.loc (SS : Es X C Γ) {i : Nat} {x : Str} (h : locB C i x = true) : X.N[i]? = some x ∧ L2.Loc X.env.scope x := by
  obtain ⟨h1, h2⟩ := and3 h
  refine ⟨by rw [SS.ev.N]; exact of_decide_eq_true h1, ?_⟩
  show X.env.scope.names.lookup x = _ ∨ X.env.scope.names.lookup x = _
  rw [SS.ev.sc]
  rcases Bool.or_eq_true_iff.mp h2 with z | z
  · exact .inl (of_decide_eq_true z)
  · exact .inr (of_decide_eq_true z)
theorem Es.nd (SS : Es X C Γ) : X.N.Nodup := by rw [SS.ev.N]; exact SS.ev.nd
theorem sw_no {a : Xe} (h : chE C a e = true) (hc : isComp a = false) (t : Option Expr) (l : Nat) (env : Env) : swapsWith e t l env = pure false := by
  cases e with
  | ListComp v p q => cases a <;> first | (cases hc; done) | (simp only [chE] at h; cases h)
  | SetComp v p q => cases a <;> (simp only [chE] at h; cases h)
  | DictComp v p q => cases a <;> (simp only [chE] at h; cases h)
  | _ => rfl
theorem sw_sole {tg : Expr} (h : notName tg = true) (l : Nat) (env : Env) : swapsWithSole [tg] e l env = pure false := by
  show swapsWith e (some tg) l env = pure false
  cases e with
  | ListComp v p q => cases tg <;> first | rfl | cases h
  | SetComp v p q => cases tg <;> first | rfl | cases h
  | DictComp v p q => cases tg <;> first | rfl | cases h
  | _ => rfl
theorem locs_ok (SS : Es X C Γ) : ∀ {is : List Nat} {es : List Expr}, locsB C is es = true → ((assignEach es X.env).length = es.length ∧ (assignEach es X.env).findIdx? (·.1) = none) ∧ ∀ {ds : List D} {δ : List DL.S} {k : List DL.S → Prop}, setAll is ds δ k → ds.length = es.length ∧ Wgs X H0 es ds δ k
  | [], es, h => by
    rw [locsB, List.isEmpty_iff] at h
    subst h
    refine ⟨⟨rfl, rfl⟩, fun {ds δ k} q => ?_⟩
    cases ds with
    | nil => exact ⟨rfl, wgs_nil q⟩
    | cons d ds => exact q.elim
  | i :: is, es, h => by
    unfold locsB at h
    split at h
    · obtain ⟨h1, h2⟩ := and3 h
      obtain ⟨⟨a1, a2⟩, a3⟩ := locs_ok SS h2
      refine ⟨⟨?_, ?_⟩, fun {ds δ k} q => ?_⟩
      · show (assignEach _ X.env).length + 1 = _
        rw [a1]; rfl
      · show List.findIdx? _ ((false, _) :: assignEach _ X.env) = none
        rw [List.findIdx?_cons, a2]; rfl
      · cases ds with
        | nil => exact q.elim
        | cons d ds =>
          obtain ⟨l, w⟩ := a3 q
          obtain ⟨n1, n2⟩ := SS.loc h1
          exact ⟨by rw [List.length_cons, List.length_cons, l], wgs_cons (wg_name i SS.nd w n1 n2 (.inl (SS.fn _))) fun a b => pgs_cons a b rfl⟩
    · cases h
theorem wg_t (SS : Es X C Γ) {t : Xt} {tg : Expr} (h : chT C t tg = true) {d : D} {k : List S → Prop} (q : wpt t d δ k) : Wg X H0 tg d δ k := by
  cases t with
  | nm i =>
    simp only [chT] at h
    split at h
    · obtain ⟨n1, n2⟩ := SS.loc h
      exact wg_name i SS.nd q n1 n2 (.inl (SS.fn _))
    · cases h
  | tup is =>
    simp only [chT] at h
    split at h
    · obtain ⟨⟨a1, a2⟩, a3⟩ := locs_ok (H0 := H0) SS h
      cases d with
      | sq l ds =>
        cases l with
        | true => exact q.elim
        | false =>
          obtain ⟨l, w⟩ := a3 q
          exact wg_tup SS.ev.calm w (by rw [a1, l]) a2
      | _ => exact q.elim
    · cases h
theorem swappedN {tg : Expr} (h : notTup e = true) (env : Env) : swappedStores [tg] e env = pure none := by
  cases e <;> first | (cases h; done) | (cases tg <;> rfl)
theorem asg_one {tg : Expr} (h : notTup tg = false) (env : Env) : (assignEach [tg] env).map (·.2) = [assign tg env] := by
  cases tg <;> first | rfl | cases h
theorem sw_eq {el : Expr} {gs : List Comprehension} {sc : Scope} {x : Str} {p' : Pos} (SS : Es X C Γ) (l : Nat) :
    swapsWith (.ListComp el gs sc pos) (some (.Name x p')) l X.env = pure (swB C x p' (.ListComp el gs sc pos)) := by
  have e0 : X.env.blockKind = .function := by
    unfold Env.blockKind
    rw [SS.ev.sc, SS.kind]; rfl
  show pure (X.env.blockKind == .function && X.env.kindOf x == some .local && p'.line == pos.line && !(sc.names.any fun (n, k) => n == x && (k == .local || k == .cell))) = _
  rw [e0]
  show pure (_ && X.env.scope.names.lookup x == some .local && _ && _) = _
  rw [SS.ev.sc]
  show _ = pure (C.sc.kind == .function && _ && _ && _)
  rw [SS.kind]
theorem so_setlc {i v : Nat} {x : Str} {p pos : Pos} {ex : Expr} {own : Bool} {elt : Xe} {it : Xi} {xw : List S → XD} {E : En} (SS : Es X C Γ) (h : chE C (.lc v elt it) ex = true) (n1 : X.N[i]? = some x) (n2 : L2.Loc X.env.scope x) (hl : X.env.scope.names.lookup x = some .local) (hx : Xc X H0 xw)
    (q : wpe Γ (.lc v elt it) δ (xw δ) (.e fun r => E.nx (δ.set i (putS own r)))) : Ws X H0 (.Assign [.Name x p] ex pos) δ E := by
  have A := ((so_e (.lc v elt it)).run SS.ev h hx (δ := δ)).1 _ q
  unfold chE at h
  split at h
  · rename_i l y py itr sc pos'
    cases hb : swB C x p (.ListComp l [⟨.Name y py, itr, [], 0⟩] sc pos') with
    | false => exact ws_setU i (bs := []) SS.nd A n1 n2 (by rw [sw_eq SS, hb]) (.inl (SS.fn _))
    | true =>
      obtain ⟨h1, h⟩ := and3 h
      obtain ⟨h2, h⟩ := and3 h
      obtain ⟨h3, h⟩ := and3 h
      obtain ⟨h4, h5⟩ := and3 h
      have hsw : swapsWith (.ListComp l [⟨.Name y py, itr, [], 0⟩] sc pos') (some (.Name x p)) pos.line X.env = pure true := by rw [sw_eq SS, hb]
      have hbk : blkB X.N X.env.scope sc y v = true := by rw [SS.ev.N, SS.ev.sc]; exact h1
      have hv : X.N[v]? = some y := by rw [SS.ev.N]; exact of_decide_eq_true h2
      have hlk : ∀ cl C', (compEnvC sc cl C' X.env).scope.names.lookup y = some .local := fun cl C' => by
        show (relS _ _).names.lookup _ = _
        rw [SS.ev.sc]
        exact of_decide_eq_true h3
      have W := (so_i it).run SS.ev h4 hx (δ := δ) _ q
      cases own with
      | true => exact ws_setLcO i v SS.nd (W.mono fun n item ⟨R, a, b, c⟩ => ⟨R, a, fun i hi s hh C' cl fp => we_wu (k := R i) (((so_e elt).run (SS.ev.blk) h5 (xw := fun _ => noX) (δ := δ.set v (.sh (item i))) xc0).1 _ (b i hi)), c⟩) SS.ev.calm hbk hv hlk n1 hl hsw (chI_set h4 _)
      | false => exact ws_setLc i v SS.nd (W.mono fun n item ⟨R, a, b, c⟩ => ⟨R, a, fun i hi s hh C' cl fp => we_wu (k := R i) (((so_e elt).run (SS.ev.blk) h5 (xw := fun _ => noX) (δ := δ.set v (.sh (item i))) xc0).1 _ (b i hi)), c⟩) SS.ev.calm hbk hv hlk n1 hl hsw (chI_set h4 _)
  · cases h
theorem so_setlcf {i v : Nat} {x : Str} {p pos : Pos} {ex : Expr} {own : Bool} {elt c : Xe} {it : Xi} {xw : List S → XD} {E : En} (SS : Es X C Γ) (h : chE C (.lcf v elt it c) ex = true) (n1 : X.N[i]? = some x) (n2 : L2.Loc X.env.scope x) (hl : X.env.scope.names.lookup x = some .local) (hx : Xc X H0 xw)
    (q : wpe Γ (.lcf v elt it c) δ (xw δ) (.e fun r => E.nx (δ.set i (putS own r)))) : Ws X H0 (.Assign [.Name x p] ex pos) δ E := by
  have A := ((so_e (.lcf v elt it c)).run SS.ev h hx (δ := δ)).1 _ q
  unfold chE at h
  split at h
  · rename_i l y py itr t sc pos'
    cases hb : swB C x p (.ListComp l [⟨.Name y py, itr, [t], 0⟩] sc pos') with
    | false => exact ws_setU i (bs := []) SS.nd A n1 n2 (by rw [sw_eq SS, hb]) (.inl (SS.fn _))
    | true =>
      obtain ⟨h1, h⟩ := and3 h
      obtain ⟨h2, h⟩ := and3 h
      obtain ⟨h3, h⟩ := and3 h
      obtain ⟨h4, h⟩ := and3 h
      obtain ⟨h5, h6⟩ := and3 h
      have hsw : swapsWith (.ListComp l [⟨.Name y py, itr, [t], 0⟩] sc pos') (some (.Name x p)) pos.line X.env = pure true := by rw [sw_eq SS, hb]
      have hbk : blkB X.N X.env.scope sc y v = true := by rw [SS.ev.N, SS.ev.sc]; exact h1
      have hv : X.N[v]? = some y := by rw [SS.ev.N]; exact of_decide_eq_true h2
      have hlk : ∀ cl C', (compEnvC sc cl C' X.env).scope.names.lookup y = some .local := fun cl C' => by
        show (relS _ _).names.lookup _ = _
        rw [SS.ev.sc]
        exact of_decide_eq_true h3
      have W := (so_i it).run SS.ev h4 hx (δ := δ) _ q
      have conv : ∀ {n item} {ko : List D → Prop}, LcfW n item (fun d q => wpe Γ c (δ.set v (.sh d)) noX (.t (q true) (q false))) (fun d q => wpe Γ elt (δ.set v (.sh d)) noX (.e fun r => q r.d)) ko → LCF X sc H0 t l δ v ko n item := fun {n item ko} z => by
        obtain ⟨tt, g, a, b, c'⟩ := z
        refine ⟨tt, g, a, fun i hi s hh C' cl fp => (((so_e c).run (SS.ev.blk) h6 (xw := fun _ => noX) (δ := δ.set v (.sh (item i))) xc0).2 _ _ (b i hi)).mono fun r z => ?_, c'⟩
        have zz : r = tt (item i) ∧ (r = true → wpe Γ elt (δ.set v (.sh (item i))) noX (.e fun r => r.d = g (item i))) := by
          cases r with
          | true => exact z.1 rfl
          | false => exact z.2 rfl
        exact ⟨zz.1, fun hr s2 hh2 C2 cl2 fp2 => we_wu (k := fun e => e = g (item i)) (((so_e elt).run (SS.ev.blk) h5 (xw := fun _ => noX) (δ := δ.set v (.sh (item i))) xc0).1 _ (zz.2 hr))⟩
      cases own with
      | true => exact ws_setLcfO i v SS.nd (W.mono fun n item z => conv z) SS.ev.calm hbk hv hlk n1 hl hsw (chI_set h4 _)
      | false => exact ws_setLcf i v SS.nd (W.mono fun n item z => conv z) SS.ev.calm hbk hv hlk n1 hl hsw (chI_set h4 _)
  · cases h
theorem so_rng {P : Nat → (Nat → D) → Prop} {tg : Expr} {sts : List Stmt} {bs : List Nat} {a : Xe} {xw : List S → XD} {E : En} (SS : Es X C Γ) (h : chI C (.rng a) it = true) (hx : Xc X H0 xw) (q : wpi Γ (.rng a) (bor bs δ) (xw (bor bs δ)) P)
    (m : ∀ n, P n (fun i => .int (i : Int)) → ∃ Iv : Nat → List S → Prop, Upto (Iv 0) δ ∧ (∀ (i : Nat) δ1, i < n → Iv i δ1 → Wg X H0 tg (.int (i : Int)) δ1 fun δ2 => Wb X H0 sts δ2 (turnE E (Iv (i + 1)))) ∧ (∀ δ1, Iv n δ1 → E.nx δ1)) : Ws X H0 (.For tg it sts [] pos) δ E := by
  unfold chI at h
  split at h
  · obtain ⟨h1, h⟩ := and3 h
    obtain ⟨h2, h3⟩ := and3 h
    obtain rfl := of_decide_eq_true h1
    have A := ((so_e a).run SS.ev h3 hx (δ := bor bs δ)).1
    refine ws_forRx SS.ev.bi.range SS.hp SS.ev.calm (vw_bor (bs := bs)) (wa_cons (we_wu (k := fun d => Wa _ H0 [] (bor bs δ) fun ds => A1 (d :: ds) _) ((A _ q).mono fun r z => wa_nil (a1 ?_))) (chE_star h3)) (SS.ev.glo h2).1 (chE_star h3)
    cases hd : r.d with
    | int n => rw [hd] at z; exact i1 ⟨z.1, m _ z.2⟩
    | _ => rw [hd] at z; exact z.elim
  · cases h
theorem so_rng2 {P : Nat → (Nat → D) → Prop} {tg : Expr} {sts : List Stmt} {bs : List Nat} {a b : Xe} {xw : List S → XD} {E : En} (SS : Es X C Γ) (h : chI C (.rng2 a b) it = true) (hx : Xc X H0 xw) (q : wpi Γ (.rng2 a b) (bor bs δ) (xw (bor bs δ)) P)
    (m : ∀ (m : Int) n, P n (fun i => .int (m + (i : Int))) → ∃ Iv : Nat → List S → Prop, Upto (Iv 0) δ ∧ (∀ (i : Nat) δ1, i < n → Iv i δ1 → Wg X H0 tg (.int (m + (i : Int))) δ1 fun δ2 => Wb X H0 sts δ2 (turnE E (Iv (i + 1)))) ∧ (∀ δ1, Iv n δ1 → E.nx δ1)) : Ws X H0 (.For tg it sts [] pos) δ E := by
  unfold chI at h
  split at h
  · obtain ⟨h1, h⟩ := and3 h
    obtain ⟨h2, h⟩ := and3 h
    obtain ⟨h3, h4⟩ := and3 h
    obtain rfl := of_decide_eq_true h1
    have A := ((so_e a).run SS.ev h3 hx (δ := bor bs δ)).1
    have B := ((so_e b).run SS.ev h4 hx (δ := bor bs δ)).1
    refine ws_forRx2 SS.ev.bi.range SS.hp SS.ev.calm (vw_bor (bs := bs)) (wa_cons (we_wu (k := fun d => Wa _ H0 _ (bor bs δ) fun ds => A2 (d :: ds) _) ((A _ q).mono fun r z => wa_cons (we_wu (k := fun d => Wa _ H0 [] (bor bs δ) fun ds => A2 (r.d :: d :: ds) _) ((B _ z).mono fun r' z' => wa_nil (a2 ?_))) (chE_star h4))) (chE_star h3)) (SS.ev.glo h2).1 (chE_star h3) (chE_star h4)
    cases hd : r.d with
    | int n =>
      rw [hd] at z'
      cases hd' : r'.d with
      | int n' => rw [hd'] at z'; exact i2 ⟨z'.1, m _ _ z'.2⟩
      | _ => rw [hd'] at z'; exact z'.elim
    | _ => rw [hd] at z'; exact z'.elim
  · cases h
structure SoS (s : Xs) : Prop where
  run : ∀ {X : Cx} {C : Ct} {Γ : List DSp} {H0 : Hp} {st : Stmt}, Es X C Γ → chS C s st = true → ∀ {δ : List S} {E : Ed}, Xc X H0 E.xw → wps Γ s δ E → Ws X H0 st δ (toEn E)
structure SoB (s : Xb) : Prop where
  run : ∀ {X : Cx} {C : Ct} {Γ : List DSp} {H0 : Hp} {sts : List Stmt}, Es X C Γ → chB C s sts = true → ∀ {δ : List S} {E : Ed}, Xc X H0 E.xw → wpb Γ s δ E → Wb X H0 sts δ (toEn E)
end
mutual
theorem so_s : ∀ s : Xs, SoS s
  | .set i own bs e => .mk <| by
    intro X C Γ H0 st SS h δ E hx q
    unfold chS at h
    split at h
    · rename_i x p ex pos
      obtain ⟨h1, h⟩ := and3 h
      obtain ⟨h2, h3⟩ := and3 h
      obtain ⟨n1, n2⟩ := SS.loc h1
      have A := ((so_e e).run SS.ev h2 hx (δ := bor bs δ)).1
      cases hc : isComp e with
      | false =>
        simp only [wps, hc] at q
        exact ws_setU i SS.nd (A _ q) n1 n2 (sw_no h2 hc _ _ _) (.inl (SS.fn _))
      | true =>
        simp only [wps, hc] at q
        have w := A _ q
        have hl : X.env.scope.names.lookup x = some .local := by
          rw [SS.ev.sc]
          rcases of_decide_eq_true h3 with z | z
          · exact z
          · rw [hc] at z; cases z
        refine ws_view (vw_bor (bs := bs)) ?_
        cases e with
        | lc v elt it => exact so_setlc SS h2 n1 n2 hl hx q
        | lcf v elt it c => exact so_setlcf SS h2 n1 n2 hl hx q
        | _ => cases hc
    · cases h
  | .setIx i j e => .mk <| by
    intro X C Γ H0 st SS h δ E hx q
    unfold chS at h
    split at h
    · obtain ⟨h1, h⟩ := and3 h
      obtain ⟨h2, h3⟩ := and3 h
      obtain ⟨n1, n2⟩ := SS.loc h1
      have A := ((so_e e).run SS.ev h3 hx (δ := bor [j] δ)).1
      unfold wps at q
      obtain ⟨ds, hj, q⟩ := owL_inv q
      · refine ws_setIx i j SS.nd hj (vw_bor (bs := [j])) ((we_wu (k := fun d => ixD (.sq true ds) d fun d => E.nx (δ.set i (.sh d))) (A _ q)).mono fun d z => ?_) n1 n2 (SS.ev.vis h2) (chE_ix h3) rfl (.inl (SS.fn _))
        cases d with
        | int m => obtain ⟨d', e1, e2⟩ := z; exact ⟨m, d', rfl, e1, e2⟩
        | _ => exact z.elim
    · cases h
  | .asg t bs e => .mk <| by
    intro X C Γ H0 st SS h δ E hx q
    unfold chS at h
    split at h
    · obtain ⟨h1, h⟩ := and3 h
      obtain ⟨h2, h⟩ := and3 h
      obtain ⟨h3, h4⟩ := and3 h
      have A := ((so_e e).run SS.ev h4 hx (δ := bor bs δ)).1
      rw [Bool.not_eq_true'] at h2
      have t2 := h2
      refine ws_asgU (bs := bs) ((A _ q).mono fun r z => keepW_mono z fun δ' z => wg_t SS h1 z) (sw_sole (nn_tup t2) _ _) (swappedN h3 _) (asg_one t2 _)
    · cases h
  | .ite bs c t e => .mk <| by
    intro X C Γ H0 st SS h δ E hx q
    unfold chS at h
    split at h
    · obtain ⟨h1, h⟩ := and3 h
      obtain ⟨h2, h3⟩ := and3 h
      exact ws_if (vw_bor (bs := bs)) ((((so_e c).run SS.ev h1 hx (δ := bor bs δ)).2 _ _ q).mono fun r z => ⟨fun hr => (so_b t).run SS h2 hx (z.1 hr), fun hr => (so_b e).run SS h3 hx (z.2 hr)⟩)
    · cases h
  | .itj dd bs c t e => .mk <| by
    intro X C Γ H0 st SS h δ E hx q
    unfold chS at h
    split at h
    · obtain ⟨h1, h⟩ := and3 h
      obtain ⟨h2, h3⟩ := and3 h
      obtain ⟨M, q, hM⟩ := q.ex
      have back : ∀ δ1, M (drp dd δ1) → ∃ δ2, Vw δ1 δ2 ∧ E.nx δ2 := fun δ1 z => ⟨_, vw_drp, hM _ z⟩
      refine ws_post (ws_if (vw_bor (bs := bs)) ((((so_e c).run SS.ev h1 (xw := E.xw) hx (δ := bor bs δ)).2 _ _ q).mono fun r z => ⟨fun hr => ?_, fun hr => ?_⟩))
      · exact ((so_b t).run SS h2 (E := { E with nx := fun δ => M (drp dd δ) }) hx (z.1 hr)).mono (fun δ1 z => back δ1 z) (fun _ _ z => z) (fun _ z => z) (fun _ z => z)
      · exact ((so_b e).run SS h3 (E := { E with nx := fun δ => M (drp dd δ) }) hx (z.2 hr)).mono (fun δ1 z => back δ1 z) (fun _ _ z => z) (fun _ z => z) (fun _ z => z)
    · cases h
  | .ret bs e => .mk <| by
    intro X C Γ H0 st SS h δ E hx q
    unfold chS at h
    split at h
    · exact ws_retU (bs := bs) (((so_e e).run SS.ev h hx (δ := bor bs δ)).1 _ q)
    · cases h
  | .retO i => .mk <| by
    intro X C Γ H0 st SS h δ E hx q
    unfold chS at h
    split at h
    · unfold wps retV at q
      split at q
      · rename_i o ho
        exact ws_retOwn i ho q (SS.ev.vis h)
      · rename_i d hd
        exact ws_ret (Vw.refl _) (we_var i hd q (SS.ev.vis h))
      · exact q.elim
    · cases h
  | .retN => .mk <| by
    intro X C Γ H0 st SS h δ E hx q
    unfold chS at h
    split at h
    · exact ws_retN q
    · cases h
  | .app i bs e => .mk <| by
    intro X C Γ H0 st SS h δ E hx q
    unfold chS at h
    split at h
    · obtain ⟨h1, h⟩ := and3 h
      obtain ⟨h2, h⟩ := and3 h
      obtain ⟨h3, h4⟩ := and3 h
      obtain rfl := of_decide_eq_true h2
      unfold wps at q
      obtain ⟨ds, hj, q⟩ := owL_inv q
      exact ws_appU i (((so_e e).run SS.ev h4 hx (δ := bor bs δ)).1 _ q) ⟨ds, hj⟩ (SS.ev.vis h1) h3 (chE_star h4)
    · cases h
  | .sti i bs e ix => .mk <| by
    intro X C Γ H0 st SS h δ E hx q
    unfold chS at h
    split at h
    · obtain ⟨h1, h⟩ := and3 h
      obtain ⟨h2, h3⟩ := and3 h
      refine ws_stiU i (bs := bs) (((so_e e).run SS.ev h2 hx (δ := bor bs δ)).1 _ q) (fun r δ' z => ?_) (pg_sub (SS.ev.vis h1) pe_sem set_list (fun v => ?_)) (sw_sole rfl _ _) rfl
      · obtain ⟨ds, hj, z⟩ := owL_inv z
        · exact ⟨ds, hj, we_wu (k := fun d => stiD i ds r.d d δ' E.nx) (((so_e ix).run SS.ev h3 hx (δ := bor bs δ')).1 _ z)⟩
      · exact sub_asg h3
    · cases h
  | .expr bs e => .mk <| by
    intro X C Γ H0 st SS h δ E hx q
    unfold chS at h
    split at h
    · obtain ⟨h1, h2⟩ := and3 h
      exact ws_expr (vw_bor (bs := bs)) (we_wu (k := fun _ => E.nx δ) (((so_e e).run SS.ev h2 hx (δ := bor bs δ)).1 _ q)) (sw_no h2 (by simpa using h1) _ _ _)
    · cases h
  | .for_ dd bs t it body => .mk <| by
    intro X C Γ H0 st SS h δ E hx q
    unfold chS at h
    split at h
    · obtain ⟨h1, h⟩ := and3 h
      obtain ⟨h2, h3⟩ := and3 h
      have turn : ∀ {n : Nat} {item : Nat → D} (Iv : Nat → List S → Prop), (∀ i δ1, i < n → Iv i δ1 → wpt t (item i) δ1 fun δ2 => wpb Γ body δ2 ⟨fun δ => Iv (i + 1) (drp dd δ), E.rt, E.nx, fun δ => Iv (i + 1) (drp dd δ), E.xw⟩) →
          ∀ (i : Nat) δ1, i < n → Iv i δ1 → Wg X H0 _ (item i) δ1 fun δ2 => Wb X H0 _ δ2 (turnE (toEn E) (Iv (i + 1))) := fun Iv ht i δ1 hi hI =>
        wg_mono (wg_t SS h1 (ht i δ1 hi hI)) fun δ2 z => ((so_b body).run SS h3 (E := ⟨fun δ => Iv (i + 1) (drp dd δ), E.rt, E.nx, fun δ => Iv (i + 1) (drp dd δ), E.xw⟩) hx z).mono (fun δ3 z => ⟨_, vw_drp, z⟩) (fun _ _ z => z) (fun _ z => z) (fun δ3 z => ⟨_, vw_drp, z⟩)
      cases it with
      | sq a =>
        have q : wpi Γ (.sq a) (bor bs δ) (E.xw (bor bs δ)) (fun n item => ForW n item dd (wpt t) (wpb Γ body) (bor bs δ) E) := q
        refine ws_view (vw_bor (bs := bs)) (ws_forQ SS.hp SS.ev.calm (((so_i (.sq a)).run SS.ev h2 hx (δ := bor bs δ) _ q).mono fun n item z => ?_) (chI_set h2 _))
        obtain ⟨Iv, i0, ht, he⟩ := z.ex
        exact ⟨Iv, ⟨_, vw_drp, i0⟩, turn Iv ht, he⟩
      | rng a =>
        have q : wpi Γ (.rng a) (bor bs δ) (E.xw (bor bs δ)) (fun n item => ForW n item dd (wpt t) (wpb Γ body) δ E) := q
        exact so_rng SS h2 hx q fun n z => by
          obtain ⟨Iv, i0, ht, he⟩ := z.ex
          exact ⟨Iv, ⟨_, vw_drp, i0⟩, turn Iv ht, he⟩
      | rng2 a b =>
        have q : wpi Γ (.rng2 a b) (bor bs δ) (E.xw (bor bs δ)) (fun n item => ForW n item dd (wpt t) (wpb Γ body) δ E) := q
        exact so_rng2 SS h2 hx q fun m n z => by
          obtain ⟨Iv, i0, ht, he⟩ := z.ex
          exact ⟨Iv, ⟨_, vw_drp, i0⟩, turn Iv ht, he⟩
    · cases h
  | .whl dd bs c body => .mk <| by
    intro X C Γ H0 st SS h δ E hx q
    unfold chS at h
    split at h
    · obtain ⟨h1, h2⟩ := and3 h
      obtain ⟨Iv, m0, i0, ht⟩ := q.ex
      refine ws_while SS.hp Iv m0 ⟨_, vw_drp, i0⟩ fun m δ1 hI => ⟨bor bs δ1, vw_bor, (((so_e c).run SS.ev h1 (xw := E.xw) hx (δ := bor bs δ1)).2 _ _ (ht m δ1 hI)).mono fun r z => ⟨fun hr => ?_, z.2⟩⟩
      exact ((so_b body).run SS h2 (E := ⟨fun δ => ∃ m', m' < m ∧ Iv m' (drp dd δ), E.rt, E.nx, fun δ => ∃ m', m' < m ∧ Iv m' (drp dd δ), E.xw⟩) hx (z.1 hr)).mono (fun δ3 ⟨m', l, z⟩ => ⟨m', l, _, vw_drp, z⟩) (fun _ _ z => z) (fun _ z => z) (fun δ3 ⟨m', l, z⟩ => ⟨m', l, _, vw_drp, z⟩)
    · cases h
  | .brk => .mk <| by
    intro X C Γ H0 st SS h δ E hx q
    unfold chS at h
    split at h
    · exact ws_break q
    · cases h
  | .cnt => .mk <| by
    intro X C Γ H0 st SS h δ E hx q
    unfold chS at h
    split at h
    · exact ws_cont q
    · cases h
  | .pass => .mk <| by
    intro X C Γ H0 st SS h δ E hx q
    unfold chS at h
    split at h
    · exact ws_pass q
    · cases h
theorem so_b : ∀ s : Xb, SoB s
  | .nil => .mk <| by
    intro X C Γ H0 sts SS h δ E hx q
    rw [chB, List.isEmpty_iff] at h
    subst h
    exact wb_nil q
  | .cons s r => .mk <| by
    intro X C Γ H0 sts SS h δ E hx q
    unfold chB at h
    split at h
    · obtain ⟨h1, h2⟩ := and3 h
      exact wb_cons (((so_s s).run SS h1 (E := { E with nx := fun δ' => wpb Γ r δ' E }) hx q).mono (fun δ1 z => (so_b r).run SS h2 hx z) (fun _ _ z => z) (fun _ z => z) (fun _ z => z))
    · cases h
end
end DL
set_option Elab.async false
set_option linter.all false
set_option maxRecDepth 100000
set_option maxHeartbeats 4000000
/-! The deep machine, part g: a def; helps for the proofs over it. -/
namespace DL
open PySem PySem.Spec PyProof.Rows L2
/-- defs that are known, by their names -/
inductive FnL (P : Program) (w : World) (K : PySem.W.Frag) (mg : Str → Option Value) (base : Heap) (k : Nat) : List Str → List DSp → Prop
  | nil : FnL P w K mg base k [] []
  | cons {lvl : Nat} {x : Str} {ps : List Str} {T : DSp} {dds : List D} {fs : List Str} {Γ : List DSp} : Fn P w K mg base lvl x ps T dds → lvl ≤ k → FnL P w K mg base k fs Γ → FnL P w K mg base k (x :: fs) ((fun as => T (as ++ dds)) :: Γ)
  | cons0 {lvl : Nat} {x : Str} {ps : List Str} {T : DSp} {fs : List Str} {Γ : List DSp} : Fn P w K mg base lvl x ps T [] → lvl ≤ k → FnL P w K mg base k fs Γ → FnL P w K mg base k (x :: fs) (T :: Γ)
theorem FnL.get {P : Program} {w : World} {K : PySem.W.Frag} {mg : Str → Option Value} {base : Heap} {k : Nat} {fs : List Str} {Γ : List DSp} (h : FnL P w K mg base k fs Γ) : ∀ (i : Nat) x T, fs[i]? = some x → Γ[i]? = some T → ∃ lvl ps T0 dds, Fn P w K mg base lvl x ps T0 dds ∧ lvl ≤ k ∧ ∀ as k x, T as k x → T0 (as ++ dds) k x := by
  induction h with
  | nil => intro i x T h; cases h
  | cons F l _ ih =>
    intro i x T h1 h2
    cases i with
    | zero => cases h1; cases h2; exact ⟨_, _, _, _, F, l, fun _ _ _ z => z⟩
    | succ i => exact ih i x T h1 h2
  | cons0 F l _ ih =>
    intro i x T h1 h2
    cases i with
    | zero => cases h1; cases h2; exact ⟨_, _, _, _, F, l, fun as k x z => by rw [List.append_nil]; exact z⟩
    | succ i => exact ih i x T h1 h2
theorem FnL.cov {P : Program} {w : World} {K : PySem.W.Frag} {mg : Str → Option Value} {base : Heap} {k : Nat} {fs : List Str} {Γ : List DSp} (h : FnL P w K mg base k fs Γ) : ∀ (i : Nat) x, fs[i]? = some x → ∃ T, Γ[i]? = some T := by
  induction h with
  | nil => intro i x h; cases h
  | cons F l _ ih =>
    intro i x h1
    cases i with
    | zero => exact ⟨_, rfl⟩
    | succ i => exact ih i x h1
  | cons0 F l _ ih =>
    intro i x h1
    cases i with
    | zero => exact ⟨_, rfl⟩
    | succ i => exact ih i x h1
def edOf (kk : S → Prop) (xx : XD) : Ed := ⟨fun _ => kk (.sh .non), kk, fun _ => False, fun _ => False, fun _ => xx⟩
/-- what is shown of a def's text: it keeps its promise -/
def Deep (Γ : List DSp) (N : List Str) (b : Xb) (T : DSp) : Prop := ∀ ds kk xx, T ds kk xx → wpb Γ b (startD N ds) (edOf kk xx)
section
variable {P : Program} {w : World} {K : PySem.W.Frag} {mg : Str → Option Value} {base : Heap} {x qual : Str} {params : Arguments} {body : List Stmt} {scope : Scope} {dvs : List V} {kws : List (Str × V)} {f : Addr} {fd : FuncData}
theorem fn_deep {N ps fs : List Str} {k : Nat} {T : DSp} {b : Xb} {math : Bool} {Γ : List DSp} (F : FunD K x qual params body scope dvs kws f fd) (S : FnScope N ps scope) (hN : ps.length ≤ N.length) (hlen : ∀ ds k x, T ds k x → ds.length = ps.length)
    (hch : chB ⟨N, scope, fs, math⟩ b body = true) (M : Bm mg) (hm : math = true → mg "gcd" = some (.builtin "math.gcd") ∧ mg "lcm" = some (.builtin "math.lcm")) (L : FnL P w K mg base k fs Γ) (hw : Deep Γ N b T) : FnOk P w K mg base (L2.CX P w) (k + 1) f fd ps (spD K T) :=
  fn_ok F S hN hlen fun cdv A outer s H E ds kk xx hr hT hx => by
    refine (so_b b).run (C := ⟨N, scope, fs, math⟩) (Γ := Γ) (E := edOf kk xx) ⟨⟨rfl, S.nd, rfl, rfl, M, hm, hr.units, L.cov, fun i x T h1 h2 => ?_⟩, fun _ => rfl, passes_of rfl, S.kind⟩ hch hx (hw ds kk xx hT)
    obtain ⟨lvl, ps', T0, dds, F', l, c⟩ := L.get i x T h1 h2
    exact ⟨lvl, ps', T0, dds, F', hr.mono l, c⟩
end
/-! ### helps -/
section
variable {body : D → (D → Prop) → Prop} {k : List D → Prop}
theorem lcw_d {ds : List D} (R : D → D → Prop) (hl : ds.length ≤ 100000) (h : ∀ d ∈ ds, body d (R d)) (q : ∀ es, Each R ds es → k es) : LcW ds.length (fun i => ds.getD i .non) body k :=
  ⟨fun i e => R (ds.getD i .non) e, hl, fun i hi => h _ (getD_lt hi).2, fun es p => q es (each_of p)⟩
/-- each item becomes g of it -/
theorem lcw {α : Type} (emb : α → D) (g : α → D) {xs : List α} (hl : xs.length ≤ 100000) (h : ∀ x ∈ xs, body (emb x) (fun e => e = g x)) (q : k (xs.map g)) : LcW (xs.map emb).length (fun i => (xs.map emb).getD i .non) body k :=
  ⟨fun i e => ∀ x, xs[i]? = some x → e = g x, by rw [List.length_map]; exact hl, fun i hi => by
    rw [List.length_map] at hi
    have e1 : (xs.map emb).getD i .non = emb xs[i] := by rw [List.getD_eq_getElem?_getD, List.getElem?_map, List.getElem?_eq_getElem hi]; rfl
    show body ((xs.map emb).getD i .non) _
    rw [e1]
    show body (emb xs[i]) (fun e => ∀ x, xs[i]? = some x → e = g x)
    rw [show (fun e => ∀ x, xs[i]? = some x → e = g x) = (fun e => e = g xs[i]) from by
      funext e
      rw [List.getElem?_eq_getElem hi]
      exact propext ⟨fun z => z _ rfl, fun z x hx => by cases hx; exact z⟩]
    exact h _ (List.getElem_mem hi), fun es p => by
    have e : es = xs.map g := by
      refine List.ext_getElem? fun i => ?_
      have hl := p.1
      rw [List.length_map] at hl
      by_cases hi : i < xs.length
      · rw [List.getElem?_map, List.getElem?_eq_getElem hi, List.getElem?_eq_getElem (show i < es.length by omega)]
        exact congrArg some (p.2 i _ (List.getElem?_eq_getElem (by omega)) _ (List.getElem?_eq_getElem hi))
      · rw [List.getElem?_eq_none (by omega), List.getElem?_eq_none (by rw [List.length_map]; omega)]
    rw [e]; exact q⟩
theorem lcw_rng {n : Nat} (g : Nat → D) (hl : n ≤ 100000) (h : ∀ i, i < n → body (.int (i : Int)) (fun e => e = g i)) (q : k ((List.range n).map g)) : LcW n (fun i => .int (i : Int)) body k :=
  ⟨_, hl, h, fun es p => by rw [EachN.map p]; exact q⟩
theorem lcfw {test : D → (Bool → Prop) → Prop} {α : Type} (emb : α → D) (t : α → Bool) (g : α → D) (inj : ∀ x y, emb x = emb y → x = y) {xs : List α} (hl : xs.length ≤ 100000)
    (h : ∀ x ∈ xs, test (emb x) fun b => b = t x ∧ (b = true → body (emb x) fun e => e = g x)) (q : k ((xs.filter t).map g)) : LcfW (xs.map emb).length (fun i => (xs.map emb).getD i .non) test body k := by
  classical
  let un : D → Option α := fun d => if z : ∃ x, emb x = d then some z.choose else none
  have hun : ∀ x, un (emb x) = some x := fun x => by
    have z : ∃ y, emb y = emb x := ⟨x, rfl⟩
    show (if z : ∃ y, emb y = emb x then some z.choose else none) = some x
    rw [dif_pos z]
    exact congrArg some (inj _ _ z.choose_spec)
  let t' : D → Bool := fun d => ((un d).map t).getD false
  let g' : D → D := fun d => ((un d).map g).getD .non
  have ht : ∀ x, t' (emb x) = t x := fun x => by show (((un (emb x)).map t).getD false) = _; rw [hun]; rfl
  have hg : ∀ x, g' (emb x) = g x := fun x => by show (((un (emb x)).map g).getD .non) = _; rw [hun]; rfl
  refine ⟨t', g', by rw [List.length_map]; exact hl, fun i hi => ?_, ?_⟩
  · rw [List.length_map] at hi
    have e1 : (xs.map emb).getD i .non = emb xs[i] := by rw [List.getD_eq_getElem?_getD, List.getElem?_map, List.getElem?_eq_getElem hi]; rfl
    show test ((xs.map emb).getD i .non) (fun b => b = t' ((xs.map emb).getD i .non) ∧ (b = true → body ((xs.map emb).getD i .non) fun e => e = g' ((xs.map emb).getD i .non)))
    rw [e1, ht, hg]
    exact h _ (List.getElem_mem hi)
  · rw [range_getD]
    have e : ((xs.map emb).filter t').map g' = (xs.filter t).map g := by
      rw [List.filter_map, List.map_map]
      have e1 : (t' ∘ emb) = t := funext ht
      have e2 : (g' ∘ emb) = g := funext hg
      rw [e1, e2]
    rw [e]; exact q
end
/-- join two ways -/
theorem join {p : (List S → Prop) → Prop} {q : List S → Prop} (M : List S → Prop) (h : p M) (h2 : ∀ δ, M δ → q δ) : JoinW p q := ⟨M, h, h2⟩
theorem keep_safe {bs : List Nat} {r : S} {δ : List S} {k : List S → Prop} (h : SafeR r) (q : k δ) : KeepW bs r δ k := ⟨.inl ⟨h, q⟩⟩
theorem keep_lend {bs : List Nat} {r : S} {δ : List S} {k : List S → Prop} (q : k (bor bs δ)) : KeepW bs r δ k := ⟨.inr q⟩
end DL
set_option Elab.async false
set_option linter.all false
set_option maxHeartbeats 4000000
/-! The mathematics of k00: Euclid's steps, lowest terms. -/
namespace K00
open DL
theorem euclid_step {l r i M : Nat} (hr : 0 < r) (h1 : l * r * 2 ^ i ≤ M) (h0 : i = 0 → 2 * (l * r) ≤ M) (hl : 0 < i → r < l) : r * (l % r) * 2 ^ (i + 1) ≤ M ∧ l % r < r := by
  refine ⟨?_, Nat.mod_lt _ hr⟩
  by_cases h : r ≤ l
  · have e : 2 * (l % r) ≤ l := by
      have a := Nat.mod_lt l hr
      have b := Nat.div_add_mod l r
      have c : 1 ≤ l / r := Nat.div_pos h hr
      have d : r * 1 ≤ r * (l / r) := Nat.mul_le_mul_left r c
      omega
    calc r * (l % r) * 2 ^ (i + 1) = r * 2 ^ i * (2 * (l % r)) := by
          rw [Nat.pow_succ, Nat.mul_assoc, Nat.mul_assoc, Nat.mul_left_comm (l % r), Nat.mul_comm (l % r)]
      _ ≤ r * 2 ^ i * l := Nat.mul_le_mul_left _ e
      _ = l * r * 2 ^ i := by rw [Nat.mul_comm, Nat.mul_assoc]
      _ ≤ M := h1
  · have e : i = 0 := by
      rcases Nat.eq_zero_or_pos i with z | z
      · exact z
      · exact absurd (Nat.le_of_lt (hl z)) h
    subst e
    rw [Nat.mod_eq_of_lt (Nat.lt_of_not_le h)]
    have := h0 rfl
    rw [Nat.pow_one, Nat.mul_comm r l, Nat.mul_comm]
    exact this
theorem euclid_end {l r i n : Nat} (h : l * r * 2 ^ i ≤ 2 ^ n) (hn : n < i) (hl : r < l) : r = 0 := by
  rcases Nat.eq_zero_or_pos r with z | z
  · exact z
  · exfalso
    have a : 1 ≤ l * r := Nat.mul_pos (Nat.lt_of_le_of_lt (Nat.zero_le _) hl) z
    have b : 2 ^ i ≤ l * r * 2 ^ i := Nat.le_mul_of_pos_left _ a
    have c : 2 ^ n < 2 ^ i := Nat.pow_lt_pow_right (by decide) hn
    omega
/-- p / q is u / v in its one form -/
structure RatIs (p q u v : Int) : Prop where
  pos : 1 ≤ q
  gcd : Nat.gcd p.natAbs q.natAbs = 1
  eq : p * v = u * q
  lp : p.natAbs ≤ u.natAbs
  lq : q.natAbs ≤ v.natAbs
theorem fdiv_pos {a g : Int} (hg : 0 < g) : a.fdiv g = a / g := Int.fdiv_eq_ediv_of_nonneg a (by omega)
theorem rat_of {u v : Int} (hv : 0 < v) : RatIs (u / ((Nat.gcd u.natAbs v.natAbs : Nat) : Int)) (v / ((Nat.gcd u.natAbs v.natAbs : Nat) : Int)) u v := by
  have hg : 0 < Nat.gcd u.natAbs v.natAbs := Nat.gcd_pos_of_pos_right _ (by omega)
  obtain ⟨a, ha⟩ : ((Nat.gcd u.natAbs v.natAbs : Nat) : Int) ∣ u := Int.ofNat_dvd_left.mpr (Nat.gcd_dvd_left _ _)
  obtain ⟨b, hb⟩ : ((Nat.gcd u.natAbs v.natAbs : Nat) : Int) ∣ v := Int.ofNat_dvd_left.mpr (Nat.gcd_dvd_right _ _)
  generalize hG : Nat.gcd u.natAbs v.natAbs = g at *
  have hg' : (g : Int) ≠ 0 := by omega
  have e1 : u / (g : Int) = a := by rw [ha]; exact Int.mul_ediv_cancel_left _ hg'
  have e2 : v / (g : Int) = b := by rw [hb]; exact Int.mul_ediv_cancel_left _ hg'
  rw [e1, e2]
  have na : u.natAbs = g * a.natAbs := by rw [ha, Int.natAbs_mul]; rfl
  have nb : v.natAbs = g * b.natAbs := by rw [hb, Int.natAbs_mul]; rfl
  have bp : 0 < b := by
    rw [hb] at hv
    rcases Int.lt_or_le 0 b with z | z
    · exact z
    · have := Int.mul_le_mul_of_nonneg_left z (show (0 : Int) ≤ (g : Int) by omega)
      rw [Int.mul_zero] at this
      omega
  refine ⟨by omega, ?_, ?_, ?_, ?_⟩
  · rw [na, nb, Nat.gcd_mul_left] at hG
    exact Nat.eq_of_mul_eq_mul_left hg (by rw [hG]; simp)
  · rw [ha, hb]
    rw [Int.mul_left_comm, Int.mul_assoc]
  · rw [na]; exact Nat.le_mul_of_pos_left _ hg
  · rw [nb]; exact Nat.le_mul_of_pos_left _ hg
theorem RatIs.negs {p q u v : Int} (h : RatIs p q (-u) (-v)) : RatIs p q u v := by
  refine ⟨h.pos, h.gcd, ?_, by have := h.lp; rwa [Int.natAbs_neg] at this, by have := h.lq; rwa [Int.natAbs_neg] at this⟩
  have := h.eq
  rw [Int.mul_neg, Int.neg_mul] at this
  omega
theorem Bd.of_le {n : Nat} {x y : Int} (h : Bd n y) (l : x.natAbs ≤ y.natAbs) : Bd n x := Nat.lt_of_le_of_lt l h
end K00
set_option Elab.async false
set_option linter.all false
set_option maxRecDepth 100000
set_option maxHeartbeats 4000000
set_option pp.maxSteps 1500
set_option exponentiation.threshold 50000
namespace K00
open PySem PySem.Spec PyProof.Rows L2 DL
def top (i : Nat) : Stmt := PySem.Challenge.pw_ledbymarks_k01_rows.main.body.getD i (.Pass ⟨0, 0, 0, 0⟩)
abbrev FD (K : PySem.W.Frag) (x : Str) (st : Stmt) (dv : List V) (f : Addr) (fd : FuncData) : Prop := FunD K x x (defArgs st) (defBody st) (defScope st) dv [] f fd
section
variable {P : Program} {w : World} {K : PySem.W.Frag} {mg : Str → Option Value} {base : Heap} {f CZ CM : Addr} {fd : FuncData}
/-! ### _law_cell -/
abbrev s__law_cell : Stmt := top 16
theorem sc__law_cell : FnScope ["script", "k", "seed", "cell"] ["script", "k"] (defScope s__law_cell) := ⟨rfl, rfl, rfl, by decide +kernel, rfl, by decide +kernel, by decide +kernel⟩
def T_cell : DSp := fun ds kk _ => ∃ (ns : List Int) (k : Int), ds = [.scr ns, .int k] ∧ 0 ≤ k ∧ k ≤ 1000000 ∧ ∀ v : Int, kk (.sh (.int v))
theorem ok_cell (F : FD K "_law_cell" s__law_cell [] f fd) (M : Bi mg) : FnOk P w K mg base (L2.CX P w) 1 f fd ["script", "k"] (spD K T_cell) := by
  have sc := sc__law_cell
  refine fn_ok F sc (by decide) (fun ds kk xx h => by obtain ⟨_, _, rfl, _⟩ := h; rfl) fun cdv A outer s H E ds kk xx hr hT hx => ?_
  obtain ⟨ns, k, rfl, h0, h1, hk⟩ := hT
  refine wb_cons <| ws_if (Vw.refl _) <| wt_lt <| we_var 1 rfl <| we_lenS M.len <| wa_cons <| we_var 0 rfl <| wa_nil <| a1 <| ⟨_, rfl, i2 ⟨fun hb => ?_, fun hb => ?_⟩⟩
  · have hb := of_decide_eq_true hb
    obtain ⟨j, rfl⟩ : ∃ j : Nat, k = j := ⟨k.toNat, by omega⟩
    have hj : j < ns.length := by omega
    exact wb_cons <| ws_ret (Vw.refl _) <| we_ixS <| we_var 0 rfl <| we_var 1 rfl <| ⟨_, _, _, rfl, rfl, atI_nat (List.getElem?_eq_getElem hj), hk _⟩
  refine wb_nil ?_
  refine wb_cons <| ws_set 2 sc.nd <| we_int <| ?_
  refine wb_cons <| ws_forSS (passes_of rfl) rfl (fun i δ => ∃ q : Int, 0 ≤ q ∧ q < 1000003 ∧ δ = [.sh (.scr ns), .sh (.int k), .sh (.int q), .no]) <| we_var 0 rfl <| ⟨_, rfl, ⟨_, .keep <| .keep <| .keep <| .keep <| .nil, 17, by decide, by decide, rfl⟩, fun i n δ1 hd hI => wg_name 3 sc.nd ?_, fun δ1 hI => ?_⟩
  · obtain ⟨q, q0, q1, rfl⟩ := hI
    refine wb_cons <| ws_set 2 sc.nd <| we_mod <| we_cint M.int <| wa_cons <| we_add <| we_mul <| we_var 2 rfl <| we_int <| i2 <| And.intro (mul64 (by omega) (by omega)) <| we_mod <| we_cint M.int <| wa_cons <| we_var 3 rfl <| wa_nil <| a1 <| ci <| we_int <| i2 <| And.intro (by decide) <| i2 <| wa_nil <| a1 <| ci <| we_int <| i2 <| And.intro (by decide) <| ?_
    refine wb_nil ⟨_, .keep <| .keep <| .keep <| .drop <| .nil, _, ?_, ?_, rfl⟩ <;> omega
  obtain ⟨q, q0, q1, rfl⟩ := hI
  have e1 : (q + 7) * (k + 3) < 1000010 * 1000004 := Int.mul_lt_mul (by omega) (by omega) (by omega) (by omega)
  have e2 : 0 ≤ (q + 7) * (k + 3) := Int.mul_nonneg (by omega) (by omega)
  exact wb_cons <| ws_ret (Vw.refl _) <| we_mod <| we_cint M.int <| wa_cons <| we_mul <| we_mul <| we_add <| we_var 2 rfl <| we_int <| i2 <| we_add <| we_var 1 rfl <| we_int <| i2 <| i2 <| And.intro (mul64 (by omega) (by omega)) <| we_int <| i2 <| And.intro (mul64 (by omega) (by omega)) <| wa_nil <| a1 <| ci <| we_int <| i2 <| And.intro (by decide) <| hk _
/-! ### _law_digits -/
abbrev s__law_digits : Stmt := top 17
theorem sc__law_digits : FnScope ["cell", "sizes", "found", "rest", "size", "seed", "k", "twice"] ["cell", "sizes"] (defScope s__law_digits) := ⟨rfl, rfl, rfl, by decide +kernel, rfl, by decide +kernel, by decide +kernel⟩
/-- digits below their sizes -/
def Digs (r sizes : List Int) : Prop := r.length = sizes.length ∧ ∀ (i : Nat) x s, r[i]? = some x → sizes[i]? = some s → 0 ≤ x ∧ x < s
theorem Digs.nil {sizes : List Int} : Digs [] (sizes.take 0) := ⟨by simp, fun i x s h => by cases h⟩
theorem Digs.snoc {r sizes : List Int} {i : Nat} {s x : Int} (h : Digs r (sizes.take i)) (hs : sizes[i]? = some s) (h0 : 0 ≤ x) (h1 : x < s) : Digs (r ++ [x]) (sizes.take (i + 1)) := by
  have hi : i < sizes.length := (List.getElem?_eq_some_iff.mp hs).1
  have hl : r.length = i := by rw [h.1, List.length_take]; omega
  refine ⟨by simp [hl]; omega, fun j y t h2 h3 => ?_⟩
  by_cases hj : j < i
  · rw [List.getElem?_append_left (by omega)] at h2
    rw [List.getElem?_take_of_lt (by omega)] at h3
    exact h.2 j y t h2 (by rw [List.getElem?_take_of_lt hj]; exact h3)
  · have hj2 : j < i + 1 := by
      have := (List.getElem?_eq_some_iff.mp h2).1
      simp [hl] at this
      omega
    have e : j = i := by omega
    subst e
    rw [List.getElem?_take_of_lt (by omega), hs] at h3
    rw [List.getElem?_append_right (by omega), hl, Nat.sub_self] at h2
    cases h2; cases h3
    exact ⟨h0, h1⟩
theorem Digs.all {r sizes : List Int} {i : Nat} (h : Digs r (sizes.take i)) (hi : sizes.length ≤ i) : Digs r sizes := by rwa [List.take_of_length_le hi] at h
def DigD (ds : List D) (sizes : List Int) : Prop := ∃ r, Digs r sizes ∧ ds = r.map .int
theorem DigD.nil {sizes : List Int} : DigD [] (sizes.take 0) := ⟨[], .nil, rfl⟩
theorem DigD.len {ds : List D} {sizes : List Int} (h : DigD ds sizes) : ds.length = sizes.length := by
  obtain ⟨r, h, rfl⟩ := h
  rw [List.length_map, h.1]
theorem DigD.snoc {ds : List D} {sizes : List Int} {i : Nat} {s x : Int} (h : DigD ds (sizes.take i)) (hs : sizes[i]? = some s) (h0 : 0 ≤ x) (h1 : x < s) : DigD (ds ++ [.int x]) (sizes.take (i + 1)) := by
  obtain ⟨r, h, rfl⟩ := h
  exact ⟨_, h.snoc hs h0 h1, snoc_ints⟩
def T_digits : DSp := fun ds kk _ => ∃ (c : Int) (l : Bool) (sizes : List Int), ds = [.int c, .sq l (sizes.map .int)] ∧ sizes.length ≤ 10000 ∧ (∀ s ∈ sizes, 0 < s ∧ s < 18446744073709551616) ∧ ∀ r, Digs r sizes → kk (.ow (.lst (r.map .int)))
theorem ok_digits (F : FD K "_law_digits" s__law_digits [] f fd) (M : Bi mg) : FnOk P w K mg base (L2.CX P w) 1 f fd ["cell", "sizes"] (spD K T_digits) := by
  have sc := sc__law_digits
  refine fn_ok F sc (by decide) (fun ds kk xx h => by obtain ⟨_, _, _, rfl, _⟩ := h; rfl) fun cdv A outer s H E ds kk xx hr hT hx => ?_
  obtain ⟨c, l, sizes, rfl, hl, hs, hk⟩ := hT
  have szAt : ∀ {i : Nat} {s : Int}, sizes[i]? = some s → 0 < s ∧ s < 18446744073709551616 := fun h => hs _ (List.mem_of_getElem? h)
  refine wb_cons <| ws_setO 2 sc.nd <| wo_lst <| wa_nil <| And.intro (by decide) <| ?_
  refine wb_cons <| ws_set 3 sc.nd <| we_cint M.int <| wa_cons <| we_var 0 rfl <| wa_nil <| a1 <| ci <| ?_
  refine wb_cons <| ws_if (Vw.refl _) <| wt_ge <| we_var 3 rfl <| we_pow <| we_int <| we_int <| i2 <| And.intro (by decide) <| i2 <| ⟨fun hb => ?_, fun hb => ?_⟩
  · refine wb_cons <| ws_set 3 sc.nd <| we_sub <| we_var 3 rfl <| we_pow <| we_int <| we_int <| i2 <| And.intro (by decide) <| i2 <| ?_
    refine wb_cons <| ws_forS (passes_of rfl) rfl (fun i δ => ∃ (r : List D) (q : Int), DigD r (sizes.take i) ∧ δ = [.sh (.int c), .sh (.sq l (sizes.map .int)), .ow (.lst r), .sh (.int q), .no, .no, .no, .no]) l <| we_var 1 rfl <| ⟨_, rfl, ⟨_, .keep <| .keep <| .keep <| .keep <| .keep <| .keep <| .keep <| .keep <| .nil, [], _, .nil, rfl⟩, fun i d δ1 hd hI => wg_name 4 sc.nd ?_, fun δ1 hI => ?_⟩
    · obtain ⟨r, q, hr', rfl⟩ := hI
      obtain ⟨n, hn, rfl⟩ := of_get_ints hd
      have hn' := szAt hn
      refine wb_cons <| ws_append 2 rfl (by rw [hr'.len, List.length_take]; omega) <| we_mod <| we_cint M.int <| wa_cons <| we_var 3 rfl <| wa_nil <| a1 <| ci <| we_var 4 rfl <| i2 <| And.intro hn'.1 <| ?_
      refine wb_cons <| ws_set 3 sc.nd <| we_div <| we_cint M.int <| wa_cons <| we_var 3 rfl <| wa_nil <| a1 <| ci <| we_var 4 rfl <| i2 <| And.intro (div64 hn'.1 hn'.2) <| ?_
      refine wb_nil ⟨_, .keep <| .keep <| .keep <| .keep <| .drop <| .keep <| .keep <| .keep <| .nil, _, _, hr'.snoc hn (Int.emod_nonneg _ (by omega)) (Int.emod_lt_of_pos _ hn'.1), rfl⟩
    obtain ⟨r, q, ⟨r, hr', rfl⟩, rfl⟩ := hI
    exact wb_cons <| ws_retOwn 2 rfl <| hk _ (hr'.all (by simp))
  refine wb_nil ?_
  refine wb_cons <| ws_set 5 sc.nd <| we_mod <| we_cint M.int <| wa_cons <| we_var 3 rfl <| wa_nil <| a1 <| ci <| we_int <| i2 <| And.intro (by decide) <| ?_
  refine wb_cons <| ws_forR M.range (passes_of rfl) rfl (Vw.refl _) (fun i δ => ∃ (r : List D) (q : Int), 0 ≤ q ∧ q < 2147483647 ∧ DigD r (sizes.take i) ∧ δ = [.sh (.int c), .sh (.sq l (sizes.map .int)), .ow (.lst r), .sh (.int c), .no, .sh (.int q), .no, .no]) <| wa_cons <| we_len M.len <| wa_cons <| we_var 1 rfl <| wa_nil <| a1 <| sqk <| wa_nil <| a1 <| i1 <| ⟨by rw [List.length_map]; omega, ⟨_, .keep <| .keep <| .keep <| .keep <| .keep <| .keep <| .keep <| .keep <| .nil, [], c % 2147483629, by omega, by omega, .nil, rfl⟩, fun i δ1 hi hI => wg_name 6 sc.nd ?_, fun δ1 hI => ?_⟩
  · obtain ⟨r, q, q0, q1, hr', rfl⟩ := hI
    rw [List.length_map] at hi
    have hi' : i < sizes.length := by omega
    have hn := List.getElem?_eq_getElem hi'
    have hn' := szAt hn
    refine wb_cons <| ws_set 5 sc.nd <| we_mod <| we_cint M.int <| wa_cons <| we_add <| we_add <| we_mul <| we_var 5 rfl <| we_int <| i2 <| And.intro (mul64 (by omega) (by omega)) <| we_mul <| we_int <| we_var 6 rfl <| i2 <| And.intro (mul64 (by omega) (by omega)) <| i2 <| we_int <| i2 <| wa_nil <| a1 <| ci <| we_int <| i2 <| And.intro (by decide) <| ?_
    generalize hq2 : (q * 48271 + 974711 * (i : Int) + 12345) % 2147483647 = q2
    have b2 : 0 ≤ q2 ∧ q2 < 2147483647 := by omega
    refine wb_cons <| ws_set 7 sc.nd <| we_mod <| we_cint M.int <| wa_cons <| we_mul <| we_var 5 rfl <| we_add <| we_div <| we_var 5 rfl <| we_int <| i2 <| And.intro (div64 (by decide) (by decide)) <| we_int <| i2 <| i2 <| And.intro (mul64 (by omega) (by omega)) <| wa_nil <| a1 <| ci <| we_int <| i2 <| And.intro (by decide) <| ?_
    refine wb_cons <| ws_append 2 rfl (by rw [hr'.len, List.length_take]; omega) <| we_mod <| we_div <| we_var 7 rfl <| we_int <| i2 <| And.intro (div64 (by decide) (by decide)) <| we_ix <| we_var 1 rfl <| we_var 6 rfl <| ixn _ (get_ints hn) <| i2 <| And.intro hn'.1 <| ?_
    refine wb_nil ⟨_, .keep <| .keep <| .keep <| .keep <| .keep <| .keep <| .drop <| .drop <| .nil, _, _, b2.1, b2.2, hr'.snoc hn (Int.emod_nonneg _ (by omega)) (Int.emod_lt_of_pos _ hn'.1), rfl⟩
  obtain ⟨r, q, q0, q1, ⟨r, hr', rfl⟩, rfl⟩ := hI
  exact wb_cons <| ws_retOwn 2 rfl <| hk _ (hr'.all (by simp))
/-! ### _law_gcd -/
abbrev s__law_gcd : Stmt := top 18
theorem sc__law_gcd : FnScope ["one", "two", "left", "right", "turn", "held"] ["one", "two"] (defScope s__law_gcd) := ⟨rfl, rfl, rfl, by decide +kernel, rfl, by decide +kernel, by decide +kernel⟩
def T_gcd : DSp := fun ds kk _ => ∃ (a b : Int), ds = [.int a, .int b] ∧ Bd 40000 a ∧ Bd 40000 b ∧ kk (.sh (.int ((Nat.gcd a.natAbs b.natAbs : Nat) : Int)))
theorem ok_gcd (F : FD K "_law_gcd" s__law_gcd [] f fd) (M : Bi mg) : FnOk P w K mg base (L2.CX P w) 1 f fd ["one", "two"] (spD K T_gcd) := by
  have sc := sc__law_gcd
  refine fn_ok F sc (by decide) (fun ds kk xx h => by obtain ⟨_, _, rfl, _⟩ := h; rfl) fun cdv A outer s H E ds kk xx hr hT hx => ?_
  obtain ⟨a, b, rfl, ha, hb, hk⟩ := hT
  obtain ⟨n, hn, hab⟩ : ∃ n, n < 100000 ∧ 2 * (a.natAbs * b.natAbs) ≤ 2 ^ n := ⟨80001, by decide, by
    have e1 : a.natAbs * b.natAbs ≤ 2 ^ 40000 * 2 ^ 40000 := Nat.mul_le_mul (Nat.le_of_lt ha) (Nat.le_of_lt hb)
    have e2 : ∀ m k : Nat, k = m + m + 1 → (2 : Nat) ^ k = 2 * (2 ^ m * 2 ^ m) := fun m k e => by rw [e, ← Nat.pow_add, Nat.mul_comm, ← Nat.pow_succ]
    rw [e2 40000 80001 rfl]
    exact Nat.mul_le_mul_left 2 e1⟩
  have fin : ∀ (l : Nat) (x4 x5 : S), l = Nat.gcd a.natAbs b.natAbs → kk (.sh (.int (l : Int))) := fun l _ _ e => by rw [e]; exact hk
  refine wb_cons <| ws_set 2 sc.nd <| we_abs M.abs <| wa_cons <| we_var 0 rfl <| wa_nil <| a1 <| i1 <| ?_
  refine wb_cons <| ws_set 3 sc.nd <| we_abs M.abs <| wa_cons <| we_var 1 rfl <| wa_nil <| a1 <| i1 <| ?_
  refine wb_cons <| ws_forR M.range (passes_of rfl) rfl (Vw.refl _) (fun i δ => ∃ l r : Nat, l * r * 2 ^ i ≤ 2 ^ n ∧ (i = 0 → 2 * (l * r) ≤ 2 ^ n) ∧ (0 < i → r < l) ∧ Nat.gcd l r = Nat.gcd a.natAbs b.natAbs ∧ δ = [.sh (.int a), .sh (.int b), .sh (.int (l : Int)), .sh (.int (r : Int)), .no, .no]) <| wa_cons <| we_int <| wa_nil <| a1 <| i1 <| ⟨by omega, ⟨_, .keep <| .keep <| .keep <| .keep <| .keep <| .keep <| .nil, a.natAbs, b.natAbs, by rw [Nat.pow_zero, Nat.mul_one]; omega, fun _ => hab, fun z => absurd z (by decide), rfl, rfl⟩, fun i δ1 hi hI => wg_name 4 sc.nd ?_, fun δ1 hI => ?_⟩
  · obtain ⟨l, r, h1, h0, hl, hg, rfl⟩ := hI
    refine wb_cons <| ws_if (Vw.refl _) <| wt_eq <| we_var 3 rfl <| we_int <| fe rfl <| ⟨fun hb => ?_, fun hb => ?_⟩
    · have hb := of_decide_eq_true hb
      refine wb_cons <| ws_break ?_
      refine wb_cons <| ws_ret (Vw.refl _) <| we_var 2 rfl <| fin l .no .no ?_
      rw [← hg, show r = 0 by omega, Nat.gcd_zero_right]
    refine wb_nil ?_
    have hb := of_decide_eq_false hb
    obtain ⟨g1, g2⟩ := euclid_step (show 0 < r by omega) h1 h0 hl
    refine wb_cons <| ws_set 5 sc.nd <| we_mod <| we_cint M.int <| wa_cons <| we_var 2 rfl <| wa_nil <| a1 <| ci <| we_var 3 rfl <| i2 <| And.intro (show (0 : Int) < (r : Int) by omega) <| ?_
    refine wb_cons <| ws_set 2 sc.nd <| we_var 3 rfl <| ?_
    refine wb_cons <| ws_set 3 sc.nd <| we_var 5 rfl <| ?_
    refine wb_nil ⟨_, .keep <| .keep <| .keep <| .keep <| .drop <| .drop <| .nil, r, l % r, g1, fun z => absurd z (Nat.succ_ne_zero i), fun _ => g2, ?_, rfl⟩
    rw [Nat.gcd_comm, ← Nat.gcd_rec, Nat.gcd_comm]
    exact hg
  obtain ⟨l, r, h1, h0, hl, hg, rfl⟩ := hI
  have hz := euclid_end h1 hn (hl (by decide))
  subst hz
  refine wb_cons <| ws_ret (Vw.refl _) <| we_var 2 rfl <| fin l .no .no ?_
  rw [← hg, Nat.gcd_zero_right]
abbrev pr (l : Bool) (a b : Int) : D := .sq l [.int a, .int b]
/-! ### ratio -/
abbrev s_ratio : Stmt := top 5
theorem sc_ratio : FnScope ["top", "bottom", "common"] ["top", "bottom"] (defScope s_ratio) := ⟨rfl, rfl, rfl, by decide +kernel, rfl, by decide +kernel, by decide +kernel⟩
def T_ratio (CZ : Addr) : DSp := fun ds kk xx => ∃ (t b : Int), ds = [.int t, .int b] ∧ Bd 6000 t ∧ Bd 6000 b ∧ (b = 0 → xx (.ref CZ) [("top", .int t)]) ∧ (b ≠ 0 → ∀ p q, RatIs p q t b → kk (.sh (pr false p q)))
theorem ok_ratio (F : FD K "ratio" s_ratio [.int 1] f fd) (mgcd : mg "gcd" = some (.builtin "math.gcd")) (Z : Exc1 P w K mg base 1 "ZeroBottom" "top" CZ) : FnOk P w K mg base (L2.CX P w) 3 f fd ["top", "bottom"] (spD K (T_ratio CZ)) := by
  have sc := sc_ratio
  refine fn_ok F sc (by decide) (fun ds kk xx h => by obtain ⟨_, _, rfl, _⟩ := h; rfl) fun cdv A outer s H E ds kk xx hr hT hx => ?_
  obtain ⟨t, b, rfl, ht, hb', h0, h1⟩ := hT
  refine wb_cons <| ws_if (Vw.refl _) <| wt_eq <| we_var 1 rfl <| we_int <| fe rfl <| ⟨fun hb => ?_, fun hb => ?_⟩
  · refine wb_cons <| ws_raise1 Z (hr.mono (by decide)) rfl hx (Vw.refl _) <| wa_cons <| we_var 0 rfl <| wa_nil <| a1 <| h0 (of_decide_eq_true hb)
  refine wb_nil ?_
  have hz : b ≠ 0 := of_decide_eq_false hb
  refine wb_ifj (fun δ => ∃ u v : Int, 0 < v ∧ Bd 6000 u ∧ Bd 6000 v ∧ (∀ p q, RatIs p q u v → kk (.sh (pr false p q))) ∧ δ = [.sh (.int u), .sh (.int v), .no]) (Vw.refl _) (fun δ1 hM => ?_) <| wt_lt <| we_var 1 rfl <| we_int <| i2 <| ⟨fun hb => ?_, fun hb => ?_⟩
  · obtain ⟨u, v, hv, hu, hv', hk, rfl⟩ := hM
    have hg : 0 < Nat.gcd u.natAbs v.natAbs := Nat.gcd_pos_of_pos_right _ (by omega)
    have hgb : Bd 6000 ((Nat.gcd u.natAbs v.natAbs : Nat) : Int) := Bd.of_le hv' (Nat.le_of_dvd (by omega) (Nat.gcd_dvd_right _ _))
    refine wb_cons <| ws_set 2 sc.nd <| we_gcd mgcd <| wa_cons <| we_var 0 rfl <| wa_cons <| we_var 1 rfl <| wa_nil <| a2 <| i2 <| ?_
    exact wb_cons <| ws_ret (Vw.refl _) <| we_tup <| wa_cons <| we_div <| we_var 0 rfl <| we_var 2 rfl <| i2 <| And.intro (Bd.div (by omega) hgb (by decide)) <| wa_cons <| we_div <| we_var 1 rfl <| we_var 2 rfl <| i2 <| And.intro (Bd.div (by omega) hgb (by decide)) <| wa_nil <| And.intro lok <| hk _ _ (rat_of hv)
  · have hb := of_decide_eq_true hb
    refine wb_cons <| ws_set 0 sc.nd <| we_neg <| we_var 0 rfl <| i1 <| ?_
    refine wb_cons <| ws_set 1 sc.nd <| we_neg <| we_var 1 rfl <| i1 <| ?_
    exact wb_nil <| upto ⟨-t, -b, by omega, ht.neg, hb'.neg, fun p q h => h1 hz p q h.negs, rfl⟩
  · have hb := of_decide_eq_false hb
    exact wb_nil <| upto ⟨t, b, by omega, ht, hb', h1 hz, rfl⟩
/-! ### _law_whole, _law_is_ratio, _law_limit -/
abbrev s__law_whole : Stmt := top 15
theorem sc__law_whole : FnScope ["value"] ["value"] (defScope s__law_whole) := ⟨rfl, rfl, rfl, by decide +kernel, rfl, by decide +kernel, by decide +kernel⟩
def T_whole : DSp := fun ds kk _ => ∃ i : Int, ds = [.int i] ∧ kk (.sh (.bl true))
theorem ok_whole (F : FD K "_law_whole" s__law_whole [] f fd) (M : Bi mg) : FnOk P w K mg base (L2.CX P w) 1 f fd ["value"] (spD K T_whole) := by
  have sc := sc__law_whole
  refine fn_ok F sc (by decide) (fun ds kk xx h => by obtain ⟨_, rfl, _⟩ := h; rfl) fun cdv A outer s H E ds kk xx hr hT hx => ?_
  obtain ⟨i, rfl, hk⟩ := hT
  refine wb_cons <| ws_ret (Vw.refl _) <| we_and <| we_isi M.isinstance (isi_arg (T := "int") M.int (by decide +kernel) rfl (by decide) (by decide)) <| we_var 0 rfl <| ii_ (b := true) rfl (by decide +kernel) <| b1 <| ⟨fun hb => ?_, fun hb => nomatch hb⟩
  exact we_one <| we_not <| we_isi M.isinstance (isi_arg (T := "bool") M.bool (by decide +kernel) rfl (by decide) (by decide)) <| we_var 0 rfl <| ii_ (b := false) rfl (by decide +kernel) <| b1 <| hk
abbrev s__law_is_ratio : Stmt := top 19
theorem sc__law_is_ratio : FnScope ["value"] ["value"] (defScope s__law_is_ratio) := ⟨rfl, rfl, rfl, by decide +kernel, rfl, by decide +kernel, by decide +kernel⟩
def T_isr : DSp := fun ds kk _ => ∃ p q : Int, ds = [pr false p q] ∧ 1 ≤ q ∧ Nat.gcd p.natAbs q.natAbs = 1 ∧ Bd 40000 p ∧ Bd 40000 q ∧ kk (.sh (.bl true))
theorem ok_isr (F : FD K "_law_is_ratio" s__law_is_ratio [] f fd) (M : Bi mg) (FW : Fn P w K mg base 1 "_law_whole" ["value"] T_whole []) (FG : Fn P w K mg base 1 "_law_gcd" ["one", "two"] T_gcd []) : FnOk P w K mg base (L2.CX P w) 2 f fd ["value"] (spD K T_isr) := by
  have sc := sc__law_is_ratio
  refine fn_ok F sc (by decide) (fun ds kk xx h => by obtain ⟨_, _, rfl, _⟩ := h; rfl) fun cdv A outer s H E ds kk xx hr hT hx => ?_
  obtain ⟨p, q, rfl, hq, hg, bp, bq, hk⟩ := hT
  refine wb_cons <| ws_if (Vw.refl _) <| wt_w <| ww_or <| wt_not <| wt_val <| we_isi M.isinstance (isi_arg (T := "tuple") M.tuple (by decide +kernel) rfl (by decide) (by decide)) <| we_var 0 rfl <| ii_ (b := true) rfl (by decide +kernel) <| b1 <| ⟨fun hb => ?_, fun hb => nomatch hb⟩
  refine ww_or <| wt_ne <| we_len M.len <| wa_cons <| we_var 0 rfl <| wa_nil <| a1 <| sqk <| we_int <| fe rfl <| ⟨fun hb => ?_, fun hb => nomatch hb⟩
  refine ww_or <| wt_not <| wt_val <| we_call FW (hr.mono (by decide)) <| wa_cons <| we_ix <| we_var 0 rfl <| we_int <| ixn 0 rfl <| wa_nil <| ⟨p, rfl, b1 <| ⟨fun hb => ?_, fun hb => nomatch hb⟩⟩
  refine ww_or1 <| wt_not <| wt_val <| we_call FW (hr.mono (by decide)) <| wa_cons <| we_ix <| we_var 0 rfl <| we_int <| ixn 1 rfl <| wa_nil <| ⟨q, rfl, b1 <| ⟨fun hb => (nomatch hb), fun hb => wb_nil ?_⟩⟩
  refine wb_cons <| ws_ret (Vw.refl _) <| we_and <| we_ge <| we_ix <| we_var 0 rfl <| we_int <| ixn 1 rfl <| we_int <| i2 <| b1 <| ⟨fun hb => ?_, fun hb => absurd hq (of_decide_eq_false hb)⟩
  refine we_one <| we_eq <| we_call FG (hr.mono (by decide)) <| wa_cons <| we_ix <| we_var 0 rfl <| we_int <| ixn 0 rfl <| wa_cons <| we_ix <| we_var 0 rfl <| we_int <| ixn 1 rfl <| wa_nil <| ⟨p, q, rfl, bp, bq, ?_⟩
  refine we_int <| fe rfl ?_
  rw [hg]
  exact hk
abbrev s__law_limit : Stmt := top 21
theorem sc__law_limit : FnScope ["turns", "limit", "turn"] ["turns"] (defScope s__law_limit) := ⟨rfl, rfl, rfl, by decide +kernel, rfl, by decide +kernel, by decide +kernel⟩
def lim (n : Nat) : Int := 10 ^ (50 * 2 ^ n)
theorem lim_succ (n : Nat) : lim n * lim n = lim (n + 1) := by
  unfold lim
  rw [← Int.pow_add, Nat.pow_succ]
  congr 1
  omega
theorem lim_bd (n : Nat) : Bd (50 * 2 ^ n * 4) (lim n) := by
  have h1 : (10 : Nat) < 2 ^ 4 := by decide
  have h2 : 50 * 2 ^ n ≠ 0 := Nat.mul_ne_zero (by decide) (Nat.pos_iff_ne_zero.mp (Nat.two_pow_pos n))
  have h3 : (10 : Nat) ^ (50 * 2 ^ n) < (2 ^ 4) ^ (50 * 2 ^ n) := Nat.pow_lt_pow_left h1 h2
  have h4 : (2 : Nat) ^ (50 * 2 ^ n * 4) = (2 ^ 4) ^ (50 * 2 ^ n) := by rw [← Nat.pow_mul, Nat.mul_comm]
  unfold Bd lim
  rw [Int.natAbs_pow, h4]
  exact h3
def T_limit : DSp := fun ds kk _ => ∃ n : Nat, ds = [.int (n : Int)] ∧ n ≤ 5 ∧ kk (.sh (.int (lim n)))
theorem ok_limit (F : FD K "_law_limit" s__law_limit [] f fd) (M : Bi mg) : FnOk P w K mg base (L2.CX P w) 1 f fd ["turns"] (spD K T_limit) := by
  have sc := sc__law_limit
  refine fn_ok F sc (by decide) (fun ds kk xx h => by obtain ⟨_, rfl, _⟩ := h; rfl) fun cdv A outer s H E ds kk xx hr hT hx => ?_
  obtain ⟨n, rfl, hn, hk⟩ := hT
  refine wb_cons <| ws_set 1 sc.nd <| we_pow <| we_int <| we_int <| i2 <| And.intro (by decide) <| ?_
  refine wb_cons <| ws_forR M.range (passes_of rfl) rfl (Vw.refl _) (fun i δ => δ = [.sh (.int (n : Int)), .sh (.int (lim i)), .no]) <| wa_cons <| we_var 0 rfl <| wa_nil <| a1 <| i1 <| ⟨by omega, ⟨_, .keep <| .keep <| .keep <| .nil, rfl⟩, fun i δ1 hi hI => wg_name 2 sc.nd ?_, fun δ1 hI => ?_⟩
  · subst hI
    have hb := lim_bd i
    have h5 : (2 : Nat) ^ i ≤ 2 ^ 5 := Nat.pow_le_pow_right (by decide) (by omega)
    refine wb_cons <| ws_set 1 sc.nd <| we_mul <| we_var 1 rfl <| we_var 1 rfl <| i2 <| And.intro (hb.mulW hb (by omega)) <| ?_
    exact wb_nil ⟨_, .keep <| .keep <| .drop <| .nil, by rw [lim_succ] <;> rfl⟩
  subst hI
  exact wb_cons <| ws_ret (Vw.refl _) <| we_var 1 rfl <| hk
theorem pow_bd {n : Nat} : Bd (4 * n + 1) ((10 : Int) ^ n) := by
  have h1 : (10 : Nat) ^ n ≤ (2 ^ 4) ^ n := Nat.pow_le_pow_left (by decide) n
  have h2 : (2 : Nat) ^ (4 * n + 1) = (2 ^ 4) ^ n * 2 := by rw [Nat.pow_succ, Nat.pow_mul]
  have h3 : 0 < (2 ^ 4) ^ n := Nat.pow_pos (by decide)
  unfold Bd
  rw [Int.natAbs_pow, h2]
  show 10 ^ n < _
  omega
theorem mod_le {x m : Int} (h : 0 ≤ m) : 0 ≤ x % (m + 1) ∧ (x % (m + 1)).natAbs ≤ m.natAbs := by
  have h1 := Int.emod_nonneg x (show m + 1 ≠ 0 by omega)
  have h2 := Int.emod_lt_of_pos x (show 0 < m + 1 by omega)
  omega
theorem at_of {ds : List D} {i : Int} {Q : D → Prop} (h0 : 0 ≤ i) (h : i < ds.length) (hp : ∀ d ∈ ds, Q d) : ∃ d, atI ds i = some d ∧ Q d := by
  obtain ⟨j, rfl⟩ : ∃ j : Nat, i = j := ⟨i.toNat, by omega⟩
  have hj : j < ds.length := by omega
  exact ⟨ds[j], atI_nat (List.getElem?_eq_getElem hj), hp _ (List.getElem_mem hj)⟩
theorem neg_case {u v : Int} (hv : v < 0) : RatIs (u.fdiv (-((Nat.gcd u.natAbs v.natAbs : Nat) : Int))) (v.fdiv (-((Nat.gcd u.natAbs v.natAbs : Nat) : Int))) u v := by
  have h := rat_of (u := -u) (v := -v) (by omega)
  rw [Int.natAbs_neg, Int.natAbs_neg] at h
  have hg : 0 < Nat.gcd u.natAbs v.natAbs := Nat.gcd_pos_of_pos_right _ (by omega)
  have key : ∀ x : Int, ((Nat.gcd u.natAbs v.natAbs : Nat) : Int) ∣ x → x.fdiv (-((Nat.gcd u.natAbs v.natAbs : Nat) : Int)) = -x / ((Nat.gcd u.natAbs v.natAbs : Nat) : Int) := fun x ⟨a, ha⟩ => by
    have hg' : ((Nat.gcd u.natAbs v.natAbs : Nat) : Int) ≠ 0 := by omega
    generalize ((Nat.gcd u.natAbs v.natAbs : Nat) : Int) = g at *
    subst ha
    rw [show g * a = -g * -a by rw [Int.neg_mul_neg], Int.mul_fdiv_cancel_left _ (by omega), show -(-g * -a) = g * -a by rw [Int.neg_mul, Int.neg_neg], Int.mul_ediv_cancel_left _ hg']
  rw [key u (Int.ofNat_dvd_left.mpr (Nat.gcd_dvd_left _ _)), key v (Int.ofNat_dvd_left.mpr (Nat.gcd_dvd_right _ _))]
  exact h.negs
/-! ### _law_number -/
abbrev s__law_number : Stmt := top 22
theorem sc__law_number : FnScope ["cell", "most", "rest", "size", "parts", "k"] ["cell", "most"] (defScope s__law_number) := ⟨rfl, rfl, rfl, by decide +kernel, rfl, by decide +kernel, by decide +kernel⟩
def T_number : DSp := fun ds kk _ => ∃ c m : Int, ds = [.int c, .int m] ∧ 0 ≤ m ∧ ∀ v : Int, v.natAbs ≤ m.natAbs → kk (.sh (.int v))
def sz12 : List Int := [2, 9] ++ (List.replicate 10 [1000000]).flatten
theorem sz12_D : ([.int 2, .int 9] ++ (List.replicate (10 : Int).toNat [D.int 1000000]).flatten : List D) = sz12.map D.int := rfl
theorem ok_number (F : FD K "_law_number" s__law_number [] f fd) (M : Bi mg) (FD_ : Fn P w K mg base 1 "_law_digits" ["cell", "sizes"] T_digits []) : FnOk P w K mg base (L2.CX P w) 2 f fd ["cell", "most"] (spD K T_number) := by
  have sc := sc__law_number
  refine fn_ok F sc (by decide) (fun ds kk xx h => by obtain ⟨_, _, rfl, _⟩ := h; rfl) fun cdv A outer s H E ds kk xx hr hT hx => ?_
  obtain ⟨c, m, rfl, hm, hk⟩ := hT
  refine wb_cons <| ws_set 2 sc.nd <| we_cint M.int <| wa_cons <| we_var 0 rfl <| wa_nil <| a1 <| ci <| ?_
  refine wb_cons <| ws_if (Vw.refl _) <| wt_ge <| we_var 2 rfl <| we_pow <| we_int <| we_int <| i2 <| And.intro (by decide) <| i2 <| ⟨fun hb => ?_, fun hb => ?_⟩
  · refine wb_cons <| ws_set 2 sc.nd <| we_sub <| we_var 2 rfl <| we_pow <| we_int <| we_int <| i2 <| And.intro (by decide) <| i2 <| ?_
    refine wb_cons <| ws_set 3 sc.nd <| we_mod <| we_cint M.int <| wa_cons <| we_div <| we_var 2 rfl <| we_int <| i2 <| And.intro (div64 (by decide) (by decide)) <| wa_nil <| a1 <| ci <| we_add <| we_var 1 rfl <| we_int <| i2 <| i2 <| And.intro (by omega) <| ?_
    refine wb_cons <| ws_ret (Vw.refl _) <| we_if <| wt_eq <| we_mod <| we_cint M.int <| wa_cons <| we_var 2 rfl <| wa_nil <| a1 <| ci <| we_int <| i2 <| And.intro (by decide) <| we_int <| fe rfl <| ⟨fun hb => ?_, fun hb => ?_⟩
    · exact we_var 3 rfl <| hk _ (mod_le hm).2
    · exact we_neg <| we_var 3 rfl <| i1 <| hk _ (by rw [Int.natAbs_neg]; exact (mod_le hm).2)
  refine wb_nil ?_
  refine wb_cons <| ws_set 4 sc.nd <| we_call FD_ (hr.mono (by decide)) <| wa_cons <| we_var 2 rfl <| wa_cons <| we_new <| wo_cat <| we_new <| wo_lst <| wa_cons <| we_int <| wa_cons <| we_int <| wa_nil <| And.intro lok <| we_new <| wo_rep <| wo_lst <| wa_cons <| we_int <| wa_nil <| And.intro lok <| we_int <| rep (by decide) <| cat lok <| wa_nil <| ⟨c, true, sz12, rfl, by decide, by decide, fun r hr' => ?_⟩
  obtain ⟨hl, hd⟩ := hr'
  have hl : r.length = 12 := hl
  have hg : ∀ j : Nat, j < 12 → ∃ x, r[j]? = some x ∧ 0 ≤ x ∧ x < 1000000 := fun j hj => by
    have h1 := List.getElem?_eq_getElem (show j < r.length by omega)
    have h2 := List.getElem?_eq_getElem (show j < sz12.length from hj)
    obtain ⟨a, b⟩ := hd j _ _ h1 h2
    have hs : ∀ s ∈ sz12, s ≤ 1000000 := by decide
    exact ⟨_, h1, a, by have := hs _ (List.getElem_mem (show j < sz12.length from hj)); omega⟩
  obtain ⟨x0, e0, _⟩ := hg 0 (by decide)
  obtain ⟨x2, e2, a2', b2'⟩ := hg 2 (by decide)
  obtain ⟨x1, e1, c1, d1⟩ : ∃ x, r[1]? = some x ∧ 0 ≤ x ∧ x < 9 := by
    have h1 := List.getElem?_eq_getElem (show 1 < r.length by omega)
    exact ⟨_, h1, hd 1 _ 9 h1 rfl⟩
  refine wb_cons <| ws_set 3 sc.nd <| we_int <| ?_
  obtain ⟨dn, hat, n, rfl, hn0, hn1⟩ := at_of (ds := [.int 1, .int 1, .int 1, .int 1, .int 1, .int 1, .int 2, .int 5, .int 10]) (i := x1) (Q := fun d => ∃ n : Nat, d = .int (n : Int) ∧ 1 ≤ n ∧ n ≤ 10) c1 d1 (by
    intro d hd
    simp only [List.mem_cons, List.not_mem_nil, or_false] at hd
    rcases hd with rfl | rfl | rfl | rfl | rfl | rfl | rfl | rfl | rfl
    · exact ⟨1, rfl, by decide, by decide⟩
    · exact ⟨1, rfl, by decide, by decide⟩
    · exact ⟨1, rfl, by decide, by decide⟩
    · exact ⟨1, rfl, by decide, by decide⟩
    · exact ⟨1, rfl, by decide, by decide⟩
    · exact ⟨1, rfl, by decide, by decide⟩
    · exact ⟨2, rfl, by decide, by decide⟩
    · exact ⟨5, rfl, by decide, by decide⟩
    · exact ⟨10, rfl, by decide, by decide⟩)
  refine wb_cons <| ws_forR M.range (passes_of rfl) rfl (Vw.refl _) (fun i δ => ∃ z : Int, Bd (21 * i + 1) z ∧ δ = [.sh (.int c), .sh (.int m), .sh (.int c), .sh (.int z), .sh (.sq true (r.map .int)), .no]) <| wa_cons <| ?_
  refine we_ix <| we_new <| wo_lst <| wa_cons <| we_int <| wa_cons <| we_int <| wa_cons <| we_int <| wa_cons <| we_int <| wa_cons <| we_int <| wa_cons <| we_int <| wa_cons <| we_int <| wa_cons <| we_int <| wa_cons <| we_int <| wa_nil <| And.intro lok <| we_ix <| we_var 4 rfl <| we_int <| ixn 1 (get_ints e1) <| ixa hat <| wa_nil <| a1 <| i1 <| ⟨by omega, ⟨_, .keep <| .keep <| .keep <| .keep <| .keep <| .keep <| .nil, 0, show (0 : Int).natAbs < 2 ^ 1 by decide, rfl⟩, fun i δ1 hi hI => wg_name 5 sc.nd ?_, fun δ1 hI => ?_⟩
  · obtain ⟨z, hz, rfl⟩ := hI
    obtain ⟨y, ey, y0, y1⟩ := hg (2 + i) (by omega)
    have hM : Bd 20 (1000000 : Int) := show (1000000 : Int).natAbs < 2 ^ 20 by decide
    have hy : Bd 20 y := by
      unfold Bd
      show y.natAbs < 1048576
      omega
    refine wb_cons <| ws_set 3 sc.nd <| we_add <| we_mul <| we_var 3 rfl <| we_int <| i2 <| And.intro (hz.mulW hM (by omega)) <| we_ix <| we_var 4 rfl <| we_add <| we_int <| we_var 5 rfl <| i2 <| ixa (atI_nat (j := 2 + i) (get_ints ey)) <| i2 ?_
    refine wb_nil ⟨_, .keep <| .keep <| .keep <| .keep <| .keep <| .drop <| .nil, _, ?_, rfl⟩
    exact (hz.mul hM).add hy (by omega) (by omega)
  obtain ⟨z, hz, rfl⟩ := hI
  have hz : Bd 220 z := hz.le (by omega)
  refine wb_ifj (fun δ => ∃ z : Int, Bd 220 z ∧ δ = [.sh (.int c), .sh (.int m), .sh (.int c), .sh (.int z), .sh (.sq true (r.map .int)), .no]) (Vw.refl _) (fun δ1 hM => ?_) <| wt_lt <| we_ix <| we_var 4 rfl <| we_int <| ixn 1 (get_ints e1) <| we_int <| i2 <| ⟨fun hb => ?_, fun hb => ?_⟩
  · obtain ⟨z, hz, rfl⟩ := hM
    refine wb_ifj (fun δ => ∃ z : Int, δ = [.sh (.int c), .sh (.int m), .sh (.int c), .sh (.int z), .sh (.sq true (r.map .int)), .no]) (Vw.refl _) (fun δ1 hM => ?_) <| wt_w <| ww_and <| wt_gt <| we_ix <| we_var 4 rfl <| we_int <| ixn 1 (get_ints e1) <| we_int <| i2 <| ⟨fun hb => ?_, fun hb => ⟨fun h => (nomatch h), fun _ => wb_nil <| upto ⟨z, rfl⟩⟩⟩
    · obtain ⟨z, rfl⟩ := hM
      refine wb_cons <| ws_set 3 sc.nd <| we_mod <| we_cint M.int <| wa_cons <| we_var 3 rfl <| wa_nil <| a1 <| ci <| we_add <| we_var 1 rfl <| we_int <| i2 <| i2 <| And.intro (by omega) <| ?_
      refine wb_cons <| ws_ret (Vw.refl _) <| we_if <| wt_eq <| we_ix <| we_var 4 rfl <| we_int <| ixn 0 (get_ints e0) <| we_int <| fe rfl <| ⟨fun hb => ?_, fun hb => ?_⟩
      · exact we_var 3 rfl <| hk _ (mod_le hm).2
      · exact we_neg <| we_var 3 rfl <| i1 <| hk _ (by rw [Int.natAbs_neg]; exact (mod_le hm).2)
    · refine ww_and1 <| wt_gt <| we_var 1 rfl <| we_pow <| we_int <| we_int <| i2 <| And.intro (by decide) <| i2 <| ⟨fun hb => ?_, fun hb => wb_nil <| upto ⟨z, rfl⟩⟩
      refine wb_cons <| ws_set 3 sc.nd <| we_add <| we_mul <| we_mul <| we_mul <| we_mul <| we_mul <| we_var 3 rfl <| we_var 3 rfl <| i2 <| And.intro (hz.mulW hz (by decide)) <| we_var 3 rfl <| i2 <| And.intro ((hz.mul hz).mulW hz (by decide)) <| we_var 3 rfl <| i2 <| And.intro (((hz.mul hz).mul hz).mulW hz (by decide)) <| we_var 3 rfl <| i2 <| And.intro ((((hz.mul hz).mul hz).mul hz).mulW hz (by decide)) <| we_var 3 rfl <| i2 <| And.intro (((((hz.mul hz).mul hz).mul hz).mul hz).mulW hz (by decide)) <| we_ix <| we_var 4 rfl <| we_int <| ixn 2 (get_ints e2) <| i2 <| ?_
      exact wb_nil <| upto ⟨_, rfl⟩
  · have hb := of_decide_eq_true hb
    obtain ⟨dm, hat, q, rfl, hq0, hq1⟩ := at_of (ds := [.int 3, .int 10, .int 60, .int 1000]) (i := x1) (Q := fun d => ∃ q : Int, d = .int q ∧ 0 < q ∧ q ≤ 1000) c1 hb (by
      intro d hd
      simp only [List.mem_cons, List.not_mem_nil, or_false] at hd
      rcases hd with rfl | rfl | rfl | rfl
      · exact ⟨3, rfl, by decide, by decide⟩
      · exact ⟨10, rfl, by decide, by decide⟩
      · exact ⟨60, rfl, by decide, by decide⟩
      · exact ⟨1000, rfl, by decide, by decide⟩)
    refine wb_cons <| ws_set 3 sc.nd <| we_mod <| we_cint M.int <| wa_cons <| we_var 3 rfl <| wa_nil <| a1 <| ci <| we_ix <| we_new <| wo_lst <| wa_cons <| we_int <| wa_cons <| we_int <| wa_cons <| we_int <| wa_cons <| we_int <| wa_nil <| And.intro lok <| we_ix <| we_var 4 rfl <| we_int <| ixn 1 (get_ints e1) <| ixa hat <| i2 <| And.intro hq0 <| ?_
    refine wb_nil <| upto ⟨_, Bd.le (m := 10) ?_ (by decide), rfl⟩
    have h1 := Int.emod_nonneg z (show q ≠ 0 by omega)
    have h2 := Int.emod_lt_of_pos z hq0
    unfold Bd
    show (z % q).natAbs < 1024
    omega
  · exact wb_nil <| upto ⟨z, hz, rfl⟩
/-! ### _law_pair, _law_just -/
abbrev s__law_pair : Stmt := top 24
theorem sc__law_pair : FnScope ["up", "down", "common"] ["up", "down"] (defScope s__law_pair) := ⟨rfl, rfl, rfl, by decide +kernel, rfl, by decide +kernel, by decide +kernel⟩
def T_pair : DSp := fun ds kk _ => ∃ u v : Int, ds = [.int u, .int v] ∧ v ≠ 0 ∧ Bd 6000 u ∧ Bd 6000 v ∧ ∀ p q, RatIs p q u v → kk (.sh (pr false p q))
theorem ok_pair (F : FD K "_law_pair" s__law_pair [] f fd) (FG : Fn P w K mg base 1 "_law_gcd" ["one", "two"] T_gcd []) : FnOk P w K mg base (L2.CX P w) 2 f fd ["up", "down"] (spD K T_pair) := by
  have sc := sc__law_pair
  refine fn_ok F sc (by decide) (fun ds kk xx h => by obtain ⟨_, _, rfl, _⟩ := h; rfl) fun cdv A outer s H E ds kk xx hr hT hx => ?_
  obtain ⟨u, v, rfl, hv, bu, bv, hk⟩ := hT
  have hg : 0 < Nat.gcd u.natAbs v.natAbs := Nat.gcd_pos_of_pos_right _ (by omega)
  have hgb : Bd 6000 ((Nat.gcd u.natAbs v.natAbs : Nat) : Int) := Bd.of_le bv (Nat.le_of_dvd (by omega) (Nat.gcd_dvd_right _ _))
  refine wb_cons <| ws_set 2 sc.nd <| we_call FG (hr.mono (by decide)) <| wa_cons <| we_var 0 rfl <| wa_cons <| we_var 1 rfl <| wa_nil <| ⟨u, v, rfl, bu.le (by decide), bv.le (by decide), ?_⟩
  refine wb_ifj (fun δ => ∃ g : Int, g ≠ 0 ∧ Bd 6000 g ∧ (RatIs (u.fdiv g) (v.fdiv g) u v) ∧ δ = [.sh (.int u), .sh (.int v), .sh (.int g)]) (Vw.refl _) (fun δ1 hM => ?_) <| wt_lt <| we_var 1 rfl <| we_int <| i2 <| ⟨fun hb => ?_, fun hb => ?_⟩
  · obtain ⟨g, hg, bg, hR, rfl⟩ := hM
    exact wb_cons <| ws_ret (Vw.refl _) <| we_tup <| wa_cons <| we_fdiv <| we_var 0 rfl <| we_var 2 rfl <| i2 <| And.intro (Bd.divX hg bg (by decide)) <| wa_cons <| we_fdiv <| we_var 1 rfl <| we_var 2 rfl <| i2 <| And.intro (Bd.divX hg bg (by decide)) <| wa_nil <| And.intro lok <| hk _ _ hR
  · refine wb_cons <| ws_set 2 sc.nd <| we_neg <| we_var 2 rfl <| i1 <| ?_
    exact wb_nil <| upto ⟨_, by omega, hgb.neg, neg_case (of_decide_eq_true hb), rfl⟩
  · have hb := of_decide_eq_false hb
    refine wb_nil <| upto ⟨_, by omega, hgb, ?_, rfl⟩
    rw [fdiv_pos (by omega), fdiv_pos (by omega)]
    exact rat_of (by omega)
abbrev s__law_just : Stmt := top 26
theorem sc__law_just : FnScope ["value", "up", "down"] ["value", "up", "down"] (defScope s__law_just) := ⟨rfl, rfl, rfl, by decide +kernel, rfl, by decide +kernel, by decide +kernel⟩
def T_just : DSp := fun ds kk _ => ∃ p q u v : Int, ds = [pr false p q, .int u, .int v] ∧ RatIs p q u v ∧ Bd 6000 u ∧ Bd 6000 v ∧ kk (.sh (.bl true))
theorem ok_just (F : FD K "_law_just" s__law_just [] f fd) (FI : Fn P w K mg base 2 "_law_is_ratio" ["value"] T_isr []) : FnOk P w K mg base (L2.CX P w) 3 f fd ["value", "up", "down"] (spD K T_just) := by
  have sc := sc__law_just
  refine fn_ok F sc (by decide) (fun ds kk xx h => by obtain ⟨_, _, _, _, rfl, _⟩ := h; rfl) fun cdv A outer s H E ds kk xx hr hT hx => ?_
  obtain ⟨p, q, u, v, rfl, hR, bu, bv, hk⟩ := hT
  have bp := Bd.of_le bu hR.lp
  have bq := Bd.of_le bv hR.lq
  refine wb_cons <| ws_ret (Vw.refl _) <| we_and <| we_call FI (hr.mono (by decide)) <| wa_cons <| we_var 0 rfl <| wa_nil <| ⟨p, q, rfl, hR.pos, hR.gcd, bp.le (by decide), bq.le (by decide), b1 <| ⟨fun hb => ?_, fun hb => nomatch hb⟩⟩
  refine we_one <| we_eq <| we_mul <| we_ix <| we_var 0 rfl <| we_int <| ixn 0 rfl <| we_var 2 rfl <| i2 <| And.intro (bp.mulW bv (by decide)) <| we_mul <| we_var 1 rfl <| we_ix <| we_var 0 rfl <| we_int <| ixn 1 rfl <| i2 <| And.intro (bu.mulW bq (by decide)) <| fe rfl <| ?_
  rw [decide_eq_true hR.eq]
  exact hk
theorem bd0 (n : Nat) : Bd n 0 := Nat.pow_pos (by decide)
/-! ### plain laws of the one form -/
theorem RatIs.of {p q u v : Int} (h1 : 1 ≤ q) (h2 : Nat.gcd p.natAbs q.natAbs = 1) (h3 : p * v = u * q) (hv : v ≠ 0) : RatIs p q u v := by
  have e : p.natAbs * v.natAbs = u.natAbs * q.natAbs := by rw [← Int.natAbs_mul, ← Int.natAbs_mul, h3]
  have c : Nat.Coprime p.natAbs q.natAbs := h2
  refine ⟨h1, h2, h3, ?_, ?_⟩
  · by_cases hu : u = 0
    · subst hu
      rw [Int.zero_mul] at h3
      rcases Int.mul_eq_zero.mp h3 with z | z
      · rw [z]; exact Nat.le_refl _
      · exact absurd z hv
    · have : p.natAbs ∣ u.natAbs * q.natAbs := ⟨_, e.symm⟩
      exact Nat.le_of_dvd (by omega) (c.dvd_of_dvd_mul_right this)
  · have : q.natAbs ∣ p.natAbs * v.natAbs := ⟨u.natAbs, by rw [e, Nat.mul_comm]⟩
    exact Nat.le_of_dvd (by omega) (c.symm.dvd_of_dvd_mul_left this)
theorem RatIs.uniq {p q p' q' u v u' v' : Int} (h : RatIs p q u v) (h' : RatIs p' q' u' v') (e : u * v' = u' * v) (hv : v ≠ 0) (hv' : v' ≠ 0) : p = p' ∧ q = q' := by
  have e1 : p * q' = p' * q := by
    have a1 := h.eq
    have a2 := h'.eq
    have k : (p * q') * (v * v') = (p' * q) * (v * v') := by
      calc (p * q') * (v * v') = (p * v) * (q' * v') := by ac_rfl
        _ = (u * q) * (q' * v') := by rw [a1]
        _ = (u * v') * (q * q') := by ac_rfl
        _ = (u' * q') * (q * v) := by rw [e]; ac_rfl
        _ = (p' * v') * (q * v) := by rw [a2]
        _ = (p' * q) * (v * v') := by ac_rfl
    exact Int.eq_of_mul_eq_mul_right (Int.mul_ne_zero hv hv') k
  have e2 : p.natAbs * q'.natAbs = p'.natAbs * q.natAbs := by rw [← Int.natAbs_mul, ← Int.natAbs_mul, e1]
  have c : Nat.Coprime p.natAbs q.natAbs := h.gcd
  have c' : Nat.Coprime p'.natAbs q'.natAbs := h'.gcd
  have d1 : q.natAbs ∣ q'.natAbs := c.symm.dvd_of_dvd_mul_left ⟨p'.natAbs, by rw [e2, Nat.mul_comm]⟩
  have d2 : q'.natAbs ∣ q.natAbs := c'.symm.dvd_of_dvd_mul_left ⟨p.natAbs, by rw [← e2, Nat.mul_comm]⟩
  have e3 := Nat.dvd_antisymm d1 d2
  have hq := h.pos
  have hq' := h'.pos
  have e4 : q = q' := by omega
  subst e4
  exact ⟨Int.eq_of_mul_eq_mul_right (by omega) e1, rfl⟩
/-- a ratio in its one form, of at most n bits -/
structure Pr (n : Nat) (a b : Int) : Prop where
  p : 1 ≤ b
  g : Nat.gcd a.natAbs b.natAbs = 1
  ba : Bd n a
  bb : Bd n b
theorem RatIs.pr {n : Nat} {p q u v : Int} (h : RatIs p q u v) (bu : Bd n u) (bv : Bd n v) : Pr n p q := ⟨h.pos, h.gcd, Bd.of_le bu h.lp, Bd.of_le bv h.lq⟩
theorem Pr.self {n : Nat} {a b : Int} (h : Pr n a b) : RatIs a b a b := ⟨h.p, h.g, rfl, Nat.le_refl _, Nat.le_refl _⟩
theorem Pr.le {n m : Nat} {a b : Int} (h : Pr n a b) (l : n ≤ m) : Pr m a b := ⟨h.p, h.g, h.ba.le l, h.bb.le l⟩
theorem pd2 {l : Bool} {a b : Int} : ∃ q, Pd (pr l a b) q ∧ SeqAt.shaped q = true ∧ q = (if l then .list [.int a, .int b] else .tuple [.int a, .int b]) := by
  cases l
  · exact ⟨_, .consT (.int a) <| .consT (.int b) .nilT, rfl, rfl⟩
  · exact ⟨_, .consL (.int a) <| .consL (.int b) .nilL, rfl, rfl⟩
theorem eq2 {l : Bool} {a b c d : Int} {P : Bool → Prop} (h : P (decide (a = c ∧ b = d))) : EQ (pr l a b) (pr l c d) P := by
  obtain ⟨x, h1, h2, rfl⟩ := pd2 (l := l) (a := a) (b := b)
  obtain ⟨y, h3, h4, rfl⟩ := pd2 (l := l) (a := c) (b := d)
  refine ⟨_, _, h1, h3, h2, h4, ?_⟩
  have e : PyData.eqv (if l then .list [.int a, .int b] else .tuple [.int a, .int b]) (if l then .list [.int c, .int d] else .tuple [.int c, .int d]) = decide (a = c ∧ b = d) := by
    cases l <;> simp [PyData.eqv, PyData.eqvAll, Bool.decide_and] <;> rfl
  rw [e]
  exact h
theorem we_up {X : Cx} {H0 : Hp} {δ : List S} {e : Expr} {k : D → Prop} (M : D → Prop) (hM : ∀ d, M d → k d) (h : We X H0 e δ M) : We X H0 e δ k := h.mono hM
theorem lim_pos (n : Nat) : 10 ≤ lim n := by
  have h : (10 : Nat) ^ 1 ≤ 10 ^ (50 * 2 ^ n) := Nat.pow_le_pow_right (by decide) (by have := Nat.pow_pos (n := n) (show 0 < 2 by decide); omega)
  have e : lim n = ((10 ^ (50 * 2 ^ n) : Nat) : Int) := by unfold lim; norm_cast
  rw [e]
  omega
theorem bd1 (n : Nat) : Bd (n + 1) 1 := show 1 < 2 ^ (n + 1) by rw [Nat.pow_succ]; have := Nat.pow_pos (n := n) (show 0 < 2 by decide); omega
theorem one_ne : (1 : Int) ≠ 0 := by decide
theorem zero_one {p q v : Int} (e : p * v = 0 * q) (hv : v ≠ 0) : p * 1 = 0 * q := by
  rw [Int.zero_mul] at e ⊢
  rcases Int.mul_eq_zero.mp e with z | z
  · rw [z]; rfl
  · exact absurd z hv
end
end K00
set_option Elab.async false
set_option linter.all false
/-! The mathematics of k01: rows in lowest terms. -/
namespace K00
open DL
def gcdL (a : Nat) (ns : List Int) : Nat := ns.foldl (fun g n => Nat.gcd g n.natAbs) a
theorem gcdL_cons {a : Nat} {n : Int} {ns : List Int} : gcdL a (n :: ns) = gcdL (Nat.gcd a n.natAbs) ns := rfl
theorem gcdL_snoc {a : Nat} {n : Int} {ns : List Int} : gcdL a (ns ++ [n]) = Nat.gcd (gcdL a ns) n.natAbs := by unfold gcdL; rw [List.foldl_append]; rfl
theorem dvd_gcdL {d : Nat} : ∀ {ns : List Int} {a : Nat}, d ∣ gcdL a ns ↔ d ∣ a ∧ ∀ n ∈ ns, d ∣ n.natAbs
  | [], a => ⟨fun h => ⟨h, fun n hn => by cases hn⟩, fun h => h.1⟩
  | n :: ns, a => by
    rw [gcdL_cons, dvd_gcdL, Nat.dvd_gcd_iff]
    constructor
    · intro ⟨⟨h1, h2⟩, h3⟩
      refine ⟨h1, fun m hm => ?_⟩
      rcases List.mem_cons.mp hm with rfl | z
      · exact h2
      · exact h3 m z
    · intro ⟨h1, h2⟩
      exact ⟨⟨h1, h2 n List.mem_cons_self⟩, fun m hm => h2 m (List.mem_cons_of_mem _ hm)⟩
theorem gcdL_mul {c : Int} : ∀ {ns : List Int} {a : Nat}, gcdL (c.natAbs * a) (ns.map (c * ·)) = c.natAbs * gcdL a ns
  | [], a => rfl
  | n :: ns, a => by
    rw [List.map_cons, gcdL_cons, gcdL_cons, Int.natAbs_mul, Nat.gcd_mul_left, gcdL_mul]
theorem gcdL_pos {a : Nat} (h : 0 < a) (ns : List Int) : 0 < gcdL a ns := by
  rcases Nat.eq_zero_or_pos (gcdL a ns) with z | z
  · have := (dvd_gcdL (d := gcdL a ns) (ns := ns) (a := a)).mp (Nat.dvd_refl _)
    rw [z] at this
    have := Nat.eq_zero_of_zero_dvd this.1
    omega
  · exact z
/-- ps over q is tops over line, in its one form -/
structure RowIs (ps : List Int) (q : Int) (tops : List Int) (line : Int) : Prop where
  pos : 1 ≤ q
  len : ps.length = tops.length
  gcd : gcdL q.natAbs ps = 1
  eq : ∀ (i : Nat) p t, ps[i]? = some p → tops[i]? = some t → p * line = t * q
  lq : q.natAbs ≤ line.natAbs
  lp : ∀ (i : Nat) p t, ps[i]? = some p → tops[i]? = some t → p.natAbs ≤ t.natAbs
theorem row_math {ns : List Int} {ln : Int} (hl : 1 ≤ ln) : RowIs (ns.map (· / ((gcdL ln.natAbs ns : Nat) : Int))) (ln / ((gcdL ln.natAbs ns : Nat) : Int)) ns ln := by
  have g0 := gcdL_pos (a := ln.natAbs) (by omega) ns
  have dv := (dvd_gcdL (d := gcdL ln.natAbs ns) (ns := ns) (a := ln.natAbs)).mp (Nat.dvd_refl _)
  generalize hg : gcdL ln.natAbs ns = g at *
  have dl : (g : Int) ∣ ln := Int.ofNat_dvd_left.mpr dv.1
  have dn : ∀ n ∈ ns, (g : Int) ∣ n := fun n hn => Int.ofNat_dvd_left.mpr (dv.2 n hn)
  have el : ln / (g : Int) * (g : Int) = ln := Int.ediv_mul_cancel dl
  have en : ∀ n ∈ ns, n / (g : Int) * (g : Int) = n := fun n hn => Int.ediv_mul_cancel (dn n hn)
  have qp : 1 ≤ ln / (g : Int) := by
    have : 0 < ln / (g : Int) := Int.ediv_pos_of_pos_of_dvd (by omega) (by omega) dl
    omega
  refine ⟨qp, by simp, ?_, fun i p t h1 h2 => ?_, ?_, fun i p t h1 h2 => ?_⟩
  · have m := gcdL_mul (c := (g : Int)) (ns := ns.map (· / (g : Int))) (a := (ln / (g : Int)).natAbs)
    have e1 : (ns.map (· / (g : Int))).map ((g : Int) * ·) = ns := by
      rw [List.map_map]
      conv => rhs; rw [← List.map_id ns]
      exact List.map_congr_left fun n hn => by
        show (g : Int) * (n / (g : Int)) = n
        rw [Int.mul_comm]; exact en n hn
    have e2 : (g : Int).natAbs * (ln / (g : Int)).natAbs = ln.natAbs := by rw [← Int.natAbs_mul, Int.mul_comm, el]
    rw [e1, e2, hg] at m
    have m' : g * gcdL (ln / (g : Int)).natAbs (ns.map (· / (g : Int))) = g * 1 := by rw [Nat.mul_one]; exact m.symm
    exact Nat.eq_of_mul_eq_mul_left g0 m'
  · rw [List.getElem?_map, h2] at h1
    cases h1
    have ht := en t (List.mem_of_getElem? h2)
    calc t / (g : Int) * ln = t / (g : Int) * (ln / (g : Int) * (g : Int)) := by rw [el]
      _ = (t / (g : Int) * (g : Int)) * (ln / (g : Int)) := by ac_rfl
      _ = t * (ln / (g : Int)) := by rw [ht]
  · have : (ln / (g : Int)).natAbs * g = ln.natAbs := by
      have := congrArg Int.natAbs el
      rwa [Int.natAbs_mul] at this
    rw [← this]; exact Nat.le_mul_of_pos_right _ g0
  · rw [List.getElem?_map, h2] at h1
    cases h1
    have ht := en t (List.mem_of_getElem? h2)
    have : (t / (g : Int)).natAbs * g = t.natAbs := by
      have := congrArg Int.natAbs ht
      rwa [Int.natAbs_mul] at this
    rw [← this]; exact Nat.le_mul_of_pos_right _ g0
theorem RowIs.neg {ps : List Int} {q : Int} {ts : List Int} {line : Int} (h : RowIs ps q (ts.map (fun t => -t)) (-line)) : RowIs ps q ts line := by
  refine ⟨h.pos, by rw [h.len]; simp, h.gcd, fun i p t h1 h2 => ?_, by have := h.lq; rwa [Int.natAbs_neg] at this, fun i p t h1 h2 => ?_⟩
  · have := h.eq i p (-t) h1 (by rw [List.getElem?_map, h2]; rfl)
    rw [Int.mul_neg, Int.neg_mul] at this
    omega
  · have := h.lp i p (-t) h1 (by rw [List.getElem?_map, h2]; rfl)
    rwa [Int.natAbs_neg] at this
theorem RowIs.uniq {ps ps' : List Int} {q q' : Int} {ts ts' : List Int} {l l' : Int} (h : RowIs ps q ts l) (h' : RowIs ps' q' ts' l') (hl : l ≠ 0) (hl' : l' ≠ 0) (hn : ts.length = ts'.length) (e : ∀ (i : Nat) t t', ts[i]? = some t → ts'[i]? = some t' → t * l' = t' * l) : ps = ps' ∧ q = q' := by
  have len : ps.length = ps'.length := by rw [h.len, h'.len, hn]
  have cross : ∀ (i : Nat) p p', ps[i]? = some p → ps'[i]? = some p' → p * q' = p' * q := fun i p p' h1 h2 => by
    have i1 : i < ts.length := by rw [← h.len]; exact (List.getElem?_eq_some_iff.mp h1).1
    have i2 : i < ts'.length := by rw [← hn]; exact i1
    have t1 := List.getElem?_eq_getElem i1
    have t2 := List.getElem?_eq_getElem i2
    have a1 := h.eq i p _ h1 t1
    have a2 := h'.eq i p' _ h2 t2
    have a3 := e i _ _ t1 t2
    generalize ts[i] = t at *
    generalize ts'[i] = t' at *
    have k : (p * q') * (l * l') = (p' * q) * (l * l') := by
      calc (p * q') * (l * l') = (p * l) * (q' * l') := by ac_rfl
        _ = (t * q) * (q' * l') := by rw [a1]
        _ = (t * l') * (q * q') := by ac_rfl
        _ = (t' * q') * (q * l) := by rw [a3]; ac_rfl
        _ = (p' * l') * (q * l) := by rw [a2]
        _ = (p' * q) * (l * l') := by ac_rfl
    exact Int.eq_of_mul_eq_mul_right (Int.mul_ne_zero hl hl') k
  have half : ∀ {ps ps' : List Int} {q q' : Int}, ps.length = ps'.length → gcdL q.natAbs ps = 1 → (∀ (i : Nat) p p', ps[i]? = some p → ps'[i]? = some p' → p * q' = p' * q) → q.natAbs ∣ q'.natAbs := fun {ps ps' q q'} hlen hg hc => by
    have m := gcdL_mul (c := q') (ns := ps) (a := q.natAbs)
    rw [hg, Nat.mul_one] at m
    rw [← m]
    refine dvd_gcdL.mpr ⟨Nat.dvd_mul_left _ _, fun n hn => ?_⟩
    obtain ⟨p, hp, rfl⟩ := List.mem_map.mp hn
    obtain ⟨i, hi⟩ := List.mem_iff_getElem?.mp hp
    have i2 : i < ps'.length := by rw [← hlen]; exact (List.getElem?_eq_some_iff.mp hi).1
    have c := hc i p _ hi (List.getElem?_eq_getElem i2)
    show q.natAbs ∣ (q' * p).natAbs
    rw [Int.mul_comm, c, Int.natAbs_mul]
    exact Nat.dvd_mul_left _ _
  have d1 := half len h.gcd cross
  have d2 := half len.symm h'.gcd fun i p p' a b => (cross i p' p b a).symm
  have e3 := Nat.dvd_antisymm d1 d2
  have hq := h.pos
  have hq' := h'.pos
  have e4 : q = q' := by omega
  subst e4
  refine ⟨List.ext_getElem? fun i => ?_, rfl⟩
  by_cases hi : i < ps.length
  · have a := List.getElem?_eq_getElem hi
    have b := List.getElem?_eq_getElem (show i < ps'.length by omega)
    have c := cross i _ _ a b
    rw [a, b]
    exact congrArg some (Int.eq_of_mul_eq_mul_right (by omega) c)
  · rw [List.getElem?_eq_none (by omega), List.getElem?_eq_none (by omega)]
end K00
set_option Elab.async false
set_option linter.all false
set_option maxRecDepth 100000
set_option maxHeartbeats 4000000
set_option pp.maxSteps 1500
namespace K00
open PySem PySem.Spec PyProof.Rows L2 DL
/-- a row as data -/
abbrev rw_ (l l' : Bool) (ps : List Int) (q : Int) : D := .sq l [.sq l' (ps.map .int), .int q]
section
variable {P : Program} {w : World} {K : PySem.W.Frag} {mg : Str → Option Value} {base : Heap} {f CZ CM : Addr} {fd : FuncData}
abbrev s_row : Stmt := top 7
theorem sc_row : FnScope ["tops", "line", "numbers", "number", "common"] ["tops", "line"] (defScope s_row) := ⟨rfl, rfl, rfl, by decide +kernel, rfl, by decide +kernel, by decide +kernel⟩
def T_row : DSp := fun ds kk _ => ∃ (l : Bool) (tops : List Int) (line : Int), ds = [.sq l (tops.map .int), .int line] ∧ tops.length ≤ 1000 ∧ line ≠ 0 ∧ (∀ t ∈ tops, Bd 6000 t) ∧ Bd 6000 line ∧ ∀ ps q, RowIs ps q tops line → kk (.sh (rw_ false false ps q))
theorem ok_row (F : FD K "row" s_row [.int 1] f fd) (M : Bi mg) (mgcd : mg "gcd" = some (.builtin "math.gcd")) : FnOk P w K mg base (L2.CX P w) 1 f fd ["tops", "line"] (spD K T_row) := by
  have sc := sc_row
  refine fn_ok F sc (by decide) (fun ds kk xx h => by obtain ⟨_, _, _, rfl, _⟩ := h; rfl) fun cdv A outer s H E ds kk xx hr hT hx => ?_
  obtain ⟨l, tops, line, rfl, hlen, hl0, hb, hbl, hk⟩ := hT
  refine wb_cons <| ws_set 2 sc.nd <| we_new <| wo_list M.list <| wa_cons <| we_var 0 rfl <| wa_nil <| a1 <| sqk <| ?_
  refine wb_ifj (fun δ => ∃ (nums : List Int) (ln : Int), 1 ≤ ln ∧ Bd 6000 ln ∧ nums.length ≤ 1000 ∧ (∀ ps q, RowIs ps q nums ln → RowIs ps q tops line) ∧ δ = [.sh (.sq l (tops.map .int)), .sh (.int ln), .sh (.sq true (nums.map .int)), .no, .no]) (Vw.refl _) (fun δ1 hM => ?_) <| wt_lt <| we_var 1 rfl <| we_int <| i2 <| ⟨fun hb => ?_, fun hb => ?_⟩
  rotate_left
  · refine wb_cons <| ws_setLc 2 3 sc.nd <| wi_sq true <| we_var 2 rfl <| ⟨_, rfl, lcI (fun n => .int (-n)) (by omega) (fun n hn s h C cl fp => we_neg <| we_var 3 rfl <| i1 <| rfl) <| ?_⟩
    refine wb_cons <| ws_set 1 sc.nd <| we_neg <| we_var 1 rfl <| i1 <| ?_
    have hb := of_decide_eq_true hb
    exact wb_nil <| upto ⟨tops.map (fun t => -t), -line, by omega, hbl.neg, by rw [List.length_map]; exact hlen, fun ps q h => h.neg, by rw [List.map_map]; rfl⟩
  · have hb := of_decide_eq_false hb
    exact wb_nil <| upto ⟨tops, line, by omega, hbl, hlen, fun ps q h => h, rfl⟩
  obtain ⟨nums, ln, hl1, hbl', hlen', hR, rfl⟩ := hM
  refine wb_cons <| ws_set 4 sc.nd <| we_var 1 rfl <| ?_
  refine wb_cons <| ws_forS (passes_of rfl) rfl (fun i δ => δ = [.sh (.sq l (tops.map .int)), .sh (.int ln), .sh (.sq true (nums.map .int)), .no, .sh (.int ((gcdL ln.natAbs (nums.take i) : Nat) : Int))]) true <| we_var 2 rfl <| ⟨_, rfl, upto (by rw [show ((gcdL ln.natAbs (nums.take 0) : Nat) : Int) = ln from by show ((ln.natAbs : Nat) : Int) = ln; omega]; rfl), fun i d δ1 hd hI => ?_, fun δ1 hI => ?_⟩
  · subst hI
    obtain ⟨n, en, rfl⟩ := of_get_ints hd
    refine wg_name 3 sc.nd ?_
    refine wb_cons <| ws_set 4 sc.nd <| we_gcd mgcd <| wa_cons <| we_var 4 rfl <| wa_cons <| we_var 3 rfl <| wa_nil <| a2 <| i2 <| ?_
    have et : nums.take (i + 1) = nums.take i ++ [n] := by rw [List.take_add_one, en]; rfl
    exact wb_nil ⟨_, .keep <| .keep <| .keep <| .drop <| .keep <| .nil, by rw [et, gcdL_snoc]; rfl⟩
  · subst hI
    rw [List.length_map, List.take_length]
    have g0 := gcdL_pos (a := ln.natAbs) (by omega) nums
    have gb : Bd 6000 ((gcdL ln.natAbs nums : Nat) : Int) := Bd.of_le hbl' (Nat.le_of_dvd (by omega) (dvd_gcdL.mp (Nat.dvd_refl _)).1)
    refine wb_cons <| ws_ret (Vw.refl _) <| we_tup <| wa_cons <| we_tuple M.tuple <| wa_cons <| we_new <| wo_lc 3 sc.nd <| wi_sq true <| we_var 2 rfl <| ⟨_, rfl, lcI (fun n => .int (n / ((gcdL ln.natAbs nums : Nat) : Int))) (by omega) (fun n hn s h C cl fp => we_div <| we_var 3 rfl <| we_var 4 rfl <| i2 <| And.intro (Bd.div (by omega) gb (by decide)) rfl) <| ?_⟩
    refine wa_nil <| a1 <| sqk <| wa_cons <| we_div <| we_var 1 rfl <| we_var 4 rfl <| i2 <| And.intro (Bd.div (by omega) gb (by decide)) <| wa_nil <| And.intro lok <| ?_
    have h := hk _ _ (hR _ _ (row_math (ns := nums) hl1))
    unfold rw_ at h
    rw [List.map_map] at h
    exact h
end
end K00
set_option Elab.async false
set_option linter.all false
set_option maxRecDepth 100000
set_option maxHeartbeats 4000000
set_option pp.maxSteps 1500
namespace K00
open PySem PySem.Spec PyProof.Rows L2 DL
/-- the common line -/
def lcmL (g : Nat) (bs : List Int) : Nat := bs.foldl (fun g b => Nat.lcm g b.natAbs) g
theorem lcmL_snoc {g : Nat} {b : Int} {bs : List Int} : lcmL g (bs ++ [b]) = Nat.lcm (lcmL g bs) b.natAbs := by unfold lcmL; rw [List.foldl_append]; rfl
theorem lcmL_app {g : Nat} {as bs : List Int} : lcmL g (as ++ bs) = lcmL (lcmL g as) bs := by unfold lcmL; rw [List.foldl_append]
theorem dvd_lcmL : ∀ {bs : List Int} {g : Nat}, g ∣ lcmL g bs
  | [], g => Nat.dvd_refl _
  | b :: bs, g => Nat.dvd_trans (Nat.dvd_lcm_left g b.natAbs) (dvd_lcmL (bs := bs))
theorem mem_lcmL : ∀ {bs : List Int} {g : Nat} {b : Int}, b ∈ bs → b.natAbs ∣ lcmL g bs
  | c :: bs, g, b, h => by
    rcases List.mem_cons.mp h with rfl | z
    · exact Nat.dvd_trans (Nat.dvd_lcm_right g b.natAbs) (dvd_lcmL (bs := bs))
    · exact mem_lcmL (bs := bs) z
theorem lcmL_pos : ∀ {bs : List Int} {g : Nat}, 0 < g → (∀ b ∈ bs, 1 ≤ b) → 0 < lcmL g bs
  | [], g, h, _ => h
  | b :: bs, g, h, hb => lcmL_pos (bs := bs) (Nat.lcm_pos h (by have := hb b List.mem_cons_self; omega)) fun c hc => hb c (List.mem_cons_of_mem _ hc)
theorem lcmL_dvd {m : Nat} : ∀ {bs : List Int} {g : Nat}, g ∣ m → (∀ b ∈ bs, b.natAbs ∣ m) → lcmL g bs ∣ m
  | [], g, h, _ => h
  | b :: bs, g, h, hb => lcmL_dvd (bs := bs) (Nat.lcm_dvd h (hb b List.mem_cons_self)) fun c hc => hb c (List.mem_cons_of_mem _ hc)
theorem mul_ne {b d : Int} (h : 1 ≤ b) (h' : 1 ≤ d) : b * d ≠ 0 := by
  have := Int.mul_pos (show 0 < b by omega) (show 0 < d by omega)
  omega
/-- a ratio as data, a list or a tuple -/
def prB (x : Bool × Int × Int) : D := pr x.1 x.2.1 x.2.2
def prD (x : Int × Int) : D := pr false x.1 x.2
section
variable {P : Program} {w : World} {K : PySem.W.Frag} {mg : Str → Option Value} {base : Heap} {f CZ CM : Addr} {fd : FuncData}
abbrev s_row_of : Stmt := top 8
theorem sc_row_of : FnScope ["ratios", "line", "one"] ["ratios"] (defScope s_row_of) := ⟨rfl, rfl, rfl, by decide +kernel, rfl, by decide +kernel, by decide +kernel⟩
/-- tops over the common line -/
def overL (its : List (Bool × Int × Int)) (L : Nat) : List Int := its.map fun x => x.2.1 * ((L : Int) / x.2.2)
abbrev botsL (its : List (Bool × Int × Int)) : List Int := its.map fun x => x.2.2
def T_row_of : DSp := fun ds kk _ => ∃ (l : Bool) (its : List (Bool × Int × Int)), ds = [.sq l (its.map prB)] ∧ its.length ≤ 1000 ∧ (∀ x ∈ its, 1 ≤ x.2.2 ∧ Bd 2900 x.2.1) ∧ lcmL 1 (botsL its) < 2 ^ 2900 ∧ ∀ ps q, RowIs ps q (overL its (lcmL 1 (botsL its))) ((lcmL 1 (botsL its) : Nat) : Int) → kk (.sh (rw_ false false ps q))
theorem ok_row_of (F : FD K "row_of" s_row_of [] f fd) (M : Bi mg) (mlcm : mg "lcm" = some (.builtin "math.lcm")) (FR : Fn P w K mg base 1 "row" ["tops", "line"] T_row []) : FnOk P w K mg base (L2.CX P w) 2 f fd ["ratios"] (spD K T_row_of) := by
  have sc := sc_row_of
  refine fn_ok F sc (by decide) (fun ds kk xx h => by obtain ⟨_, _, rfl, _⟩ := h; rfl) fun cdv A outer s H E ds kk xx hr hT hx => ?_
  obtain ⟨l, its, rfl, hlen, hb, hL, hk⟩ := hT
  have hbp : ∀ b ∈ botsL its, 1 ≤ b := fun b hb' => by
    obtain ⟨x, hx, rfl⟩ := List.mem_map.mp hb'
    exact (hb x hx).1
  have Lp := lcmL_pos (g := 1) (by decide) hbp
  have small : ∀ n : Nat, n ∣ lcmL 1 (botsL its) → Bd 2900 (n : Int) := fun n hn => Nat.lt_of_le_of_lt (Nat.le_of_dvd Lp hn) hL
  refine wb_cons <| ws_set 1 sc.nd <| we_int <| ?_
  refine wb_cons <| ws_forS (passes_of rfl) rfl (fun i δ => δ = [.sh (.sq l (its.map prB)), .sh (.int ((lcmL 1 ((botsL its).take i) : Nat) : Int)), .no]) l <| we_var 0 rfl <| ⟨_, rfl, upto rfl, fun i d δ1 hd hI => ?_, fun δ1 hI => ?_⟩
  · subst hI
    rw [List.getElem?_map] at hd
    cases en : its[i]? with
    | none => rw [en] at hd; cases hd
    | some x =>
      rw [en] at hd
      cases hd
      obtain ⟨l', a, b⟩ := x
      have hm := List.mem_of_getElem? en
      have eb : (botsL its)[i]? = some b := by rw [List.getElem?_map, en]; rfl
      have et : (botsL its).take (i + 1) = (botsL its).take i ++ [b] := by rw [List.take_add_one, eb]; rfl
      have b1 : Bd 2900 ((lcmL 1 ((botsL its).take i) : Nat) : Int) := small _ (by
        have := dvd_lcmL (bs := (botsL its).drop i) (g := lcmL 1 ((botsL its).take i))
        rwa [← lcmL_app, List.take_append_drop] at this)
      have b2 : Bd 2900 b := by
        have := small b.natAbs (mem_lcmL (List.mem_of_getElem? eb))
        exact Bd.of_le this (by omega)
      refine wg_name 2 sc.nd ?_
      refine wb_cons <| ws_set 1 sc.nd <| we_lcm mlcm <| wa_cons <| we_var 1 rfl <| wa_cons <| we_ix <| we_var 2 rfl <| we_int <| ixn 1 rfl <| wa_nil <| a2 <| i2 <| And.intro ⟨b1.le (by decide), b2.le (by decide)⟩ <| ?_
      exact wb_nil ⟨_, .keep <| .keep <| .drop <| .nil, by rw [et, lcmL_snoc]; rfl⟩
  · subst hI
    have el : (botsL its).take (its.map prB).length = botsL its := List.take_of_length_le (by simp)
    rw [el]
    generalize hLn : lcmL 1 (botsL its) = L at *
    have dv : ∀ x ∈ its, x.2.2.natAbs ∣ L := fun x hx => by rw [← hLn]; exact mem_lcmL (List.mem_map.mpr ⟨x, hx, rfl⟩)
    have bb : ∀ x ∈ its, Bd 2900 x.2.2 := fun x hx => Bd.of_le (small _ (dv x hx)) (by omega)
    have bq : ∀ x ∈ its, Bd 2900 ((L : Int) / x.2.2) := fun x hx => Bd.of_le (small L (Nat.dvd_refl _)) (by
      have h1 := (hb x hx).1
      have h2 : (L : Int) / x.2.2 ≤ L := Int.ediv_le_self _ (by omega)
      have h3 : 0 ≤ (L : Int) / x.2.2 := Int.ediv_nonneg (by omega) (by omega)
      omega)
    refine wb_cons <| ws_ret (Vw.refl _) <| we_call FR (hr.mono (by decide)) <| wa_cons <| we_new <| wo_lc 2 sc.nd <| wi_sq l <| we_var 0 rfl <| ⟨_, rfl, lcA prB (fun x => .int (x.2.1 * ((L : Int) / x.2.2))) (by omega) (fun x hx s h C cl fp => we_mul <| we_ix <| we_var 2 rfl <| we_int <| ixn 0 rfl <| we_div <| we_var 1 rfl <| we_ix <| we_var 2 rfl <| we_int <| ixn 1 rfl <| i2 <| And.intro (Bd.div (by have := (hb x hx).1; omega) (bb x hx) (by decide)) <| i2 <| And.intro ((hb x hx).2.mulW (bq x hx) (by decide)) rfl) <| ?_⟩
    refine wa_cons <| we_var 1 rfl <| wa_nil <| ⟨true, overL its L, (L : Int), by unfold overL; rw [List.map_map]; rfl, by unfold overL; rw [List.length_map]; exact hlen, by omega, fun t ht => ?_, (small L (Nat.dvd_refl _)).le (by decide), hk⟩
    obtain ⟨x, hx, rfl⟩ := List.mem_map.mp ht
    exact ((hb x hx).2.mul (bq x hx)).le (by decide)
abbrev s_row_item : Stmt := top 9
theorem sc_row_item : FnScope ["one", "index"] ["one", "index"] (defScope s_row_item) := ⟨rfl, rfl, rfl, by decide +kernel, rfl, by decide +kernel, by decide +kernel⟩
def T_row_item : DSp := fun ds kk _ => ∃ (l l' : Bool) (ps : List Int) (q : Int) (i : Nat) (p : Int), ds = [rw_ l l' ps q, .int (i : Int)] ∧ ps[i]? = some p ∧ 1 ≤ q ∧ Bd 6000 p ∧ Bd 6000 q ∧ ∀ u v, RatIs u v p q → kk (.sh (pr false u v))
theorem ok_row_item (F : FD K "row_item" s_row_item [] f fd) (R : Fn P w K mg base 3 "ratio" ["top", "bottom"] (T_ratio CZ) []) : FnOk P w K mg base (L2.CX P w) 4 f fd ["one", "index"] (spD K T_row_item) := by
  have sc := sc_row_item
  refine fn_ok F sc (by decide) (fun ds kk xx h => by obtain ⟨_, _, _, _, _, _, rfl, _⟩ := h; rfl) fun cdv A outer s H E ds kk xx hr hT hx => ?_
  obtain ⟨l, l', ps, q, i, p, rfl, ep, hq, bp, bq, hk⟩ := hT
  exact wb_cons <| ws_ret (Vw.refl _) <| we_call R (hr.mono (by decide)) <| wa_cons <| we_ix <| we_ix <| we_var 0 rfl <| we_int <| ixn 0 rfl <| we_var 1 rfl <| ixa (atI_nat (get_ints ep)) <| wa_cons <| we_ix <| we_var 0 rfl <| we_int <| ixn 1 rfl <| wa_nil <| ⟨p, q, rfl, bp, bq, fun z => by omega, fun _ => hk⟩
abbrev s_row_items : Stmt := top 10
theorem sc_row_items : FnScope ["one", "top"] ["one"] (defScope s_row_items) := ⟨rfl, rfl, rfl, by decide +kernel, rfl, by decide +kernel, by decide +kernel⟩
/-- one ratio for each -/
def Rats (rs : List (Int × Int)) (ps : List Int) (q : Int) : Prop := rs.length = ps.length ∧ ∀ (i : Nat) r p, rs[i]? = some r → ps[i]? = some p → RatIs r.1 r.2 p q
def T_row_items : DSp := fun ds kk _ => ∃ (l l' : Bool) (ps : List Int) (q : Int), ds = [rw_ l l' ps q] ∧ ps.length ≤ 1000 ∧ 1 ≤ q ∧ (∀ p ∈ ps, Bd 6000 p) ∧ Bd 6000 q ∧ ∀ rs, Rats rs ps q → kk (.sh (.sq false (rs.map prD)))
theorem ok_row_items (F : FD K "row_items" s_row_items [] f fd) (M : Bi mg) (R : Fn P w K mg base 3 "ratio" ["top", "bottom"] (T_ratio CZ) []) : FnOk P w K mg base (L2.CX P w) 4 f fd ["one"] (spD K T_row_items) := by
  have sc := sc_row_items
  refine fn_ok F sc (by decide) (fun ds kk xx h => by obtain ⟨_, _, _, _, rfl, _⟩ := h; rfl) fun cdv A outer s H E ds kk xx hr hT hx => ?_
  obtain ⟨l, l', ps, q, rfl, hlen, hq, bp, bq, hk⟩ := hT
  refine wb_cons <| ws_ret (Vw.refl _) <| we_tuple M.tuple <| wa_cons <| we_new <| wo_lc 1 sc.nd <| wi_sq l' <| we_ix <| we_var 0 rfl <| we_int <| ixn 0 rfl <| ⟨_, rfl, lcAE D.int prD (fun p r => RatIs r.1 r.2 p q) (by omega) (fun p hp s h C cl fp => ?_) fun rs h1 h2 => ?_⟩
  · exact we_call R (hr.mono (by decide)) <| wa_cons <| we_var 1 rfl <| wa_cons <| we_ix <| we_var 0 rfl <| we_int <| ixn 1 rfl <| wa_nil <| ⟨p, q, rfl, bp _ hp, bq, fun z => by omega, fun _ u v huv => ⟨(u, v), rfl, huv⟩⟩
  · exact wa_nil <| a1 <| sqk <| hk rs ⟨h1, fun i r p h3 hp => h2 i p r hp h3⟩
/-- two rows added up -/
def sumT (t1 : List Int) (l1 : Int) (t2 : List Int) (l2 : Int) : List Int := (List.range t1.length).map fun k => t1.getD k 0 * l2 + t2.getD k 0 * l1
/-- rows: bits n, and a line of at least 1 -/
structure RwB (n : Nat) (ps : List Int) (q : Int) : Prop where
  pos : 1 ≤ q
  bq : Bd n q
  bp : ∀ p ∈ ps, Bd n p
  len : ps.length ≤ 100
theorem gd {ps : List Int} {i : Nat} (h : i < ps.length) : ps[i]? = some (ps.getD i 0) := by rw [List.getD_eq_getElem?_getD, List.getElem?_eq_getElem h]; rfl
theorem RwB.at {n : Nat} {ps : List Int} {q : Int} (h : RwB n ps q) (i : Nat) : Bd n (ps.getD i 0) := by
  by_cases hi : i < ps.length
  · exact h.bp _ (List.mem_of_getElem? (gd hi))
  · rw [List.getD_eq_getElem?_getD, List.getElem?_eq_none (by omega)]; exact bd0 n
abbrev s_row_sum : Stmt := top 11
theorem sc_row_sum : FnScope ["one", "two", "k", "tops"] ["one", "two"] (defScope s_row_sum) := ⟨rfl, rfl, rfl, by decide +kernel, rfl, by decide +kernel, by decide +kernel⟩
def T_row_sum : DSp := fun ds kk _ => ∃ (a a' b b' : Bool) (t1 t2 : List Int) (l1 l2 : Int), ds = [rw_ a a' t1 l1, rw_ b b' t2 l2] ∧ RwB 2900 t1 l1 ∧ RwB 2900 t2 l2 ∧ t2.length = t1.length ∧ ∀ ps q, RowIs ps q (sumT t1 l1 t2 l2) (l1 * l2) → kk (.sh (rw_ false false ps q))
theorem ok_row_sum (F : FD K "row_sum" s_row_sum [] f fd) (M : Bi mg) (FR : Fn P w K mg base 1 "row" ["tops", "line"] T_row []) : FnOk P w K mg base (L2.CX P w) 2 f fd ["one", "two"] (spD K T_row_sum) := by
  have sc := sc_row_sum
  refine fn_ok F sc (by decide) (fun ds kk xx h => by obtain ⟨_, _, _, _, _, _, _, _, rfl, _⟩ := h; rfl) fun cdv A outer s H E ds kk xx hr hT hx => ?_
  obtain ⟨a, a', b, b', t1, t2, l1, l2, rfl, h1, h2, hlen, hk⟩ := hT
  refine wb_cons <| ws_setLc 3 2 sc.nd <| wi_rng M.range <| wa_cons <| we_len M.len <| wa_cons <| we_ix <| we_var 0 rfl <| we_int <| ixn 0 rfl <| wa_nil <| a1 <| sqk <| wa_nil <| a1 <| i1 <| And.intro (by have := h1.len; rw [List.length_map]; omega) <| lcRM (fun i => .int (t1.getD i 0 * l2 + t2.getD i 0 * l1)) (by have := h1.len; rw [List.length_map]; omega) (fun i hi s h C cl fp => ?_) <| ?_
  · have hi : i < t1.length := by rw [List.length_map] at hi; omega
    exact we_add <| we_mul <| we_ix <| we_ix <| we_var 0 rfl <| we_int <| ixn 0 rfl <| we_var 2 rfl <| ixa (atI_nat (get_ints (gd hi))) <| we_ix <| we_var 1 rfl <| we_int <| ixn 1 rfl <| i2 <| And.intro ((h1.at i).mulW h2.bq (by decide)) <| we_mul <| we_ix <| we_ix <| we_var 1 rfl <| we_int <| ixn 0 rfl <| we_var 2 rfl <| ixa (atI_nat (get_ints (gd (by omega)))) <| we_ix <| we_var 0 rfl <| we_int <| ixn 1 rfl <| i2 <| And.intro ((h2.at i).mulW h1.bq (by decide)) <| i2 rfl
  refine wb_cons <| ws_ret (Vw.refl _) <| we_call FR (hr.mono (by decide)) <| wa_cons <| we_var 3 rfl <| wa_cons <| we_mul <| we_ix <| we_var 0 rfl <| we_int <| ixn 1 rfl <| we_ix <| we_var 1 rfl <| we_int <| ixn 1 rfl <| i2 <| And.intro (h1.bq.mulW h2.bq (by decide)) <| wa_nil <| ⟨true, sumT t1 l1 t2 l2, l1 * l2, ?_, ?_, mul_ne h1.pos h2.pos, fun t ht => ?_, (h1.bq.mul h2.bq).le (by decide), hk⟩
  · unfold sumT
    rw [List.map_map, Int.toNat_natCast, List.length_map]
    rfl
  · unfold sumT
    have := h1.len
    rw [List.length_map, List.length_range]
    omega
  · obtain ⟨i, hi, rfl⟩ := List.mem_map.mp ht
    exact ((h1.at i).mul h2.bq).add ((h2.at i).mul h1.bq) (by decide) (by decide)
abbrev s_row_scaled : Stmt := top 12
theorem sc_row_scaled : FnScope ["one", "factor", "top"] ["one", "factor"] (defScope s_row_scaled) := ⟨rfl, rfl, rfl, by decide +kernel, rfl, by decide +kernel, by decide +kernel⟩
def T_row_scaled : DSp := fun ds kk _ => ∃ (a a' b : Bool) (t1 : List Int) (l1 u v : Int), ds = [rw_ a a' t1 l1, pr b u v] ∧ RwB 2900 t1 l1 ∧ 1 ≤ v ∧ Bd 2900 u ∧ Bd 2900 v ∧ ∀ ps q, RowIs ps q (t1.map (· * u)) (l1 * v) → kk (.sh (rw_ false false ps q))
theorem ok_row_scaled (F : FD K "row_scaled" s_row_scaled [] f fd) (M : Bi mg) (FR : Fn P w K mg base 1 "row" ["tops", "line"] T_row []) : FnOk P w K mg base (L2.CX P w) 2 f fd ["one", "factor"] (spD K T_row_scaled) := by
  have sc := sc_row_scaled
  refine fn_ok F sc (by decide) (fun ds kk xx h => by obtain ⟨_, _, _, _, _, _, _, rfl, _⟩ := h; rfl) fun cdv A outer s H E ds kk xx hr hT hx => ?_
  obtain ⟨a, a', b, t1, l1, u, v, rfl, h1, pv', bu, bv, hk⟩ := hT
  refine wb_cons <| ws_ret (Vw.refl _) <| we_call FR (hr.mono (by decide)) <| wa_cons <| we_new <| wo_lc 2 sc.nd <| wi_sq a' <| we_ix <| we_var 0 rfl <| we_int <| ixn 0 rfl <| ⟨_, rfl, lcI (fun t => .int (t * u)) (by have := h1.len; omega) (fun n hn s h C cl fp => we_mul <| we_var 2 rfl <| we_ix <| we_var 1 rfl <| we_int <| ixn 0 rfl <| i2 <| And.intro ((h1.bp n hn).mulW bu (by decide)) rfl) <| ?_⟩
  refine wa_cons <| we_mul <| we_ix <| we_var 0 rfl <| we_int <| ixn 1 rfl <| we_ix <| we_var 1 rfl <| we_int <| ixn 1 rfl <| i2 <| And.intro (h1.bq.mulW bv (by decide)) <| wa_nil <| ⟨true, t1.map (· * u), l1 * v, by rw [List.map_map]; rfl, by have := h1.len; rw [List.length_map]; omega, mul_ne h1.pos pv', fun t ht => ?_, (h1.bq.mul bv).le (by decide), hk⟩
  obtain ⟨n, hn, rfl⟩ := List.mem_map.mp ht
  exact ((h1.bp n hn).mul bu).le (by decide)
abbrev s_dot : Stmt := top 13
theorem sc_dot : FnScope ["one", "two", "k", "total"] ["one", "two"] (defScope s_dot) := ⟨rfl, rfl, rfl, by decide +kernel, rfl, by decide +kernel, by decide +kernel⟩
/-- the products -/
def mulT (t1 t2 : List Int) : List Int := (List.range t1.length).map fun k => t1.getD k 0 * t2.getD k 0
def T_dot : DSp := fun ds kk _ => ∃ (a a' b b' : Bool) (t1 t2 : List Int) (l1 l2 : Int), ds = [rw_ a a' t1 l1, rw_ b b' t2 l2] ∧ RwB 2900 t1 l1 ∧ RwB 2900 t2 l2 ∧ t2.length = t1.length ∧ ∀ p q, RatIs p q (mulT t1 t2).sum (l1 * l2) → kk (.sh (pr false p q))
theorem mulT_bd {n : Nat} {t1 t2 : List Int} {l1 l2 : Int} (h1 : RwB n t1 l1) (h2 : RwB n t2 l2) : Bd (n + n + 7) (mulT t1 t2).sum := sum_bd (k := 7) (fun t ht => by
  obtain ⟨i, hi, rfl⟩ := List.mem_map.mp ht
  exact (h1.at i).mul (h2.at i)) (by
  unfold mulT
  have := h1.len
  rw [List.length_map, List.length_range]
  omega)
theorem ok_dot (F : FD K "dot" s_dot [] f fd) (M : Bi mg) (R : Fn P w K mg base 3 "ratio" ["top", "bottom"] (T_ratio CZ) []) : FnOk P w K mg base (L2.CX P w) 4 f fd ["one", "two"] (spD K T_dot) := by
  have sc := sc_dot
  refine fn_ok F sc (by decide) (fun ds kk xx h => by obtain ⟨_, _, _, _, _, _, _, _, rfl, _⟩ := h; rfl) fun cdv A outer s H E ds kk xx hr hT hx => ?_
  obtain ⟨a, a', b, b', t1, t2, l1, l2, rfl, h1, h2, hlen, hk⟩ := hT
  refine wb_cons <| ws_set 3 sc.nd <| we_sum M.sum <| wa_cons <| we_new <| wo_lc 2 sc.nd <| wi_rng M.range <| wa_cons <| we_len M.len <| wa_cons <| we_ix <| we_var 0 rfl <| we_int <| ixn 0 rfl <| wa_nil <| a1 <| sqk <| wa_nil <| a1 <| i1 <| And.intro (by have := h1.len; rw [List.length_map]; omega) <| lcRM (fun i => .int (t1.getD i 0 * t2.getD i 0)) (by have := h1.len; rw [List.length_map]; omega) (fun i hi s h C cl fp => ?_) <| ?_
  · have hi : i < t1.length := by rw [List.length_map] at hi; omega
    exact we_mul <| we_ix <| we_ix <| we_var 0 rfl <| we_int <| ixn 0 rfl <| we_var 2 rfl <| ixa (atI_nat (get_ints (gd hi))) <| we_ix <| we_ix <| we_var 1 rfl <| we_int <| ixn 0 rfl <| we_var 2 rfl <| ixa (atI_nat (get_ints (gd (by omega)))) <| i2 <| And.intro ((h1.at i).mulW (h2.at i) (by decide)) rfl
  have e : ((List.range ((t1.map D.int).length : Int).toNat).map fun i => D.int (t1.getD i 0 * t2.getD i 0)) = (mulT t1 t2).map .int := by
    unfold mulT
    rw [List.map_map, Int.toNat_natCast, List.length_map]
    rfl
  refine wa_nil <| a1 <| ilE e <| ?_
  refine wb_cons <| ws_ret (Vw.refl _) <| we_call R (hr.mono (by decide)) <| wa_cons <| we_var 3 rfl <| wa_cons <| we_mul <| we_ix <| we_var 0 rfl <| we_int <| ixn 1 rfl <| we_ix <| we_var 1 rfl <| we_int <| ixn 1 rfl <| i2 <| And.intro (h1.bq.mulW h2.bq (by decide)) <| wa_nil <| ⟨_, _, rfl, (mulT_bd h1 h2).le (by decide), (h1.bq.mul h2.bq).le (by decide), fun z => absurd z (mul_ne h1.pos h2.pos), fun _ => hk⟩
end
end K00
set_option Elab.async false
set_option linter.all false
set_option maxRecDepth 100000
set_option maxHeartbeats 4000000
set_option pp.maxSteps 1500
set_option exponentiation.threshold 50000
namespace K00
open PySem PySem.Spec PyProof.Rows L2 DL
theorem rep_nat (n : Nat) (x : Int) : (List.replicate n [D.int x]).flatten = (List.replicate n x).map D.int := by
  induction n with
  | zero => rfl
  | succ n ih => rw [List.replicate_succ, List.flatten_cons, ih]; rfl
theorem gcdL_neg : ∀ {ts : List Int} {g : Nat}, gcdL g (ts.map (fun t => -t)) = gcdL g ts
  | [], g => rfl
  | t :: ts, g => by rw [List.map_cons, gcdL_cons, gcdL_cons, Int.natAbs_neg, gcdL_neg]
theorem fdiv_neg {g x : Int} (hg : 0 < g) (h : g ∣ x) : x.fdiv (-g) = -x / g := by
  obtain ⟨a, rfl⟩ := h
  rw [show g * a = -g * -a by rw [Int.neg_mul_neg], Int.mul_fdiv_cancel_left _ (by omega), show -(-g * -a) = g * -a by rw [Int.neg_mul, Int.neg_neg], Int.mul_ediv_cancel_left _ (by omega)]
theorem eqv_ints : ∀ {xs ys : List Int}, PyData.eqvAll (xs.map PyData.int) (ys.map PyData.int) = decide (xs = ys)
  | [], [] => rfl
  | [], _ :: _ => rfl
  | _ :: _, [] => rfl
  | x :: xs, y :: ys => by
    show (PyData.eqv (.int x) (.int y) && PyData.eqvAll (xs.map PyData.int) (ys.map PyData.int)) = _
    rw [eqv_ints]
    show ((x == y) && _) = _
    by_cases e : x = y
    · subst e
      simp
    · simp [e]
theorem pd_ints {l : Bool} : ∀ {xs : List Int}, Pd (.sq l (xs.map .int)) (if l then .list (xs.map .int) else .tuple (xs.map .int))
  | [] => by cases l <;> first | exact .nilL | exact .nilT
  | x :: xs => by
    have ih := pd_ints (l := l) (xs := xs)
    cases l
    · exact .consT (.int x) ih
    · exact .consL (.int x) ih
theorem lay_ints : ∀ {xs : List Int}, PyData.canLayAll0 (xs.map PyData.int) = true ∧ PyData.depthAll (xs.map PyData.int) = 0
  | [] => ⟨rfl, rfl⟩
  | x :: xs => by
    obtain ⟨h1, h2⟩ := lay_ints (xs := xs)
    refine ⟨h1, ?_⟩
    show max 0 (PyData.depthAll (xs.map PyData.int)) = 0
    rw [h2]; rfl
theorem shaped_ints {l : Bool} {xs : List Int} : SeqAt.shaped (if l then .list (xs.map .int) else .tuple (xs.map .int)) = true := by
  obtain ⟨h1, h2⟩ := lay_ints (xs := xs)
  cases l
  all_goals
    refine Bool.and_eq_true_iff.mpr ⟨h1, decide_eq_true ?_⟩
    show PyData.depthAll (xs.map PyData.int) + 1 ≤ 64
    rw [h2]; decide
/-- == of two lists (or tuples) of ints -/
theorem eqI {l : Bool} {xs ys : List Int} {P : Bool → Prop} (h : P (decide (xs = ys))) : EQ (.sq l (xs.map .int)) (.sq l (ys.map .int)) P := by
  refine ⟨_, _, pd_ints, pd_ints, shaped_ints, shaped_ints, ?_⟩
  have e : PyData.eqv (if l then .list (xs.map .int) else .tuple (xs.map .int)) (if l then .list (ys.map .int) else .tuple (ys.map .int)) = decide (xs = ys) := by
    cases l <;> exact eqv_ints
  rw [e]; exact h
section
variable {P : Program} {w : World} {K : PySem.W.Frag} {mg : Str → Option Value} {base : Heap} {f CZ CM : Addr} {fd : FuncData}
/-! ### _law_is_row -/
abbrev s__law_is_row : Stmt := top 20
theorem sc__law_is_row : FnScope ["value", "size", "common", "top"] ["value", "size"] (defScope s__law_is_row) := ⟨rfl, rfl, rfl, by decide +kernel, rfl, by decide +kernel, by decide +kernel⟩
def T_isrow : DSp := fun ds kk _ => ∃ (ps : List Int) (q : Int), ds = [rw_ false false ps q, .int (ps.length : Int)] ∧ 1 ≤ q ∧ gcdL q.natAbs ps = 1 ∧ (∀ p ∈ ps, Bd 40000 p) ∧ Bd 40000 q ∧ kk (.sh (.bl true))
theorem ok_isrow (F : FD K "_law_is_row" s__law_is_row [] f fd) (M : Bi mg) (FW : Fn P w K mg base 1 "_law_whole" ["value"] T_whole []) (FG : Fn P w K mg base 1 "_law_gcd" ["one", "two"] T_gcd []) : FnOk P w K mg base (L2.CX P w) 2 f fd ["value", "size"] (spD K T_isrow) := by
  have sc := sc__law_is_row
  refine fn_ok F sc (by decide) (fun ds kk xx h => by obtain ⟨_, _, rfl, _⟩ := h; rfl) fun cdv A outer s H E ds kk xx hr hT hx => ?_
  obtain ⟨ps, q, rfl, hq, hg, bp, bq, hk⟩ := hT
  refine wb_cons <| ws_if (Vw.refl _) <| wt_w <| ww_or <| wt_not <| wt_val <| we_isi M.isinstance (isi_arg (T := "tuple") M.tuple (by decide +kernel) rfl (by decide) (by decide)) <| we_var 0 rfl <| ii_ (b := true) rfl (by decide +kernel) <| b1 <| ⟨fun hb => ?_, fun hb => (nomatch hb)⟩
  refine ww_or <| wt_ne <| we_len M.len <| wa_cons <| we_var 0 rfl <| wa_nil <| a1 <| sqk <| we_int <| fe rfl <| ⟨fun hb => ?_, fun hb => absurd hb Bool.false_ne_true⟩
  refine ww_or <| wt_not <| wt_val <| we_isi M.isinstance (isi_arg (T := "tuple") M.tuple (by decide +kernel) rfl (by decide) (by decide)) <| we_ix <| we_var 0 rfl <| we_int <| ixn 0 rfl <| ii_ (b := true) rfl (by decide +kernel) <| b1 <| ⟨fun hb => ?_, fun hb => (nomatch hb)⟩
  refine ww_or1 <| wt_ne <| we_len M.len <| wa_cons <| we_ix <| we_var 0 rfl <| we_int <| ixn 0 rfl <| wa_nil <| a1 <| sqk <| we_var 1 rfl <| fe rfl <| ⟨fun hb => ?_, fun hb => wb_nil ?_⟩
  · rw [List.length_map] at hb
    simp at hb
  refine wb_cons <| ws_if (Vw.refl _) <| wt_w <| ww_or <| wt_not <| wt_val <| we_call FW (hr.mono (by decide)) <| wa_cons <| we_ix <| we_var 0 rfl <| we_int <| ixn 1 rfl <| wa_nil <| ⟨q, rfl, b1 <| ⟨fun hb => ?_, fun hb => (nomatch hb)⟩⟩
  refine ww_or1 <| wt_lt <| we_ix <| we_var 0 rfl <| we_int <| ixn 1 rfl <| we_int <| i2 <| ⟨fun hb => absurd (of_decide_eq_true hb) (by omega), fun hb => wb_nil ?_⟩
  refine wb_cons <| ws_set 2 sc.nd <| we_ix <| we_var 0 rfl <| we_int <| ixn 1 rfl <| ?_
  refine wb_cons <| ws_forS (passes_of rfl) rfl (fun i δ => δ = [.sh (rw_ false false ps q), .sh (.int (ps.length : Int)), .sh (.int ((gcdL q.natAbs (ps.take i) : Nat) : Int)), .no]) false <| we_ix <| we_var 0 rfl <| we_int <| ixn 0 rfl <| ⟨_, rfl, upto (by rw [show ((gcdL q.natAbs (ps.take 0) : Nat) : Int) = q from by show ((q.natAbs : Nat) : Int) = q; omega]; rfl), fun i d δ1 hd hI => ?_, fun δ1 hI => ?_⟩
  · subst hI
    obtain ⟨n, en, rfl⟩ := of_get_ints hd
    refine wg_name 3 sc.nd ?_
    refine wb_cons <| ws_if (Vw.refl _) <| wt_not <| wt_val <| we_call FW (hr.mono (by decide)) <| wa_cons <| we_var 3 rfl <| wa_nil <| ⟨n, rfl, b1 <| ⟨fun hb => (nomatch hb), fun hb => wb_nil ?_⟩⟩
    have g0 := gcdL_pos (a := q.natAbs) (by omega) (ps.take i)
    have gb : Bd 40000 ((gcdL q.natAbs (ps.take i) : Nat) : Int) := Bd.of_le bq (Nat.le_of_dvd (by omega) (dvd_gcdL.mp (Nat.dvd_refl _)).1)
    refine wb_cons <| ws_set 2 sc.nd <| we_call FG (hr.mono (by decide)) <| wa_cons <| we_var 2 rfl <| wa_cons <| we_var 3 rfl <| wa_nil <| ⟨_, n, rfl, gb, bp n (List.mem_of_getElem? en), ?_⟩
    have et : ps.take (i + 1) = ps.take i ++ [n] := by rw [List.take_add_one, en]; rfl
    exact wb_nil ⟨_, .keep <| .keep <| .keep <| .drop <| .nil, by rw [et, gcdL_snoc]; rfl⟩
  · subst hI
    rw [List.length_map, List.take_length, hg]
    exact wb_cons <| ws_ret (Vw.refl _) <| we_eq <| we_var 2 rfl <| we_int <| fe rfl <| hk
/-! ### _law_numbers -/
abbrev s__law_numbers : Stmt := top 23
theorem sc__law_numbers : FnScope ["cell", "many", "most", "found", "rest", "k", "size", "parts", "other", "menu"] ["cell", "many", "most"] (defScope s__law_numbers) := ⟨rfl, rfl, rfl, by decide +kernel, rfl, by decide +kernel, by decide +kernel⟩
def T_numbers : DSp := fun ds kk _ => ∃ (c : Int) (mn : Nat) (m : Int), ds = [.int c, .int (mn : Int), .int m] ∧ mn ≤ 100 ∧ 1 ≤ m ∧ Bd 900 m ∧ ∀ ns : List Int, ns.length = mn → (∀ n ∈ ns, n.natAbs ≤ m.natAbs) → kk (.ow (.lst (ns.map .int)))
theorem snoc_all {ns : List Int} {x : Int} {Q : Int → Prop} (h : ∀ n ∈ ns, Q n) (hx : Q x) : ∀ n ∈ ns ++ [x], Q n := fun n hn => by
  rcases List.mem_append.mp hn with z | z
  · exact h n z
  · obtain rfl : n = x := by simpa using z
    exact hx
theorem ok_numbers (F : FD K "_law_numbers" s__law_numbers [] f fd) (M : Bi mg) (FD_ : Fn P w K mg base 1 "_law_digits" ["cell", "sizes"] T_digits []) : FnOk P w K mg base (L2.CX P w) 2 f fd ["cell", "many", "most"] (spD K T_numbers) := by
  have sc := sc__law_numbers
  refine fn_ok F sc (by decide) (fun ds kk xx h => by obtain ⟨_, _, _, rfl, _⟩ := h; rfl) fun cdv A outer s H E ds kk xx hr hT hx => ?_
  obtain ⟨c, mn, m, rfl, hmn, hm, bm, hk⟩ := hT
  have b2 : Bd 2 (2 : Int) := show (2 : Int).natAbs < 2 ^ 2 by decide
  have bd2 : Bd 903 (2 * m + 1) := (b2.mul bm).add (bd1 900) (by decide) (by decide)
  refine wb_cons <| ws_setO 3 sc.nd <| wo_lst <| wa_nil <| And.intro lok <| ?_
  refine wb_cons <| ws_set 4 sc.nd <| we_cint M.int <| wa_cons <| we_var 0 rfl <| wa_nil <| a1 <| ci <| ?_
  refine wb_cons <| ws_if (Vw.refl _) <| wt_ge <| we_var 4 rfl <| we_pow <| we_int <| we_int <| i2 <| And.intro (by decide) <| i2 <| ⟨fun hb => ?_, fun hb => wb_nil ?_⟩
  · refine wb_cons <| ws_set 4 sc.nd <| we_sub <| we_var 4 rfl <| we_pow <| we_int <| we_int <| i2 <| And.intro (by decide) <| i2 <| ?_
    refine wb_cons <| ws_forR M.range (passes_of rfl) rfl (Vw.refl _) (fun i δ => ∃ (ns : List Int) (rest : Int), ns.length = i ∧ (∀ n ∈ ns, n.natAbs ≤ m.natAbs) ∧ δ = [.sh (.int c), .sh (.int (mn : Int)), .sh (.int m), .ow (.lst (ns.map .int)), .sh (.int rest), .no, .no, .no, .no, .no]) <| wa_cons <| we_var 1 rfl <| wa_nil <| a1 <| i1 <| ⟨by omega, upto ⟨[], _, rfl, (fun n hn => by cases hn), rfl⟩, fun i δ1 hi hI => wg_name 5 sc.nd ?_, fun δ1 hI => ?_⟩
    · obtain ⟨ns, rest, hl, hns, rfl⟩ := hI
      refine wb_cons <| ws_set 6 sc.nd <| we_mod <| we_cint M.int <| wa_cons <| we_var 4 rfl <| wa_nil <| a1 <| ci <| we_add <| we_mul <| we_int <| we_var 2 rfl <| i2 <| And.intro (b2.mulW bm (by decide)) <| we_int <| i2 <| i2 <| And.intro (by omega) <| ?_
      have z0 := Int.emod_nonneg rest (show 2 * m + 1 ≠ 0 by omega)
      have z1 := Int.emod_lt_of_pos rest (show 0 < 2 * m + 1 by omega)
      generalize rest % (2 * m + 1) = z at *
      refine wb_cons <| ws_append 3 rfl (by rw [List.length_map]; omega) <| we_up (fun d => ∃ x : Int, d = .int x ∧ x.natAbs ≤ m.natAbs) (fun d hd => ?_) <| we_if <| wt_eq <| we_mod <| we_cint M.int <| wa_cons <| we_var 6 rfl <| wa_nil <| a1 <| ci <| we_int <| i2 <| And.intro (by decide) <| we_int <| fe rfl <| ⟨fun hb => we_add <| we_div <| we_var 6 rfl <| we_int <| i2 <| And.intro (div64 (by decide) (by decide)) <| we_int <| i2 <| ⟨_, rfl, by have := of_decide_eq_true hb; omega⟩, fun hb => we_neg <| we_div <| we_var 6 rfl <| we_int <| i2 <| And.intro (div64 (by decide) (by decide)) <| i1 <| ⟨_, rfl, by omega⟩⟩
      obtain ⟨x, rfl, hx'⟩ := hd
      refine wb_cons <| ws_set 4 sc.nd <| we_div <| we_cint M.int <| wa_cons <| we_var 4 rfl <| wa_nil <| a1 <| ci <| we_add <| we_mul <| we_int <| we_var 2 rfl <| i2 <| And.intro (b2.mulW bm (by decide)) <| we_int <| i2 <| i2 <| And.intro (Bd.div (by omega) bd2 (by decide)) <| ?_
      exact wb_nil ⟨_, .keep <| .keep <| .keep <| .keep <| .keep <| .drop <| .drop <| .drop <| .drop <| .drop <| .nil, ns ++ [x], _, by rw [List.length_append, hl]; rfl, snoc_all hns hx', by rw [← snoc_ints]⟩
    · obtain ⟨ns, rest, hl, hns, rfl⟩ := hI
      exact wb_cons <| ws_retOwn 3 rfl <| hk ns (by omega) hns
  refine wb_cons <| ws_set 7 sc.nd <| we_call FD_ (hr.mono (by decide)) <| wa_cons <| we_var 4 rfl <| wa_cons <| we_new <| wo_cat <| we_new <| wo_lst <| wa_cons <| we_int <| wa_nil <| And.intro lok <| we_new <| wo_rep <| wo_lst <| wa_cons <| we_int <| wa_nil <| And.intro lok <| we_mul <| we_int <| we_var 1 rfl <| i2 <| And.intro (mul64 (by decide) (by omega)) <| rep (show _ ∧ _ ∧ 1 * (2 * (mn : Int)).toNat ≤ 100000 from ⟨by omega, by omega, by omega⟩) <| cat (by rw [show (2 * (mn : Int)).toNat = 2 * mn by omega, rep_nat]; simp; omega) <| wa_nil <| ⟨c, true, 6 :: List.replicate (2 * mn) 1000003, by rw [show (2 * (mn : Int)).toNat = 2 * mn by omega, rep_nat]; rfl, by simp; omega, ?_, fun r hr' => ?_⟩
  · intro s hs
    rcases List.mem_cons.mp hs with rfl | z
    · decide
    · rw [(List.mem_replicate.mp z).2]; decide
  have hrl : r.length = 2 * mn + 1 := by rw [hr'.1]; simp
  obtain ⟨r0, e0, r00, r01⟩ : ∃ x, r[0]? = some x ∧ 0 ≤ x ∧ x < 6 := ⟨_, List.getElem?_eq_getElem (show 0 < r.length by omega), hr'.2 0 _ 6 (List.getElem?_eq_getElem (by omega)) rfl⟩
  have hg : ∀ j : Nat, 1 ≤ j → j < 2 * mn + 1 → ∃ x, r[j]? = some x ∧ 0 ≤ x ∧ x < 1000003 := fun j h1 hj => by
    obtain ⟨i, rfl⟩ : ∃ i, j = i + 1 := ⟨j - 1, by omega⟩
    exact ⟨_, List.getElem?_eq_getElem (show i + 1 < r.length by omega), hr'.2 (i + 1) _ 1000003 (List.getElem?_eq_getElem (by omega)) (by rw [List.getElem?_cons_succ, List.getElem?_replicate, if_pos (by omega)])⟩
  refine wb_cons <| ws_forR M.range (passes_of rfl) rfl (Vw.refl _) (fun i δ => ∃ (ns : List Int), ns.length = i ∧ (∀ n ∈ ns, n.natAbs ≤ m.natAbs) ∧ δ = [.sh (.int c), .sh (.int (mn : Int)), .sh (.int m), .ow (.lst (ns.map .int)), .sh (.int c), .no, .no, .sh (.sq true (r.map .int)), .no, .no]) <| wa_cons <| we_var 1 rfl <| wa_nil <| a1 <| i1 <| ⟨by omega, upto ⟨[], rfl, (fun n hn => by cases hn), rfl⟩, fun i δ1 hi hI => wg_name 5 sc.nd ?_, fun δ1 hI => ?_⟩
  · obtain ⟨ns, hl, hns, rfl⟩ := hI
    obtain ⟨sz, es, s0, s1⟩ := hg (1 + 2 * i) (by omega) (by omega)
    obtain ⟨ot, eo, o0, o1⟩ := hg (2 + 2 * i) (by omega) (by omega)
    refine wb_cons <| ws_set 6 sc.nd <| we_ix <| we_var 7 rfl <| we_add <| we_int <| we_mul <| we_int <| we_var 5 rfl <| i2 <| And.intro (mul64 (by decide) (by omega)) <| i2 <| ixa (atI_nat (j := 1 + 2 * i) (get_ints es)) <| ?_
    refine wb_cons <| ws_set 8 sc.nd <| we_ix <| we_var 7 rfl <| we_add <| we_int <| we_mul <| we_int <| we_var 5 rfl <| i2 <| And.intro (mul64 (by decide) (by omega)) <| i2 <| ixa (atI_nat (j := 2 + 2 * i) (get_ints eo)) <| ?_
    obtain ⟨d7, hat7, x7, rfl⟩ := at_of (ds := [.int 0, .int 1, .int 0, .int 2, .int 3, .int 12, .int 6]) (i := sz % 7) (Q := fun d => ∃ x, d = .int x) (Int.emod_nonneg _ (by decide)) (Int.emod_lt_of_pos _ (by decide)) (by
      intro d hd
      simp only [List.mem_cons, List.not_mem_nil, or_false] at hd
      rcases hd with rfl | rfl | rfl | rfl | rfl | rfl | rfl <;> exact ⟨_, rfl⟩)
    refine wb_cons <| ws_set 9 sc.nd <| we_new <| wo_lst <| wa_cons <| we_ix <| we_new <| wo_lst <| wa_cons <| we_int <| wa_cons <| we_int <| wa_cons <| we_int <| wa_cons <| we_int <| wa_cons <| we_int <| wa_cons <| we_int <| wa_cons <| we_int <| wa_nil <| And.intro lok <| we_mod <| we_cint M.int <| wa_cons <| we_var 6 rfl <| wa_nil <| a1 <| ci <| we_int <| i2 <| And.intro (by decide) <| ixa hat7 <| wa_cons <| we_mod <| we_cint M.int <| wa_cons <| we_var 6 rfl <| wa_nil <| a1 <| ci <| we_int <| i2 <| And.intro (by decide) <| wa_cons <| we_var 6 rfl <| wa_cons <| we_add <| we_mul <| we_var 6 rfl <| we_int <| i2 <| And.intro (mul64 (by omega) (by decide)) <| we_var 8 rfl <| i2 <| wa_nil <| And.intro lok <| ?_
    have bs : Bd 64 sz := show sz.natAbs < 18446744073709551616 by omega
    have b9 : Bd 64 (sz % 9) := by
      have h1 := Int.emod_nonneg sz (show (9 : Int) ≠ 0 by decide)
      have h2 := Int.emod_lt_of_pos sz (show (0 : Int) < 9 by decide)
      exact show (sz % 9).natAbs < 18446744073709551616 by omega
    have b25 : Bd 100 ((10 : Int) ^ (25 : Int).toNat + 39) := show ((10 : Int) ^ 25 + 39).natAbs < 2 ^ 100 by decide
    have b40 : Bd 150 ((10 : Int) ^ (40 : Int).toNat + ot) := Bd.add (a := 140) (b := 64) (show ((10 : Int) ^ 40).natAbs < 2 ^ 140 by decide) (show ot.natAbs < 18446744073709551616 by omega) (by decide) (by decide)
    refine wb_cons <| ws_set 9 sc.nd <| we_new <| wo_cat <| we_var 9 rfl <| we_new <| wo_lst <| wa_cons <| we_mul <| we_mod <| we_cint M.int <| wa_cons <| we_var 6 rfl <| wa_nil <| a1 <| ci <| we_int <| i2 <| And.intro (by decide) <| we_add <| we_pow <| we_int <| we_int <| i2 <| And.intro (by decide) <| we_int <| i2 <| i2 <| And.intro (b9.mulW b25 (by decide)) <| wa_cons <| we_add <| we_mul <| we_var 6 rfl <| we_add <| we_pow <| we_int <| we_int <| i2 <| And.intro (by decide) <| we_var 8 rfl <| i2 <| i2 <| And.intro (bs.mulW b40 (by decide)) <| we_mod <| we_cint M.int <| wa_cons <| we_var 8 rfl <| wa_nil <| a1 <| ci <| we_int <| i2 <| And.intro (by decide) <| i2 <| wa_nil <| And.intro lok <| cat lok <| ?_
    show Wb _ _ _ [_, _, _, _, _, _, _, _, _, .sh (.sq true [.int _, .int _, .int _, .int _, .int _, .int _])] _
    generalize hmenu : ([.int x7, .int (sz % 25), .int sz, .int (sz * 1000003 + ot), .int (sz % 9 * ((10 : Int) ^ (25 : Int).toNat + 39)), .int (sz * ((10 : Int) ^ (40 : Int).toNat + ot) + ot % 1000)] : List D) = menu
    obtain ⟨dm, hatm, y, rfl⟩ := at_of (ds := menu) (i := r0) (Q := fun d => ∃ x, d = .int x) r00 (by rw [← hmenu]; exact r01) (by
      intro d hd
      rw [← hmenu] at hd
      simp only [List.mem_cons, List.not_mem_nil, or_false] at hd
      rcases hd with rfl | rfl | rfl | rfl | rfl | rfl <;> exact ⟨_, rfl⟩)
    refine wb_cons <| ws_set 6 sc.nd <| we_mod <| we_cint M.int <| wa_cons <| we_ix <| we_var 9 rfl <| we_ix <| we_var 7 rfl <| we_int <| ixn 0 (get_ints e0) <| ixa hatm <| wa_nil <| a1 <| ci <| we_add <| we_var 2 rfl <| we_int <| i2 <| i2 <| And.intro (by omega) <| ?_
    have hy := (mod_le (x := y) (m := m) (by omega)).2
    refine wb_cons <| ws_append 3 rfl (by rw [List.length_map]; omega) <| we_up (fun d => ∃ x : Int, d = .int x ∧ x.natAbs ≤ m.natAbs) (fun d hd => ?_) <| we_if <| wt_gt <| we_mod <| we_cint M.int <| wa_cons <| we_var 8 rfl <| wa_nil <| a1 <| ci <| we_int <| i2 <| And.intro (by decide) <| we_int <| i2 <| ⟨fun hb => we_var 6 rfl <| ⟨_, rfl, hy⟩, fun hb => we_neg <| we_var 6 rfl <| i1 <| ⟨_, rfl, by rw [Int.natAbs_neg]; exact hy⟩⟩
    obtain ⟨x, rfl, hx'⟩ := hd
    exact wb_nil ⟨_, .keep <| .keep <| .keep <| .keep <| .keep <| .drop <| .drop <| .keep <| .drop <| .drop <| .nil, ns ++ [x], by rw [List.length_append, hl]; rfl, snoc_all hns hx', by rw [← snoc_ints]⟩
  · obtain ⟨ns, hl, hns, rfl⟩ := hI
    exact wb_cons <| ws_retOwn 3 rfl <| hk ns (by omega) hns
/-! ### _law_lines -/
abbrev s__law_lines : Stmt := top 25
theorem sc__law_lines : FnScope ["tops", "line", "common", "number"] ["tops", "line"] (defScope s__law_lines) := ⟨rfl, rfl, rfl, by decide +kernel, rfl, by decide +kernel, by decide +kernel⟩
def T_lines : DSp := fun ds kk _ => ∃ (l : Bool) (tops : List Int) (line : Int), ds = [.sq l (tops.map .int), .int line] ∧ tops.length ≤ 1000 ∧ line ≠ 0 ∧ (∀ t ∈ tops, Bd 8000 t) ∧ Bd 8000 line ∧ ∀ ps q, RowIs ps q tops line → kk (.sh (rw_ false false ps q))
theorem ok_lines (F : FD K "_law_lines" s__law_lines [] f fd) (M : Bi mg) (FG : Fn P w K mg base 1 "_law_gcd" ["one", "two"] T_gcd []) : FnOk P w K mg base (L2.CX P w) 2 f fd ["tops", "line"] (spD K T_lines) := by
  have sc := sc__law_lines
  refine fn_ok F sc (by decide) (fun ds kk xx h => by obtain ⟨_, _, _, rfl, _⟩ := h; rfl) fun cdv A outer s H E ds kk xx hr hT hx => ?_
  obtain ⟨l, tops, line, rfl, hlen, hl0, hb, hbl, hk⟩ := hT
  refine wb_cons <| ws_set 2 sc.nd <| we_abs M.abs <| wa_cons <| we_var 1 rfl <| wa_nil <| a1 <| i1 <| ?_
  refine wb_cons <| ws_forS (passes_of rfl) rfl (fun i δ => δ = [.sh (.sq l (tops.map .int)), .sh (.int line), .sh (.int ((gcdL line.natAbs (tops.take i) : Nat) : Int)), .no]) l <| we_var 0 rfl <| ⟨_, rfl, upto rfl, fun i d δ1 hd hI => ?_, fun δ1 hI => ?_⟩
  · subst hI
    obtain ⟨n, en, rfl⟩ := of_get_ints hd
    refine wg_name 3 sc.nd ?_
    have gb : Bd 8000 ((gcdL line.natAbs (tops.take i) : Nat) : Int) := Bd.of_le hbl (Nat.le_of_dvd (by omega) (dvd_gcdL.mp (Nat.dvd_refl _)).1)
    refine wb_cons <| ws_set 2 sc.nd <| we_call FG (hr.mono (by decide)) <| wa_cons <| we_var 2 rfl <| wa_cons <| we_var 3 rfl <| wa_nil <| ⟨_, n, rfl, gb.le (by decide), (hb n (List.mem_of_getElem? en)).le (by decide), ?_⟩
    have et : tops.take (i + 1) = tops.take i ++ [n] := by rw [List.take_add_one, en]; rfl
    exact wb_nil ⟨_, .keep <| .keep <| .keep <| .drop <| .nil, by rw [et, gcdL_snoc]; rfl⟩
  · subst hI
    rw [List.length_map, List.take_length]
    have g0 := gcdL_pos (a := line.natAbs) (by omega) tops
    have gd' := (dvd_gcdL (d := gcdL line.natAbs tops) (ns := tops) (a := line.natAbs)).mp (Nat.dvd_refl _)
    have gb : Bd 8000 ((gcdL line.natAbs tops : Nat) : Int) := Bd.of_le hbl (Nat.le_of_dvd (by omega) gd'.1)
    refine wb_ifj (fun δ => ∃ g : Int, g ≠ 0 ∧ Bd 8000 g ∧ RowIs (tops.map (fun t => t.fdiv g)) (line.fdiv g) tops line ∧ δ = [.sh (.sq l (tops.map .int)), .sh (.int line), .sh (.int g), .no]) (Vw.refl _) (fun δ1 hM => ?_) <| wt_lt <| we_var 1 rfl <| we_int <| i2 <| ⟨fun hb' => ?_, fun hb' => ?_⟩
    · obtain ⟨g, hg0, bg, hR, rfl⟩ := hM
      refine wb_cons <| ws_ret (Vw.refl _) <| we_tup <| wa_cons <| we_tuple M.tuple <| wa_cons <| we_new <| wo_lc 3 sc.nd <| wi_sq l <| we_var 0 rfl <| ⟨_, rfl, lcI (fun n => .int (n.fdiv g)) (by omega) (fun n hn s h C cl fp => we_fdiv <| we_var 3 rfl <| we_var 2 rfl <| i2 <| And.intro (Bd.divX hg0 bg (by decide)) rfl) <| ?_⟩
      refine wa_nil <| a1 <| sqk <| wa_cons <| we_fdiv <| we_var 1 rfl <| we_var 2 rfl <| i2 <| And.intro (Bd.divX hg0 bg (by decide)) <| wa_nil <| And.intro lok <| ?_
      have h := hk _ _ hR
      unfold rw_ at h
      rw [List.map_map] at h
      exact h
    · have hb' := of_decide_eq_true hb'
      refine wb_cons <| ws_set 2 sc.nd <| we_neg <| we_var 2 rfl <| i1 <| ?_
      refine wb_nil <| upto ⟨_, by omega, gb.neg, ?_, rfl⟩
      have h := row_math (ns := tops.map (fun t => -t)) (ln := -line) (by omega)
      rw [Int.natAbs_neg, gcdL_neg] at h
      have h := h.neg
      rw [List.map_map] at h
      have e1 : tops.map ((fun x => x / ((gcdL line.natAbs tops : Nat) : Int)) ∘ fun t => -t) = tops.map (fun t => t.fdiv (-((gcdL line.natAbs tops : Nat) : Int))) := List.map_congr_left fun t ht => by
        show -t / _ = _
        rw [fdiv_neg (by omega) (Int.ofNat_dvd_left.mpr (gd'.2 t ht))]
      rw [e1, ← fdiv_neg (by omega) (Int.ofNat_dvd_left.mpr gd'.1)] at h
      exact h
    · have hb' := of_decide_eq_false hb'
      refine wb_nil <| upto ⟨_, by omega, gb, ?_, rfl⟩
      have h := row_math (ns := tops) (ln := line) (by omega)
      have e1 : tops.map (fun t => t.fdiv ((gcdL line.natAbs tops : Nat) : Int)) = tops.map (· / ((gcdL line.natAbs tops : Nat) : Int)) := List.map_congr_left fun t ht => fdiv_pos (by omega)
      rw [e1, fdiv_pos (by omega)]
      exact h
/-! ### _law_fits, _law_form, _law_stays -/
abbrev s__law_fits : Stmt := top 27
theorem sc__law_fits : FnScope ["value", "tops", "line", "k"] ["value", "tops", "line"] (defScope s__law_fits) := ⟨rfl, rfl, rfl, by decide +kernel, rfl, by decide +kernel, by decide +kernel⟩
def T_fits : DSp := fun ds kk _ => ∃ (l : Bool) (ps tops : List Int) (q line : Int), ds = [rw_ false false ps q, .sq l (tops.map .int), .int line] ∧ tops.length ≤ 1000 ∧ RowIs ps q tops line ∧ (∀ t ∈ tops, Bd 8000 t) ∧ Bd 8000 line ∧ kk (.sh (.bl true))
theorem RowIs.bd {n : Nat} {ps tops : List Int} {q line : Int} (h : RowIs ps q tops line) (hb : ∀ t ∈ tops, Bd n t) (hl : Bd n line) : (∀ p ∈ ps, Bd n p) ∧ Bd n q := ⟨fun p hp => by
  obtain ⟨i, hi⟩ := List.mem_iff_getElem?.mp hp
  have i1 : i < tops.length := by rw [← h.len]; exact (List.getElem?_eq_some_iff.mp hi).1
  exact Bd.of_le (hb _ (List.getElem_mem i1)) (h.lp i p _ hi (List.getElem?_eq_getElem i1)), Bd.of_le hl h.lq⟩
theorem ok_fits (F : FD K "_law_fits" s__law_fits [] f fd) (M : Bi mg) (FI : Fn P w K mg base 2 "_law_is_row" ["value", "size"] T_isrow []) : FnOk P w K mg base (L2.CX P w) 3 f fd ["value", "tops", "line"] (spD K T_fits) := by
  have sc := sc__law_fits
  refine fn_ok F sc (by decide) (fun ds kk xx h => by obtain ⟨_, _, _, _, _, rfl, _⟩ := h; rfl) fun cdv A outer s H E ds kk xx hr hT hx => ?_
  obtain ⟨l, ps, tops, q, line, rfl, hlen, hR, htb, hbl, hk⟩ := hT
  obtain ⟨bp, bq⟩ := hR.bd htb hbl
  refine wb_cons <| ws_if (Vw.refl _) <| wt_not <| wt_val <| we_call FI (hr.mono (by decide)) <| wa_cons <| we_var 0 rfl <| wa_cons <| we_len M.len <| wa_cons <| we_var 1 rfl <| wa_nil <| a1 <| sqk <| wa_nil <| ⟨ps, q, by rw [List.length_map, hR.len]; rfl, hR.pos, hR.gcd, fun p hp => (bp p hp).le (by decide), bq.le (by decide), b1 <| ⟨fun hb => (nomatch hb), fun hb => wb_nil ?_⟩⟩
  refine wb_cons <| ws_forR M.range (passes_of rfl) rfl (Vw.refl _) (fun i δ => δ = [.sh (rw_ false false ps q), .sh (.sq l (tops.map .int)), .sh (.int line), .no]) <| wa_cons <| we_len M.len <| wa_cons <| we_var 1 rfl <| wa_nil <| a1 <| sqk <| wa_nil <| a1 <| i1 <| ⟨by rw [List.length_map]; omega, upto rfl, fun i δ1 hi hI => wg_name 3 sc.nd ?_, fun δ1 hI => ?_⟩
  · subst hI
    have hi : i < tops.length := by rw [List.length_map] at hi; omega
    have e1 := List.getElem?_eq_getElem hi
    have e2 := List.getElem?_eq_getElem (show i < ps.length by rw [hR.len]; exact hi)
    refine wb_cons <| ws_if (Vw.refl _) <| wt_ne <| we_mul <| we_ix <| we_ix <| we_var 0 rfl <| we_int <| ixn 0 rfl <| we_var 3 rfl <| ixa (atI_nat (get_ints e2)) <| we_var 2 rfl <| i2 <| And.intro ((bp _ (List.getElem_mem _)).mulW hbl (by decide)) <| we_mul <| we_ix <| we_var 1 rfl <| we_var 3 rfl <| ixa (atI_nat (get_ints e1)) <| we_ix <| we_var 0 rfl <| we_int <| ixn 1 rfl <| i2 <| And.intro ((htb _ (List.getElem_mem _)).mulW bq (by decide)) <| fe rfl <| ⟨fun hb => ?_, fun hb => wb_nil ?_⟩
    · rw [decide_eq_true (hR.eq i _ _ e2 e1)] at hb
      cases hb
    · exact wb_nil ⟨_, .keep <| .keep <| .keep <| .drop <| .nil, rfl⟩
  · subst hI
    exact wb_cons <| ws_ret (Vw.refl _) <| we_bl hk
abbrev s__law_form : Stmt := top 28
theorem sc__law_form : FnScope ["one", "how", "inner"] ["one", "how"] (defScope s__law_form) := ⟨rfl, rfl, rfl, by decide +kernel, rfl, by decide +kernel, by decide +kernel⟩
def T_form : DSp := fun ds kk _ => ∃ (ps : List Int) (q h : Int), ds = [rw_ false false ps q, .int h] ∧ ∀ l l', kk (.sh (rw_ l l' ps q))
theorem ok_form (F : FD K "_law_form" s__law_form [] f fd) (M : Bi mg) : FnOk P w K mg base (L2.CX P w) 1 f fd ["one", "how"] (spD K T_form) := by
  have sc := sc__law_form
  refine fn_ok F sc (by decide) (fun ds kk xx h => by obtain ⟨_, _, _, rfl, _⟩ := h; rfl) fun cdv A outer s H E ds kk xx hr hT hx => ?_
  obtain ⟨ps, q, h, rfl, hk⟩ := hT
  refine wb_cons <| ws_set 2 sc.nd <| we_up (fun x => ∃ l, x = .sq l (ps.map .int)) (fun x hM => ?_) <| we_if <| wt_eq <| we_mod <| we_cint M.int <| wa_cons <| we_var 1 rfl <| wa_nil <| a1 <| ci <| we_int <| i2 <| And.intro (by decide) <| we_int <| fe rfl <| ⟨fun hb => we_new <| wo_list M.list <| wa_cons <| we_ix <| we_var 0 rfl <| we_int <| ixn 0 rfl <| wa_nil <| a1 <| sqk <| ⟨true, rfl⟩, fun hb => we_ix <| we_var 0 rfl <| we_int <| ixn 0 rfl <| ⟨false, rfl⟩⟩
  obtain ⟨l, rfl⟩ := hM
  refine wb_cons <| ws_if (Vw.refl _) <| wt_eq <| we_mod <| we_cint M.int <| wa_cons <| we_div <| we_var 1 rfl <| we_int <| i2 <| And.intro (div64 (by decide) (by decide)) <| wa_nil <| a1 <| ci <| we_int <| i2 <| And.intro (by decide) <| we_int <| fe rfl <| ⟨fun hb => ?_, fun hb => wb_nil ?_⟩
  · exact wb_cons <| ws_ret (Vw.refl _) <| we_new <| wo_lst <| wa_cons <| we_var 2 rfl <| wa_cons <| we_ix <| we_var 0 rfl <| we_int <| ixn 1 rfl <| wa_nil <| And.intro lok <| hk true l
  · exact wb_cons <| ws_ret (Vw.refl _) <| we_tup <| wa_cons <| we_var 2 rfl <| wa_cons <| we_ix <| we_var 0 rfl <| we_int <| ixn 1 rfl <| wa_nil <| And.intro lok <| hk false l
abbrev s__law_stays : Stmt := top 29
theorem sc__law_stays : FnScope ["passed", "one"] ["passed", "one"] (defScope s__law_stays) := ⟨rfl, rfl, rfl, by decide +kernel, rfl, by decide +kernel, by decide +kernel⟩
def T_stays : DSp := fun ds kk _ => ∃ (l l' : Bool) (ps : List Int) (q : Int), ds = [rw_ l l' ps q, rw_ false false ps q] ∧ kk (.sh (.bl true))
theorem ok_stays (F : FD K "_law_stays" s__law_stays [] f fd) (M : Bi mg) : FnOk P w K mg base (L2.CX P w) 1 f fd ["passed", "one"] (spD K T_stays) := by
  have sc := sc__law_stays
  refine fn_ok F sc (by decide) (fun ds kk xx h => by obtain ⟨_, _, _, _, rfl, _⟩ := h; rfl) fun cdv A outer s H E ds kk xx hr hT hx => ?_
  obtain ⟨l, l', ps, q, rfl, hk⟩ := hT
  refine wb_cons <| ws_ret (Vw.refl _) <| we_and <| we_eq <| we_len M.len <| wa_cons <| we_var 0 rfl <| wa_nil <| a1 <| sqk <| we_int <| fe rfl <| b1 <| ⟨fun hb => ?_, fun hb => (nomatch hb)⟩
  refine we_and <| we_eqD hr.units <| we_new <| wo_list M.list <| wa_cons <| we_ix <| we_var 0 rfl <| we_int <| ixn 0 rfl <| wa_nil <| a1 <| sqk <| we_new <| wo_list M.list <| wa_cons <| we_ix <| we_var 1 rfl <| we_int <| ixn 0 rfl <| wa_nil <| a1 <| sqk <| eqI <| b1 <| ⟨fun hb => ?_, fun hb => absurd rfl (of_decide_eq_false hb)⟩
  refine we_one <| we_eq <| we_ix <| we_var 0 rfl <| we_int <| ixn 1 rfl <| we_ix <| we_var 1 rfl <| we_int <| ixn 1 rfl <| fe rfl <| ?_
  rw [decide_eq_true rfl]
  exact hk
end
end K00
set_option Elab.async false
set_option linter.all false
set_option maxRecDepth 100000
set_option maxHeartbeats 4000000
set_option pp.maxSteps 1500
set_option exponentiation.threshold 50000
namespace K00
open PySem PySem.Spec PyProof.Rows L2 DL
/-- a row in lowest terms, of at most n bits -/
structure RwOk (n : Nat) (ps : List Int) (q : Int) : Prop where
  b : RwB n ps q
  g : gcdL q.natAbs ps = 1
theorem RowIs.ok {n : Nat} {ps tops : List Int} {q line : Int} (h : RowIs ps q tops line) (hb : ∀ t ∈ tops, Bd n t) (hl : Bd n line) (hn : tops.length ≤ 100) : RwOk n ps q :=
  ⟨⟨h.pos, (h.bd hb hl).2, (h.bd hb hl).1, by rw [h.len]; exact hn⟩, h.gcd⟩
theorem RwB.le {n m : Nat} {ps : List Int} {q : Int} (h : RwB n ps q) (l : n ≤ m) : RwB m ps q := ⟨h.pos, h.bq.le l, fun p hp => (h.bp p hp).le l, h.len⟩
theorem RwOk.le {n m : Nat} {ps : List Int} {q : Int} (h : RwOk n ps q) (l : n ≤ m) : RwOk m ps q := ⟨h.b.le l, h.g⟩
theorem RwOk.self {n : Nat} {ps : List Int} {q : Int} (h : RwOk n ps q) : RowIs ps q ps q := ⟨h.b.pos, rfl, h.g, fun i p t a b => by rw [a] at b; cases b; rfl, Nat.le_refl _, fun i p t a b => by rw [a] at b; cases b; exact Nat.le_refl _⟩
theorem plR {l l' : Bool} {ps : List Int} {q : Int} : plB 60 (rw_ l l' ps q) = true := plB_sq (n := 59) fun d hd => by
  simp only [List.mem_cons, List.not_mem_nil, or_false] at hd
  rcases hd with rfl | rfl
  · exact plB_ints (n := 58)
  · exact plB_int
theorem ints_inj {xs ys : List Int} (h : xs.map D.int = ys.map D.int) : xs = ys := by
  have := congrArg (List.map fun d => match d with | D.int i => i | _ => 0) h
  rw [List.map_map, List.map_map] at this
  have e : ((fun d => match d with | D.int i => i | _ => 0) ∘ D.int) = (id : Int → Int) := rfl
  rw [e, List.map_id, List.map_id] at this
  exact this
theorem rw_inj {l l' : Bool} {ps ps' : List Int} {q q' : Int} : rw_ l l' ps q = rw_ l l' ps' q' ↔ ps = ps' ∧ q = q' := by
  constructor
  · intro h
    simp only [D.sq.injEq, List.cons.injEq, D.int.injEq, true_and, and_true] at h
    exact ⟨ints_inj h.1, h.2⟩
  · rintro ⟨rfl, rfl⟩
    rfl
section
variable {P : Program} {w : World} {K : PySem.W.Frag} {mg : Str → Option Value} {base : Heap} {f CZ CM : Addr} {fd : FuncData}
/-! ### _law_second -/
abbrev s__law_second : Stmt := top 37
theorem sc__law_second : FnScope ["kind", "one", "tops", "line", "number"] ["kind", "one", "tops", "line"] (defScope s__law_second) := ⟨rfl, rfl, rfl, by decide +kernel, rfl, by decide +kernel, by decide +kernel⟩
def T_second : DSp := fun ds kk _ => ∃ (N : Nat) (k : Int) (ps tops : List Int) (q line : Int), ds = [.int k, rw_ false false ps q, .sq true (tops.map .int), .int line] ∧ N ≤ 900 ∧ RwOk N ps q ∧ tops.length = ps.length ∧ (∀ t ∈ tops, Bd N t) ∧ 1 ≤ line ∧ Bd N line ∧ ∀ ps' q', RwOk (N + 10) ps' q' → ps'.length = ps.length → kk (.sh (rw_ false false ps' q'))
theorem ok_second (F : FD K "_law_second" s__law_second [] f fd) (M : Bi mg) (FLi : Fn P w K mg base 2 "_law_lines" ["tops", "line"] T_lines []) : FnOk P w K mg base (L2.CX P w) 3 f fd ["kind", "one", "tops", "line"] (spD K T_second) := by
  have sc := sc__law_second
  refine fn_ok F sc (by decide) (fun ds kk xx h => by obtain ⟨_, _, _, _, _, _, rfl, _⟩ := h; rfl) fun cdv A outer s H E ds kk xx hr hT hx => ?_
  obtain ⟨N, k, ps, tops, q, line, rfl, hN, h1, hlen, hb, hl1, hbl, hk⟩ := hT
  have len := h1.b.len
  refine wb_cons <| ws_if (Vw.refl _) <| wt_eq <| we_var 0 rfl <| we_int <| fe rfl <| ⟨fun hb' => ?_, fun hb' => wb_nil ?_⟩
  · exact wb_cons <| ws_ret (Vw.refl _) <| we_var 1 rfl <| hk ps q (h1.le (by omega)) rfl
  refine wb_cons <| ws_if (Vw.refl _) <| wt_eq <| we_var 0 rfl <| we_int <| fe rfl <| ⟨fun hb' => ?_, fun hb' => wb_nil ?_⟩
  · refine wb_cons <| ws_ret (Vw.refl _) <| we_tup <| wa_cons <| we_tuple M.tuple <| wa_cons <| we_new <| wo_lc 4 sc.nd <| wi_sq false <| we_ix <| we_var 1 rfl <| we_int <| ixn 0 rfl <| ⟨_, rfl, lcI (fun n => .int (-n)) (by omega) (fun n hn s h C cl fp => we_neg <| we_var 4 rfl <| i1 <| rfl) <| ?_⟩
    refine wa_nil <| a1 <| sqk <| wa_cons <| we_ix <| we_var 1 rfl <| we_int <| ixn 1 rfl <| wa_nil <| And.intro lok <| ?_
    have h := hk (ps.map (fun t => -t)) q ⟨⟨h1.b.pos, h1.b.bq.le (by omega), fun p hp => by
      obtain ⟨t, ht, rfl⟩ := List.mem_map.mp hp
      exact ((h1.b.bp t ht).le (by omega)).neg, by rw [List.length_map]; exact len⟩, by rw [gcdL_neg]; exact h1.g⟩ (by rw [List.length_map])
    unfold rw_ at h
    rw [List.map_map] at h
    exact h
  refine wb_cons <| ws_if (Vw.refl _) <| wt_eq <| we_var 0 rfl <| we_int <| fe rfl <| ⟨fun hb' => ?_, fun hb' => wb_nil ?_⟩
  · refine wb_cons <| ws_ret (Vw.refl _) <| we_call FLi (hr.mono (by decide)) <| wa_cons <| we_new <| wo_lc 4 sc.nd <| wi_sq false <| we_ix <| we_var 1 rfl <| we_int <| ixn 0 rfl <| ⟨_, rfl, lcI (fun n => .int 0) (by omega) (fun n hn s h C cl fp => we_int <| rfl) <| ?_⟩
    refine wa_cons <| we_var 3 rfl <| wa_nil <| ⟨true, ps.map (fun _ => 0), line, by rw [List.map_map]; rfl, by rw [List.length_map]; omega, by omega, fun t ht => ?_, hbl.le (by omega), fun ps' q' hR => hk ps' q' ((hR.ok (n := N) (fun t ht => ?_) hbl (by rw [List.length_map]; exact len)).le (by omega)) (by rw [hR.len, List.length_map])⟩
    · obtain ⟨_, _, rfl⟩ := List.mem_map.mp ht; exact bd0 _
    · obtain ⟨_, _, rfl⟩ := List.mem_map.mp ht; exact bd0 _
  refine wb_cons <| ws_if (Vw.refl _) <| wt_eq <| we_var 0 rfl <| we_int <| fe rfl <| ⟨fun hb' => ?_, fun hb' => wb_nil ?_⟩
  · have b6 : Bd 4 (6 : Int) := show (6 : Int).natAbs < 2 ^ 4 by decide
    have b35 : Bd 7 (35 : Int) := show (35 : Int).natAbs < 2 ^ 7 by decide
    refine wb_cons <| ws_ret (Vw.refl _) <| we_call FLi (hr.mono (by decide)) <| wa_cons <| we_new <| wo_lc 4 sc.nd <| wi_sq false <| we_ix <| we_var 1 rfl <| we_int <| ixn 0 rfl <| ⟨_, rfl, lcI (fun n => .int (n * 6)) (by omega) (fun n hn s h C cl fp => we_mul <| we_var 4 rfl <| we_int <| i2 <| And.intro ((h1.b.bp n hn).mulW b6 (by omega)) rfl) <| ?_⟩
    have bt : ∀ t ∈ ps.map (· * 6), Bd (N + 10) t := fun t ht => by
      obtain ⟨n, hn, rfl⟩ := List.mem_map.mp ht
      exact ((h1.b.bp n hn).mul b6).le (by omega)
    refine wa_cons <| we_mul <| we_ix <| we_var 1 rfl <| we_int <| ixn 1 rfl <| we_int <| i2 <| And.intro (h1.b.bq.mulW b35 (by omega)) <| wa_nil <| ⟨true, ps.map (· * 6), q * 35, by rw [List.map_map]; rfl, by rw [List.length_map]; omega, by have := h1.b.pos; omega, fun t ht => (bt t ht).le (by omega), (h1.b.bq.mul b35).le (by omega), fun ps' q' hR => hk ps' q' (hR.ok bt ((h1.b.bq.mul b35).le (by omega)) (by rw [List.length_map]; exact len)) (by rw [hR.len, List.length_map])⟩
  refine wb_cons <| ws_if (Vw.refl _) <| wt_eq <| we_var 0 rfl <| we_int <| fe rfl <| ⟨fun hb' => ?_, fun hb' => wb_nil ?_⟩
  · exact wb_cons <| ws_ret (Vw.refl _) <| we_call FLi (hr.mono (by decide)) <| wa_cons <| we_var 2 rfl <| wa_cons <| we_ix <| we_var 1 rfl <| we_int <| ixn 1 rfl <| wa_nil <| ⟨true, tops, q, rfl, by omega, by have := h1.b.pos; omega, fun t ht => (hb t ht).le (by omega), h1.b.bq.le (by omega), fun ps' q' hR => hk ps' q' ((hR.ok hb h1.b.bq (by omega)).le (by omega)) (by rw [hR.len, hlen])⟩
  · exact wb_cons <| ws_ret (Vw.refl _) <| we_call FLi (hr.mono (by decide)) <| wa_cons <| we_var 2 rfl <| wa_cons <| we_var 3 rfl <| wa_nil <| ⟨true, tops, line, rfl, by omega, by omega, fun t ht => (hb t ht).le (by omega), hbl.le (by omega), fun ps' q' hR => hk ps' q' ((hR.ok hb hbl (by omega)).le (by omega)) (by rw [hR.len, hlen])⟩
end
end K00
set_option Elab.async false
set_option linter.all false
set_option maxRecDepth 100000
set_option maxHeartbeats 4000000
set_option pp.maxSteps 1500
set_option exponentiation.threshold 50000
namespace K00
open PySem PySem.Spec PyProof.Rows L2 DL
theorem gcdL_zero : ∀ {ps : List Int} {g : Nat}, (∀ p ∈ ps, p = 0) → gcdL g ps = g
  | [], g, _ => rfl
  | p :: ps, g, h => by
    rw [gcdL_cons, h p List.mem_cons_self]
    show gcdL (Nat.gcd g 0) ps = g
    rw [Nat.gcd_zero_right]
    exact gcdL_zero fun q hq => h q (List.mem_cons_of_mem _ hq)
theorem row_zero {ps ts : List Int} {q l : Int} (h : RowIs ps q ts l) (hl : l ≠ 0) (hz : ∀ t ∈ ts, t = 0) : q = 1 ∧ ps = List.replicate ts.length 0 := by
  have hp : ∀ p ∈ ps, p = 0 := fun p hp => by
    obtain ⟨i, hi⟩ := List.mem_iff_getElem?.mp hp
    have i1 : i < ts.length := by rw [← h.len]; exact (List.getElem?_eq_some_iff.mp hi).1
    have e := h.eq i p _ hi (List.getElem?_eq_getElem i1)
    rw [hz _ (List.getElem_mem i1), Int.zero_mul] at e
    rcases Int.mul_eq_zero.mp e with z | z
    · exact z
    · exact absurd z hl
  have g := h.gcd
  rw [gcdL_zero hp] at g
  refine ⟨by have := h.pos; omega, ?_⟩
  rw [← h.len]
  exact List.eq_replicate_iff.mpr ⟨rfl, hp⟩
theorem doubled_iff {ps ps' ts : List Int} {q q' l : Int} (hl : l ≠ 0) (h : RowIs ps q ts l) (h' : RowIs ps' q' ts (l * 2)) : (ps' = ps ∧ q' = q) ↔ ∀ t ∈ ts, t = 0 := by
  constructor
  · rintro ⟨rfl, rfl⟩ t ht
    obtain ⟨i, hi⟩ := List.mem_iff_getElem?.mp ht
    have i1 : i < ps'.length := by rw [h.len]; exact (List.getElem?_eq_some_iff.mp hi).1
    have e1 := h.eq i _ t (List.getElem?_eq_getElem i1) hi
    have e2 := h'.eq i _ t (List.getElem?_eq_getElem i1) hi
    generalize ps'[i] = p at *
    rw [← Int.mul_assoc, e1] at e2
    have e3 : t * q' = 0 := by omega
    rcases Int.mul_eq_zero.mp e3 with z | z
    · exact z
    · have := h.pos; omega
  · intro hz
    obtain ⟨a, b⟩ := row_zero h hl hz
    obtain ⟨c, d⟩ := row_zero h' (by omega) hz
    exact ⟨by rw [b, d], by rw [a, c]⟩
section
variable {P : Program} {w : World} {K : PySem.W.Frag} {mg : Str → Option Value} {base : Heap} {f CZ CM : Addr} {fd : FuncData}
/-! ### _law_other -/
abbrev s__law_other : Stmt := top 31
theorem sc__law_other : FnScope ["tops", "line", "place", "value", "doubled", "number", "zeros", "at", "held", "changed"] ["tops", "line", "place"] (defScope s__law_other) := ⟨rfl, rfl, rfl, by decide +kernel, rfl, by decide +kernel, by decide +kernel⟩
def T_other : DSp := fun ds kk _ => ∃ (tops : List Int) (line place : Int), ds = [.sq true (tops.map .int), .int line, .int place] ∧ tops.length ≤ 100 ∧ line ≠ 0 ∧ (∀ t ∈ tops, Bd 900 t) ∧ Bd 900 line ∧ kk (.sh (.bl true))
theorem ok_other (F : FD K "_law_other" s__law_other [] f fd) (M : Bi mg) (FR : Fn P w K mg base 1 "row" ["tops", "line"] T_row []) (FF : Fn P w K mg base 3 "_law_fits" ["value", "tops", "line"] T_fits []) : FnOk P w K mg base (L2.CX P w) 4 f fd ["tops", "line", "place"] (spD K T_other) := by
  have sc := sc__law_other
  refine fn_ok F sc (by decide) (fun ds kk xx h => by obtain ⟨_, _, _, rfl, _⟩ := h; rfl) fun cdv A outer s H E ds kk xx hr hT hx => ?_
  obtain ⟨tops, line, place, rfl, hlen, hl0, htb, hbl, hk⟩ := hT
  have b2 : Bd 2 (2 : Int) := show (2 : Int).natAbs < 2 ^ 2 by decide
  have bl2 : Bd 902 (line * 2) := hbl.mul b2
  refine wb_cons <| ws_set 3 sc.nd <| we_call FR (hr.mono (by decide)) <| wa_cons <| we_var 0 rfl <| wa_cons <| we_var 1 rfl <| wa_nil <| ⟨true, tops, line, rfl, by omega, hl0, fun t ht => (htb t ht).le (by decide), hbl.le (by decide), fun ps q hR => ?_⟩
  refine wb_cons <| ws_set 4 sc.nd <| we_call FR (hr.mono (by decide)) <| wa_cons <| we_var 0 rfl <| wa_cons <| we_mul <| we_var 1 rfl <| we_int <| i2 <| And.intro (hbl.mulW b2 (by decide)) <| wa_nil <| ⟨true, tops, line * 2, rfl, by omega, by omega, fun t ht => (htb t ht).le (by decide), bl2.le (by decide), fun ps2 q2 hR2 => ?_⟩
  refine wb_cons <| ws_set 6 sc.nd <| we_eqD hr.units <| we_new <| wo_lcf 5 sc.nd <| wi_sq true <| we_var 0 rfl <| ⟨_, rfl, lcf (fun d => match d with | .int n => decide (n ≠ 0) | _ => false) (fun d => d) (by rw [List.length_map]; omega) (fun d hd s h C cl fp => ?_) <| ?_⟩
  · obtain ⟨n, hn, rfl⟩ := List.mem_map.mp hd
    exact wt_ne <| we_var 5 rfl <| we_int <| fe rfl <| ⟨by simp, fun _ s h C cl fp => we_var 5 rfl rfl⟩
  have efil : (((tops.map D.int).filter (fun d => match d with | .int n => decide (n ≠ 0) | _ => false)).map (fun d => d)) = (tops.filter (fun n => decide (n ≠ 0))).map .int := by
    rw [List.map_id', List.filter_map]
    rfl
  rw [efil]
  refine we_new <| wo_lst <| wa_nil <| And.intro lok <| eqP (plB_ints (n := 59)) (plB_ints (n := 59) (ns := [])) fun z hz => ?_
  have hz' : z = true ↔ ∀ t ∈ tops, t = 0 := by
    rw [hz]
    constructor
    · intro e t ht
      by_cases h0 : t = 0
      · exact h0
      · exfalso
        have hm : D.int t ∈ (tops.filter (fun n => decide (n ≠ 0))).map .int := List.mem_map.mpr ⟨t, List.mem_filter.mpr ⟨ht, decide_eq_true h0⟩, rfl⟩
        injection e with _ e2
        rw [e2] at hm
        cases hm
    · intro h
      have : tops.filter (fun n => decide (n ≠ 0)) = [] := List.filter_eq_nil_iff.mpr fun t ht => by rw [h t ht]; decide
      rw [this]
      rfl
  refine wb_cons <| ws_if (Vw.refl _) <| wt_w <| ww_or <| wt_not <| wt_val <| we_call FF (hr.mono (by decide)) <| wa_cons <| we_var 4 rfl <| wa_cons <| we_var 0 rfl <| wa_cons <| we_mul <| we_var 1 rfl <| we_int <| i2 <| And.intro (hbl.mulW b2 (by decide)) <| wa_nil <| ⟨true, ps2, tops, q2, line * 2, rfl, by omega, hR2, fun t ht => (htb t ht).le (by decide), bl2.le (by decide), b1 <| ⟨fun hb => ?_, fun hb => (nomatch hb)⟩⟩
  refine ww_or1 <| wt_ne <| we_eqD hr.units <| we_var 4 rfl <| we_var 3 rfl <| eqP plR plR fun y hy => ?_
  have hyz : y = z := by
    have hy : y = true ↔ rw_ false false ps2 q2 = rw_ false false ps q := hy
    have h1 : y = true ↔ z = true := by rw [hy, rw_inj, hz', doubled_iff hl0 hR hR2]
    cases y <;> cases z <;> simp_all
  subst hyz
  refine we_var 6 rfl <| fe rfl <| ⟨fun hb => by simp at hb, fun hb => wb_nil ?_⟩
  refine wb_cons <| ws_if (Vw.refl _) <| wt_eq <| we_len M.len <| wa_cons <| we_var 0 rfl <| wa_nil <| a1 <| sqk <| we_int <| fe rfl <| ⟨fun hb' => ?_, fun hb' => wb_nil ?_⟩
  · exact wb_cons <| ws_ret (Vw.refl _) <| we_bl hk
  rw [List.length_map] at hb'
  have hpos : (0 : Int) < ((tops.map D.int).length : Nat) := by
    have := of_decide_eq_false hb'
    rw [List.length_map]
    omega
  refine wb_cons <| ws_set 7 sc.nd <| we_mod <| we_cint M.int <| wa_cons <| we_var 2 rfl <| wa_nil <| a1 <| ci <| we_len M.len <| wa_cons <| we_var 0 rfl <| wa_nil <| a1 <| sqk <| i2 <| And.intro hpos <| ?_
  have a0 := Int.emod_nonneg place (show (((tops.map D.int).length : Nat) : Int) ≠ 0 by omega)
  have a1' := Int.emod_lt_of_pos place hpos
  obtain ⟨j, hj⟩ : ∃ j : Nat, place % (((tops.map D.int).length : Nat) : Int) = (j : Int) := ⟨(place % (((tops.map D.int).length : Nat) : Int)).toNat, by omega⟩
  rw [hj] at a1' ⊢
  have jl : j < tops.length := by rw [List.length_map] at a1'; omega
  have ej := gd jl
  refine wb_cons <| ws_setO 8 sc.nd <| wo_list M.list <| wa_cons <| we_var 0 rfl <| wa_nil <| a1 <| sqk <| ?_
  refine wb_cons <| ws_setitem 8 rfl <| we_add <| we_ix <| we_var 0 rfl <| we_var 7 rfl <| ixa (atI_nat (get_ints ej)) <| we_int <| i2 <| we_var 7 rfl <| ⟨j, rfl, by rw [List.length_map]; exact jl, ?_⟩
  have eset : (tops.map D.int).set j (.int (tops.getD j 0 + 1)) = (tops.set j (tops.getD j 0 + 1)).map .int := by rw [List.map_set]
  rw [eset]
  have hbs : ∀ t ∈ tops.set j (tops.getD j 0 + 1), Bd 902 t := fun t ht => by
    rcases List.mem_or_eq_of_mem_set ht with z | z
    · exact (htb t z).le (by decide)
    · rw [z]
      exact (htb _ (List.mem_of_getElem? ej)).add (bd1 900) (by decide) (by decide)
  generalize hheld : tops.set j (tops.getD j 0 + 1) = held at *
  have hlh : held.length = tops.length := by rw [← hheld, List.length_set]
  refine wb_cons <| ws_setN 9 sc.nd (.keep <| .keep <| .keep <| .keep <| .keep <| .keep <| .keep <| .keep <| .bor <| .keep <| .nil) <| we_call FR (hr.mono (by decide)) <| wa_cons <| we_var 8 rfl <| wa_cons <| we_var 1 rfl <| wa_nil <| ⟨true, held, line, rfl, by omega, hl0, fun t ht => (hbs t ht).le (by decide), hbl.le (by decide), fun ps3 q3 hR3 => And.intro (.two .ints (.flat trivial)) ?_⟩
  refine wb_cons <| ws_ret (.keep <| .keep <| .keep <| .keep <| .keep <| .keep <| .keep <| .keep <| .bor <| .keep <| .nil) <| we_and <| we_call FF (hr.mono (by decide)) <| wa_cons <| we_var 9 rfl <| wa_cons <| we_var 8 rfl <| wa_cons <| we_var 1 rfl <| wa_nil <| ⟨true, ps3, held, q3, line, rfl, by omega, hR3, fun t ht => (hbs t ht).le (by decide), hbl.le (by decide), b1 <| ⟨fun hb => ?_, fun hb => (nomatch hb)⟩⟩
  refine we_one <| we_neD hr.units <| we_var 9 rfl <| we_var 3 rfl <| eqP plR plR fun y hy => ?_
  have hy : y = true ↔ rw_ false false ps3 q3 = rw_ false false ps q := hy
  have hn : y = false := by
    cases y with
    | false => rfl
    | true =>
      exfalso
      obtain ⟨rfl, rfl⟩ := rw_inj.mp (hy.mp rfl)
      have i1 : j < ps3.length := by rw [hR.len]; exact jl
      have g1 := hR.eq j _ _ (List.getElem?_eq_getElem i1) ej
      have g2 := hR3.eq j _ (tops.getD j 0 + 1) (List.getElem?_eq_getElem i1) (by rw [← hheld, List.getElem?_set_self jl])
      rw [g1, Int.add_mul, Int.one_mul] at g2
      have := hR.pos
      omega
  rw [hn]
  exact hk
end
end K00
set_option Elab.async false
set_option linter.all false
set_option maxRecDepth 100000
set_option maxHeartbeats 4000000
set_option pp.maxSteps 1500
set_option exponentiation.threshold 50000
namespace K00
open PySem PySem.Spec PyProof.Rows L2 DL
theorem lcmL_le {k : Nat} : ∀ {bs : List Int} {g : Nat}, (∀ b ∈ bs, 1 ≤ b ∧ Bd k b) → lcmL g bs ≤ g * 2 ^ (k * bs.length)
  | [], g, _ => by simp [lcmL]
  | b :: bs, g, h => by
    have hb := h b List.mem_cons_self
    have ih := lcmL_le (k := k) (bs := bs) (g := Nat.lcm g b.natAbs) fun c hc => h c (List.mem_cons_of_mem _ hc)
    have h1 : Nat.lcm g b.natAbs ≤ g * b.natAbs := by
      by_cases z : g = 0
      · subst z; simp [Nat.lcm]
      · exact Nat.le_of_dvd (Nat.mul_pos (by omega) (by omega)) (Nat.lcm_dvd (Nat.dvd_mul_right _ _) (Nat.dvd_mul_left _ _))
    have h2 : g * b.natAbs ≤ g * 2 ^ k := Nat.mul_le_mul_left _ (Nat.le_of_lt hb.2)
    calc lcmL g (b :: bs) = lcmL (Nat.lcm g b.natAbs) bs := rfl
      _ ≤ Nat.lcm g b.natAbs * 2 ^ (k * bs.length) := ih
      _ ≤ g * 2 ^ k * 2 ^ (k * bs.length) := Nat.mul_le_mul_right _ (Nat.le_trans h1 h2)
      _ = g * 2 ^ (k * (bs.length + 1)) := by rw [Nat.mul_succ, Nat.add_comm, Nat.pow_add, Nat.mul_assoc]
/-- the row over the common line, item by item -/
theorem over_at {its : List (Bool × Int × Int)} {L : Nat} {ps : List Int} {q : Int} (hL : 0 < L) (h : RowIs ps q (overL its L) (L : Int)) (i : Nat) {p : Int} {x : Bool × Int × Int} (hp : ps[i]? = some p) (hx : its[i]? = some x) (h1 : 1 ≤ x.2.2) (hd : x.2.2.natAbs ∣ L) : p * x.2.2 = x.2.1 * q := by
  have e := h.eq i p (x.2.1 * ((L : Int) / x.2.2)) hp (by unfold overL; rw [List.getElem?_map, hx]; rfl)
  have dv : x.2.2 ∣ (L : Int) := Int.natAbs_dvd_natAbs.mp hd
  have el : (L : Int) / x.2.2 * x.2.2 = L := Int.ediv_mul_cancel dv
  have nz : (L : Int) / x.2.2 ≠ 0 := fun z => by rw [z, Int.zero_mul] at el; omega
  refine Int.eq_of_mul_eq_mul_right nz ?_
  calc p * x.2.2 * ((L : Int) / x.2.2) = p * ((L : Int) / x.2.2 * x.2.2) := by ac_rfl
    _ = x.2.1 * ((L : Int) / x.2.2) * q := by rw [el]; exact e
    _ = x.2.1 * q * ((L : Int) / x.2.2) := by ac_rfl
section
variable {P : Program} {w : World} {K : PySem.W.Frag} {mg : Str → Option Value} {base : Heap} {f CZ CM : Addr} {fd : FuncData}
/-! ### _law_mixed -/
abbrev s__law_mixed : Stmt := top 32
theorem sc__law_mixed : FnScope ["ups", "downs", "k", "items", "one", "value"] ["ups", "downs"] (defScope s__law_mixed) := ⟨rfl, rfl, rfl, by decide +kernel, rfl, by decide +kernel, by decide +kernel⟩
def T_mixed : DSp := fun ds kk _ => ∃ (us vs : List Int) (n : Nat), ds = [.sq true (us.map .int), .sq true (vs.map .int)] ∧ us.length ≤ 100 ∧ vs.length = us.length ∧ (∀ u ∈ us, Bd 900 u) ∧ (∀ v ∈ vs, Bd n (1 + ((v.natAbs : Nat) : Int))) ∧ n * us.length ≤ 1200 ∧ n ≤ 900 ∧ kk (.sh (.bl true))
theorem ok_mixed (F : FD K "_law_mixed" s__law_mixed [] f fd) (M : Bi mg) (FP : Fn P w K mg base 2 "_law_pair" ["up", "down"] T_pair []) (FO : Fn P w K mg base 2 "row_of" ["ratios"] T_row_of []) (FI : Fn P w K mg base 2 "_law_is_row" ["value", "size"] T_isrow []) (FT : Fn P w K mg base 4 "row_items" ["one"] T_row_items []) : FnOk P w K mg base (L2.CX P w) 5 f fd ["ups", "downs"] (spD K T_mixed) := by
  have sc := sc__law_mixed
  refine fn_ok F sc (by decide) (fun ds kk xx h => by obtain ⟨_, _, _, rfl, _⟩ := h; rfl) fun cdv A outer s H E ds kk xx hr hT hx => ?_
  obtain ⟨us, vs, n, rfl, hlen, hlv, hbu, hbv, hn, hn9, hk⟩ := hT
  refine wb_cons <| ws_setLc 3 2 sc.nd <| wi_rng M.range <| wa_cons <| we_len M.len <| wa_cons <| we_var 0 rfl <| wa_nil <| a1 <| sqk <| wa_nil <| a1 <| i1 <| And.intro (by rw [List.length_map]; omega) <| lcR (fun i e => ∃ x : Int × Int, e = prD x ∧ RatIs x.1 x.2 (us.getD i 0) (1 + (((vs.getD i 0).natAbs : Nat) : Int))) (by rw [List.length_map]; omega) (fun i hi s h C cl fp => ?_) fun es he => ?_
  · have hi : i < us.length := by rw [List.length_map] at hi; omega
    refine we_call FP (hr.mono (by decide)) <| wa_cons <| we_ix <| we_var 0 rfl <| we_var 2 rfl <| ixa (atI_nat (get_ints (gd hi))) <| wa_cons <| we_add <| we_int <| we_abs M.abs <| wa_cons <| we_ix <| we_var 1 rfl <| we_var 2 rfl <| ixa (atI_nat (get_ints (gd (by omega)))) <| wa_nil <| a1 <| i1 <| i2 <| wa_nil <| ⟨_, _, rfl, by omega, (hbu _ (List.mem_of_getElem? (gd hi))).le (by decide), (hbv _ (List.mem_of_getElem? (gd (by omega)))).le (by omega), fun p q hR => ⟨(p, q), rfl, hR⟩⟩
  obtain ⟨xs, hxl, rfl, hxs⟩ := each_ex he
  have hxl : xs.length = us.length := by rw [hxl, Int.toNat_natCast, List.length_map]
  have hat : ∀ (i : Nat) x, xs[i]? = some x → 1 ≤ x.2 ∧ Nat.gcd x.1.natAbs x.2.natAbs = 1 ∧ Bd 900 x.1 ∧ Bd n x.2 := fun i x hx => by
    have hi : i < us.length := by rw [← hxl]; exact (List.getElem?_eq_some_iff.mp hx).1
    have h := hxs i x hx
    exact ⟨h.pos, h.gcd, Bd.of_le (hbu _ (List.mem_of_getElem? (gd hi))) h.lp, Bd.of_le (hbv _ (List.mem_of_getElem? (gd (by omega)))) h.lq⟩
  have hm : ∀ x ∈ xs, 1 ≤ x.2 ∧ Nat.gcd x.1.natAbs x.2.natAbs = 1 ∧ Bd 900 x.1 ∧ Bd n x.2 := fun x hx => by
    obtain ⟨i, hi⟩ := List.mem_iff_getElem?.mp hx
    exact hat i x hi
  have hits : ((xs.map fun x => ((true, x.1, x.2) : Bool × Int × Int))).length = xs.length := List.length_map _
  generalize hI : (xs.map fun x => ((true, x.1, x.2) : Bool × Int × Int)) = its at *
  have hitm : ∀ y ∈ its, 1 ≤ y.2.2 ∧ Bd 900 y.2.1 ∧ Bd n y.2.2 := fun y hy => by
    rw [← hI] at hy
    obtain ⟨x, hx, rfl⟩ := List.mem_map.mp hy
    exact ⟨(hm x hx).1, (hm x hx).2.2.1, (hm x hx).2.2.2⟩
  have hLb : lcmL 1 (botsL its) ≤ 1 * 2 ^ (n * (botsL its).length) := lcmL_le fun b hb => by
    obtain ⟨y, hy, rfl⟩ := List.mem_map.mp hb
    exact ⟨(hitm y hy).1, (hitm y hy).2.2⟩
  have hL : lcmL 1 (botsL its) < 2 ^ 1201 := by
    have e1 : n * (botsL its).length ≤ 1200 := by
      have : (botsL its).length = us.length := by unfold botsL; rw [List.length_map, hits, hxl]
      rw [this]; exact hn
    have e2 : (2 : Nat) ^ (n * (botsL its).length) ≤ 2 ^ 1200 := Nat.pow_le_pow_right (by decide) e1
    have e3 : (2 : Nat) ^ 1201 = 2 ^ 1200 * 2 := Nat.pow_succ _ _
    have e4 : 0 < (2 : Nat) ^ 1200 := Nat.pow_pos (by decide)
    generalize (2 : Nat) ^ 1200 = z at *
    omega
  have hLp : 0 < lcmL 1 (botsL its) := lcmL_pos (by decide) fun b hb => by
    obtain ⟨y, hy, rfl⟩ := List.mem_map.mp hb
    exact (hitm y hy).1
  refine wb_cons <| ws_set 5 sc.nd <| we_call FO (hr.mono (by decide)) <| wa_cons <| we_new <| wo_lc 4 sc.nd <| wi_sq true <| we_var 3 rfl <| ⟨_, rfl, lcA prD (fun x => pr true x.1 x.2) (by omega) (fun x hx s h C cl fp => we_new <| wo_list M.list <| wa_cons <| we_var 4 rfl <| wa_nil <| a1 <| sqk rfl) <| ?_⟩
  refine wa_nil <| ⟨true, its, by rw [← hI, List.map_map]; rfl, by omega, fun y hy => ⟨(hitm y hy).1, (hitm y hy).2.1.le (by decide)⟩, Nat.lt_of_lt_of_le hL (Nat.pow_le_pow_right (by decide) (by decide)), fun ps q hR => ?_⟩
  have hpl : ps.length = xs.length := by rw [hR.len]; unfold overL; rw [List.length_map, hits]
  have bL : Bd 1201 ((lcmL 1 (botsL its) : Nat) : Int) := hL
  have bt : ∀ t ∈ overL its (lcmL 1 (botsL its)), Bd 2200 t := fun t ht => by
    obtain ⟨y, hy, rfl⟩ := List.mem_map.mp ht
    have h1 := (hitm y hy).1
    have bq : Bd 1201 (((lcmL 1 (botsL its) : Nat) : Int) / y.2.2) := Bd.of_le bL (by
      have h2 : ((lcmL 1 (botsL its) : Nat) : Int) / y.2.2 ≤ ((lcmL 1 (botsL its) : Nat) : Int) := Int.ediv_le_self _ (by omega)
      have h3 : 0 ≤ ((lcmL 1 (botsL its) : Nat) : Int) / y.2.2 := Int.ediv_nonneg (by omega) (by omega)
      omega)
    exact ((hitm y hy).2.1.mul bq).le (by decide)
  obtain ⟨bp, bq⟩ := hR.bd bt (bL.le (by decide))
  have cross : ∀ (i : Nat) p x, ps[i]? = some p → xs[i]? = some x → p * x.2 = x.1 * q := fun i p x hp hx => by
    have hy : its[i]? = some (true, x.1, x.2) := by rw [← hI, List.getElem?_map, hx]; rfl
    exact over_at hLp hR i hp hy (hat i x hx).1 (mem_lcmL (List.mem_map.mpr ⟨_, List.mem_of_getElem? hy, rfl⟩))
  refine wb_cons <| ws_if (Vw.refl _) <| wt_not <| wt_val <| we_call FI (hr.mono (by decide)) <| wa_cons <| we_var 5 rfl <| wa_cons <| we_len M.len <| wa_cons <| we_var 3 rfl <| wa_nil <| a1 <| sqk <| wa_nil <| ⟨ps, q, by rw [List.length_map, hpl]; rfl, hR.pos, hR.gcd, fun p hp => (bp p hp).le (by decide), bq.le (by decide), b1 <| ⟨fun hb => (nomatch hb), fun hb => wb_nil ?_⟩⟩
  refine wb_cons <| ws_forR M.range (passes_of rfl) rfl (Vw.refl _) (fun i δ => δ = [.sh (.sq true (us.map .int)), .sh (.sq true (vs.map .int)), .no, .sh (.sq true (xs.map prD)), .no, .sh (rw_ false false ps q)]) <| wa_cons <| we_len M.len <| wa_cons <| we_var 3 rfl <| wa_nil <| a1 <| sqk <| wa_nil <| a1 <| i1 <| ⟨by rw [List.length_map]; omega, upto rfl, fun i δ1 hi hI => wg_name 2 sc.nd ?_, fun δ1 hI => ?_⟩
  · subst hI
    have hi : i < xs.length := by rw [List.length_map] at hi; omega
    have ex := List.getElem?_eq_getElem hi
    have ep := List.getElem?_eq_getElem (show i < ps.length by omega)
    have exD : (xs.map prD)[i]? = some (pr false xs[i].1 xs[i].2) := by rw [List.getElem?_map, ex]; rfl
    have hx := hat i _ ex
    refine wb_cons <| ws_if (Vw.refl _) <| wt_ne <| we_mul <| we_ix <| we_ix <| we_var 5 rfl <| we_int <| ixn 0 rfl <| we_var 2 rfl <| ixa (atI_nat (get_ints ep)) <| we_ix <| we_ix <| we_var 3 rfl <| we_var 2 rfl <| ixa (atI_nat exD) <| we_int <| ixn 1 rfl <| i2 <| And.intro ((bp _ (List.getElem_mem _)).mulW hx.2.2.2 (by omega)) <| we_mul <| we_ix <| we_ix <| we_var 3 rfl <| we_var 2 rfl <| ixa (atI_nat exD) <| we_int <| ixn 0 rfl <| we_ix <| we_var 5 rfl <| we_int <| ixn 1 rfl <| i2 <| And.intro (hx.2.2.1.mulW bq (by decide)) <| fe rfl <| ⟨fun hb => ?_, fun hb => wb_nil ?_⟩
    · rw [decide_eq_true (cross i _ _ ep ex)] at hb
      cases hb
    · exact wb_nil ⟨_, .keep <| .keep <| .drop <| .keep <| .keep <| .keep <| .nil, rfl⟩
  · subst hI
    have plx : ∀ {l : Bool} {zs : List (Int × Int)}, plB 60 (.sq l (zs.map prD)) = true := fun {l zs} => plB_sq (n := 59) fun d hd => by
      obtain ⟨z, _, rfl⟩ := List.mem_map.mp hd
      exact plB_sq (n := 58) fun d hd => by
        simp only [List.mem_cons, List.not_mem_nil, or_false] at hd
        rcases hd with rfl | rfl <;> exact plB_int
    refine wb_cons <| ws_ret (Vw.refl _) <| we_eqD hr.units <| we_call FT (hr.mono (by decide)) <| wa_cons <| we_var 5 rfl <| wa_nil <| ⟨false, false, ps, q, rfl, by omega, hR.pos, fun p hp => (bp p hp).le (by decide), bq.le (by decide), fun rs hrs => ?_⟩
    have ers : rs = xs := List.ext_getElem? fun i => by
      by_cases hi : i < xs.length
      · have ex := List.getElem?_eq_getElem hi
        have ep := List.getElem?_eq_getElem (show i < ps.length by omega)
        have er := List.getElem?_eq_getElem (show i < rs.length by rw [hrs.1]; omega)
        have h1 := hrs.2 i _ _ er ep
        have hx := hat i _ ex
        have hself : RatIs xs[i].1 xs[i].2 xs[i].1 xs[i].2 := ⟨hx.1, hx.2.1, rfl, Nat.le_refl _, Nat.le_refl _⟩
        obtain ⟨a, b⟩ := h1.uniq hself (cross i _ _ ep ex) (by have := hR.pos; omega) (by have := hx.1; omega)
        rw [er, ex]
        exact congrArg some (Prod.ext a b)
      · rw [List.getElem?_eq_none (by rw [hrs.1]; omega), List.getElem?_eq_none (by omega)]
    subst ers
    refine we_tuple M.tuple <| wa_cons <| we_var 3 rfl <| wa_nil <| a1 <| sqk <| eqP plx plx fun y hy => ?_
    rw [hy.mpr rfl]
    exact hk
end
end K00
set_option Elab.async false
set_option linter.all false
set_option maxRecDepth 100000
set_option maxHeartbeats 4000000
set_option pp.maxSteps 1500
set_option exponentiation.threshold 50000
namespace K00
open PySem PySem.Spec PyProof.Rows L2 DL
theorem sumT_bd {n : Nat} {t1 t2 : List Int} {l1 l2 : Int} (h1 : RwB n t1 l1) (h2 : RwB n t2 l2) : ∀ t ∈ sumT t1 l1 t2 l2, Bd (n + n + 1) t := fun t ht => by
  obtain ⟨i, hi, rfl⟩ := List.mem_map.mp ht
  exact ((h1.at i).mul h2.bq).add ((h2.at i).mul h1.bq) (by omega) (by omega)
theorem sumT_len {t1 t2 : List Int} {l1 l2 : Int} : (sumT t1 l1 t2 l2).length = t1.length := by unfold sumT; rw [List.length_map, List.length_range]
theorem sumT_D {t1 t2 : List Int} {l1 l2 : Int} {n : Nat} (h : n = t1.length) : ((List.range n).map fun i => D.int (t1.getD i 0 * l2 + t2.getD i 0 * l1)) = (sumT t1 l1 t2 l2).map .int := by
  subst h
  unfold sumT
  rw [List.map_map]; rfl
theorem mulT_D {t1 t2 : List Int} {n : Nat} (h : n = t1.length) : ((List.range n).map fun i => D.int (t1.getD i 0 * t2.getD i 0)) = (mulT t1 t2).map .int := by
  subst h
  unfold mulT
  rw [List.map_map]; rfl
section
variable {P : Program} {w : World} {K : PySem.W.Frag} {mg : Str → Option Value} {base : Heap} {f CZ CM : Addr} {fd : FuncData}
/-! ### _law_two -/
abbrev s__law_two : Stmt := top 33
theorem sc__law_two : FnScope ["one", "two", "factor", "how", "left", "right", "given", "many", "k", "tops", "number", "total"] ["one", "two", "factor", "how"] (defScope s__law_two) := ⟨rfl, rfl, rfl, by decide +kernel, rfl, by decide +kernel, by decide +kernel⟩
def T_two : DSp := fun ds kk _ => ∃ (t1 t2 : List Int) (l1 l2 u v h : Int), ds = [rw_ false false t1 l1, rw_ false false t2 l2, pr false u v, .int h] ∧ RwOk 1000 t1 l1 ∧ RwOk 1000 t2 l2 ∧ t2.length = t1.length ∧ 1 ≤ v ∧ Bd 1000 u ∧ Bd 1000 v ∧ kk (.sh (.bl true))
theorem ok_two (F : FD K "_law_two" s__law_two [] f fd) (M : Bi mg) (FO : Fn P w K mg base 1 "_law_form" ["one", "how"] T_form []) (FS : Fn P w K mg base 1 "_law_stays" ["passed", "one"] T_stays []) (FF : Fn P w K mg base 3 "_law_fits" ["value", "tops", "line"] T_fits []) (FJ : Fn P w K mg base 3 "_law_just" ["value", "up", "down"] T_just [])
    (F1 : Fn P w K mg base 2 "row_sum" ["one", "two"] T_row_sum []) (F2 : Fn P w K mg base 2 "row_scaled" ["one", "factor"] T_row_scaled []) (F3 : Fn P w K mg base 4 "dot" ["one", "two"] T_dot []) : FnOk P w K mg base (L2.CX P w) 5 f fd ["one", "two", "factor", "how"] (spD K T_two) := by
  have sc := sc__law_two
  refine fn_ok F sc (by decide) (fun ds kk xx h => by obtain ⟨_, _, _, _, _, _, _, rfl, _⟩ := h; rfl) fun cdv A outer s H E ds kk xx hr hT hx => ?_
  obtain ⟨t1, t2, l1, l2, u, v, h, rfl, h1, h2, hlen, pv', bu, bv, hk⟩ := hT
  have len := h1.b.len
  refine wb_cons <| ws_set 4 sc.nd <| we_call FO (hr.mono (by decide)) <| wa_cons <| we_var 0 rfl <| wa_cons <| we_var 3 rfl <| wa_nil <| ⟨t1, l1, h, rfl, fun a a' => ?_⟩
  refine wb_cons <| ws_set 5 sc.nd <| we_call FO (hr.mono (by decide)) <| wa_cons <| we_var 1 rfl <| wa_cons <| we_div <| we_var 3 rfl <| we_int <| i2 <| And.intro (div64 (by decide) (by decide)) <| wa_nil <| ⟨t2, l2, _, rfl, fun b b' => ?_⟩
  refine wb_cons <| ws_set 6 sc.nd <| we_up (fun x => ∃ c, x = pr c u v) (fun x hM => ?_) <| we_if <| wt_eq <| we_mod <| we_cint M.int <| wa_cons <| we_div <| we_var 3 rfl <| we_int <| i2 <| And.intro (div64 (by decide) (by decide)) <| wa_nil <| a1 <| ci <| we_int <| i2 <| And.intro (by decide) <| we_int <| fe rfl <| ⟨fun hb => we_new <| wo_list M.list <| wa_cons <| we_var 2 rfl <| wa_nil <| a1 <| sqk <| ⟨true, rfl⟩, fun hb => we_var 2 rfl <| ⟨false, rfl⟩⟩
  obtain ⟨c, rfl⟩ := hM
  refine wb_ifj (fun δ => ∃ b b', δ = [.sh (rw_ false false t1 l1), .sh (rw_ false false t2 l2), .sh (pr false u v), .sh (.int h), .sh (rw_ a a' t1 l1), .sh (rw_ b b' t2 l2), .sh (pr c u v), .no, .no, .no, .no, .no]) (Vw.refl _) (fun δ1 hM => ?_) <| wt_w <| ww_and <| wt_eqD hr.units <| we_var 0 rfl <| we_var 1 rfl <| eqP plR plR fun y hy => ⟨fun hb => ?_, fun hb => ⟨fun h => (nomatch h), fun _ => wb_nil <| upto ⟨b, b', rfl⟩⟩⟩
  rotate_left
  · obtain ⟨rfl, rfl⟩ := rw_inj.mp (hy.mp hb)
    refine ww_and1 <| wt_eq <| we_mod <| we_cint M.int <| wa_cons <| we_div <| we_var 3 rfl <| we_int <| i2 <| And.intro (div64 (by decide) (by decide)) <| wa_nil <| a1 <| ci <| we_int <| i2 <| And.intro (by decide) <| we_int <| fe rfl <| ⟨fun hb => ?_, fun hb => wb_nil <| upto ⟨b, b', rfl⟩⟩
    exact wb_cons <| ws_set 5 sc.nd <| we_var 4 rfl <| wb_nil <| upto ⟨a, a', rfl⟩
  obtain ⟨b, b', rfl⟩ := hM
  refine wb_cons <| ws_set 7 sc.nd <| we_len M.len <| wa_cons <| we_ix <| we_var 0 rfl <| we_int <| ixn 0 rfl <| wa_nil <| a1 <| sqk <| ?_
  refine wb_cons <| ws_setLc 9 8 sc.nd <| wi_rng M.range <| wa_cons <| we_var 7 rfl <| wa_nil <| a1 <| i1 <| And.intro (by rw [List.length_map]; omega) <| lcRM (fun i => .int (t1.getD i 0 * l2 + t2.getD i 0 * l1)) (by rw [List.length_map]; omega) (fun i hi s h C cl fp => ?_) <| ?_
  · have hi : i < t1.length := by rw [List.length_map] at hi; omega
    exact we_add <| we_mul <| we_ix <| we_ix <| we_var 0 rfl <| we_int <| ixn 0 rfl <| we_var 8 rfl <| ixa (atI_nat (get_ints (gd hi))) <| we_ix <| we_var 1 rfl <| we_int <| ixn 1 rfl <| i2 <| And.intro ((h1.b.at i).mulW h2.b.bq (by decide)) <| we_mul <| we_ix <| we_ix <| we_var 1 rfl <| we_int <| ixn 0 rfl <| we_var 8 rfl <| ixa (atI_nat (get_ints (gd (by omega)))) <| we_ix <| we_var 0 rfl <| we_int <| ixn 1 rfl <| i2 <| And.intro ((h2.b.at i).mulW h1.b.bq (by decide)) <| i2 rfl
  rw [sumT_D (by rw [Int.toNat_natCast, List.length_map])]
  have bs := sumT_bd h1.b h2.b
  have bll := h1.b.bq.mul h2.b.bq
  refine wb_cons <| ws_if (Vw.refl _) <| wt_not <| wt_val <| we_call FF (hr.mono (by decide)) <| wa_cons <| we_call F1 (hr.mono (by decide)) <| wa_cons <| we_var 4 rfl <| wa_cons <| we_var 5 rfl <| wa_nil <| ⟨a, a', b, b', t1, t2, l1, l2, rfl, h1.b.le (by decide), h2.b.le (by decide), hlen, fun ps q hR => ?_⟩
  refine wa_cons <| we_var 9 rfl <| wa_cons <| we_mul <| we_ix <| we_var 0 rfl <| we_int <| ixn 1 rfl <| we_ix <| we_var 1 rfl <| we_int <| ixn 1 rfl <| i2 <| And.intro (h1.b.bq.mulW h2.b.bq (by decide)) <| wa_nil <| ⟨true, ps, _, q, _, rfl, by rw [sumT_len]; omega, hR, fun t ht => (bs t ht).le (by decide), bll.le (by decide), b1 <| ⟨fun hb => (nomatch hb), fun hb => wb_nil ?_⟩⟩
  clear hR
  refine wb_cons <| ws_if (Vw.refl _) <| wt_not <| wt_val <| we_call FF (hr.mono (by decide)) <| wa_cons <| we_call F2 (hr.mono (by decide)) <| wa_cons <| we_var 4 rfl <| wa_cons <| we_var 6 rfl <| wa_nil <| ⟨a, a', c, t1, l1, u, v, rfl, h1.b.le (by decide), pv', bu.le (by decide), bv.le (by decide), fun ps q hR => ?_⟩
  refine wa_cons <| we_new <| wo_lc 10 sc.nd <| wi_sq false <| we_ix <| we_var 0 rfl <| we_int <| ixn 0 rfl <| ⟨_, rfl, lcI (fun t => .int (t * u)) (by omega) (fun n hn s h C cl fp => we_mul <| we_var 10 rfl <| we_ix <| we_var 2 rfl <| we_int <| ixn 0 rfl <| i2 <| And.intro ((h1.b.bp n hn).mulW bu (by decide)) rfl) <| ?_⟩
  refine wa_cons <| we_mul <| we_ix <| we_var 0 rfl <| we_int <| ixn 1 rfl <| we_ix <| we_var 2 rfl <| we_int <| ixn 1 rfl <| i2 <| And.intro (h1.b.bq.mulW bv (by decide)) <| wa_nil <| ⟨true, ps, t1.map (· * u), q, l1 * v, by rw [List.map_map]; rfl, by rw [List.length_map]; omega, hR, fun t ht => ?_, (h1.b.bq.mul bv).le (by decide), b1 <| ⟨fun hb => (nomatch hb), fun hb => wb_nil ?_⟩⟩
  · obtain ⟨n, hn, rfl⟩ := List.mem_map.mp ht
    exact ((h1.b.bp n hn).mul bu).le (by decide)
  refine wb_cons <| ws_set 11 sc.nd <| we_sum M.sum <| wa_cons <| we_new <| wo_lc 8 sc.nd <| wi_rng M.range <| wa_cons <| we_var 7 rfl <| wa_nil <| a1 <| i1 <| And.intro (by rw [List.length_map]; omega) <| lcRM (fun i => .int (t1.getD i 0 * t2.getD i 0)) (by rw [List.length_map]; omega) (fun i hi s h C cl fp => ?_) <| ?_
  · have hi : i < t1.length := by rw [List.length_map] at hi; omega
    exact we_mul <| we_ix <| we_ix <| we_var 0 rfl <| we_int <| ixn 0 rfl <| we_var 8 rfl <| ixa (atI_nat (get_ints (gd hi))) <| we_ix <| we_ix <| we_var 1 rfl <| we_int <| ixn 0 rfl <| we_var 8 rfl <| ixa (atI_nat (get_ints (gd (by omega)))) <| i2 <| And.intro ((h1.b.at i).mulW (h2.b.at i) (by decide)) rfl
  refine wa_nil <| a1 <| ilE (mulT_D (by rw [Int.toNat_natCast, List.length_map])) <| ?_
  refine wb_cons <| ws_if (Vw.refl _) <| wt_not <| wt_val <| we_call FJ (hr.mono (by decide)) <| wa_cons <| we_call F3 (hr.mono (by decide)) <| wa_cons <| we_var 4 rfl <| wa_cons <| we_var 5 rfl <| wa_nil <| ⟨a, a', b, b', t1, t2, l1, l2, rfl, h1.b.le (by decide), h2.b.le (by decide), hlen, fun x y hxy => ?_⟩
  refine wa_cons <| we_var 11 rfl <| wa_cons <| we_mul <| we_ix <| we_var 0 rfl <| we_int <| ixn 1 rfl <| we_ix <| we_var 1 rfl <| we_int <| ixn 1 rfl <| i2 <| And.intro (h1.b.bq.mulW h2.b.bq (by decide)) <| wa_nil <| ⟨x, y, _, _, rfl, hxy, (mulT_bd h1.b h2.b).le (by decide), bll.le (by decide), b1 <| ⟨fun hb => (nomatch hb), fun hb => wb_nil ?_⟩⟩
  refine wb_cons <| ws_ret (Vw.refl _) <| we_and <| we_call FS (hr.mono (by decide)) <| wa_cons <| we_var 4 rfl <| wa_cons <| we_var 0 rfl <| wa_nil <| ⟨a, a', t1, l1, rfl, b1 <| ⟨fun hb => ?_, fun hb => (nomatch hb)⟩⟩
  refine we_and <| we_call FS (hr.mono (by decide)) <| wa_cons <| we_var 5 rfl <| wa_cons <| we_var 1 rfl <| wa_nil <| ⟨b, b', t2, l2, rfl, b1 <| ⟨fun hb => ?_, fun hb => (nomatch hb)⟩⟩
  refine we_one <| we_eqD hr.units <| we_new <| wo_list M.list <| wa_cons <| we_var 6 rfl <| wa_nil <| a1 <| sqk <| we_new <| wo_list M.list <| wa_cons <| we_var 2 rfl <| wa_nil <| a1 <| sqk <| eqP (plB_ints (n := 59) (ns := [u, v])) (plB_ints (n := 59) (ns := [u, v])) fun y hy => ?_
  rw [hy.mpr rfl]
  exact hk
end
end K00
set_option Elab.async false
set_option linter.all false
set_option maxRecDepth 100000
set_option maxHeartbeats 4000000
set_option pp.maxSteps 1500
set_option exponentiation.threshold 50000
namespace K00
open PySem PySem.Spec PyProof.Rows L2 DL


/-! _law_empty(line, factor): slots line=0 factor=1 none=2 told=3; calls row/2 row/1 row_of/1 row_sum/2 _law_fits/3 row_scaled/2 dot/2 _law_just/3 row_items/1 -/
def N__law_empty : List Str := ["line", "factor", "none", "told"]
def fs__law_empty : List Str := ["row", "row", "row_of", "row_sum", "_law_fits", "row_scaled", "dot", "_law_just", "row_items"]
def b__law_empty : Xb := (.cons (.set 2 false [] (.tup (.cons (.tup .nil) (.cons (.int 1) .nil))))
 (.cons (.for_ [0, 3] [] (.nm 3) (.sq (.lst (.cons (.call 0 (.cons (.tup .nil) (.cons (.var 0) .nil))) (.cons (.call 0 (.cons (.lst .nil) (.cons (.neg (.var 0)) .nil))) (.cons (.call 1 (.cons (.lst .nil) .nil)) (.cons (.call 2 (.cons (.tup .nil) .nil)) (.cons (.call 2 (.cons (.lst .nil) .nil)) (.cons (.call 3 (.cons (.var 2) (.cons (.lst (.cons (.lst .nil) (.cons (.int 1) .nil))) .nil))) .nil)))))))) (.cons (.ite [] (.not (.call 4 (.cons (.var 3) (.cons (.lst .nil) (.cons (.int 1) .nil))))) (.cons (.ret [] (.bl false))
 .nil) .nil)
 .nil))
 (.cons (.ite [] (.or (.cons (.not (.call 4 (.cons (.call 5 (.cons (.lst (.cons (.tup .nil) (.cons (.int 1) .nil))) (.cons (.var 1) .nil))) (.cons (.lst .nil) (.cons (.int 1) .nil))))) (.cons (.not (.call 7 (.cons (.call 6 (.cons (.var 2) (.cons (.tup (.cons (.lst .nil) (.cons (.int 1) .nil))) .nil))) (.cons (.int 0) (.cons (.int 1) .nil))))) .nil))) (.cons (.ret [] (.bl false))
 .nil) .nil)
 (.cons (.set 3 false [] (.call 8 (.cons (.var 2) .nil)))
 (.cons (.ret [] (.and (.cons (.isi (.var 3) .tuple) (.cons (.cmp .eq (.bi .len (.cons (.var 3) .nil)) (.int 0)) .nil))))
 .nil)))))


def T_empty : DSp := fun ds kk _ => ∃ line u v : Int, ds = [.int line, pr false u v] ∧ line ≠ 0 ∧ Bd 900 line ∧ 1 ≤ v ∧ Bd 900 u ∧ Bd 900 v ∧ kk (.sh (.bl true))
theorem row_none {l : Int} (hl : l ≠ 0) {ps : List Int} {q : Int} (h : RowIs ps q [] l) : ps = [] ∧ q = 1 := by
  obtain ⟨a, b⟩ := row_zero h hl (fun t ht => by cases ht)
  exact ⟨b, a⟩
theorem six {r : D} {i : Nat} (hi : i < 6) {P : D → Prop} (h : P r) : P ([r, r, r, r, r, r].getD i .non) := by
  match i, hi with
  | 0, _ => exact h
  | 1, _ => exact h
  | 2, _ => exact h
  | 3, _ => exact h
  | 4, _ => exact h
  | 5, _ => exact h
theorem w_empty : Deep [T_row, fun as => T_row (as ++ [.int 1]), T_row_of, T_row_sum, T_fits, T_row_scaled, T_dot, T_just, T_row_items] N__law_empty b__law_empty T_empty := by
  rintro _ kk xx ⟨line, u, v, rfl, hl, bl, hv, bu, bv, hk⟩
  have nt : ∀ {n : Nat}, ∀ t ∈ ([] : List Int), Bd n t := fun t ht => by cases ht
  have b1' : ∀ {n : Nat}, 1 ≤ n → Bd n 1 := fun h => (bd1 0).le h
  have w1 : ∀ {n : Nat}, 1 ≤ n → RwB n [] 1 := fun h => ⟨by decide, b1' h, nt, by decide⟩
  have f1 : RowIs [] 1 [] 1 := ⟨by decide, rfl, rfl, fun i p t h => (by cases h), by decide, fun i p t h => (by cases h)⟩
  refine ⟨false, [], line, rfl, by decide, hl, nt, bl.le (by decide), fun ps q h1 => ?_⟩
  refine ⟨true, [], -line, rfl, by decide, by omega, nt, bl.neg.le (by decide), fun ps2 q2 h2 => ?_⟩
  refine ⟨true, [], 1, rfl, by decide, by decide, nt, b1' (by decide), fun ps3 q3 h3 => ?_⟩
  refine ⟨false, [], rfl, by decide, fun x hx => (by cases hx), Nat.one_lt_two_pow (by decide), fun ps4 q4 h4 => ?_⟩
  refine ⟨true, [], rfl, by decide, fun x hx => (by cases hx), Nat.one_lt_two_pow (by decide), fun ps5 q5 h5 => ?_⟩
  refine ⟨false, false, true, true, [], [], 1, 1, rfl, w1 (by decide), w1 (by decide), rfl, fun ps6 q6 h6 => ?_⟩
  obtain ⟨rfl, rfl⟩ := row_none hl h1
  obtain ⟨rfl, rfl⟩ := row_none (by omega) h2
  obtain ⟨rfl, rfl⟩ := row_none (by decide) h3
  obtain ⟨rfl, rfl⟩ := row_none (by decide) h4
  obtain ⟨rfl, rfl⟩ := row_none (by decide) h5
  obtain ⟨rfl, rfl⟩ := row_none (by decide) h6
  refine ⟨fun i δ => δ = [.no, .sh (pr false u v), .sh (rw_ false false [] 1), .no], rfl, fun i δ1 hi hI => ?_, fun δ1 hI => ?_⟩
  · subst hI
    refine six hi (P := fun d => wpt (.nm 3) d _ _) ?_
    exact ⟨true, [], [], 1, 1, rfl, by decide, f1, nt, b1' (by decide), fun _ => rfl, fun h => nomatch h⟩
  subst hI
  refine ⟨true, false, false, [], 1, u, v, rfl, w1 (by decide), hv, bu.le (by decide), bv.le (by decide), fun ps q h1 => ?_⟩
  obtain ⟨rfl, rfl⟩ := row_none (by omega) h1
  refine ⟨true, [], [], 1, 1, rfl, by decide, f1, nt, b1' (by decide), fun _ => ?_, fun h => nomatch h⟩
  refine ⟨false, false, false, true, [], [], 1, 1, rfl, w1 (by decide), w1 (by decide), rfl, fun p q h => ?_⟩
  refine ⟨p, q, 0, 1, rfl, h, bd0 _, b1' (by decide), fun _ => ?_, fun h => nomatch h⟩
  refine ⟨false, false, [], 1, rfl, by decide, by decide, nt, b1' (by decide), fun rs hr => ?_⟩
  have : rs = [] := List.length_eq_zero_iff.mp hr.1
  subst this
  refine ⟨fun _ => hk, fun h => nomatch h⟩
end K00
set_option Elab.async false
set_option linter.all false
set_option maxRecDepth 100000
set_option maxHeartbeats 4000000
set_option pp.maxSteps 600
set_option exponentiation.threshold 50000
namespace K00
open PySem PySem.Spec PyProof.Rows L2 DL
/-! _law_chain(one, two, factor, steps): slots one=0 two=1 factor=2 steps=3 own=4 value=5 step=6 many=7 k=8 number=9; calls row/2 row_sum/2 _law_lines/2 row_scaled/2 row_items/1 row_of/1 _law_fits/3 -/
def N__law_chain : List Str := ["one", "two", "factor", "steps", "own", "value", "step", "many", "k", "number"]
def fs__law_chain : List Str := ["row", "row_sum", "_law_lines", "row_scaled", "row_items", "row_of", "_law_fits"]
def b__law_chain : Xb := (.cons (.set 4 false [] (.var 0))
 (.cons (.set 5 false [] (.call 0 (.cons (.ixn (.var 0) 0) (.cons (.ixn (.var 0) 1) .nil))))
 (.cons (.for_ [0, 3, 6, 7, 8, 9] [] (.nm 6) (.sq (.var 3)) (.cons (.itj [0, 3, 6, 7, 8, 9] [] (.or (.cons (.cmp .eq (.var 6) (.int 0)) (.cons (.cmp .eq (.var 6) (.int 1)) .nil))) (.cons (.set 5 false [] (.ite (.cmp .eq (.var 6) (.int 0)) (.call 1 (.cons (.var 5) (.cons (.var 1) .nil))) (.call 1 (.cons (.var 1) (.cons (.var 5) .nil)))))
 (.cons (.set 7 false [] (.bi .len (.cons (.ixn (.var 4) 0) .nil)))
 (.cons (.set 4 false [] (.call 2 (.cons (.lc 8 (.bin .add (.bin .mul (.ix (.ixn (.var 4) 0) (.var 8)) (.ixn (.var 1) 1)) (.bin .mul (.ix (.ixn (.var 1) 0) (.var 8)) (.ixn (.var 4) 1))) (.rng (.var 7))) (.cons (.bin .mul (.ixn (.var 4) 1) (.ixn (.var 1) 1)) .nil))))
 .nil))) (.cons (.ite [] (.cmp .eq (.var 6) (.int 2)) (.cons (.set 5 false [] (.call 3 (.cons (.var 5) (.cons (.var 2) .nil))))
 (.cons (.set 4 false [] (.call 2 (.cons (.lc 9 (.bin .mul (.var 9) (.ixn (.var 2) 0)) (.sq (.ixn (.var 4) 0))) (.cons (.bin .mul (.ixn (.var 4) 1) (.ixn (.var 2) 1)) .nil))))
 .nil)) (.cons (.set 5 false [] (.call 5 (.cons (.call 4 (.cons (.var 5) .nil)) .nil)))
 .nil))
 .nil))
 (.cons (.ite [] (.not (.call 6 (.cons (.var 5) (.cons (.ixn (.var 4) 0) (.cons (.ixn (.var 4) 1) .nil))))) (.cons (.ret [] (.bl false))
 .nil) .nil)
 .nil)))
 (.cons (.ret [] (.bl true))
 .nil))))

theorem RatIs.bot_dvd {p q u v : Int} (h : RatIs p q u v) : q.natAbs ∣ v.natAbs := by
  have h1 : q.natAbs ∣ p.natAbs * v.natAbs := by
    rw [← Int.natAbs_mul, h.eq, Int.natAbs_mul]
    exact Nat.dvd_mul_left _ _
  exact (Nat.Coprime.dvd_of_dvd_mul_left (by rw [Nat.Coprime, Nat.gcd_comm]; exact h.gcd) h1)
/-- ratios of the same numbers make the same row -/
theorem row_back {its : List (Bool × Int × Int)} {tops ps ps' : List Int} {line q q' : Int} {L : Nat} (hL : 0 < L) (hl : line ≠ 0) (hlen : its.length = tops.length) (hr : ∀ (i : Nat) x t, its[i]? = some x → tops[i]? = some t → RatIs x.2.1 x.2.2 t line)
    (hd : ∀ x ∈ its, x.2.2.natAbs ∣ L) (h : RowIs ps q (overL its L) (L : Int)) (h' : RowIs ps' q' tops line) : ps = ps' ∧ q = q' := by
  refine h.uniq h' (by omega) hl (by unfold overL; rw [List.length_map]; exact hlen) fun i t t' e1 e2 => ?_
  unfold overL at e1
  rw [List.getElem?_map] at e1
  cases ex : its[i]? with
  | none => rw [ex] at e1; cases e1
  | some x =>
    rw [ex] at e1
    cases e1
    have r := hr i x t' ex e2
    obtain ⟨c, hc⟩ := hd x (List.mem_of_getElem? ex)
    have hp := r.pos
    have eL : (L : Int) = x.2.2 * (c : Int) := by
      have : x.2.2 = ((x.2.2.natAbs : Nat) : Int) := by omega
      rw [this, ← Int.natCast_mul, ← hc]
    show x.2.1 * ((L : Int) / x.2.2) * line = _
    rw [eL, Int.mul_ediv_cancel_left _ (by omega), Int.mul_right_comm, r.eq, Int.mul_assoc]
theorem bots_lcm {its : List (Bool × Int × Int)} {m : Nat} (h : ∀ x ∈ its, x.2.2.natAbs ∣ m) (hm : 0 < m) : lcmL 1 (botsL its) ∣ m := lcmL_dvd (Nat.one_dvd _) fun b hb => by
  obtain ⟨x, hx, rfl⟩ := List.mem_map.mp hb
  exact h x hx
theorem bots_mem {its : List (Bool × Int × Int)} {x : Bool × Int × Int} (h : x ∈ its) : x.2.2.natAbs ∣ lcmL 1 (botsL its) := mem_lcmL (List.mem_map.mpr ⟨x, h, rfl⟩)
theorem sumT_comm {t1 t2 : List Int} {l1 l2 : Int} (h : t1.length = t2.length) : sumT t1 l1 t2 l2 = sumT t2 l2 t1 l1 := by
  unfold sumT
  rw [h]
  exact List.map_congr_left fun i _ => Int.add_comm _ _
/-- row_of(row_items(row)) is the row -/
theorem T_row_of_items {ps : List Int} {q : Int} {n : Nat} (h : RwOk n ps q) (hn : n ≤ 2900) {rs : List (Int × Int)} (hr : Rats rs ps q) (l b : Bool) {kk : S → Prop} {xx : XD} (hk : kk (.sh (rw_ false false ps q))) : T_row_of [.sq l (rs.map fun r => pr b r.1 r.2)] kk xx := by
  have hq := h.b.pos
  have rat : ∀ (i : Nat) x t, (rs.map fun r => (b, r.1, r.2))[i]? = some x → ps[i]? = some t → RatIs x.2.1 x.2.2 t q := fun i x t e1 e2 => by
    rw [List.getElem?_map] at e1
    cases er : rs[i]? with
    | none => rw [er] at e1; cases e1
    | some r => rw [er] at e1; cases e1; exact hr.2 i r t er e2
  have all : ∀ x ∈ rs.map (fun r => (b, r.1, r.2)), ∃ t, Bd n t ∧ RatIs x.2.1 x.2.2 t q := fun x hx => by
    obtain ⟨i, hi⟩ := List.mem_iff_getElem?.mp hx
    have h1 := (List.getElem?_eq_some_iff.mp hi).1
    rw [List.length_map, hr.1] at h1
    exact ⟨ps[i], h.b.bp _ (List.getElem_mem h1), rat i x _ hi (List.getElem?_eq_getElem h1)⟩
  have dv : ∀ x ∈ rs.map (fun r => (b, r.1, r.2)), x.2.2.natAbs ∣ q.natAbs := fun x hx => by
    obtain ⟨t, _, r⟩ := all x hx
    exact r.bot_dvd
  have lq := Nat.le_of_dvd (by omega) (bots_lcm dv (by omega))
  have lp : 0 < lcmL 1 (botsL (rs.map fun r => (b, r.1, r.2))) := lcmL_pos (by decide) fun c hc => by
    obtain ⟨x, hx, rfl⟩ := List.mem_map.mp hc
    obtain ⟨t, _, r⟩ := all x hx
    exact r.pos
  refine ⟨l, rs.map fun r => (b, r.1, r.2), by rw [List.map_map]; rfl, by rw [List.length_map, hr.1]; have := h.b.len; omega, fun x hx => ?_, ?_, fun ps' q' hR => ?_⟩
  · obtain ⟨t, bt, r⟩ := all x hx
    exact ⟨r.pos, (Bd.of_le bt r.lp).le hn⟩
  · have := h.b.bq.le hn
    exact Nat.lt_of_le_of_lt lq this
  · obtain ⟨rfl, rfl⟩ := row_back lp (by omega) (by rw [List.length_map, hr.1]) rat (fun x hx => bots_mem hx) hR h.self
    exact hk
def T_chain : DSp := fun ds kk _ => ∃ (t1 t2 steps : List Int) (l1 l2 u v : Int) (n : Nat), ds = [rw_ false false t1 l1, rw_ false false t2 l2, pr false u v, .sq true (steps.map .int)] ∧ RwOk n t1 l1 ∧ RwOk n t2 l2 ∧ t2.length = t1.length ∧ 1 ≤ v ∧ Bd n u ∧ Bd n v ∧ (n + 1) * (steps.length + 1) ≤ 2800 ∧ 4 ≤ n ∧ kk (.sh (.bl true))
theorem w_chain : Deep [T_row, T_row_sum, T_lines, T_row_scaled, T_row_items, T_row_of, T_fits] N__law_chain b__law_chain T_chain := by
  rintro _ kk xx ⟨t1, t2, steps, l1, l2, u, v, n, rfl, h1, h2, hlen, hv, bu, bv, hn, hn4, hk⟩
  have nle : ∀ {m : Nat}, m ≤ steps.length + 1 → (n + 1) * m ≤ 2800 := fun {m} h => Nat.le_trans (Nat.mul_le_mul_left _ h) hn
  have n1 : n ≤ 2800 := by have := nle (m := 1) (by omega); omega
  refine ⟨false, t1, l1, rfl, by have := h1.b.len; omega, by have := h1.b.pos; omega, fun t ht => (h1.b.bp t ht).le (by omega), h1.b.bq.le (by omega), fun ps q hR => ?_⟩
  obtain ⟨rfl, rfl⟩ := hR.uniq h1.self (by have := h1.b.pos; omega) (by have := h1.b.pos; omega) rfl fun i a b e1 e2 => by rw [e1] at e2; cases e2; rfl
  refine ⟨fun i δ => ∃ a b, δ = [.no, .sh (rw_ false false t2 l2), .sh (pr false u v), .no, .sh (rw_ false false a b), .sh (rw_ false false a b), .no, .no, .no, .no] ∧ RwOk ((n + 1) * (i + 1)) a b ∧ a.length = t2.length, ⟨ps, q, rfl, h1.le (by omega), hlen.symm⟩, fun i δ1 hi hI => ?_, fun δ1 hI => ?_⟩
  · obtain ⟨a, b, rfl, hab, hla⟩ := hI
    rw [List.length_map] at hi
    have e0 : (steps.map D.int).getD i .non = .int steps[i] := by rw [List.getD_eq_getElem?_getD, List.getElem?_map, List.getElem?_eq_getElem hi]; rfl
    have key : ∀ {P : D → Prop} {d : D}, d = .int steps[i] → P (.int steps[i]) → P d := fun e h => by rw [e]; exact h
    refine key (P := fun d => wpt (.nm 6) d _ _) e0 ?_
    generalize steps[i] = s
    have hm := nle (m := i + 1) (by omega)
    have hm2 := nle (m := i + 2) (by omega)
    have e2 : (n + 1) * (i + 2) = (n + 1) * (i + 1) + (n + 1) := by rw [Nat.mul_add, Nat.mul_add]; omega
    generalize hN : (n + 1) * (i + 1) = N at *
    have hNn : n + 1 ≤ N := by rw [← hN]; exact Nat.le_mul_of_pos_right _ (by omega)
    have hab9 : RwB 2900 a b := hab.b.le (by omega)
    have h29 : RwB 2900 t2 l2 := h2.b.le (by omega)
    refine join (fun δ => ∃ a b, δ = [.no, .sh (rw_ false false t2 l2), .sh (pr false u v), .no, .sh (rw_ false false a b), .sh (rw_ false false a b), .no, .no, .no, .no] ∧ RwOk (N + (n + 1)) a b ∧ a.length = t2.length) ?_ ?_
    · refine (fun Y => ⟨fun _ => Y, fun _ => ⟨fun _ => Y, fun _ => ?nn⟩⟩) ?yy
      case nn =>
        refine ⟨fun _ => ?_, fun _ => ?_⟩
        · refine ⟨false, false, false, a, b, u, v, rfl, hab9, hv, bu.le (by omega), bv.le (by omega), fun p q hR => ?_⟩
          refine lcw .int (fun t => .int (t * u)) (by have := hab.b.len; omega) (fun t ht => ⟨(hab.b.bp t ht).mulW bu (by omega), rfl⟩) ?_
          have bt : ∀ t ∈ a.map (· * u), Bd (N + n) t := fun t ht => by
            obtain ⟨x, hx, rfl⟩ := List.mem_map.mp ht
            exact (hab.b.bp x hx).mul bu
          refine ⟨hab.b.bq.mulW bv (by omega), true, a.map (· * u), b * v, by rw [List.map_map]; rfl, by rw [List.length_map]; have := hab.b.len; omega, mul_ne hab.b.pos hv, fun t ht => (bt t ht).le (by omega), (hab.b.bq.mul bv).le (by omega), fun p' q' hR' => ?_⟩
          have hne := mul_ne hab.b.pos hv
          obtain ⟨rfl, rfl⟩ := hR.uniq hR' hne hne rfl fun i a b e1 e2 => by rw [e1] at e2; cases e2; rfl
          exact ⟨p, q, rfl, (hR.ok bt (hab.b.bq.mul bv) (by rw [List.length_map]; exact hab.b.len)).le (by omega), by rw [hR.len, List.length_map]; exact hla⟩
        · refine ⟨false, false, a, b, rfl, by have := hab.b.len; omega, hab.b.pos, fun p hp => (hab.b.bp p hp).le (by omega), hab.b.bq.le (by omega), fun rs hr => ?_⟩
          refine ⟨T_row_of_items hab (by omega) hr false false ?_⟩
          exact ⟨a, b, rfl, hab.le (by omega), hla⟩
      case yy =>
        have Z : ∀ {K : S → Prop} {X' : XD}, (∀ p q, RowIs p q (sumT a b t2 l2) (b * l2) → K (.sh (rw_ false false p q))) → (s = 0 → CallW T_row_sum [rw_ false false a b, rw_ false false t2 l2] K X') ∧ (s ≠ 0 → CallW T_row_sum [rw_ false false t2 l2, rw_ false false a b] K X') := fun z =>
          ⟨fun _ => ⟨false, false, false, false, a, t2, b, l2, rfl, hab9, h29, hla.symm, z⟩, fun _ => ⟨false, false, false, false, t2, a, l2, b, rfl, h29, hab9, hla, fun p q hR => z p q (by rw [sumT_comm hla, Int.mul_comm]; exact hR)⟩⟩
        refine Z ?_
        intro p q hR
        have bt : ∀ t ∈ sumT a b t2 l2, Bd (N + (n + 1)) t := fun t ht => by
          obtain ⟨j, hj, rfl⟩ := List.mem_map.mp ht
          exact ((hab.b.at j).mul h2.b.bq).add ((h2.b.at j).mul hab.b.bq) (by omega) (by omega)
        refine ⟨by have := hab.b.len; rw [List.length_map]; omega, ?_⟩
        refine lcw_rng (fun j => .int (a.getD j 0 * l2 + t2.getD j 0 * b)) ?_ (fun j hj => ?_) ?_
        · rw [Int.toNat_natCast, List.length_map]; have := hab.b.len; omega
        · rw [Int.toNat_natCast, List.length_map] at hj
          exact ⟨_, atI_nat (get_ints (gd hj)), (hab.b.at j).mulW h2.b.bq (by omega), _, atI_nat (get_ints (gd (by omega))), (h2.b.at j).mulW hab.b.bq (by omega), rfl⟩
        · have hne := mul_ne hab.b.pos h2.b.pos
          refine ⟨hab.b.bq.mulW h2.b.bq (by omega), true, sumT a b t2 l2, b * l2, by rw [← sumT_D (n := (((a.map D.int).length : Nat) : Int).toNat) (by rw [Int.toNat_natCast, List.length_map])]; rfl, by rw [sumT_len]; have := hab.b.len; omega, hne, fun t ht => (bt t ht).le (by omega), (hab.b.bq.mul h2.b.bq).le (by omega), fun p' q' hR' => ?_⟩
          obtain ⟨rfl, rfl⟩ := hR.uniq hR' hne hne rfl fun i a b e1 e2 => by rw [e1] at e2; cases e2; rfl
          exact ⟨p, q, rfl, (hR.ok bt ((hab.b.bq.mul h2.b.bq).le (by omega)) (by rw [sumT_len]; exact hab.b.len)).le (by omega), by rw [hR.len, sumT_len]; exact hla⟩
    · rintro δ ⟨p, q, rfl, hpq, hl⟩
      refine ⟨false, p, p, q, q, rfl, by have := hpq.b.len; omega, hpq.self, fun t ht => (hpq.b.bp t ht).le (by omega), hpq.b.bq.le (by omega), fun _ => ⟨p, q, rfl, ?_, hl⟩, fun h => nomatch h⟩
      rw [e2]; exact hpq
  · obtain ⟨a, b, rfl, hab, hla⟩ := hI
    exact hk
end K00
set_option Elab.async false
set_option linter.all false
set_option maxRecDepth 100000
set_option maxHeartbeats 4000000
set_option pp.maxSteps 600
set_option exponentiation.threshold 50000
namespace K00
open PySem PySem.Spec PyProof.Rows L2 DL
/-! _law_made(tops, line, common, how): slots tops=0 line=1 common=2 how=3 value=4 number=5 held=6 again=7 items=8 one=9 passed=10 told=11 k=12; calls row/2 _law_fits/3 row/1 _law_pair/2 row_of/1 _law_form/2 row_items/1 _law_just/3 row_item/2 -/
def N__law_made : List Str := ["tops", "line", "common", "how", "value", "number", "held", "again", "items", "one", "passed", "told", "k"]
def fs__law_made : List Str := ["row", "_law_fits", "row", "_law_pair", "row_of", "_law_form", "row_items", "_law_just", "row_item"]
def b__law_made : Xb := (.cons (.set 4 false [] (.call 0 (.cons (.bi .list (.cons (.var 0) .nil)) (.cons (.var 1) .nil))))
 (.cons (.ite [] (.or (.cons (.not (.call 1 (.cons (.var 4) (.cons (.var 0) (.cons (.var 1) .nil))))) (.cons (.not (.call 1 (.cons (.call 2 (.cons (.bi .tuple (.cons (.var 0) .nil)) .nil)) (.cons (.var 0) (.cons (.int 1) .nil))))) .nil))) (.cons (.ret [] (.bl false))
 .nil) .nil)
 (.cons (.set 6 false [] (.lc 5 (.bin .mul (.var 5) (.var 2)) (.sq (.var 0))))
 (.cons (.set 7 false [] (.call 0 (.cons (.var 6) (.cons (.bin .mul (.var 1) (.var 2)) .nil))))
 (.cons (.ite [] (.or (.cons (.not (.call 1 (.cons (.var 7) (.cons (.var 0) (.cons (.var 1) .nil))))) (.cons (.cmp .ne (.var 7) (.var 4)) (.cons (.cmp .ne (.var 6) (.lc 5 (.bin .mul (.var 5) (.var 2)) (.sq (.var 0)))) .nil)))) (.cons (.ret [] (.bl false))
 .nil) .nil)
 (.cons (.ite [] (.cmp .ne (.call 0 (.cons (.bi .tuple (.cons (.lc 5 (.neg (.var 5)) (.sq (.var 0))) .nil)) (.cons (.neg (.var 1)) .nil))) (.var 4)) (.cons (.ret [] (.bl false))
 .nil) .nil)
 (.cons (.set 8 false [] (.lc 5 (.call 3 (.cons (.var 5) (.cons (.var 1) .nil))) (.sq (.var 0))))
 (.cons (.set 10 false [] (.lc 9 (.bi .list (.cons (.var 9) .nil)) (.sq (.var 8))))
 (.cons (.set 7 false [] (.call 4 (.cons (.var 10) .nil)))
 (.cons (.ite [] (.or (.cons (.not (.call 1 (.cons (.var 7) (.cons (.var 0) (.cons (.var 1) .nil))))) (.cons (.cmp .ne (.var 7) (.var 4)) (.cons (.cmp .ne (.call 4 (.cons (.bi .tuple (.cons (.var 8) .nil)) .nil)) (.var 4)) .nil)))) (.cons (.ret [] (.bl false))
 .nil) .nil)
 (.cons (.set 11 false [] (.call 6 (.cons (.call 5 (.cons (.var 4) (.cons (.var 3) .nil))) .nil)))
 (.cons (.ite [] (.or (.cons (.not (.isi (.var 11) .tuple)) (.cons (.cmp .ne (.bi .len (.cons (.var 11) .nil)) (.bi .len (.cons (.var 0) .nil))) .nil))) (.cons (.ret [] (.bl false))
 .nil) .nil)
 (.cons (.for_ [2, 5, 6, 7, 9, 12] [] (.nm 12) (.rng (.bi .len (.cons (.var 0) .nil))) (.cons (.ite [] (.or (.cons (.not (.call 7 (.cons (.ix (.var 11) (.var 12)) (.cons (.ix (.var 0) (.var 12)) (.cons (.var 1) .nil))))) (.cons (.not (.call 7 (.cons (.call 8 (.cons (.call 5 (.cons (.var 4) (.cons (.var 3) .nil))) (.cons (.var 12) .nil))) (.cons (.ix (.var 0) (.var 12)) (.cons (.var 1) .nil))))) .nil))) (.cons (.ret [] (.bl false))
 .nil) .nil)
 (.cons (.ite [] (.cmp .ne (.ix (.var 10) (.var 12)) (.lst (.cons (.ixn (.ix (.var 8) (.var 12)) 0) (.cons (.ixn (.ix (.var 8) (.var 12)) 1) .nil)))) (.cons (.ret [] (.bl false))
 .nil) .nil)
 .nil)))
 (.cons (.ret [] (.and (.cons (.cmp .eq (.call 4 (.cons (.var 11) .nil)) (.var 4)) (.cons (.cmp .eq (.call 4 (.cons (.bi .list (.cons (.var 11) .nil)) .nil)) (.var 4)) .nil))))
 .nil))))))))))))))
/-- row_of of ratios of tops over line -/
theorem T_row_of_rats {n : Nat} {tops ps : List Int} {q line : Int} {rs : List (Int × Int)} (hl : line ≠ 0) (hlen : tops.length ≤ 1000) (bt : ∀ t ∈ tops, Bd n t) (bl : Bd n line) (hn : n ≤ 2900) (hR : RowIs ps q tops line) (hr : Rats rs tops line) (l b : Bool) {kk : S → Prop} {xx : XD} (hk : kk (.sh (rw_ false false ps q))) : T_row_of [.sq l (rs.map fun r => pr b r.1 r.2)] kk xx := by
  have rat : ∀ (i : Nat) x t, (rs.map fun r => (b, r.1, r.2))[i]? = some x → tops[i]? = some t → RatIs x.2.1 x.2.2 t line := fun i x t e1 e2 => by
    rw [List.getElem?_map] at e1
    cases er : rs[i]? with
    | none => rw [er] at e1; cases e1
    | some r => rw [er] at e1; cases e1; exact hr.2 i r t er e2
  have all : ∀ x ∈ rs.map (fun r => (b, r.1, r.2)), ∃ t, Bd n t ∧ RatIs x.2.1 x.2.2 t line := fun x hx => by
    obtain ⟨i, hi⟩ := List.mem_iff_getElem?.mp hx
    have h1 := (List.getElem?_eq_some_iff.mp hi).1
    rw [List.length_map, hr.1] at h1
    exact ⟨tops[i], bt _ (List.getElem_mem h1), rat i x _ hi (List.getElem?_eq_getElem h1)⟩
  have dv : ∀ x ∈ rs.map (fun r => (b, r.1, r.2)), x.2.2.natAbs ∣ line.natAbs := fun x hx => by
    obtain ⟨t, _, r⟩ := all x hx
    exact r.bot_dvd
  have lq := Nat.le_of_dvd (by omega) (bots_lcm dv (by omega))
  have lp : 0 < lcmL 1 (botsL (rs.map fun r => (b, r.1, r.2))) := lcmL_pos (by decide) fun c hc => by
    obtain ⟨x, hx, rfl⟩ := List.mem_map.mp hc
    obtain ⟨t, _, r⟩ := all x hx
    exact r.pos
  refine ⟨l, rs.map fun r => (b, r.1, r.2), by rw [List.map_map]; rfl, by rw [List.length_map, hr.1]; exact hlen, fun x hx => ?_, ?_, fun ps' q' hR' => ?_⟩
  · obtain ⟨t, bt, r⟩ := all x hx
    exact ⟨r.pos, (Bd.of_le bt r.lp).le hn⟩
  · exact Nat.lt_of_le_of_lt lq (bl.le hn)
  · obtain ⟨rfl, rfl⟩ := row_back lp hl (by rw [List.length_map, hr.1]) rat (fun x hx => bots_mem hx) hR' hR
    exact hk
theorem Rats.uniq {rs rs' : List (Int × Int)} {ps ts : List Int} {q l : Int} (h : Rats rs ps q) (h' : Rats rs' ts l) (hq : q ≠ 0) (hl : l ≠ 0) (hlen : ps.length = ts.length) (e : ∀ (i : Nat) p t, ps[i]? = some p → ts[i]? = some t → p * l = t * q) : rs = rs' := by
  refine List.ext_getElem? fun i => ?_
  by_cases hi : i < rs.length
  · have a := List.getElem?_eq_getElem hi
    have h2 : i < rs'.length := by rw [h'.1, ← hlen, ← h.1]; exact hi
    have b := List.getElem?_eq_getElem h2
    have c := List.getElem?_eq_getElem (show i < ps.length by rw [← h.1]; exact hi)
    have d := List.getElem?_eq_getElem (show i < ts.length by rw [← h'.1]; exact h2)
    obtain ⟨x, y⟩ := RatIs.uniq (h.2 i _ _ a c) (h'.2 i _ _ b d) (e i _ _ c d) hq hl
    rw [a, b]
    exact congrArg some (Prod.ext x y)
  · rw [List.getElem?_eq_none (by omega), List.getElem?_eq_none (by rw [h'.1, ← hlen, ← h.1]; omega)]
/-- ratios made one by one -/
theorem rats_of {tops : List Int} {line : Int} {es : List D} (h : Each (fun d e => ∃ t, d = .int t ∧ ∃ x : Int × Int, e = prD x ∧ RatIs x.1 x.2 t line) (tops.map .int) es) : ∃ rs, es = rs.map prD ∧ Rats rs tops line := by
  obtain ⟨hl, he⟩ := h
  rw [List.length_map] at hl
  have h1 : EachN (fun i e => ∃ x : Int × Int, e = prD x ∧ ∀ t, tops[i]? = some t → RatIs x.1 x.2 t line) tops.length es := ⟨hl.symm, fun i e hi => by
    have h2 : i < tops.length := by rw [hl]; exact (List.getElem?_eq_some_iff.mp hi).1
    obtain ⟨t, e1, x, e2, r⟩ := he i (.int tops[i]) e (by rw [List.getElem?_map, List.getElem?_eq_getElem h2]; rfl) hi
    cases e1
    refine ⟨x, e2, fun t ht => ?_⟩
    rw [List.getElem?_eq_getElem h2] at ht
    cases ht; exact r⟩
  obtain ⟨xs, a, b, c⟩ := each_ex h1
  exact ⟨xs, b, a, fun i r t e1 e2 => c i r e1 t e2⟩
def T_made : DSp := fun ds kk _ => ∃ (tops : List Int) (line common how : Int), ds = [.sq true (tops.map .int), .int line, .int common, .int how] ∧ tops.length ≤ 100 ∧ line ≠ 0 ∧ 1 ≤ common ∧ (∀ t ∈ tops, Bd 900 t) ∧ Bd 900 line ∧ Bd 900 common ∧ kk (.sh (.bl true))
theorem plRt {rs : List (Int × Int)} {l : Bool} : plB 60 (pr l 0 0) = true := by rfl
theorem w_made : Deep [T_row, T_fits, fun as => T_row (as ++ [.int 1]), T_pair, T_row_of, T_form, T_row_items, T_just, T_row_item] N__law_made b__law_made T_made := by
  rintro _ kk xx ⟨tops, line, common, how, rfl, hlen, hl, hc, bt, bl, bc, hk⟩
  have bt9 : ∀ {m}, 900 ≤ m → ∀ t ∈ tops, Bd m t := fun h t ht => (bt t ht).le h
  have b1 : ∀ {m : Nat}, 1 ≤ m → Bd m 1 := fun h => (bd1 0).le h
  refine ⟨true, tops, line, rfl, by omega, hl, bt9 (by decide), bl.le (by decide), fun ps q h1 => ?_⟩
  have hq := h1.pos
  have ok : RwOk 900 ps q := h1.ok bt bl hlen
  refine ⟨true, ps, tops, q, line, rfl, by omega, h1, bt9 (by decide), bl.le (by decide), fun _ => ?_, fun h => nomatch h⟩
  refine ⟨false, tops, 1, rfl, by omega, by decide, bt9 (by decide), b1 (by decide), fun ps2 q2 h2 => ?_⟩
  refine ⟨true, ps2, tops, q2, 1, rfl, by omega, h2, bt9 (by decide), b1 (by decide), fun _ => ?_, fun h => nomatch h⟩
  refine lcw .int (fun t => .int (t * common)) (by omega) (fun t ht => ⟨(bt t ht).mulW bc (by omega), rfl⟩) ?_
  have hlc : line * common ≠ 0 := fun z => by
    rcases Int.mul_eq_zero.mp z with z | z
    · exact hl z
    · omega
  have btc : ∀ t ∈ tops.map (· * common), Bd 1800 t := fun t ht => by
    obtain ⟨x, hx, rfl⟩ := List.mem_map.mp ht
    exact (bt x hx).mul bc
  have eh : (tops.map fun t => D.int (t * common)) = (tops.map (· * common)).map .int := by rw [List.map_map]; rfl
  refine ⟨bl.mulW bc (by omega), true, tops.map (· * common), line * common, by rw [← eh]; rfl, by rw [List.length_map]; omega, hlc, fun t ht => (btc t ht).le (by decide), (bl.mul bc).le (by decide), fun ps3 q3 h3 => ?_⟩
  obtain ⟨rfl, rfl⟩ := h3.uniq h1 hlc hl (by rw [List.length_map]) fun i a b e1 e2 => by
    rw [List.getElem?_map, e2] at e1
    cases e1
    show b * common * line = b * (line * common)
    ac_rfl
  refine ⟨true, ps3, tops, q3, line, rfl, by omega, h1, bt9 (by decide), bl.le (by decide), fun _ => ?_, fun h => nomatch h⟩
  refine ⟨⟨plR, plR⟩, fun _ => ?_, fun h => absurd rfl h⟩
  refine lcw .int (fun t => .int (t * common)) (by omega) (fun t ht => ⟨(bt t ht).mulW bc (by omega), rfl⟩) ?_
  refine ⟨⟨by rw [eh]; exact plB_ints, by rw [eh]; exact plB_ints⟩, fun _ => ?_, fun h => absurd rfl h⟩
  refine lcw .int (fun t => .int (-t)) (by omega) (fun t ht => rfl) ?_
  refine ⟨false, tops.map (fun t => -t), -line, by rw [List.map_map]; rfl, by rw [List.length_map]; omega, by omega, fun t ht => ?_, bl.neg.le (by decide), fun ps4 q4 h4 => ?_⟩
  · obtain ⟨x, hx, rfl⟩ := List.mem_map.mp ht
    exact (bt x hx).neg.le (by decide)
  obtain ⟨rfl, rfl⟩ := h4.neg.uniq h1 hl hl rfl fun i a b e1 e2 => by rw [e1] at e2; cases e2; rfl
  refine ⟨⟨plR, plR⟩, fun _ => ?_, fun h => absurd rfl h⟩
  refine lcw_d (ds := tops.map .int) (fun d e => ∃ t, d = .int t ∧ ∃ x : Int × Int, e = prD x ∧ RatIs x.1 x.2 t line) (by rw [List.length_map]; omega) (fun d hd => ?_) fun es he => ?_
  · obtain ⟨t, ht, rfl⟩ := List.mem_map.mp hd
    exact ⟨t, line, rfl, hl, (bt t ht).le (by decide), bl.le (by decide), fun p q hR => ⟨t, rfl, (p, q), rfl, hR⟩⟩
  obtain ⟨rs, rfl, hr⟩ := rats_of he
  have hrl : rs.length ≤ 100 := by rw [hr.1]; exact hlen
  refine lcw prD (fun x => pr true x.1 x.2) (by omega) (fun x hx => rfl) ?_
  refine T_row_of_rats (n := 900) hl (by omega) bt bl (by decide) h1 hr true true ?_ |> fun z => ⟨z⟩
  refine ⟨true, ps4, tops, q4, line, rfl, by omega, h1, bt9 (by decide), bl.le (by decide), fun _ => ?_, fun h => nomatch h⟩
  refine ⟨⟨plR, plR⟩, fun _ => ?_, fun h => absurd rfl h⟩
  refine T_row_of_rats (n := 900) hl (by omega) bt bl (by decide) h1 hr false false ?_ |> fun z => ⟨z⟩
  refine ⟨⟨plR, plR⟩, fun _ => ?_, fun h => absurd rfl h⟩
  refine ⟨ps4, q4, how, rfl, fun l l' => ?_⟩
  refine ⟨l, l', ps4, q4, rfl, by have := ok.b.len; omega, hq, fun p hp => (ok.b.bp p hp).le (by decide), ok.b.bq.le (by decide), fun rs' hr' => ?_⟩
  obtain rfl := hr'.uniq hr (by omega) hl h1.len h1.eq
  have en : rs'.length = tops.length := hr.1
  have ro : ∀ {l b : Bool} {kk : S → Prop} {xx : XD}, kk (.sh (rw_ false false ps4 q4)) → T_row_of [.sq l (rs'.map fun r => pr b r.1 r.2)] kk xx := fun h => T_row_of_rats (n := 900) hl (by omega) bt bl (by decide) h1 hr _ _ h
  refine ⟨fun _ => ?_, fun h => absurd (by rw [List.length_map, List.length_map, en]) h⟩
  refine ⟨by rw [List.length_map]; omega, fun i δ => δ = [.sh (.sq true (tops.map .int)), .sh (.int line), .no, .sh (.int how), .sh (rw_ false false ps4 q4), .no, .no, .no, .sh (.sq true (rs'.map prD)), .no, .sh (.sq true (rs'.map fun x => pr true x.1 x.2)), .sh (.sq false (rs'.map prD)), .no], rfl, fun i δ1 hi hI => ?_, fun δ1 hI => ?_⟩
  · subst hI
    rw [Int.toNat_natCast, List.length_map] at hi
    have hi2 : i < rs'.length := by rw [en]; exact hi
    have gt := gd hi
    have gr := List.getElem?_eq_getElem hi2
    have at1 : atI (tops.map D.int) (i : Int) = some (.int (tops.getD i 0)) := atI_nat (get_ints gt)
    have at2 : atI (rs'.map prD) (i : Int) = some (prD rs'[i]) := atI_nat (by rw [List.getElem?_map, gr]; rfl)
    have at3 : atI (rs'.map fun x => pr true x.1 x.2) (i : Int) = some (pr true rs'[i].1 rs'[i].2) := atI_nat (by rw [List.getElem?_map, gr]; rfl)
    have hx := hr.2 i _ _ gr gt
    have bti := bt _ (List.mem_of_getElem? gt)
    refine ⟨_, at2, _, at1, _, _, _, _, rfl, hx, bti.le (by decide), bl.le (by decide), fun _ => ?_, fun h => nomatch h⟩
    refine ⟨ps4, q4, how, rfl, fun l l' => ?_⟩
    have hip : i < ps4.length := by rw [h1.len]; exact hi
    refine ⟨l, l', ps4, q4, i, _, rfl, gd hip, hq, (ok.b.at i).le (by decide), ok.b.bq.le (by decide), fun u v huv => ?_⟩
    refine ⟨_, at1, u, v, _, line, rfl, RatIs.of huv.pos huv.gcd ?_ hl, bti.le (by decide), bl.le (by decide), fun _ => ?_, fun h => nomatch h⟩
    · have e1 := huv.eq
      have e2 := h1.eq i _ _ (gd hip) gt
      have k : u * line * q4 = tops.getD i 0 * v * q4 := by
        calc u * line * q4 = (u * q4) * line := by ac_rfl
          _ = (ps4.getD i 0 * line) * v := by rw [e1]; ac_rfl
          _ = tops.getD i 0 * v * q4 := by rw [e2]; ac_rfl
      exact Int.eq_of_mul_eq_mul_right (by omega) k
    refine ⟨_, at3, _, at2, _, at2, ⟨rfl, rfl⟩, fun _ => rfl, fun h => absurd rfl h⟩
  · subst hI
    refine ro ?_ |> fun z => ⟨z⟩
    refine ⟨⟨plR, plR⟩, fun b hb => ⟨fun _ => ?_, fun h => ?_⟩⟩
    · refine ro ?_ |> fun z => ⟨z⟩
      refine ⟨⟨plR, plR⟩, fun b hb => ?_⟩
      have : b = true := hb.mpr rfl
      rw [this]; exact hk
    · rw [hb.mpr rfl] at h; cases h
end K00
set_option Elab.async false
set_option linter.all false
set_option maxRecDepth 100000
set_option maxHeartbeats 4000000
set_option pp.maxSteps 600
set_option exponentiation.threshold 50000
namespace K00
open PySem PySem.Spec PyProof.Rows L2 DL
/-! law(script): slots script=0 head=1 large=2 many=3 most=4 tops=5 line=6 other=7 down=8 factor=9 common=10 place=11 one=12 two=13 hows=14 steps=15; calls _law_cell/2 _law_digits/2 _law_limit/1 _law_numbers/3 _law_number/2 _law_pair/2 _law_made/4 _law_other/3 _law_mixed/2 _law_lines/2 _law_second/4 _law_two/4 _law_changed/3 _law_chain/4 _law_empty/2 -/
def N_law : List Str := ["script", "head", "large", "many", "most", "tops", "line", "other", "down", "factor", "common", "place", "one", "two", "hows", "steps"]
def fs_law : List Str := ["_law_cell", "_law_digits", "_law_limit", "_law_numbers", "_law_number", "_law_pair", "_law_made", "_law_other", "_law_mixed", "_law_lines", "_law_second", "_law_two", "_law_changed", "_law_chain", "_law_empty"]
def b_law : Xb := (.cons (.set 1 false [] (.call 1 (.cons (.call 0 (.cons (.var 0) (.cons (.int 0) .nil))) (.cons (.lst (.cons (.int 8) (.cons (.int 90) (.cons (.int 10) (.cons (.int 64) .nil))))) .nil))))
 (.cons (.set 2 false [] (.cmp .eq (.ixn (.var 1) 0) (.int 5)))
 (.cons (.set 3 false [] (.itu (.var 2) (.bin .add (.int 1) (.ixn (.var 1) 1)) (.bin .mod (.bi .int (.cons (.bin .add (.ixn (.var 1) 1) (.int 4)) .nil)) (.int 13))))
 (.cons (.set 4 false [] (.itu (.var 2) (.bin .sub (.call 2 (.cons (.int 2) .nil)) (.int 1)) (.bin .sub (.bin .pow (.int 10) (.int 60)) (.int 1))))
 (.cons (.set 5 false [] (.call 3 (.cons (.call 0 (.cons (.var 0) (.cons (.int 1) .nil))) (.cons (.var 3) (.cons (.var 4) .nil)))))
 (.cons (.set 6 false [] (.call 4 (.cons (.call 0 (.cons (.var 0) (.cons (.int 2) .nil))) (.cons (.var 4) .nil))))
 (.cons (.itj [7, 8, 9, 10, 11, 12, 13, 14, 15] [] (.cmp .eq (.var 6) (.int 0)) (.cons (.set 6 false [] (.neg (.int 1)))
 .nil) .nil)
 (.cons (.set 7 false [] (.call 3 (.cons (.call 0 (.cons (.var 0) (.cons (.int 3) .nil))) (.cons (.var 3) (.cons (.var 4) .nil)))))
 (.cons (.set 8 false [] (.bin .add (.int 1) (.bi .abs (.cons (.call 4 (.cons (.call 0 (.cons (.var 0) (.cons (.int 4) .nil))) (.cons (.bin .sub (.var 4) (.int 1)) .nil))) .nil))))
 (.cons (.set 9 false [] (.call 4 (.cons (.call 0 (.cons (.var 0) (.cons (.int 5) .nil))) (.cons (.var 4) .nil))))
 (.cons (.set 9 false [] (.call 5 (.cons (.var 9) (.cons (.bin .add (.int 1) (.bi .abs (.cons (.call 4 (.cons (.call 0 (.cons (.var 0) (.cons (.int 6) .nil))) (.cons (.bin .sub (.var 4) (.int 1)) .nil))) .nil))) .nil))))
 (.cons (.set 10 false [] (.bin .add (.int 1) (.bi .abs (.cons (.call 4 (.cons (.call 0 (.cons (.var 0) (.cons (.int 7) .nil))) (.cons (.bin .sub (.var 4) (.int 1)) .nil))) .nil))))
 (.cons (.set 11 false [] (.bin .mod (.bi .int (.cons (.call 0 (.cons (.var 0) (.cons (.int 8) .nil))) .nil)) (.int 90)))
 (.cons (.ite [] (.or (.cons (.not (.call 6 (.cons (.var 5) (.cons (.var 6) (.cons (.var 10) (.cons (.ixn (.var 1) 3) .nil)))))) (.cons (.not (.call 7 (.cons (.var 5) (.cons (.var 6) (.cons (.var 11) .nil))))) .nil))) (.cons (.ret [] (.bl false))
 .nil) .nil)
 (.cons (.ite [] (.not (.call 8 (.cons (.var 5) (.cons (.call 3 (.cons (.call 0 (.cons (.var 0) (.cons (.int 9) .nil))) (.cons (.var 3) (.cons (.itu (.var 2) (.int 99) (.bin .sub (.bin .pow (.int 10) (.int 27)) (.int 1))) .nil)))) .nil)))) (.cons (.ret [] (.bl false))
 .nil) .nil)
 (.cons (.set 12 false [] (.call 9 (.cons (.var 5) (.cons (.var 6) .nil))))
 (.cons (.set 13 false [] (.call 10 (.cons (.ixn (.var 1) 2) (.cons (.var 12) (.cons (.var 7) (.cons (.var 8) .nil))))))
 (.cons (.set 14 false [] (.call 1 (.cons (.call 0 (.cons (.var 0) (.cons (.int 10) .nil))) (.cons (.lst (.cons (.int 64) (.cons (.int 64) (.cons (.int 64) .nil)))) .nil))))
 (.cons (.ite [] (.or (.cons (.not (.call 11 (.cons (.var 12) (.cons (.var 13) (.cons (.var 9) (.cons (.ixn (.var 14) 0) .nil)))))) (.cons (.not (.call 11 (.cons (.var 13) (.cons (.var 12) (.cons (.var 9) (.cons (.ixn (.var 14) 1) .nil)))))) .nil))) (.cons (.ret [] (.bl false))
 .nil) .nil)
 (.cons (.ite [] (.or (.cons (.not (.call 11 (.cons (.var 12) (.cons (.var 12) (.cons (.tup (.cons (.bin .sub (.bin .mod (.bi .int (.cons (.var 11) .nil)) (.int 3)) (.int 1)) (.cons (.int 1) .nil))) (.cons (.ixn (.var 14) 2) .nil)))))) (.cons (.not (.call 12 (.cons (.var 12) (.cons (.var 13) (.cons (.var 11) .nil))))) .nil))) (.cons (.ret [] (.bl false))
 .nil) .nil)
 (.cons (.set 15 false [] (.call 1 (.cons (.call 0 (.cons (.var 0) (.cons (.int 11) .nil))) (.cons (.rep (.lst (.cons (.int 4) .nil)) (.itu (.var 2) (.int 1) (.int 4))) .nil))))
 (.cons (.ite [] (.or (.cons (.not (.call 13 (.cons (.var 12) (.cons (.var 13) (.cons (.var 9) (.cons (.var 15) .nil)))))) (.cons (.not (.call 14 (.cons (.var 6) (.cons (.var 9) .nil)))) .nil))) (.cons (.ret [] (.bl false))
 .nil) .nil)
 (.cons (.ret [] (.call 11 (.cons (.var 12) (.cons (.var 13) (.cons (.var 9) (.cons (.ixn (.var 14) 0) .nil))))))
 .nil)))))))))))))))))))))))
def T_changed : DSp := fun ds kk _ => ∃ (t1 t2 : List Int) (l1 l2 place : Int), ds = [rw_ false false t1 l1, rw_ false false t2 l2, .int place] ∧ RwOk 1000 t1 l1 ∧ RwOk 1000 t2 l2 ∧ t2.length = t1.length ∧ kk (.sh (.bl true))
def T_law : DSp := fun ds kk _ => ∃ ns : List Int, ds = [.scr ns] ∧ kk (.sh (.bl true))
theorem bd_le {m v : Int} {n : Nat} (h : Bd n m) (l : v.natAbs ≤ m.natAbs) : Bd n v := Bd.of_le h l
theorem w_law : Deep [T_cell, T_digits, T_limit, T_numbers, T_number, T_pair, T_made, T_other, T_mixed, T_lines, T_second, T_two, T_changed, T_chain, T_empty] N_law b_law T_law := by
  rintro _ kk xx ⟨ns, rfl, hk⟩
  refine ⟨ns, 0, rfl, by decide, by decide, fun c0 => ?_⟩
  refine ⟨c0, true, [8, 90, 10, 64], rfl, by decide, by decide, fun hd hhd => ?_⟩
  obtain ⟨h0, h1, h2, h3, rfl, h10, h11⟩ : ∃ a b c d, hd = [a, b, c, d] ∧ 0 ≤ b ∧ b < 90 := by
    have hl := hhd.1
    match hd, hl with
    | [a, b, c, d], _ => exact ⟨a, b, c, d, rfl, (hhd.2 1 b 90 rfl rfl).1, (hhd.2 1 b 90 rfl rfl).2⟩
  refine ⟨fun r => ∃ mn : Nat, r = .sh (.int (mn : Int)) ∧ mn ≤ 90 ∧ (h0 ≠ 5 → mn ≤ 12), ⟨fun z => ⟨(1 + h1).toNat, ?_, by omega, fun y => absurd (of_decide_eq_true z) y⟩, fun z => ⟨by decide, ((h1 + 4) % 13).toNat, ?_, by omega, fun _ => by omega⟩⟩, ?_⟩
  · show S.sh (.int (1 + h1)) = _
    rw [Int.toNat_of_nonneg (by omega)]
  · show S.sh (.int ((h1 + 4) % 13)) = _
    rw [Int.toNat_of_nonneg (by omega)]
  rintro _ ⟨mn, rfl, hmn, hms⟩
  refine ⟨fun r => ∃ (m : Int) (n : Nat), r = .sh (.int m) ∧ 2 ≤ m ∧ Bd n m ∧ n ≤ 800 ∧ (h0 ≠ 5 → n = 200), ⟨fun z => ⟨2, rfl, by decide, lim 2 - 1, 800, rfl, ?_, ?_, by decide, fun y => absurd (of_decide_eq_true z) y⟩, fun z => ⟨by decide, 10 ^ 60 - 1, 200, rfl, by decide, ?_, by decide, fun _ => rfl⟩⟩, ?_⟩
  · decide +kernel
  · show (lim 2 - 1).natAbs < 2 ^ 800
    decide +kernel
  · show ((10 : Int) ^ 60 - 1).natAbs < 2 ^ 200
    decide +kernel
  rintro _ ⟨m, n, rfl, hm, bm, hn, hns⟩
  have hn1 : n + 1 ≤ 801 := by omega
  have hn0 : 1 ≤ n := by
    rcases Nat.eq_zero_or_pos n with z | z
    · subst z; have : m.natAbs < 2 ^ 0 := bm; omega
    · exact z
  have bm1 : Bd n (m - 1) := Bd.of_le bm (by omega)
  refine ⟨ns, 1, rfl, by decide, by decide, fun c1 => ?_⟩
  refine ⟨c1, mn, m, rfl, by omega, by omega, bm.le (by omega), fun tops htl htb => ?_⟩
  have bt : ∀ t ∈ tops, Bd n t := fun t ht => Bd.of_le bm (htb t ht)
  refine ⟨ns, 2, rfl, by decide, by decide, fun c2 => ?_⟩
  refine ⟨c2, m, rfl, by omega, fun l0 hl0 => ?_⟩
  refine join (fun δ => ∃ line : Int, δ = [.sh (.scr ns), .sh (.sq true [.int h0, .int h1, .int h2, .int h3]), .sh (.bl (decide (h0 = 5))), .sh (.int (mn : Int)), .sh (.int m), .sh (.sq true (tops.map .int)), .sh (.int line), .no, .no, .no, .no, .no, .no, .no, .no, .no] ∧ line ≠ 0 ∧ Bd n line) ⟨fun z => ?_, fun z => ?_⟩ ?_
  · exact ⟨-1, rfl, by decide, Bd.of_le bm (by omega)⟩
  · exact ⟨l0, rfl, z, Bd.of_le bm hl0⟩
  rintro δ ⟨line, rfl, hl, bl⟩
  refine ⟨ns, 3, rfl, by decide, by decide, fun c3 => ?_⟩
  refine ⟨c3, mn, m, rfl, by omega, by omega, bm.le (by omega), fun other hol hob => ?_⟩
  have bo : ∀ t ∈ other, Bd n t := fun t ht => Bd.of_le bm (hob t ht)
  have one : ∀ {v : Int}, v.natAbs ≤ (m - 1).natAbs → 1 ≤ 1 + ((v.natAbs : Nat) : Int) ∧ Bd n (1 + ((v.natAbs : Nat) : Int)) := fun {v} h => ⟨by omega, Bd.of_le bm (by omega)⟩
  refine ⟨ns, 4, rfl, by decide, by decide, fun c4 => ?_⟩
  refine ⟨c4, m - 1, rfl, by omega, fun v4 hv4 => ?_⟩
  obtain ⟨d1, d2⟩ := one hv4
  refine ⟨ns, 5, rfl, by decide, by decide, fun c5 => ?_⟩
  refine ⟨c5, m, rfl, by omega, fun v5 hv5 => ?_⟩
  refine ⟨ns, 6, rfl, by decide, by decide, fun c6 => ?_⟩
  refine ⟨c6, m - 1, rfl, by omega, fun v6 hv6 => ?_⟩
  obtain ⟨e1, e2⟩ := one hv6
  have b5 : Bd n v5 := Bd.of_le bm hv5
  refine ⟨_, _, rfl, by omega, b5.le (by omega), e2.le (by omega), fun u v huv => ?_⟩
  have hv := huv.pos
  have bu : Bd n u := Bd.of_le b5 huv.lp
  have bv : Bd n v := Bd.of_le e2 huv.lq
  refine ⟨ns, 7, rfl, by decide, by decide, fun c7 => ?_⟩
  refine ⟨c7, m - 1, rfl, by omega, fun v7 hv7 => ?_⟩
  obtain ⟨f1, f2⟩ := one hv7
  refine ⟨ns, 8, rfl, by decide, by decide, fun c8 => ?_⟩
  refine ⟨by decide, ?_⟩
  generalize c8 % 90 = place
  refine ⟨tops, line, _, h3, rfl, by omega, hl, f1, fun t ht => (bt t ht).le (by omega), bl.le (by omega), f2.le (by omega), fun _ => ?_, fun h => nomatch h⟩
  refine ⟨tops, line, place, rfl, by omega, hl, fun t ht => (bt t ht).le (by omega), bl.le (by omega), fun _ => ?_, fun h => nomatch h⟩
  refine ⟨ns, 9, rfl, by decide, by decide, fun c9 => ?_⟩
  refine ⟨fun r => ∃ (m' : Int) (n' : Nat), r = .sh (.int m') ∧ 1 ≤ m' ∧ m' + 1 < 2 ^ n' ∧ n' * mn ≤ 1200 ∧ n' ≤ 600, ⟨fun z => ⟨99, 7, rfl, by decide, by decide, by omega, by decide⟩, fun z => ⟨by decide, 10 ^ 27 - 1, 90, rfl, by decide, by decide, ?_, by decide⟩⟩, ?_⟩
  · have := hms (of_decide_eq_false z)
    omega
  rintro _ ⟨m', n', rfl, hm', bm', hn', hn6⟩
  have bmm : Bd n' m' := show m'.natAbs < 2 ^ n' by
    have e : ((2 ^ n' : Nat) : Int) = (2 : Int) ^ n' := by rw [Int.natCast_pow]; rfl
    omega
  refine ⟨c9, mn, m', rfl, by omega, hm', bmm.le (by omega), fun vs hvl hvb => ?_⟩
  refine ⟨tops, vs, n', rfl, by omega, by omega, fun u hu => (bt u hu).le (by omega), fun v hv => ?_, by rw [htl]; exact hn', by omega, fun _ => ?_, fun h => nomatch h⟩
  · have := hvb v hv
    show (1 + ((v.natAbs : Nat) : Int)).natAbs < 2 ^ n'
    have e : ((2 ^ n' : Nat) : Int) = (2 : Int) ^ n' := by rw [Int.natCast_pow]; rfl
    omega
  refine ⟨true, tops, line, rfl, by omega, hl, fun t ht => (bt t ht).le (by omega), bl.le (by omega), fun p1 q1 R1 => ?_⟩
  have ok1 : RwOk n p1 q1 := R1.ok bt bl (by omega)
  have len1 : p1.length = mn := by rw [R1.len, htl]
  refine ⟨n, h2, p1, other, q1, _, rfl, by omega, ok1, by omega, bo, d1, d2, fun p2 q2 ok2 len2 => ?_⟩
  refine ⟨ns, 10, rfl, by decide, by decide, fun c10 => ?_⟩
  refine ⟨c10, true, [64, 64, 64], rfl, by decide, by decide, fun hw hhw => ?_⟩
  obtain ⟨w0, w1, w2, rfl⟩ : ∃ a b c, hw = [a, b, c] := by
    have hl := hhw.1
    match hw, hl with
    | [a, b, c], _ => exact ⟨a, b, c, rfl⟩
  have ok1' : RwOk 1000 p1 q1 := ok1.le (by omega)
  have ok2' : RwOk 1000 p2 q2 := ok2.le (by omega)
  have bu' : Bd 1000 u := bu.le (by omega)
  have bv' : Bd 1000 v := bv.le (by omega)
  refine ⟨p1, p2, q1, q2, u, v, w0, rfl, ok1', ok2', len2, hv, bu', bv', fun _ => ?_, fun h => nomatch h⟩
  refine ⟨p2, p1, q2, q1, u, v, w1, rfl, ok2', ok1', len2.symm, hv, bu', bv', fun _ => ?_, fun h => nomatch h⟩
  refine ⟨by decide, ?_⟩
  refine ⟨p1, p1, q1, q1, place % 3 - 1, 1, w2, rfl, ok1', ok1', rfl, by decide, ?_, (bd1 0).le (by decide), fun _ => ?_, fun h => nomatch h⟩
  · have h3 : Bd 2 (place % 3 - 1) := show (place % 3 - 1).natAbs < 2 ^ 2 by omega
    exact h3.le (by decide)
  refine ⟨p1, p2, q1, q2, place, rfl, ok1', ok2', len2, fun _ => ?_, fun h => nomatch h⟩
  refine ⟨ns, 11, rfl, by decide, by decide, fun c11 => ?_⟩
  refine ⟨fun r => ∃ L : Nat, r = .sh (.int (L : Int)) ∧ L ≤ 4 ∧ (n + 11) * (L + 1) ≤ 2800, ⟨fun z => ⟨1, rfl, by decide, by omega⟩, fun z => ⟨4, rfl, by decide, ?_⟩⟩, ?_⟩
  · have := hns (of_decide_eq_false z)
    omega
  rintro _ ⟨L, rfl, hL, hL2⟩
  refine ⟨⟨by omega, by omega, ?_⟩, ?_⟩
  · show 1 * ((L : Int).toNat) ≤ 100000
    omega
  refine ⟨c11, true, List.replicate L 4, by rw [← rep_nat]; rfl, by rw [List.length_replicate]; omega, fun s hs => by rw [(List.mem_replicate.mp hs).2]; decide, fun st hst => ?_⟩
  have hsl : st.length = L := by rw [hst.1, List.length_replicate]
  refine ⟨p1, p2, st, q1, q2, u, v, n + 10, rfl, ok1.le (by omega), ok2, len2, hv, bu.le (by omega), bv.le (by omega), by rw [hsl]; exact hL2, by omega, fun _ => ?_, fun h => nomatch h⟩
  refine ⟨line, u, v, rfl, hl, bl.le (by omega), hv, bu.le (by omega), bv.le (by omega), fun _ => ?_, fun h => nomatch h⟩
  exact ⟨p1, p2, q1, q2, u, v, w0, rfl, ok1', ok2', len2, hv, bu', bv', hk⟩
end K00
set_option Elab.async false
set_option linter.all false
set_option maxRecDepth 100000
set_option maxHeartbeats 4000000
set_option pp.maxSteps 600
set_option exponentiation.threshold 50000
namespace DL
open PySem PySem.Spec PyProof.Rows L2
section
variable {X : Cx} {C : Ct} {Γ : List DSp} {H0 : Hp}
/-- a text's first part by the deep machine, the rest otherwise -/
theorem so_bapp : ∀ (b : Xb) {s1 s2 : List Stmt} {δ : List DL.S} {E : Ed} {M : List DL.S → Prop}, Es X C Γ → chB C b s1 = true → Xc X H0 E.xw → wpb Γ b δ { E with nx := M } → (∀ δ', M δ' → Wb X H0 s2 δ' (toEn E)) → Wb X H0 (s1 ++ s2) δ (toEn E)
  | .nil, s1, s2, δ, E, M, SS, h, hx, q, m => by
    rw [chB, List.isEmpty_iff] at h
    subst h
    exact m δ q
  | .cons s r, s1, s2, δ, E, M, SS, h, hx, q, m => by
    unfold chB at h
    split at h
    · obtain ⟨h1, h2⟩ := and3 h
      exact wb_cons (((so_s s).run SS h1 (E := { E with nx := fun δ' => wpb Γ r δ' { E with nx := M } }) hx q).mono (fun δ1 z => so_bapp r SS h2 hx z m) (fun _ _ z => z) (fun _ z => z) (fun _ z => z))
    · cases h
termination_by b => sizeOf b
end
end DL
namespace K00
open PySem PySem.Spec PyProof.Rows L2 DL
def N__law_changed : List Str := ["one", "two", "place", "held", "first", "second", "many", "k", "number", "due", "inner", "told"]
def fs__law_changed : List Str := ["row_sum", "_law_fits", "dot", "_law_just", "row"]
def bp__law_changed : Xb := (.cons (.set 3 true [] (.lst (.cons (.bi .list (.cons (.ixn (.var 0) 0) .nil)) (.cons (.ixn (.var 0) 1) .nil))))
 (.cons (.set 4 false [3] (.call 0 (.cons (.var 3) (.cons (.var 1) .nil))))
 (.cons (.sti 3 [] (.bi .list (.cons (.ixn (.var 1) 0) .nil)) (.int 0))
 (.cons (.sti 3 [] (.ixn (.var 1) 1) (.int 1))
 (.cons (.set 5 false [3] (.call 0 (.cons (.var 3) (.cons (.var 1) .nil))))
 (.cons (.set 6 false [] (.bi .len (.cons (.ixn (.var 0) 0) .nil)))
 (.cons (.ite [] (.not (.call 1 (.cons (.var 4) (.cons (.lc 7 (.bin .add (.bin .mul (.ix (.ixn (.var 0) 0) (.var 7)) (.ixn (.var 1) 1)) (.bin .mul (.ix (.ixn (.var 1) 0) (.var 7)) (.ixn (.var 0) 1))) (.rng (.var 6))) (.cons (.bin .mul (.ixn (.var 0) 1) (.ixn (.var 1) 1)) .nil))))) (.cons (.ret [] (.bl false))
 .nil) .nil)
 (.cons (.ite [] (.not (.call 1 (.cons (.var 5) (.cons (.lc 8 (.bin .mul (.var 8) (.int 2)) (.sq (.ixn (.var 1) 0))) (.cons (.ixn (.var 1) 1) .nil))))) (.cons (.ret [] (.bl false))
 .nil) .nil)
 (.cons (.set 9 false [] (.lc 7 (.bin .add (.ix (.ixn (.var 0) 0) (.var 7)) (.bi .int (.cons (.cmp .eq (.var 7) (.bin .mod (.bi .int (.cons (.var 2) .nil)) (.bi .max (.cons (.int 1) (.cons (.var 6) .nil))))) .nil))) (.rng (.var 6))))
 (.cons (.set 10 true [] (.bi .list (.cons (.ixn (.var 0) 0) .nil)))
 .nil))))))))))
abbrev s__law_changed : Stmt := top 34
theorem sc__law_changed : FnScope N__law_changed ["one", "two", "place"] (defScope s__law_changed) := ⟨rfl, rfl, rfl, by decide +kernel, rfl, by decide +kernel, by decide +kernel⟩
theorem chp__law_changed : chB ⟨N__law_changed, defScope s__law_changed, fs__law_changed, false⟩ bp__law_changed ((defBody s__law_changed).take 10) = true := by decide +kernel
/-- held is [inner, 1], inner a list of numbers -/
structure AL (X : Cx) (B : Hp) (δ : List DL.S) (us : List Int) (σ : L2.St) (H : Hp) : Prop where
  ex : ∃ A q, A ≠ q ∧ σ[10]? = some (some (.ref A)) ∧ σ[3]? = some (some (.ref q)) ∧ H A = some (.lst (us.map V.int)) ∧ H q = some (.lst [.ref A, .int 1]) ∧ RelS X.K B σ (cut H [A, q]) δ
abbrev hd (us : List Int) : D := .sq true [.sq true (us.map .int), .int 1]
/-- the state as it is seen: the two slots are data -/
def seen (us : List Int) (δ : List DL.S) : List DL.S := (δ.set 10 (.sh (.sq true (us.map .int)))).set 3 (.sh (hd us))
section
variable {X : Cx} {B H H' H0 : Hp} {σ : L2.St} {δ : List DL.S} {us : List Int} {e : Expr}
theorem RelS.put {K : PySem.W.Frag} {G : Hp} {v : V} {d : D} {i : Nat} (R : RelS K B σ G δ) (hv : σ[i]? = some (some v)) (h : Is K G v d) : RelS K B σ G (δ.set i (.sh d)) := by
  refine ⟨R.ex, by simp [R.len], fun j d' hj => ?_⟩
  rcases set_get hj with ⟨rfl, e⟩ | ⟨_, e⟩
  · cases e; exact ⟨v, hv, h⟩
  · exact R.sh j d' e
theorem is_ints {K : PySem.W.Frag} {G : Hp} {A : Addr} (h : G A = some (.lst (us.map V.int))) : Is K G (.ref A) (.sq true (us.map .int)) :=
  .lst (.inl h) (by rw [List.length_map, List.length_map]) fun i x d h1 h2 => (IsL.ints us).2 i x d h1 h2
theorem AL.see (a : AL X B δ us σ H) : RelS X.K B σ H (seen us δ) := by
  obtain ⟨A, q, ne, h1, h2, h3, h4, R⟩ := a
  have i1 : Is X.K H (.ref A) (.sq true (us.map .int)) := is_ints h3
  refine RelS.put (RelS.put (R.mono cut_ex) h1 i1) h2 (.lst (.inl h4) rfl fun i x d e1 e2 => ?_)
  match i, e1, e2 with
  | 0, e1, e2 => cases e1; cases e2; exact i1
  | 1, e1, e2 => cases e1; cases e2; exact .int 1
theorem AL.grow (a : AL X B δ us σ H) (e : Ex H H') : AL X B δ us σ H' := by
  obtain ⟨A, q, ne, h1, h2, h3, h4, R⟩ := a
  exact ⟨A, q, ne, h1, h2, e _ _ h3, e _ _ h4, R.mono (cut_mono e)⟩
theorem AL.expr {k : D → Prop} (a : AL X B δ us σ H) (hB : Ex H0 B) (h : We X H0 e (seen us δ) k) : semE X e σ H (fun v H' => AL X B δ us σ H' ∧ Ex H H' ∧ ∃ d, Is X.K H' v d ∧ k d) :=
  (h σ H (RelS.weak hB a.see)).mono fun v H' ⟨e1, d, i, q⟩ => ⟨a.grow e1, e1, d, i, q⟩
theorem AL.test {k : Bool → Prop} (a : AL X B δ us σ H) (hB : Ex H0 B) (h : Wt X H0 e (seen us δ) k) : semT X e σ H (fun v H' => AL X B δ us σ H' ∧ k v) :=
  (h σ H (RelS.weak hB a.see)).mono fun v H' ⟨e1, q⟩ => ⟨a.grow e1, q⟩
/-- a name is set to a value without lists -/
theorem AL.set {v : V} {d : D} {i : Nat} (a : AL X B δ us σ H) (iv : Is X.K H v d) (f : FlatN d) (n1 : i ≠ 10) (n2 : i ≠ 3) : AL X B (δ.set i (.sh d)) us (σ.set i (some v)) H := by
  obtain ⟨A, q, ne, h1, h2, h3, h4, R⟩ := a
  refine ⟨A, q, ne, by rw [List.getElem?_set_ne n1]; exact h1, by rw [List.getElem?_set_ne n2]; exact h2, h3, h4, RelS.set R (FlatN.isP (fun p hp ys r => ?_) f iv)⟩
  rcases List.mem_cons.mp hp with rfl | hp
  · rcases r with r | ⟨_, r⟩ <;> rw [h3] at r <;> cases r
  · rcases List.mem_cons.mp hp with rfl | hp
    · rcases r with r | ⟨_, r⟩ <;> rw [h4] at r <;> cases r
    · cases hp
/-- a name is forgotten -/
theorem RelS.drop {K : PySem.W.Frag} {G : Hp} {i : Nat} (R : RelS K B σ G δ) : RelS K B σ G (δ.set i .no) := by
  refine ⟨R.ex, by simp [R.len], fun j d' hj => ?_⟩
  rcases set_get hj with ⟨_, e⟩ | ⟨_, e⟩
  · cases e
  · exact R.sh j d' e
theorem AL.drop {i : Nat} (a : AL X B δ us σ H) : AL X B (δ.set i .no) us σ H := by
  obtain ⟨A, q, ne, h1, h2, h3, h4, R⟩ := a
  exact ⟨A, q, ne, h1, h2, h3, h4, RelS.drop R⟩
/-- a number is written into inner -/
theorem AL.write {j : Nat} {i : Int} (a : AL X B δ us σ H) (hj : j < us.length) : ∃ A xs, σ[10]? = some (some (.ref A)) ∧ H A = some (.lst xs) ∧ ixN xs.length (j : Int) = some j ∧ AL X B δ (us.set j i) σ (upd H A (.lst (xs.set j (.int i)))) := by
  obtain ⟨A, q, ne, h1, h2, h3, h4, R⟩ := a
  refine ⟨A, _, h1, h3, ?_, A, q, ne, h1, h2, ?_, by rw [upd_ne ne.symm]; exact h4, ?_⟩
  · unfold ixN
    rw [List.length_map, if_pos (by omega), if_pos (by omega)]
    simp
  · rw [upd_same, List.map_set]
  · have e : cut (upd H A (.lst ((us.map V.int).set j (.int i)))) [A, q] = cut H [A, q] := by
      funext a
      by_cases z : a ∈ [A, q]
      · rw [cut_in z, cut_in z]
      · rw [cut_out z, cut_out z, upd_ne fun y => z (by rw [y]; simp)]
    rw [e]; exact R
/-- nothing is known but what was there -/
theorem AL.rel (a : AL X B δ us σ H) : Rel X.K B σ H (List.replicate σ.length .no) (List.replicate σ.length []) := by
  obtain ⟨A, q, ne, h1, h2, h3, h4, R⟩ := a
  have e0 : (List.replicate σ.length ([] : List Addr)).flatten = [] := List.flatten_replicate_nil
  refine ⟨by rw [e0, cut_nil]; exact R.ex.trans cut_ex, by simp, by simp, fun i s x l g1 g2 g3 => ?_, by rw [e0]; exact List.nodup_nil⟩
  obtain rfl := (List.mem_replicate.mp (List.mem_of_getElem? g1)).2
  exact (List.mem_replicate.mp (List.mem_of_getElem? g3)).2
end

section
variable {P : Program} {w : World} {K : PySem.W.Frag} {mg : Str → Option Value} {base : Heap} {f CZ CM : Addr} {fd : FuncData}
theorem isl_ints {G : Hp} {xs : List V} {us : List Int} (h : IsL K G xs (us.map D.int)) : xs = us.map V.int := by
  have hl := h.1
  rw [List.length_map] at hl
  refine List.ext_getElem? fun i => ?_
  by_cases hi : i < us.length
  · have e1 := List.getElem?_eq_getElem (show i < xs.length by omega)
    have e2 : (us.map D.int)[i]? = some (.int us[i]) := by rw [List.getElem?_map, List.getElem?_eq_getElem hi]; rfl
    have e3 := (h.2 i _ _ e1 e2).int_inv
    rw [e1, e3, List.getElem?_map, List.getElem?_eq_getElem hi]; rfl
  · rw [List.getElem?_eq_none (by omega), List.getElem?_eq_none (by rw [List.length_map]; omega)]
theorem mulT_self {us : List Int} : mulT us us = us.map (fun n => n * n) := by
  unfold mulT
  refine List.ext_getElem? fun i => ?_
  rw [List.getElem?_map, List.getElem?_map]
  by_cases hi : i < us.length
  · rw [List.getElem?_range hi, List.getElem?_eq_getElem hi]
    show some (us.getD i 0 * us.getD i 0) = some (us[i] * us[i])
    rw [List.getD_eq_getElem?_getD, List.getElem?_eq_getElem hi]; rfl
  · rw [List.getElem?_eq_none (l := List.range _) (by rw [List.length_range]; omega), List.getElem?_eq_none (by omega)]; rfl
theorem RelS.over {K : PySem.W.Frag} {B G : Hp} {σ : L2.St} {δ : List DL.S} {i : Nat} {v : Option V} (R : RelS K B σ G δ) : RelS K B (σ.set i v) G (δ.set i .no) := by
  refine ⟨R.ex, by simp [R.len], fun j d' hj => ?_⟩
  rcases set_get hj with ⟨_, e⟩ | ⟨n, e⟩
  · cases e
  · rw [List.getElem?_set_ne n]; exact R.sh j d' e
/-- rows of the same numbers -/
theorem RowIs.of {ps tops tops' : List Int} {q line line' : Int} (h : RowIs ps q tops line) (hl : line ≠ 0) (hl' : 1 ≤ line') (hn : tops.length = tops'.length) (e : ∀ (i : Nat) t t', tops[i]? = some t → tops'[i]? = some t' → t * line' = t' * line) : RowIs ps q tops' line' := by
  obtain ⟨rfl, rfl⟩ := h.uniq (row_math (ns := tops') hl') hl (by omega) hn e
  exact row_math hl'
def dueL (t1 : List Int) (place : Int) : List Int := (List.range t1.length).map fun k => t1.getD k 0 + (if decide ((k : Int) = place % (if ((t1.length : Nat) : Int) > 1 then ((t1.length : Nat) : Int) else 1)) = true then 1 else 0)
/-- the state in the second part -/
def D0 (t1 t2 : List Int) (l1 l2 place : Int) (p1 p2 : List Int) (q1 q2 : Int) (s7 s11 : DL.S) : List DL.S := [.sh (rw_ false false t1 l1), .sh (rw_ false false t2 l2), .sh (.int place), .no, .sh (rw_ false false p1 q1), .sh (rw_ false false p2 q2), .sh (.int ((t1.length : Nat) : Int)), s7, .no, .sh (.sq true ((dueL t1 place).map .int)), .no, s11]
theorem dueL_len {t1 : List Int} {place : Int} : (dueL t1 place).length = t1.length := by unfold dueL; rw [List.length_map, List.length_range]
theorem ok_changed (F : FD K "_law_changed" s__law_changed [] f fd) (M : Bi mg) (BM : Bm mg) (L : FnL P w K mg base 4 fs__law_changed [T_row_sum, T_fits, T_dot, T_just, T_row])
    (FD_ : Fn P w K mg base 4 "dot" ["one", "two"] T_dot []) (FJ : Fn P w K mg base 3 "_law_just" ["value", "up", "down"] T_just []) (FF : Fn P w K mg base 3 "_law_fits" ["value", "tops", "line"] T_fits []) (FR : Fn P w K mg base 1 "row" ["tops", "line"] T_row []) :
    FnOk P w K mg base (L2.CX P w) 5 f fd ["one", "two", "place"] (spD K T_changed) := by
  have sc := sc__law_changed
  refine fn_ok F sc (by decide) (fun ds kk xx h => by obtain ⟨_, _, _, _, _, rfl, _⟩ := h; rfl) fun cdv A outer s H E ds kk xx hr hT hx => ?_
  obtain ⟨t1, t2, l1, l2, place, rfl, h1, h2, hlen, hk⟩ := hT
  have len := h1.b.len
  have SS : Es (cxOf (L2.CX P w) P w K mg base N__law_changed "_law_changed" (defScope s__law_changed) f cdv A outer s H E) ⟨N__law_changed, defScope s__law_changed, fs__law_changed, false⟩ [T_row_sum, T_fits, T_dot, T_just, T_row] := by
    refine ⟨⟨rfl, sc.nd, rfl, rfl, BM, fun h => (nomatch h), hr.units, L.cov, fun i x T h1 h2 => ?_⟩, fun _ => rfl, passes_of rfl, sc.kind⟩
    obtain ⟨lvl, ps', T0, dds, F', l, c⟩ := L.get i x T h1 h2
    exact ⟨lvl, ps', T0, dds, F', hr.mono l, c⟩
  rw [← List.take_append_drop 10 (defBody s__law_changed)]
  have bu : ∀ u ∈ dueL t1 place, Bd 1001 u := fun u hu => by
    obtain ⟨k, hk, rfl⟩ := List.mem_map.mp hu
    refine Bd.add (a := 1000) (b := 1000) (h1.b.at k) ?_ (by decide) (by decide)
    have h : ∀ c : Prop, [Decidable c] → Bd 1000 (if c then 1 else 0) := fun c _ => by
      split
      · exact show (1 : Int).natAbs < 2 ^ 1000 by decide
      · exact bd0 _
    exact h _
  refine so_bapp (C := ⟨N__law_changed, defScope s__law_changed, fs__law_changed, false⟩) (Γ := [T_row_sum, T_fits, T_dot, T_just, T_row]) (E := edOf kk xx) bp__law_changed (M := fun δ => ∃ p1 p2 q1 q2 o3, δ = ((D0 t1 t2 l1 l2 place p1 p2 q1 q2 .no .no).set 10 (.ow (.lst (t1.map .int)))).set 3 (.ow o3)) SS chp__law_changed hx ?_ ?_
  · refine ⟨true, true, false, false, t1, t2, l1, l2, rfl, h1.b.le (by decide), h2.b.le (by decide), hlen, fun p1 q1 hR1 => ?_⟩
    refine keep_safe (FlatN.two FlatN.ints (.flat trivial)) ?_
    refine ⟨0, rfl, show 0 < 2 by decide, 1, rfl, show 1 < 2 by decide, ?_⟩
    refine ⟨true, true, false, false, t2, t2, l2, l2, rfl, h2.b.le (by decide), h2.b.le (by decide), rfl, fun p2 q2 hR2 => ?_⟩
    refine keep_safe (FlatN.two FlatN.ints (.flat trivial)) ?_
    refine ⟨by rw [List.length_map]; omega, ?_⟩
    refine lcw_rng (fun j => .int (t1.getD j 0 * l2 + t2.getD j 0 * l1)) ?_ (fun j hj => ?_) ?_
    · rw [Int.toNat_natCast, List.length_map]; omega
    · rw [Int.toNat_natCast, List.length_map] at hj
      exact ⟨_, atI_nat (get_ints (gd hj)), (h1.b.at j).mulW h2.b.bq (by decide), _, atI_nat (get_ints (gd (by omega))), (h2.b.at j).mulW h1.b.bq (by decide), rfl⟩
    have bs := sumT_bd h1.b h2.b
    refine ⟨h1.b.bq.mulW h2.b.bq (by decide), true, p1, sumT t1 l1 t2 l2, q1, l1 * l2, by rw [← sumT_D (n := (((t1.map D.int).length : Nat) : Int).toNat) (by rw [Int.toNat_natCast, List.length_map])]; rfl, by rw [sumT_len]; omega, hR1, fun t ht => (bs t ht).le (by decide), (h1.b.bq.mul h2.b.bq).le (by decide), fun _ => ?_, fun h => nomatch h⟩
    have b2 : Bd 2 (2 : Int) := show (2 : Int).natAbs < 2 ^ 2 by decide
    refine lcw .int (fun t => .int (t * 2)) (by omega) (fun t ht => ⟨(h2.b.bp t ht).mulW b2 (by decide), rfl⟩) ?_
    refine ⟨true, p2, t2.map (· * 2), q2, l2, by rw [List.map_map]; rfl, by rw [List.length_map]; omega, hR2.of (mul_ne h2.b.pos h2.b.pos) h2.b.pos (by rw [sumT_len, List.length_map]) (fun i t t' e1 e2 => ?_), fun t ht => ?_, h2.b.bq.le (by decide), fun _ => ?_, fun h => nomatch h⟩
    · rw [List.getElem?_map] at e2
      cases e3 : t2[i]? with
      | none => rw [e3] at e2; cases e2
      | some x =>
        rw [e3] at e2; cases e2
        have hi : i < t2.length := (List.getElem?_eq_some_iff.mp e3).1
        unfold sumT at e1
        rw [List.getElem?_map, List.getElem?_range hi] at e1
        have e4 : t2.getD i 0 = x := by rw [List.getD_eq_getElem?_getD, e3]; rfl
        have e1 : t2.getD i 0 * l2 + t2.getD i 0 * l2 = t := Option.some.inj e1
        rw [e4] at e1
        rw [← e1]
        show (x * l2 + x * l2) * l2 = x * 2 * (l2 * l2)
        rw [← Int.two_mul]
        ac_rfl
    · obtain ⟨x, hx, rfl⟩ := List.mem_map.mp ht
      exact ((h2.b.bp x hx).mul b2).le (by decide)
    refine ⟨by rw [List.length_map]; omega, ?_⟩
    refine lcw_rng (fun k => .int (t1.getD k 0 + (if decide ((k : Int) = place % (if ((t1.length : Nat) : Int) > 1 then ((t1.length : Nat) : Int) else 1)) = true then 1 else 0))) ?_ (fun j hj => ?_) ?_
    · rw [Int.toNat_natCast, List.length_map]; omega
    · rw [Int.toNat_natCast, List.length_map] at hj
      refine ⟨_, atI_nat (get_ints (gd hj)), ?_, ?_⟩
      · rw [List.length_map]; split <;> omega
      · show D.int (t1.getD j 0 + (if decide ((j : Int) = place % (if (((t1.map D.int).length : Nat) : Int) > 1 then (((t1.map D.int).length : Nat) : Int) else 1)) = true then 1 else 0)) = _
        rw [List.length_map]
    refine ⟨p1, p2, q1, q2, .lst [.sq true (t2.map .int), .int l2], ?_⟩
    unfold D0 dueL
    rw [List.map_map]
    show [_, _, _, _, _, _, _, _, _, _, _, _] = _
    rw [Int.toNat_natCast, List.length_map]
    rfl
  rintro _ ⟨p1, p2, q1, q2, o3, rfl⟩ B σ H1 own hB R
  -- held = [inner, 1]
  refine toB (pss_cons ps_sem pb_sem) (toS (ps_set (i := 3) sc.nd rfl (.inl rfl) (pe_lst (pa_cons (pv 10) (pa_cons pe_int pa_nil)))) ?_)
  obtain ⟨x0, l, g1, g2, v, rfl, A0, xs, rfl, rfl, g3, g4⟩ := R.idx (i := 10) (s := .ow (.lst (t1.map .int))) rfl
  obtain rfl := isl_ints g4
  refine ⟨_, g1, show 2 ≤ sizeLine by decide, fun q hq => ?_⟩
  have mA : A0 ∈ own.flatten := mem_flat g2 (by simp)
  have nq : A0 ≠ q := fun z => by rw [z, hq] at g3; cases g3
  have lenσ : σ.length = 12 := R.len1
  have a0 : AL (cxOf (L2.CX P w) P w K mg base N__law_changed "_law_changed" (defScope s__law_changed) f cdv A outer s H E) B (D0 t1 t2 l1 l2 place p1 p2 q1 q2 .no .no) t1 (σ.set 3 (some (.ref q))) (upd H1 q (.lst [.ref A0, .int 1])) := by
    refine ⟨A0, q, nq, by rw [List.getElem?_set_ne (by decide)]; exact g1, by rw [List.getElem?_set_self (by omega)], by rw [upd_ne nq]; exact g3, upd_same, ?_⟩
    have e : Ex (cut H1 own.flatten) (cut (upd H1 q (.lst [.ref A0, .int 1])) [A0, q]) := fun a u z => by
      obtain ⟨z1, z2⟩ := cut_some z
      have n1 : a ≠ A0 := fun y => z1 (by rw [y]; exact mA)
      have n2 : a ≠ q := fun y => by rw [y, hq] at z2; cases z2
      rw [cut_out (by simp [n1, n2]), upd_ne n2]
      exact z2
    exact RelS.over (i := 3) (v := some (.ref q)) (RelS.drop (i := 10) (R.toS.mono e))
  have rows : ∀ {us : List Int} {n : Nat}, us.length = t1.length → (∀ u ∈ us, Bd n u) → 1 ≤ n → n ≤ 1100 → RwB 2900 us 1 := fun h hb h1 h2 => ⟨by decide, (bd1 0).le (by decide), fun p hp => (hb p hp).le (by omega), by omega⟩
  have sq : ∀ {us : List Int} {n : Nat}, us.length = t1.length → (∀ u ∈ us, Bd n u) → 1 ≤ n → n ≤ 1100 → Bd 3000 (us.map fun n => n * n).sum := fun h hb h1 h2 => by
    rw [← mulT_self]
    have r : RwB 1100 _ 1 := ⟨by decide, (bd1 0).le (by decide), fun p hp => (hb p hp).le h2, by omega⟩
    exact (mulT_bd r r).le (by decide)
  -- the product of held with itself
  have two : ∀ {us : List Int} {n : Nat} {p q : Int}, RatIs p q (mulT us us).sum (1 * 1) → RatIs p q (us.map fun n => n * n).sum 1 := fun h => by
    rw [mulT_self] at h; exact h
  refine toB (pss_cons ps_sem pb_sem) (toS (ps_if pt_sem pb_sem pb_sem) ((AL.test (k := fun r => r = false) a0 hB ?_).mono fun r H2 ⟨a2, k2⟩ => ?_))
  · refine wt_w <| ww_or <| wt_not <| wt_val <| we_call FJ (hr.mono (by decide)) <| wa_cons <| we_call FD_ (hr.mono (by decide)) <| wa_cons <| we_var 3 rfl <| wa_cons <| we_var 3 rfl <| wa_nil <| ⟨true, true, true, true, t1, t1, 1, 1, rfl, rows rfl h1.b.bp (by decide) (by decide), rows rfl h1.b.bp (by decide) (by decide), rfl, fun x y hxy => ?_⟩
    refine wa_cons <| we_sum M.sum <| wa_cons <| we_new <| wo_lc 8 sc.nd <| wi_sq false <| we_ix <| we_var 0 rfl <| we_int <| ixn 0 rfl <| ⟨_, rfl, lcI (fun t => .int (t * t)) (by omega) (fun n hn s h C cl fp => we_mul <| we_var 8 rfl <| we_var 8 rfl <| i2 <| And.intro ((h1.b.bp n hn).mulW (h1.b.bp n hn) (by decide)) rfl) <| ?_⟩
    refine wa_nil <| a1 <| ilE (ns := t1.map fun n => n * n) (by rw [List.map_map]; rfl) <| ?_
    refine wa_cons <| we_int <| wa_nil <| ⟨x, y, _, _, rfl, two (n := 0) hxy, (sq rfl h1.b.bp (by decide) (by decide)).le (by decide), (bd1 0).le (by decide), b1 <| ⟨fun _ => ?_, fun hb => (nomatch hb)⟩⟩
    refine ww_or1 <| wt_neD hr.units <| we_var 10 rfl <| we_new <| wo_list M.list <| wa_cons <| we_ix <| we_var 0 rfl <| we_int <| ixn 0 rfl <| wa_nil <| a1 <| sqk <| eqP (plB_ints (n := 59)) (plB_ints (n := 59)) fun y hy => ?_
    rw [hy.mpr rfl]; rfl
  subst k2
  refine toB pss_nil ?_
  -- the loop
  refine toB (pss_cons ps_sem pb_sem) (toS (ps_for (passes_of rfl) rfl (pi_range1 rfl M.range (pa_cons (pv 6) pa_nil)) (pg_name (i := 7) sc.nd rfl (.inl rfl) (.inl rfl)) (pss_cons (ps_asg pe_sem (pg_sub (pv 10) (pv 7) set_list)) pss_nil) (fun _ => rfl)) ?_)
  obtain ⟨_, _, _, _, _, _, _, R2⟩ := a2.ex
  obtain ⟨v6, s6, i6⟩ := R2.sh 6 _ rfl
  cases i6
  refine ⟨_, s6, _, rfl, by omega, by omega, for_range (lo := 0) (n := (((t1.length : Nat) : Int)).toNat) (fun i σ H => ∃ s7 us, AL (cxOf (L2.CX P w) P w K mg base N__law_changed "_law_changed" (defScope s__law_changed) f cdv A outer s _ E) B (D0 t1 t2 l1 l2 place p1 p2 q1 q2 s7 .no) us σ H ∧ us.length = t1.length ∧ ∀ j, j < i → us[j]? = (dueL t1 place)[j]?) ⟨_, _, a2, rfl, fun j hj => by omega⟩ (fun i σ3 H3 hi ⟨s7, us, a3, l3, d3⟩ => ?_) (fun σ3 H3 ⟨s7, us, a3, l3, d3⟩ => ?_)⟩
  · have hi : i < t1.length := by rw [Int.toNat_natCast] at hi; exact hi
    rw [Int.zero_add]
    have a4 := AL.set (i := 7) a3 (Is.int (i : Int)) (.flat trivial) (by decide) (by decide)
    have hd : i < (dueL t1 place).length := by rw [dueL_len]; exact hi
    refine (AL.expr (k := fun d => d = .int ((dueL t1 place).getD i 0)) a4 hB (we_ix <| we_var 9 rfl <| we_var 7 rfl <| ixa (atI_nat (get_ints (gd hd))) rfl)).mono fun v H4 ⟨a5, e5, d, iv, ed⟩ => ?_
    subst ed
    obtain rfl := iv.int_inv
    obtain ⟨A5, xs5, b1', b2', b3', a6⟩ := AL.write (i := (dueL t1 place).getD i 0) a5 (j := i) (by omega)
    obtain ⟨_, _, _, _, _, _, _, R5⟩ := a5.ex
    obtain ⟨v7, s7', i7⟩ := R5.sh 7 (.int (i : Int)) rfl
    cases i7
    refine ⟨_, b1', _, s7', _, _, _, _, rfl, rfl, b2', b3', _, _, a6, by rw [List.length_set]; exact l3, fun j hj => ?_⟩
    by_cases e : j = i
    · subst e
      rw [List.getElem?_set_self (by omega)]
      exact (gd hd).symm
    · rw [List.getElem?_set_ne (fun z => e z.symm)]
      exact d3 j (by omega)
  have us_due : us = dueL t1 place := by
    refine List.ext_getElem? fun j => ?_
    by_cases hj : j < t1.length
    · exact d3 j (by rw [Int.toNat_natCast]; exact hj)
    · rw [List.getElem?_eq_none (by omega), List.getElem?_eq_none (by rw [dueL_len]; omega)]
  subst us_due
  have dl := dueL_len (t1 := t1) (place := place)
  -- told = row(inner, two[1])
  refine toB (pss_cons ps_sem pb_sem) (toS (ps_set (i := 11) sc.nd rfl (.inl rfl) pe_sem) ((AL.expr (k := fun d => ∃ ps q, RowIs ps q (dueL t1 place) l2 ∧ d = rw_ false false ps q) a3 hB ?_).mono fun v H4 ⟨a4, e4, d, iv, ps, q, hR, ed⟩ => ?_))
  · exact we_call FR (hr.mono (by decide)) <| wa_cons <| we_var 10 rfl <| wa_cons <| we_ix <| we_var 1 rfl <| we_int <| ixn 1 rfl <| wa_nil <| ⟨true, _, l2, rfl, by omega, by have := h2.b.pos; omega, fun t ht => (bu t ht).le (by decide), h2.b.bq.le (by decide), fun ps q hR => ⟨ps, q, hR, rfl⟩⟩
  subst ed
  have a5 := AL.set (i := 11) a4 iv (FlatN.two FlatN.ints (.flat trivial)) (by decide) (by decide)
  refine toB (pss_cons ps_sem pb_sem) (toS (ps_if pt_sem pb_sem pb_sem) ((AL.test (k := fun r => r = false) a5 hB ?_).mono fun r H6 ⟨a6, k6⟩ => ?_))
  · refine wt_not <| wt_val <| we_call FJ (hr.mono (by decide)) <| wa_cons <| we_call FD_ (hr.mono (by decide)) <| wa_cons <| we_var 3 rfl <| wa_cons <| we_var 3 rfl <| wa_nil <| ⟨true, true, true, true, _, _, 1, 1, rfl, rows dl bu (by decide) (by decide), rows dl bu (by decide) (by decide), rfl, fun x y hxy => ?_⟩
    refine wa_cons <| we_sum M.sum <| wa_cons <| we_new <| wo_lc 8 sc.nd <| wi_sq true <| we_var 9 rfl <| ⟨_, rfl, lcI (fun t => .int (t * t)) (by omega) (fun n hn s h C cl fp => we_mul <| we_var 8 rfl <| we_var 8 rfl <| i2 <| And.intro ((bu n hn).mulW (bu n hn) (by decide)) rfl) <| ?_⟩
    refine wa_nil <| a1 <| ilE (ns := (dueL t1 place).map fun n => n * n) (by rw [List.map_map]; rfl) <| ?_
    exact wa_cons <| we_int <| wa_nil <| ⟨x, y, _, _, rfl, two (n := 0) hxy, (sq dl bu (by decide) (by decide)).le (by decide), (bd1 0).le (by decide), b1 <| rfl⟩
  subst k6
  refine toB pss_nil ?_
  refine toB (pss_cons ps_sem pb_sem) (toS (ps_ret pe_sem) ((AL.expr (k := fun d => d = .bl true) a6 hB ?_).mono fun v H7 ⟨a7, e7, d, iv, ed⟩ => ?_))
  · refine we_and <| we_call FF (hr.mono (by decide)) <| wa_cons <| we_var 11 rfl <| wa_cons <| we_var 9 rfl <| wa_cons <| we_ix <| we_var 1 rfl <| we_int <| ixn 1 rfl <| wa_nil <| ⟨true, ps, _, q, l2, rfl, by omega, hR, fun t ht => (bu t ht).le (by decide), h2.b.bq.le (by decide), b1 <| ⟨fun _ => ?_, fun hb => (nomatch hb)⟩⟩
    refine we_and <| we_eqD hr.units <| we_var 10 rfl <| we_var 9 rfl <| eqP (plB_ints (n := 59)) (plB_ints (n := 59)) fun y hy => b1 <| ⟨fun _ => ?_, fun hb => by rw [hy.mpr rfl] at hb; cases hb⟩
    exact we_one <| we_eq <| we_ix <| we_var 3 rfl <| we_int <| ixn 1 rfl <| we_int <| fe rfl <| rfl
  subst ed
  exact ⟨_, _, _, .sh (.bl true), a7.rel, ⟨a7.rel.toEx, iv⟩, hk⟩
end
end K00
set_option Elab.async false
set_option linter.all false
set_option maxRecDepth 100000
set_option maxHeartbeats 0
set_option pp.maxSteps 1500
namespace K00
open PySem PySem.Spec PyProof.Rows L2 DL He
abbrev s__law_made : Stmt := top 30
theorem sc__law_made : FnScope N__law_made ["tops", "line", "common", "how"] (defScope s__law_made) := ⟨rfl, rfl, rfl, by decide +kernel, rfl, by decide +kernel, by decide +kernel⟩
theorem ch__law_made : chB ⟨N__law_made, defScope s__law_made, fs__law_made, false⟩ b__law_made (defBody s__law_made) = true := by decide +kernel
abbrev s__law_chain : Stmt := top 35
theorem sc__law_chain : FnScope N__law_chain ["one", "two", "factor", "steps"] (defScope s__law_chain) := ⟨rfl, rfl, rfl, by decide +kernel, rfl, by decide +kernel, by decide +kernel⟩
theorem ch__law_chain : chB ⟨N__law_chain, defScope s__law_chain, fs__law_chain, false⟩ b__law_chain (defBody s__law_chain) = true := by decide +kernel
abbrev s__law_empty : Stmt := top 36
theorem sc__law_empty : FnScope N__law_empty ["line", "factor"] (defScope s__law_empty) := ⟨rfl, rfl, rfl, by decide +kernel, rfl, by decide +kernel, by decide +kernel⟩
theorem ch__law_empty : chB ⟨N__law_empty, defScope s__law_empty, fs__law_empty, false⟩ b__law_empty (defBody s__law_empty) = true := by decide +kernel
abbrev s_law : Stmt := top 38
theorem sc_law : FnScope N_law ["script"] (defScope s_law) := ⟨rfl, rfl, rfl, by decide +kernel, rfl, by decide +kernel, by decide +kernel⟩
theorem ch_law : chB ⟨N_law, defScope s_law, fs_law, false⟩ b_law (defBody s_law) = true := by decide +kernel
/-! ### the head -/
def clsDef (st : Stmt) (i : Nat) : Stmt := match st with
  | .ClassDef _ _ _ b _ _ _ _ _ _ _ => b.getD i (.Pass ⟨0, 0, 0, 0⟩)
  | _ => .Pass ⟨0, 0, 0, 0⟩
def dTop (x : Str) (st : Stmt) (dv : List Dv) : DefD := ⟨(x, none), x, x, defArgs st, defBody st, defScope st, dv, []⟩
abbrev sC_ZeroBottom : Stmt := clsDef (top 3) 0
def dC_ZeroBottom : DefD := ⟨("ZeroBottom", some "__init__"), "__init__", "ZeroBottom.__init__", defArgs sC_ZeroBottom, defBody sC_ZeroBottom, defScope sC_ZeroBottom, [], []⟩
def fn : List DefD := [dTop "ratio" (top 5) [.int 1], dTop "row" (top 7) [.int 1], dTop "row_of" (top 8) [], dTop "row_item" (top 9) [], dTop "row_items" (top 10) [], dTop "row_sum" (top 11) [], dTop "row_scaled" (top 12) [], dTop "dot" (top 13) [], dTop "_law_whole" (top 15) [], dTop "_law_cell" (top 16) [], dTop "_law_digits" (top 17) [], dTop "_law_gcd" (top 18) [], dTop "_law_is_ratio" (top 19) [], dTop "_law_is_row" (top 20) [], dTop "_law_limit" (top 21) [], dTop "_law_number" (top 22) [], dTop "_law_numbers" (top 23) [], dTop "_law_pair" (top 24) [], dTop "_law_lines" (top 25) [], dTop "_law_just" (top 26) [], dTop "_law_fits" (top 27) [], dTop "_law_form" (top 28) [], dTop "_law_stays" (top 29) [], dTop "_law_made" (top 30) [], dTop "_law_other" (top 31) [], dTop "_law_mixed" (top 32) [], dTop "_law_two" (top 33) [], dTop "_law_changed" (top 34) [], dTop "_law_chain" (top 35) [], dTop "_law_empty" (top 36) [], dTop "_law_second" (top 37) [], dTop "law" (top 38) [], dC_ZeroBottom]
def fa : List Fa := [.glo "MarksError", .glo "ZeroBottom", .glo "ratio", .glo "row", .glo "row_of", .glo "row_item", .glo "row_items", .glo "row_sum", .glo "row_scaled", .glo "dot", .glo "_law_whole", .glo "_law_cell", .glo "_law_digits", .glo "_law_gcd", .glo "_law_is_ratio", .glo "_law_is_row", .glo "_law_limit", .glo "_law_number", .glo "_law_numbers", .glo "_law_pair", .glo "_law_lines", .glo "_law_just", .glo "_law_fits", .glo "_law_form", .glo "_law_stays", .glo "_law_made", .glo "_law_other", .glo "_law_mixed", .glo "_law_two", .glo "_law_changed", .glo "_law_chain", .glo "_law_empty", .glo "_law_second", .glo "law", .free "len", .free "range", .free "int", .free "abs", .free "tuple", .free "list", .free "isinstance", .free "bool", .free "sum", .free "min", .free "max", .free "str"]
abbrev cC_ZeroBottom (K : PySem.W.Frag) : Addr := ga K "ZeroBottom"
abbrev fC_ZeroBottom (K : PySem.W.Frag) : Addr := fAd K ("ZeroBottom", some "__init__")
def ex : List (PySem.W.Frag → Bool) := [fun K => oexB K (cC_ZeroBottom K),
  fun K => eqO (PySem.W.findIn K (.ref (cC_ZeroBottom K)) "top") (some none),
  fun K => eqO (PySem.W.findIn K (.ref (cC_ZeroBottom K)) "__init__") (some (some (.ref (fC_ZeroBottom K)))),
  fun K => decide (PySem.W.typeIn K (.ref (fC_ZeroBottom K)) = some (.type "function")),
  fun K => eqO (PySem.W.nsIn K mainGlobals "gcd") (some (some (.builtin "math.gcd"))),
  fun K => eqO (PySem.W.nsIn K mainGlobals "lcm") (some (some (.builtin "math.lcm")))]
abbrev R : PySem.W.OpenRow := PySem.W.OpenLaw.row PySem.Challenge.rw_ledbymarks_k01_rows
abbrev hk : PySem.W.Hook := hookM 5 fa ex fn
def ob (s : PySem.W.SharedT) : AlD := obsMG 5 fa ex fn (HandSHeadRun.getT s)
theorem ob_eq (s : PySem.W.SharedT) : ob s = hk.obs s.abs := obsMG_eq (HandSHeadRun.getT_eq s)
def loose : List Str := (["MarksError", "ZeroBottom", "ratio", "row", "row_of", "row_item", "row_items", "row_sum", "row_scaled", "dot", "_law_whole", "_law_cell", "_law_digits", "_law_gcd", "_law_is_ratio", "_law_is_row"] : List Str) ++ (["_law_limit", "_law_number", "_law_numbers", "_law_pair", "_law_lines", "_law_just", "_law_fits", "_law_form", "_law_stays", "_law_made", "_law_other", "_law_mixed", "_law_two", "_law_changed", "_law_chain", "_law_empty"] : List Str) ++ (["_law_second"] : List Str)
theorem run (w : World) : HandSHeadRun.RunEqI R (PySem.W.view R.prog [0, 38]) hk ob 20000 loose w := by
  unfold HandSHeadRun.RunEqI
  kernel_rfl
theorem facts {P : Program} {w : World} {K : PySem.W.Frag} {h : Heap} {mg : Str → Option Value} {f : Addr} (X : K.In h) (G : h.Ns mainGlobals mg) (hfa : mg ("law" : Str) = some (.ref f)) (c : SaysM fa ex fn K) :
    ∃ fd : FuncData, (∀ (s : Shared) (v : Value), BindsTo s fd ⟨[v], []⟩ [("script", v)]) ∧ ∀ base : Heap, FnOk P w K mg base (L2.CX P w) 6 f fd ["script"] (spD K T_law) := by
  obtain ⟨fd5, F5⟩ := c.def_ 0 (d := dTop "ratio" (top 5) [.int 1]) rfl
  obtain ⟨fd7, F7⟩ := c.def_ 1 (d := dTop "row" (top 7) [.int 1]) rfl
  obtain ⟨fd8, F8⟩ := c.def_ 2 (d := dTop "row_of" (top 8) []) rfl
  obtain ⟨fd9, F9⟩ := c.def_ 3 (d := dTop "row_item" (top 9) []) rfl
  obtain ⟨fd10, F10⟩ := c.def_ 4 (d := dTop "row_items" (top 10) []) rfl
  obtain ⟨fd11, F11⟩ := c.def_ 5 (d := dTop "row_sum" (top 11) []) rfl
  obtain ⟨fd12, F12⟩ := c.def_ 6 (d := dTop "row_scaled" (top 12) []) rfl
  obtain ⟨fd13, F13⟩ := c.def_ 7 (d := dTop "dot" (top 13) []) rfl
  obtain ⟨fd15, F15⟩ := c.def_ 8 (d := dTop "_law_whole" (top 15) []) rfl
  obtain ⟨fd16, F16⟩ := c.def_ 9 (d := dTop "_law_cell" (top 16) []) rfl
  obtain ⟨fd17, F17⟩ := c.def_ 10 (d := dTop "_law_digits" (top 17) []) rfl
  obtain ⟨fd18, F18⟩ := c.def_ 11 (d := dTop "_law_gcd" (top 18) []) rfl
  obtain ⟨fd19, F19⟩ := c.def_ 12 (d := dTop "_law_is_ratio" (top 19) []) rfl
  obtain ⟨fd20, F20⟩ := c.def_ 13 (d := dTop "_law_is_row" (top 20) []) rfl
  obtain ⟨fd21, F21⟩ := c.def_ 14 (d := dTop "_law_limit" (top 21) []) rfl
  obtain ⟨fd22, F22⟩ := c.def_ 15 (d := dTop "_law_number" (top 22) []) rfl
  obtain ⟨fd23, F23⟩ := c.def_ 16 (d := dTop "_law_numbers" (top 23) []) rfl
  obtain ⟨fd24, F24⟩ := c.def_ 17 (d := dTop "_law_pair" (top 24) []) rfl
  obtain ⟨fd25, F25⟩ := c.def_ 18 (d := dTop "_law_lines" (top 25) []) rfl
  obtain ⟨fd26, F26⟩ := c.def_ 19 (d := dTop "_law_just" (top 26) []) rfl
  obtain ⟨fd27, F27⟩ := c.def_ 20 (d := dTop "_law_fits" (top 27) []) rfl
  obtain ⟨fd28, F28⟩ := c.def_ 21 (d := dTop "_law_form" (top 28) []) rfl
  obtain ⟨fd29, F29⟩ := c.def_ 22 (d := dTop "_law_stays" (top 29) []) rfl
  obtain ⟨fd30, F30⟩ := c.def_ 23 (d := dTop "_law_made" (top 30) []) rfl
  obtain ⟨fd31, F31⟩ := c.def_ 24 (d := dTop "_law_other" (top 31) []) rfl
  obtain ⟨fd32, F32⟩ := c.def_ 25 (d := dTop "_law_mixed" (top 32) []) rfl
  obtain ⟨fd33, F33⟩ := c.def_ 26 (d := dTop "_law_two" (top 33) []) rfl
  obtain ⟨fd34, F34⟩ := c.def_ 27 (d := dTop "_law_changed" (top 34) []) rfl
  obtain ⟨fd35, F35⟩ := c.def_ 28 (d := dTop "_law_chain" (top 35) []) rfl
  obtain ⟨fd36, F36⟩ := c.def_ 29 (d := dTop "_law_empty" (top 36) []) rfl
  obtain ⟨fd37, F37⟩ := c.def_ 30 (d := dTop "_law_second" (top 37) []) rfl
  obtain ⟨fd38, F38⟩ := c.def_ 31 (d := dTop "law" (top 38) []) rfl
  obtain ⟨fdC_ZeroBottom, FC_ZeroBottom⟩ := c.def_ 32 (d := dC_ZeroBottom) rfl
  have e := hfa.symm.trans (glo_ok X G (c.fact 33 (f := .glo "law") rfl))
  cases e
  have b := FunD.bindsA (ps := ["script"]) F38 (fun _ _ _ _ _ _ us hl => match us, hl with | [_], _ => rfl)
  refine ⟨fd38, fun s v => b s [v] rfl, fun base => ?_⟩
  have M : Bi mg := ⟨(free_ok X G (c.fact 34 (f := .free "len") rfl)), (free_ok X G (c.fact 35 (f := .free "range") rfl)), (free_ok X G (c.fact 36 (f := .free "int") rfl)), (free_ok X G (c.fact 37 (f := .free "abs") rfl)), (free_ok X G (c.fact 38 (f := .free "tuple") rfl)), (free_ok X G (c.fact 39 (f := .free "list") rfl)), (free_ok X G (c.fact 40 (f := .free "isinstance") rfl)), (free_ok X G (c.fact 41 (f := .free "bool") rfl)), (free_ok X G (c.fact 42 (f := .free "sum") rfl))⟩
  have BM : Bm mg := ⟨(free_ok X G (c.fact 34 (f := .free "len") rfl)), (free_ok X G (c.fact 35 (f := .free "range") rfl)), (free_ok X G (c.fact 36 (f := .free "int") rfl)), (free_ok X G (c.fact 37 (f := .free "abs") rfl)), (free_ok X G (c.fact 38 (f := .free "tuple") rfl)), (free_ok X G (c.fact 39 (f := .free "list") rfl)), (free_ok X G (c.fact 40 (f := .free "isinstance") rfl)), (free_ok X G (c.fact 41 (f := .free "bool") rfl)), (free_ok X G (c.fact 42 (f := .free "sum") rfl)), (free_ok X G (c.fact 43 (f := .free "min") rfl)), (free_ok X G (c.fact 44 (f := .free "max") rfl)), (free_ok X G (c.fact 45 (f := .free "str") rfl))⟩
  have Z_ZeroBottom : Exc1 P w K mg base 1 "ZeroBottom" "top" (cC_ZeroBottom K) := ⟨oexB_ok (c.xt 0 rfl), eqO_ok (c.xt 1 rfl), (glo_ok X G (c.fact 1 (f := .glo "ZeroBottom") rfl)), fC_ZeroBottom K, fdC_ZeroBottom, ["self", "top"], eqO_ok (c.xt 2 rfl), of_decide_eq_true (c.xt 3 rfl), init1_ok FC_ZeroBottom ⟨rfl, rfl, rfl, by decide +kernel, rfl, by decide +kernel, by decide +kernel⟩ (fun _ _ _ _ _ _ => pv 0) (fun _ _ _ _ _ _ => pv 1) (fun _ _ _ _ _ _ => rfl), FC_ZeroBottom.bindsN (fun _ _ _ _ _ _ us hl => match us, hl with | [_, _], _ => rfl)⟩
  have mgcd : mg "gcd" = some (.builtin "math.gcd") := PySem.W.mg_of X G (eqO_ok (c.xt 4 rfl))
  have mlcm : mg "lcm" = some (.builtin "math.lcm") := PySem.W.mg_of X G (eqO_ok (c.xt 5 rfl))
  have f_cell := mk_fn (P := P) (w := w) (base := base) F16 (ok_cell F16 M) (glo_ok X G (c.fact 11 (f := .glo "_law_cell") rfl)) (fun _ _ _ _ _ _ us hl => match us, hl with | [_, _], _ => rfl)
  have f_digits := mk_fn (P := P) (w := w) (base := base) F17 (ok_digits F17 M) (glo_ok X G (c.fact 12 (f := .glo "_law_digits") rfl)) (fun _ _ _ _ _ _ us hl => match us, hl with | [_, _], _ => rfl)
  have f_gcd := mk_fn (P := P) (w := w) (base := base) F18 (ok_gcd F18 M) (glo_ok X G (c.fact 13 (f := .glo "_law_gcd") rfl)) (fun _ _ _ _ _ _ us hl => match us, hl with | [_, _], _ => rfl)
  have f_whole := mk_fn (P := P) (w := w) (base := base) F15 (ok_whole F15 M) (glo_ok X G (c.fact 10 (f := .glo "_law_whole") rfl)) (fun _ _ _ _ _ _ us hl => match us, hl with | [_], _ => rfl)
  have o_ratio := ok_ratio (P := P) (w := w) (base := base) F5 mgcd Z_ZeroBottom
  have f_ratio1 := mk_fnD (P := P) (w := w) (base := base) (dds := [.int 1]) F5 o_ratio (glo_ok X G (c.fact 2 (f := .glo "ratio") rfl)) 1 0 (List.cons_ne_nil _ _) rfl (fun _ => .cons (.int 1) .nil) (fun _ _ _ _ _ _ _ us its hl hl2 => match us, its, hl, hl2 with | [_], [_], _, _ => ⟨_, rfl, rfl⟩)
  have f_ratio := mk_fnD (P := P) (w := w) (base := base) (dds := []) F5 o_ratio (glo_ok X G (c.fact 2 (f := .glo "ratio") rfl)) 2 1 (List.cons_ne_nil _ _) rfl (fun _ => .nil) (fun _ _ _ _ _ _ _ us its hl hl2 => match us, its, hl, hl2 with | [_, _], [_], _, _ => ⟨_, rfl, rfl⟩)
  have f_is_ratio := mk_fn (P := P) (w := w) (base := base) F19 (ok_isr F19 M f_whole f_gcd) (glo_ok X G (c.fact 14 (f := .glo "_law_is_ratio") rfl)) (fun _ _ _ _ _ _ us hl => match us, hl with | [_], _ => rfl)
  have f_limit := mk_fn (P := P) (w := w) (base := base) F21 (ok_limit F21 M) (glo_ok X G (c.fact 16 (f := .glo "_law_limit") rfl)) (fun _ _ _ _ _ _ us hl => match us, hl with | [_], _ => rfl)
  have f_number := mk_fn (P := P) (w := w) (base := base) F22 (ok_number F22 M f_digits) (glo_ok X G (c.fact 17 (f := .glo "_law_number") rfl)) (fun _ _ _ _ _ _ us hl => match us, hl with | [_, _], _ => rfl)
  have f_pair := mk_fn (P := P) (w := w) (base := base) F24 (ok_pair F24 f_gcd) (glo_ok X G (c.fact 19 (f := .glo "_law_pair") rfl)) (fun _ _ _ _ _ _ us hl => match us, hl with | [_, _], _ => rfl)
  have f_just := mk_fn (P := P) (w := w) (base := base) F26 (ok_just F26 f_is_ratio) (glo_ok X G (c.fact 21 (f := .glo "_law_just") rfl)) (fun _ _ _ _ _ _ us hl => match us, hl with | [_, _, _], _ => rfl)
  have o_row := ok_row (P := P) (w := w) (base := base) F7 M mgcd
  have f_row1 := mk_fnD (P := P) (w := w) (base := base) (dds := [.int 1]) F7 o_row (glo_ok X G (c.fact 3 (f := .glo "row") rfl)) 1 0 (List.cons_ne_nil _ _) rfl (fun _ => .cons (.int 1) .nil) (fun _ _ _ _ _ _ _ us its hl hl2 => match us, its, hl, hl2 with | [_], [_], _, _ => ⟨_, rfl, rfl⟩)
  have f_row := mk_fnD (P := P) (w := w) (base := base) (dds := []) F7 o_row (glo_ok X G (c.fact 3 (f := .glo "row") rfl)) 2 1 (List.cons_ne_nil _ _) rfl (fun _ => .nil) (fun _ _ _ _ _ _ _ us its hl hl2 => match us, its, hl, hl2 with | [_, _], [_], _, _ => ⟨_, rfl, rfl⟩)
  have f_row_of := mk_fn (P := P) (w := w) (base := base) F8 (ok_row_of F8 M mlcm f_row) (glo_ok X G (c.fact 4 (f := .glo "row_of") rfl)) (fun _ _ _ _ _ _ us hl => match us, hl with | [_], _ => rfl)
  have f_row_item := mk_fn (P := P) (w := w) (base := base) F9 (ok_row_item F9 f_ratio) (glo_ok X G (c.fact 5 (f := .glo "row_item") rfl)) (fun _ _ _ _ _ _ us hl => match us, hl with | [_, _], _ => rfl)
  have f_row_items := mk_fn (P := P) (w := w) (base := base) F10 (ok_row_items F10 M f_ratio) (glo_ok X G (c.fact 6 (f := .glo "row_items") rfl)) (fun _ _ _ _ _ _ us hl => match us, hl with | [_], _ => rfl)
  have f_row_sum := mk_fn (P := P) (w := w) (base := base) F11 (ok_row_sum F11 M f_row) (glo_ok X G (c.fact 7 (f := .glo "row_sum") rfl)) (fun _ _ _ _ _ _ us hl => match us, hl with | [_, _], _ => rfl)
  have f_row_scaled := mk_fn (P := P) (w := w) (base := base) F12 (ok_row_scaled F12 M f_row) (glo_ok X G (c.fact 8 (f := .glo "row_scaled") rfl)) (fun _ _ _ _ _ _ us hl => match us, hl with | [_, _], _ => rfl)
  have f_dot := mk_fn (P := P) (w := w) (base := base) F13 (ok_dot F13 M f_ratio) (glo_ok X G (c.fact 9 (f := .glo "dot") rfl)) (fun _ _ _ _ _ _ us hl => match us, hl with | [_, _], _ => rfl)
  have f_is_row := mk_fn (P := P) (w := w) (base := base) F20 (ok_isrow F20 M f_whole f_gcd) (glo_ok X G (c.fact 15 (f := .glo "_law_is_row") rfl)) (fun _ _ _ _ _ _ us hl => match us, hl with | [_, _], _ => rfl)
  have f_numbers := mk_fn (P := P) (w := w) (base := base) F23 (ok_numbers F23 M f_digits) (glo_ok X G (c.fact 18 (f := .glo "_law_numbers") rfl)) (fun _ _ _ _ _ _ us hl => match us, hl with | [_, _, _], _ => rfl)
  have f_lines := mk_fn (P := P) (w := w) (base := base) F25 (ok_lines F25 M f_gcd) (glo_ok X G (c.fact 20 (f := .glo "_law_lines") rfl)) (fun _ _ _ _ _ _ us hl => match us, hl with | [_, _], _ => rfl)
  have f_fits := mk_fn (P := P) (w := w) (base := base) F27 (ok_fits F27 M f_is_row) (glo_ok X G (c.fact 22 (f := .glo "_law_fits") rfl)) (fun _ _ _ _ _ _ us hl => match us, hl with | [_, _, _], _ => rfl)
  have f_form := mk_fn (P := P) (w := w) (base := base) F28 (ok_form F28 M) (glo_ok X G (c.fact 23 (f := .glo "_law_form") rfl)) (fun _ _ _ _ _ _ us hl => match us, hl with | [_, _], _ => rfl)
  have f_stays := mk_fn (P := P) (w := w) (base := base) F29 (ok_stays F29 M) (glo_ok X G (c.fact 24 (f := .glo "_law_stays") rfl)) (fun _ _ _ _ _ _ us hl => match us, hl with | [_, _], _ => rfl)
  have f_second := mk_fn (P := P) (w := w) (base := base) F37 (ok_second F37 M f_lines) (glo_ok X G (c.fact 32 (f := .glo "_law_second") rfl)) (fun _ _ _ _ _ _ us hl => match us, hl with | [_, _, _, _], _ => rfl)
  have f_other := mk_fn (P := P) (w := w) (base := base) F31 (ok_other F31 M f_row f_fits) (glo_ok X G (c.fact 26 (f := .glo "_law_other") rfl)) (fun _ _ _ _ _ _ us hl => match us, hl with | [_, _, _], _ => rfl)
  have f_mixed := mk_fn (P := P) (w := w) (base := base) F32 (ok_mixed F32 M f_pair f_row_of f_is_row f_row_items) (glo_ok X G (c.fact 27 (f := .glo "_law_mixed") rfl)) (fun _ _ _ _ _ _ us hl => match us, hl with | [_, _], _ => rfl)
  have f_two := mk_fn (P := P) (w := w) (base := base) F33 (ok_two F33 M f_form f_stays f_fits f_just f_row_sum f_row_scaled f_dot) (glo_ok X G (c.fact 28 (f := .glo "_law_two") rfl)) (fun _ _ _ _ _ _ us hl => match us, hl with | [_, _, _, _], _ => rfl)
  have l_changed := (.cons0 f_row_sum (by decide) <| .cons0 f_fits (by decide) <| .cons0 f_dot (by decide) <| .cons0 f_just (by decide) <| .cons0 f_row (by decide) <| .nil : FnL P w K mg base 4 fs__law_changed _)
  have f_changed := mk_fn (P := P) (w := w) (base := base) F34 (ok_changed F34 M BM l_changed f_dot f_just f_fits f_row) (glo_ok X G (c.fact 29 (f := .glo "_law_changed") rfl)) (fun _ _ _ _ _ _ us hl => match us, hl with | [_, _, _], _ => rfl)
  have l_empty := (.cons0 f_row (by decide) <| .cons f_row1 (by decide) <| .cons0 f_row_of (by decide) <| .cons0 f_row_sum (by decide) <| .cons0 f_fits (by decide) <| .cons0 f_row_scaled (by decide) <| .cons0 f_dot (by decide) <| .cons0 f_just (by decide) <| .cons0 f_row_items (by decide) <| .nil : FnL P w K mg base 4 _ _)
  have f_empty := mk_fn (P := P) (w := w) (base := base) F36 (fn_deep F36 sc__law_empty (by decide) (by intro ds k x h; repeat (first | (obtain ⟨rfl, _⟩ := h; rfl) | (obtain ⟨_, h⟩ := h))) ch__law_empty BM (fun h => nomatch h) l_empty w_empty) (glo_ok X G (c.fact 31 (f := .glo "_law_empty") rfl)) (fun _ _ _ _ _ _ us hl => match us, hl with | [_, _], _ => rfl)
  have l_chain := (.cons0 f_row (by decide) <| .cons0 f_row_sum (by decide) <| .cons0 f_lines (by decide) <| .cons0 f_row_scaled (by decide) <| .cons0 f_row_items (by decide) <| .cons0 f_row_of (by decide) <| .cons0 f_fits (by decide) <| .nil : FnL P w K mg base 4 _ _)
  have f_chain := mk_fn (P := P) (w := w) (base := base) F35 (fn_deep F35 sc__law_chain (by decide) (by intro ds k x h; repeat (first | (obtain ⟨rfl, _⟩ := h; rfl) | (obtain ⟨_, h⟩ := h))) ch__law_chain BM (fun h => nomatch h) l_chain w_chain) (glo_ok X G (c.fact 30 (f := .glo "_law_chain") rfl)) (fun _ _ _ _ _ _ us hl => match us, hl with | [_, _, _, _], _ => rfl)
  have l_made := (.cons0 f_row (by decide) <| .cons0 f_fits (by decide) <| .cons f_row1 (by decide) <| .cons0 f_pair (by decide) <| .cons0 f_row_of (by decide) <| .cons0 f_form (by decide) <| .cons0 f_row_items (by decide) <| .cons0 f_just (by decide) <| .cons0 f_row_item (by decide) <| .nil : FnL P w K mg base 4 _ _)
  have f_made := mk_fn (P := P) (w := w) (base := base) F30 (fn_deep F30 sc__law_made (by decide) (by intro ds k x h; repeat (first | (obtain ⟨rfl, _⟩ := h; rfl) | (obtain ⟨_, h⟩ := h))) ch__law_made BM (fun h => nomatch h) l_made w_made) (glo_ok X G (c.fact 25 (f := .glo "_law_made") rfl)) (fun _ _ _ _ _ _ us hl => match us, hl with | [_, _, _, _], _ => rfl)
  have l_law := (.cons0 f_cell (by decide) <| .cons0 f_digits (by decide) <| .cons0 f_limit (by decide) <| .cons0 f_numbers (by decide) <| .cons0 f_number (by decide) <| .cons0 f_pair (by decide) <| .cons0 f_made (by decide) <| .cons0 f_other (by decide) <| .cons0 f_mixed (by decide) <| .cons0 f_lines (by decide) <| .cons0 f_second (by decide) <| .cons0 f_two (by decide) <| .cons0 f_changed (by decide) <| .cons0 f_chain (by decide) <| .cons0 f_empty (by decide) <| .nil : FnL P w K mg base 5 _ _)
  exact fn_deep F38 sc_law (by decide) (by intro ds k x h; repeat (first | (obtain ⟨rfl, _⟩ := h; rfl) | (obtain ⟨_, h⟩ := h))) ch_law BM (fun h => nomatch h) l_law w_law
end K00
open PySem PySem.W PySem.Calls PyProof.Rows
theorem PySem.Challenge.cw_ledbymarks_k01_rows_holds : PySem.Challenge.rw_ledbymarks_k01_rows.Holds := by
  w_on; o_law
  refine HandSHeadRun.head_imp (r := OpenLaw.row PySem.Challenge.rw_ledbymarks_k01_rows) (q := view (OpenLaw.row PySem.Challenge.rw_ledbymarks_k01_rows).prog [0, 38]) (H := K00.hk) (ob := K00.ob) (M := 20000) (loose := K00.loose) (d := HandSHeadRun.topDef (OpenLaw.row PySem.Challenge.rw_ledbymarks_k01_rows).prog 38) (kwd := [])
    K00.ob_eq K00.run (by kernel_rfl) (by kernel_rfl) (by kernel_rfl) (by rfl) (by first | assumption | decide +kernel) (by decide +kernel) ⟨rfl, rfl, rfl, rfl, rfl, by decide +kernel⟩ ?hw ?hc
  case hw => w_witness2
  case hc =>
    refine DL.walk_ofM (l := PySem.Challenge.rw_ledbymarks_k01_rows) (n := 63) (k := 6) (x := "script") (T := K00.T_law) rfl (by decide) (by kernel_rfl) ⟨rfl, by decide, by decide⟩ (fun ns kk xx h => ⟨ns, rfl, h⟩) ?_
    intro w mg fa h Y G hmg0
    obtain ⟨K, KX, c⟩ := Y
    have hmg : mg ("law" : PySem.Str) = some (.ref fa) := by
      have e : (HandSHeadRun.topDef (OpenLaw.row PySem.Challenge.rw_ledbymarks_k01_rows).prog 38).name = ("law" : PySem.Str) := by kernel_rfl
      rw [← e]
      exact hmg0
    obtain ⟨fd, hb, hF⟩ := K00.facts (P := (PySem.Challenge.rw_ledbymarks_k01_rows).prog) (w := w) KX G hmg c
    exact ⟨K, fd, KX, hb, fun base _ _ => hF base⟩
