import PyProof.Rows.All
import Wide.All
import OpenK.AllK
import Wide.FinOn
import HandS.ForMost
import HandS.Gcd
import HandS.Wide
import HandS.IsInst
import HandS.CallSlots
import HandS.Exc
import HandS.ExcOwn
import HandS.ExcInit
import HandS.ExcField
import HandS.ExcIs
import HandS.WordsExc
import HandS.TryOnly
import HandS.Flow
import HandS.Defaults
import HandS.HotCalls
import KE.KStateDown
import HandS.Head0
import HandS.Head1
import HandS.Head2
import HandS.Head3
import HandS.HeadEnd
import HandS.HeadHook1
import HandS.HeadHook2
import HandS.Comp
import KE.KMathG
import HandS.TupAny
import HandS.Style
import HandS.NoneIn
import PySem.Challenge.RW_ledbymarks_k05_outcome_judge
set_option Elab.async false
set_option linter.all false
set_option maxRecDepth 100000
set_option maxHeartbeats 2000000
/-! A layer of our own over the hand layer: what a def does, told by data alone (no heap in sight). Part a: data, what stands for it, the cut heap. -/
namespace DL
open PySem PySem.Spec PyProof.Rows L2
inductive D where
  | non | bl (b : Bool) | int (i : Int) | str (x : Str)
  /-- a list (true) or a tuple (false) -/
  | sq (l : Bool) (ds : List D)
  | dic (kvs : List (Key × D))
  | ins (C : Addr) (fs : List (Str × D))
  | ob (a : Addr)
  /-- a caught error at a, its fields at dd -/
  | exc (a dd : Addr) (fs : List (Str × D))
  /-- the script -/
  | scr (ns : List Int)
abbrev Ex := L2.Same
/-- a class whose instances are plain, without class attributes of these names -/
structure ClsF (K : PySem.W.Frag) (C : Addr) (ks : List Str) : Prop where
  cls : L2.Cls K C
  no : ∀ f ∈ ks, L2.NoAttr K C f
inductive Is (K : PySem.W.Frag) (H : Hp) : V → D → Prop
  | non : Is K H .non .non
  | bl (b : Bool) : Is K H (.bl b) (.bl b)
  | int (i : Int) : Is K H (.int i) (.int i)
  | str (x : Str) : Is K H (.str x) (.str x)
  | lst {a : Addr} {xs : List V} {ds : List D} : Rd H a (.lst xs) → xs.length = ds.length → (∀ (i : Nat) x d, xs[i]? = some x → ds[i]? = some d → Is K H x d) → Is K H (.ref a) (.sq true ds)
  | tup {a : Addr} {xs : List V} {ds : List D} : SqT K H a xs → xs.length = ds.length → (∀ (i : Nat) x d, xs[i]? = some x → ds[i]? = some d → Is K H x d) → Is K H (.ref a) (.sq false ds)
  | dic {a : Addr} {kvs : List (Key × V)} {kds : List (Key × D)} : Rd H a (.dK kvs) → kvs.map (·.1) = kds.map (·.1) → (∀ (i : Nat) x d, kvs[i]? = some x → kds[i]? = some d → Is K H x.2 d.2) → Is K H (.ref a) (.dic kds)
  | ins {a C dx : Addr} {fs : List (Str × V)} {gs : List (Str × D)} : ClsF K C (gs.map (·.1)) → H a = some (.ins C dx fs) → fs.map (·.1) = gs.map (·.1) → (∀ (i : Nat) x d, fs[i]? = some x → gs[i]? = some d → Is K H x.2 d.2) → Is K H (.ref a) (.ins C gs)
  | ob (a : Addr) : Is K H (.ref a) (.ob a)
  | scr {a : Addr} {ns : List Int} : SqL K H a (ns.map V.int) → Is K H (.ref a) (.scr ns)
  | exc {a dd : Addr} {fs : List (Str × V)} {gs : List (Str × D)} : H dd = some (.xd fs) → fs.map (·.1) = gs.map (·.1) → (∀ (i : Nat) x d, fs[i]? = some x → gs[i]? = some d → Is K H x.2 d.2) → Is K H (.ref a) (.exc a dd gs)
def IsL (K : PySem.W.Frag) (H : Hp) (xs : List V) (ds : List D) : Prop := xs.length = ds.length ∧ ∀ (i : Nat) x d, xs[i]? = some x → ds[i]? = some d → Is K H x d
def IsK (K : PySem.W.Frag) (H : Hp) (xs : List (Key × V)) (ds : List (Key × D)) : Prop := xs.map (·.1) = ds.map (·.1) ∧ ∀ (i : Nat) x d, xs[i]? = some x → ds[i]? = some d → Is K H x.2 d.2
def IsF (K : PySem.W.Frag) (H : Hp) (xs : List (Str × V)) (ds : List (Str × D)) : Prop := xs.map (·.1) = ds.map (·.1) ∧ ∀ (i : Nat) x d, xs[i]? = some x → ds[i]? = some d → Is K H x.2 d.2
section
variable {K : PySem.W.Frag} {H H' : Hp} {v : V} {d : D} {xs : List V} {ds : List D}
theorem Ex.rd {a : Addr} {u : HO} (e : Ex H H') (h : Rd H a u) : Rd H' a u := by
  rcases h with h | ⟨o, h⟩
  · exact Or.inl (e a _ h)
  · exact Or.inr ⟨o, e a _ h⟩
theorem Ex.sqL {a : Addr} {xs : List V} (e : Ex H H') (h : SqL K H a xs) : SqL K H' a xs := by
  rcases h with h | h
  · exact Or.inl (Ex.rd e h)
  · exact Or.inr h
theorem Ex.sqT {a : Addr} {xs : List V} (e : Ex H H') (h : SqT K H a xs) : SqT K H' a xs := by
  rcases h with h | h
  · exact Or.inl (Ex.rd e h)
  · exact Or.inr h
theorem Ex.new {p : Addr} {o : HO} (h : H p = none) : Ex H (upd H p o) := fun a u e => by
  rw [upd_ne (ne_of_none e h)]
  exact e
theorem Is.mono (e : Ex H H') (h : Is K H v d) : Is K H' v d := by
  induction h with
  | non => exact .non
  | bl b => exact .bl b
  | int i => exact .int i
  | str x => exact .str x
  | lst a b _ ih => exact .lst (Ex.rd e a) b ih
  | scr a => exact .scr (Ex.sqL e a)
  | tup a b _ ih => exact .tup (Ex.sqT e a) b ih
  | dic a b _ ih => exact .dic (Ex.rd e a) b ih
  | ins c a b _ ih => exact .ins c (e _ _ a) b ih
  | ob a => exact .ob a
  | exc a b _ ih => exact .exc (e _ _ a) b ih
theorem IsL.mono (e : Ex H H') (h : IsL K H xs ds) : IsL K H' xs ds := ⟨h.1, fun i x d a b => (h.2 i x d a b).mono e⟩
theorem IsK.mono {xs : List (Key × V)} {ds : List (Key × D)} (e : Ex H H') (h : IsK K H xs ds) : IsK K H' xs ds := ⟨h.1, fun i x d a b => (h.2 i x d a b).mono e⟩
theorem IsF.mono {xs : List (Str × V)} {ds : List (Str × D)} (e : Ex H H') (h : IsF K H xs ds) : IsF K H' xs ds := ⟨h.1, fun i x d a b => (h.2 i x d a b).mono e⟩
theorem IsL.nil : IsL K H [] [] := ⟨rfl, fun i x d a _ => by cases a⟩
theorem IsL.cons (h : Is K H v d) (r : IsL K H xs ds) : IsL K H (v :: xs) (d :: ds) := ⟨congrArg (· + 1) r.1, fun i x d' a b => by
  cases i with
  | zero => cases a; cases b; exact h
  | succ i => exact r.2 i x d' a b⟩
theorem IsL.head {x : V} (h : IsL K H (x :: xs) (d :: ds)) : Is K H x d := h.2 0 x d rfl rfl
theorem IsL.tail {x : V} (h : IsL K H (x :: xs) (d :: ds)) : IsL K H xs ds := ⟨Nat.succ.inj h.1, fun i x d a b => h.2 (i + 1) x d a b⟩
theorem IsL.inv_nil (h : IsL K H xs []) : xs = [] := List.length_eq_zero_iff.mp h.1
theorem IsL.inv_cons (h : IsL K H xs (d :: ds)) : ∃ x r, xs = x :: r ∧ Is K H x d ∧ IsL K H r ds := by
  cases xs with
  | nil => cases h.1
  | cons x r => exact ⟨x, r, rfl, h.head, h.tail⟩
theorem IsL.get {i : Nat} (h : IsL K H xs ds) (e : ds[i]? = some d) : ∃ x, xs[i]? = some x ∧ Is K H x d := by
  have hi : i < xs.length := by rw [h.1]; exact (List.getElem?_eq_some_iff.mp e).1
  exact ⟨xs[i], List.getElem?_eq_getElem hi, h.2 i _ d (List.getElem?_eq_getElem hi) e⟩
theorem IsL.getV {i : Nat} {x : V} (h : IsL K H xs ds) (e : xs[i]? = some x) : ∃ d, ds[i]? = some d ∧ Is K H x d := by
  have hi : i < ds.length := by rw [← h.1]; exact (List.getElem?_eq_some_iff.mp e).1
  exact ⟨ds[i], List.getElem?_eq_getElem hi, h.2 i x _ e (List.getElem?_eq_getElem hi)⟩
theorem IsL.snoc (h : IsL K H xs ds) (r : Is K H v d) : IsL K H (xs ++ [v]) (ds ++ [d]) := ⟨by simp [h.1], fun i x d' a b => by
  by_cases hi : i < xs.length
  · rw [List.getElem?_append_left hi] at a
    rw [List.getElem?_append_left (by rw [← h.1]; exact hi)] at b
    exact h.2 i x d' a b
  · rw [List.getElem?_append_right (Nat.le_of_not_lt hi)] at a
    rw [List.getElem?_append_right (by rw [← h.1]; exact Nat.le_of_not_lt hi), ← h.1] at b
    cases e : i - xs.length with
    | zero => rw [e] at a b; cases a; cases b; exact r
    | succ n => rw [e] at a; cases a⟩
theorem IsL.app {ys : List V} {es : List D} (h : IsL K H xs ds) (r : IsL K H ys es) : IsL K H (xs ++ ys) (ds ++ es) := ⟨by simp [h.1, r.1], fun i x d' a b => by
  by_cases hi : i < xs.length
  · rw [List.getElem?_append_left hi] at a
    rw [List.getElem?_append_left (by rw [← h.1]; exact hi)] at b
    exact h.2 i x d' a b
  · rw [List.getElem?_append_right (Nat.le_of_not_lt hi)] at a
    rw [List.getElem?_append_right (by rw [← h.1]; exact Nat.le_of_not_lt hi), ← h.1] at b
    exact r.2 _ x d' a b⟩
theorem IsL.set {i : Nat} (h : IsL K H xs ds) (r : Is K H v d) : IsL K H (xs.set i v) (ds.set i d) := ⟨by simp [h.1], fun j x d' a b => by
  rw [List.getElem?_set] at a b
  by_cases e : i = j
  · rw [if_pos e] at a b
    split at a
    · split at b
      · cases a; cases b; exact r
      · cases b
    · cases a
  · rw [if_neg e] at a b
    exact h.2 j x d' a b⟩
theorem IsL.of_get (hl : xs.length = ds.length) (h : ∀ (i : Nat) x d, xs[i]? = some x → ds[i]? = some d → Is K H x d) : IsL K H xs ds := ⟨hl, h⟩
theorem IsL.ints (ns : List Int) : IsL K H (ns.map V.int) (ns.map D.int) := ⟨by simp, fun i x d a b => by
  rw [List.getElem?_map] at a b
  cases e : ns[i]? with
  | none => rw [e] at a; cases a
  | some n => rw [e] at a b; cases a; cases b; exact .int n⟩
theorem Is.int_inv {i : Int} (h : Is K H v (.int i)) : v = .int i := by cases h; rfl
theorem Is.bl_inv {i : Bool} (h : Is K H v (.bl i)) : v = .bl i := by cases h; rfl
theorem Is.str_inv {i : Str} (h : Is K H v (.str i)) : v = .str i := by cases h; rfl
theorem Is.non_inv (h : Is K H v .non) : v = .non := by cases h; rfl
theorem Is.lst_inv (h : Is K H v (.sq true ds)) : ∃ a xs, v = .ref a ∧ Rd H a (.lst xs) ∧ IsL K H xs ds := by
  cases h with
  | lst a b c => exact ⟨_, _, rfl, a, b, c⟩
theorem Is.tup_inv (h : Is K H v (.sq false ds)) : ∃ a xs, v = .ref a ∧ SqT K H a xs ∧ IsL K H xs ds := by
  cases h with
  | tup a b c => exact ⟨_, _, rfl, a, b, c⟩
theorem Is.sq_inv {l : Bool} (h : Is K H v (.sq l ds)) : ∃ a xs, v = .ref a ∧ (if l then Rd H a (.lst xs) else SqT K H a xs) ∧ IsL K H xs ds := by
  cases l with
  | true => exact h.lst_inv
  | false => exact h.tup_inv
theorem Is.ins_inv {C : Addr} {gs : List (Str × D)} (h : Is K H v (.ins C gs)) : ∃ a dx fs, v = .ref a ∧ ClsF K C (gs.map (·.1)) ∧ H a = some (.ins C dx fs) ∧ IsF K H fs gs := by
  cases h with
  | ins z a b c => exact ⟨_, _, _, rfl, z, a, b, c⟩
theorem Is.dic_inv {kds : List (Key × D)} (h : Is K H v (.dic kds)) : ∃ a kvs, v = .ref a ∧ Rd H a (.dK kvs) ∧ IsK K H kvs kds := by
  cases h with
  | dic a b c => exact ⟨_, _, rfl, a, b, c⟩
theorem Is.scr_inv {ns : List Int} (h : Is K H v (.scr ns)) : ∃ a, v = .ref a ∧ SqL K H a (ns.map V.int) := by
  cases h with
  | scr a => exact ⟨_, rfl, a⟩
theorem Is.mkL {a : Addr} (h : Rd H a (.lst xs)) (r : IsL K H xs ds) : Is K H (.ref a) (.sq true ds) := .lst h r.1 r.2
theorem Is.mkT {a : Addr} (h : SqT K H a xs) (r : IsL K H xs ds) : Is K H (.ref a) (.sq false ds) := .tup h r.1 r.2
/-- no reference in it -/
def Flat : D → Prop
  | .non | .bl _ | .int _ | .str _ => True
  | _ => False
theorem Is.flat (f : Flat d) (h : Is K H v d) : Is K H' v d := by
  cases h with
  | non => exact .non
  | bl b => exact .bl b
  | int i => exact .int i
  | str x => exact .str x
  | _ => exact f.elim
end
/-! ### the cut heap -/
def cut (H : Hp) (ps : List Addr) : Hp := fun a => if a ∈ ps then none else H a
def mrg (H : Hp) (ps : List Addr) (G : Hp) : Hp := fun a => if a ∈ ps then H a else G a
theorem cut_in {H : Hp} {ps : List Addr} {a : Addr} (h : a ∈ ps) : cut H ps a = none := if_pos h
theorem cut_out {H : Hp} {ps : List Addr} {a : Addr} (h : a ∉ ps) : cut H ps a = H a := if_neg h
theorem mrg_in {H G : Hp} {ps : List Addr} {a : Addr} (h : a ∈ ps) : mrg H ps G a = H a := if_pos h
theorem mrg_out {H G : Hp} {ps : List Addr} {a : Addr} (h : a ∉ ps) : mrg H ps G a = G a := if_neg h
theorem cut_ex {H : Hp} {ps : List Addr} : Ex (cut H ps) H := fun a o e => by
  by_cases h : a ∈ ps
  · rw [cut_in h] at e; cases e
  · rw [cut_out h] at e; exact e
theorem cut_some {H : Hp} {ps : List Addr} {a : Addr} {o : HO} (e : cut H ps a = some o) : a ∉ ps ∧ H a = some o := by
  by_cases h : a ∈ ps
  · rw [cut_in h] at e; cases e
  · rw [cut_out h] at e; exact ⟨h, e⟩
theorem cut_sub {H : Hp} {ps qs : List Addr} (h : ∀ a ∈ qs, a ∈ ps) : Ex (cut H ps) (cut H qs) := fun a o e => by
  obtain ⟨n, e⟩ := cut_some e
  rw [cut_out fun z => n (h a z)]
  exact e
theorem cut_mono {H H' : Hp} {ps : List Addr} (h : Ex H H') : Ex (cut H ps) (cut H' ps) := fun a o e => by
  obtain ⟨n, e⟩ := cut_some e
  rw [cut_out n]
  exact h a o e
theorem cut_mrg {H G : Hp} {ps : List Addr} (h : ∀ a ∈ ps, G a = none) : cut (mrg H ps G) ps = G := by
  funext a
  by_cases z : a ∈ ps
  · rw [cut_in z, h a z]
  · rw [cut_out z, mrg_out z]
theorem mrg_ex {H G : Hp} {ps : List Addr} (h : Ex (cut H ps) G) : Ex H (mrg H ps G) := fun a o e => by
  by_cases z : a ∈ ps
  · rw [mrg_in z]; exact e
  · rw [mrg_out z]; exact h a o (by rw [cut_out z]; exact e)
theorem cut_nil {H : Hp} : cut H [] = H := by
  funext a
  exact cut_out (by simp)
/-- what may be owned -/
def OwnAt (H : Hp) (ps : List Addr) (a : Addr) : Prop :=
  (∃ xs, H a = some (.lst xs)) ∨ (∃ kvs, H a = some (.dK kvs)) ∨ (∃ C dx fs, H a = some (.ins C dx fs) ∧ dx ∈ ps) ∨ (∃ x C fs, H a = some (.own x) ∧ x ∈ ps ∧ H x = some (.ins C a fs))
section
variable {X : Cx} {pins : List (Addr × Obj)} {σ σ' : L2.St} {H G : Hp} {s s' : Shared} {ps : List Addr}
theorem OwnAt.some {a : Addr} (h : OwnAt H ps a) : ∃ o, H a = .some o := by
  rcases h with ⟨_, h⟩ | ⟨_, h⟩ | ⟨_, _, _, h, _⟩ | ⟨_, _, _, h, _⟩ <;> exact ⟨_, h⟩
theorem OwnAt.notup {a : Addr} {xs : List V} (h : OwnAt H ps a) : H a ≠ .some (.tup xs) := fun e => by
  rcases h with ⟨_, h⟩ | ⟨_, h⟩ | ⟨_, _, _, h, _⟩ | ⟨_, _, _, h, _⟩ <;> (rw [e] at h; cases h)
theorem OwnAt.nofrz {a : Addr} {o : Obj} {u : HO} (h : OwnAt H ps a) : H a ≠ .some (.frz o u) := fun e => by
  rcases h with ⟨_, h⟩ | ⟨_, h⟩ | ⟨_, _, _, h, _⟩ | ⟨_, _, _, h, _⟩ <;> (rw [e] at h; cases h)
theorem OwnAt.notbl {a : Addr} {ts : Array Value} (h : OwnAt H ps a) : H a ≠ .some (.tbl ts) := fun e => by
  rcases h with ⟨_, h⟩ | ⟨_, h⟩ | ⟨_, _, _, h, _⟩ | ⟨_, _, _, h, _⟩ <;> (rw [e] at h; cases h)
theorem fs_free (I : Inv X pins σ H s) : ∀ b ∈ X.fs, H b = none := fun b hb => by
  obtain ⟨_, o, ho, _⟩ := I.ok.funs.mem hb
  exact I.base.free b o ho (I.ok.frf b hb) fun z => I.ok.exfs b z hb
/-- an owned object's description, and its record, at a heap where the owned records stand -/
theorem own_ok {P : Program} {w : World} {H H' : Hp} {h h' : Heap} {a : Addr} {o : HO} (hp : ∀ a ∈ ps, OwnAt H ps a) (ha : a ∈ ps) (e : H a = some o) (x : ObjOk P w H h a o)
    (k : ∀ b ∈ ps, ∀ u, h.get? b = some u → h'.get? b = some u) (hH : ∀ b ∈ ps, H' b = H b) : ObjOk P w H' h' a o := by
  rcases hp a ha with ⟨xs, q⟩ | ⟨kvs, q⟩ | ⟨C, dx, fs, q, hd⟩ | ⟨y, C, fs, q, hy, hI⟩
  · rw [e] at q; cases q
    obtain ⟨z, its, n, r, g⟩ := x
    exact ⟨z, its, n, r, k a ha _ g⟩
  · rw [e] at q; cases q
    obtain ⟨z, y, vs, r, ob, es, ep, g, c⟩ := x
    exact ⟨z, y, vs, r, ob, es, ep, k a ha _ g, c⟩
  · rw [e] at q; cases q
    obtain ⟨d, z, ne, g, mA, ⟨od, es, ep, e2, c⟩, r⟩ := x
    exact ⟨by rw [hH dx hd]; exact d, z, ne, k a ha _ g, mA, ⟨od, es, ep, k dx hd _ e2, c⟩, r⟩
  · rw [e] at q; cases q
    obtain ⟨ob, g⟩ := x
    exact ⟨ob, k a ha _ g⟩
theorem own_nocell {P : Program} {w : World} {H : Hp} {h : Heap} {a : Addr} {o : HO} {ob : Obj} (ok : HOk P w H h) (hp : ∀ a ∈ ps, OwnAt H ps a) (ha : a ∈ ps) (e : H a = some o) (g : h.get? a = some ob) : ∀ v, ob.data ≠ .cell v := by
  have x := ok a o e
  rcases hp a ha with ⟨xs, q⟩ | ⟨kvs, q⟩ | ⟨C, dx, fs, q, hd⟩ | ⟨y, C, fs, q, hy, hI⟩
  · rw [e] at q; cases q
    obtain ⟨z, its, n, r, g'⟩ := x
    rw [g] at g'; cases g'
    intro v z; cases z
  · rw [e] at q; cases q
    obtain ⟨z, y, vs, r, ob', es, ep, g', c⟩ := x
    rw [g] at g'; cases g'
    intro v z
    have := c.2.1
    rw [z] at this; cases this
  · rw [e] at q; cases q
    obtain ⟨d, z, ne, g', _⟩ := x
    rw [g] at g'; cases g'
    intro v z; cases z
  · rw [e] at q; cases q
    obtain ⟨d, z, ne, g', mA, ⟨od, es, ep, e2, c, _⟩, _⟩ := ok y _ hI
    rw [g] at e2; cases e2
    intro v z
    rw [z] at c; cases c
theorem own_there {P : Program} {w : World} {H : Hp} {h : Heap} {a : Addr} {o : HO} (ok : HOk P w H h) (hp : ∀ a ∈ ps, OwnAt H ps a) (ha : a ∈ ps) (e : H a = some o) : ∃ ob, h.get? a = some ob := by
  have x := ok a o e
  rcases hp a ha with ⟨xs, q⟩ | ⟨kvs, q⟩ | ⟨C, dx, fs, q, hd⟩ | ⟨y, C, fs, q, hy, hI⟩
  · rw [e] at q; cases q
    obtain ⟨z, its, n, r, g'⟩ := x
    exact ⟨_, g'⟩
  · rw [e] at q; cases q
    obtain ⟨z, y, vs, r, ob', es, ep, g', c⟩ := x
    exact ⟨_, g'⟩
  · rw [e] at q; cases q
    obtain ⟨d, z, ne, g', _⟩ := x
    exact ⟨_, g'⟩
  · rw [e] at q; cases q
    exact x
/-- ahead: the owned records are pinned and no more tracked -/
theorem cut_inv (I : Inv X pins σ H s) (hp : ∀ a ∈ ps, OwnAt H ps a) : Inv X (pins ++ pinsAt ps s.heap) σ (cut H ps) s := by
  have noH : ∀ {b}, H b = none → cut H ps b = none := fun {b} e => by
    by_cases z : b ∈ ps
    · exact cut_in z
    · rw [cut_out z]; exact e
  have B := I.base
  refine ⟨I.ok, I.os, I.bare, ⟨B.keep, B.slot, fun b o q n hx => noH (B.free b o q n hx), B.there, fun b xs q => ?_, fun b o u q => ?_, fun b ts q => ?_⟩, I.loc, I.cell, noH I.free, fun x c e => noH (I.freeC x c e), fun p hpn => ?_, fun b u q => ?_, I.len⟩
  · have h := B.tups b xs q
    rw [cut_out fun z => (hp b z).notup h]
    exact h
  · have h := B.frzs b o u q
    rw [cut_out fun z => (hp b z).nofrz h]
    exact h
  · obtain ⟨more, h⟩ := B.tbls b ts q
    exact ⟨more, by rw [cut_out fun z => (hp b z).notbl h]; exact h⟩
  · rw [← List.append_assoc] at hpn
    rcases List.mem_append.mp hpn with z | z
    · obtain ⟨a1, a2, a3⟩ := I.pin p z
      exact ⟨a1, noH a2, a3⟩
    · obtain ⟨hb, g⟩ := of_pinsAt z
      obtain ⟨u, hu⟩ := (hp p.1 hb).some
      refine ⟨g, cut_in hb, fun q => ?_, fun q => ?_, own_nocell I.hok hp hb hu g⟩
      · rw [q, I.free] at hu; cases hu
      · rw [fs_free I p.1 q] at hu; cases hu
  · obtain ⟨n, q⟩ := cut_some q
    refine (I.hok b u q).stay (fun _ _ _ z => z) (fun c z => ?_) fun c xs z => ?_
    · rw [cut_out]
      · exact z
      · intro hc
        rcases hp c hc with ⟨_, h⟩ | ⟨_, h⟩ | ⟨_, _, _, h, _⟩ | ⟨x, _, _, h, hx, _⟩
        · rw [z] at h; cases h
        · rw [z] at h; cases h
        · rw [z] at h; cases h
        · rw [z] at h; cases h
          exact n hx
    · rw [cut_out fun hc => (hp c hc).notup z]
      exact z
/-- behind: they are tracked again -/
theorem mrg_inv (I : Inv X pins σ H s) (hp : ∀ a ∈ ps, OwnAt H ps a) (J : Inv X (pins ++ pinsAt ps s.heap) σ' G s') : Inv X pins σ' (mrg H ps G) s' ∧ ∀ a ∈ ps, G a = none := by
  have pn : ∀ a ∈ ps, ∃ o, s.heap.get? a = some o ∧ s'.heap.get? a = some o ∧ G a = none := fun a ha => by
    obtain ⟨u, hu⟩ := (hp a ha).some
    obtain ⟨o, ho⟩ := own_there I.hok hp ha hu
    obtain ⟨a1, a2, _⟩ := J.pin (a, o) (List.mem_append_right _ (List.mem_append_right _ (mem_pinsAt ha ho)))
    exact ⟨o, ho, a1, a2⟩
  have gn : ∀ a ∈ ps, G a = none := fun a ha => (pn a ha).choose_spec.2.2
  have noM : ∀ {b}, H b = none → G b = none → mrg H ps G b = none := fun {b} e e' => by
    by_cases z : b ∈ ps
    · rw [mrg_in z]; exact e
    · rw [mrg_out z]; exact e'
  have B := J.base
  have B0 := I.base
  refine ⟨⟨J.ok, J.os, J.bare, ⟨B.keep, B.slot, fun b o q n hx => noM (B0.free b o q n hx) (B.free b o q n hx), B.there, fun b xs q => ?_, fun b o u q => ?_, fun b ts q => ?_⟩, J.loc, J.cell, noM I.free J.free, fun x c e => noM (I.freeC x c e) (J.freeC x c e), fun p hpn => ?_, fun b u q => ?_, J.len⟩, gn⟩
  · rw [mrg_out fun z => (hp b z).notup (B0.tups b xs q)]
    exact B.tups b xs q
  · rw [mrg_out fun z => (hp b z).nofrz (B0.frzs b o u q)]
    exact B.frzs b o u q
  · obtain ⟨_, h0⟩ := B0.tbls b ts q
    obtain ⟨more, h⟩ := B.tbls b ts q
    exact ⟨more, by rw [mrg_out fun z => (hp b z).notbl h0]; exact h⟩
  · obtain ⟨a1, a2, a3⟩ := J.pin p (by rw [← List.append_assoc]; exact List.mem_append_left _ hpn)
    exact ⟨a1, noM (I.pin p hpn).2.1 a2, a3⟩
  · by_cases z : b ∈ ps
    · rw [mrg_in z] at q
      refine own_ok hp z q (I.hok b u q) (fun c hc v hv => ?_) fun c hc => mrg_in hc
      obtain ⟨o, h1, h2, _⟩ := pn c hc
      rw [hv] at h1; cases h1
      exact h2
    · rw [mrg_out z] at q
      refine (J.hok b u q).stay (fun _ _ _ z => z) (fun c y => ?_) fun c xs y => ?_
      · rw [mrg_out fun hc => by rw [gn c hc] at y; cases y]
        exact y
      · rw [mrg_out fun hc => by rw [gn c hc] at y; cases y]
        exact y
end
end DL
set_option Elab.async false
set_option linter.all false
set_option maxRecDepth 100000
set_option maxHeartbeats 2000000
/-! Part b: the state told by data; expressions. -/
namespace DL
open PySem PySem.Spec PyProof.Rows L2
/-- lists within lists that the frame alone holds, shared data at the leaves -/
inductive Tr where
  | sh (d : D) | lst (ts : List Tr)
mutual
def Tr.d : Tr → D
  | .sh d => d
  | .lst ts => .sq true (Tr.ds ts)
def Tr.ds : List Tr → List D
  | [] => []
  | t :: ts => t.d :: Tr.ds ts
end
/-- an object that the frame alone holds -/
inductive Ow where
  | lst (ds : List D) | dic (kvs : List (Key × D)) | ins (C : Addr) (fs : List (Str × D)) | tr (ts : List Tr) | self (a C : Addr) (ks : List Str) (fs : List (Str × D))
def Ow.d : Ow → D
  | .lst ds => .sq true ds
  | .dic kvs => .dic kvs
  | .ins C fs => .ins C fs
  | .tr ts => .sq true (Tr.ds ts)
  | .self _ C _ fs => .ins C fs
/-- what a slot holds (or a call hands back) -/
inductive S where
  | no | sh (d : D) | ow (o : Ow)
def S.d : S → D
  | .no => .non
  | .sh d => d
  | .ow o => o.d
mutual
def TrIs (K : PySem.W.Frag) (H G : Hp) : Tr → V → List Addr → Prop
  | .sh d, v, l => l = [] ∧ Is K G v d
  | .lst ts, v, l => ∃ p xs ls, v = .ref p ∧ l = p :: ls.flatten ∧ H p = some (.lst xs) ∧ TrsIs K H G ts xs ls
def TrsIs (K : PySem.W.Frag) (H G : Hp) : List Tr → List V → List (List Addr) → Prop
  | [], xs, ls => xs = [] ∧ ls = []
  | t :: ts, xs, ls => ∃ x xs' l ls', xs = x :: xs' ∧ ls = l :: ls' ∧ TrIs K H G t x l ∧ TrsIs K H G ts xs' ls'
end
mutual
theorem TrIs.mono {K : PySem.W.Frag} {H H' G G' : Hp} (e : Ex G G') : ∀ (t : Tr) (v : V) (l : List Addr), (∀ a ∈ l, H' a = H a) → TrIs K H G t v l → TrIs K H' G' t v l
  | .sh d, v, l, k, h => ⟨h.1, h.2.mono e⟩
  | .lst ts, v, l, k, h => by
    obtain ⟨p, xs, ls, rfl, rfl, hp, h⟩ := h
    exact ⟨p, xs, ls, rfl, rfl, by rw [k p (by simp)]; exact hp, TrsIs.mono e ts xs ls (fun a ha => k a (List.mem_cons_of_mem _ ha)) h⟩
theorem TrsIs.mono {K : PySem.W.Frag} {H H' G G' : Hp} (e : Ex G G') : ∀ (ts : List Tr) (xs : List V) (ls : List (List Addr)), (∀ a ∈ ls.flatten, H' a = H a) → TrsIs K H G ts xs ls → TrsIs K H' G' ts xs ls
  | [], xs, ls, k, h => h
  | t :: ts, xs, ls, k, h => by
    obtain ⟨x, xs', l, ls', rfl, rfl, h1, h2⟩ := h
    exact ⟨x, xs', l, ls', rfl, rfl, TrIs.mono e t x l (fun a ha => k a (by simp [ha])) h1, TrsIs.mono e ts xs' ls' (fun a ha => k a (by rw [List.flatten_cons]; exact List.mem_append_right _ ha)) h2⟩
end
mutual
theorem TrIs.lst_at {K : PySem.W.Frag} {H G : Hp} : ∀ (t : Tr) (v : V) (l : List Addr), TrIs K H G t v l → ∀ a ∈ l, ∃ xs, H a = some (.lst xs)
  | .sh d, v, l, h => fun a ha => by rw [h.1] at ha; cases ha
  | .lst ts, v, l, h => fun a ha => by
    obtain ⟨p, xs, ls, rfl, rfl, hp, h⟩ := h
    rcases List.mem_cons.mp ha with rfl | ha
    · exact ⟨_, hp⟩
    · exact TrsIs.lst_at ts xs ls h a ha
theorem TrsIs.lst_at {K : PySem.W.Frag} {H G : Hp} : ∀ (ts : List Tr) (xs : List V) (ls : List (List Addr)), TrsIs K H G ts xs ls → ∀ a ∈ ls.flatten, ∃ xs, H a = some (.lst xs)
  | [], xs, ls, h => fun a ha => by rw [h.2] at ha; cases ha
  | t :: ts, xs, ls, h => fun a ha => by
    obtain ⟨x, xs', l, ls', rfl, rfl, h1, h2⟩ := h
    rw [List.flatten_cons, List.mem_append] at ha
    rcases ha with ha | ha
    · exact TrIs.lst_at t x l h1 a ha
    · exact TrsIs.lst_at ts xs' ls' h2 a ha
end
mutual
theorem TrIs.is {K : PySem.W.Frag} {H G : Hp} (e : Ex G H) : ∀ (t : Tr) (v : V) (l : List Addr), TrIs K H G t v l → Is K H v t.d
  | .sh d, v, l, h => h.2.mono e
  | .lst ts, v, l, h => by
    obtain ⟨p, xs, ls, rfl, rfl, hp, h⟩ := h
    exact .mkL (Rd.of hp) (TrsIs.is e ts xs ls h)
theorem TrsIs.is {K : PySem.W.Frag} {H G : Hp} (e : Ex G H) : ∀ (ts : List Tr) (xs : List V) (ls : List (List Addr)), TrsIs K H G ts xs ls → IsL K H xs (Tr.ds ts)
  | [], xs, ls, h => by rw [h.1]; exact .nil
  | t :: ts, xs, ls, h => by
    obtain ⟨x, xs', l, ls', rfl, rfl, h1, h2⟩ := h
    exact .cons (TrIs.is e t x l h1) (TrsIs.is e ts xs' ls' h2)
end
def OwIs (K : PySem.W.Frag) (H G : Hp) (v : V) (l : List Addr) : Ow → Prop
  | .lst ds => ∃ p xs, v = .ref p ∧ l = [p] ∧ H p = some (.lst xs) ∧ IsL K G xs ds
  | .dic kds => ∃ p kvs, v = .ref p ∧ l = [p] ∧ H p = some (.dK kvs) ∧ IsK K G kvs kds
  | .ins C gs => ClsF K C (gs.map (·.1)) ∧ ∃ p dx fs, v = .ref p ∧ l = [p, dx] ∧ H p = some (.ins C dx fs) ∧ H dx = some (.own p) ∧ IsF K G fs gs
  | .tr ts => TrIs K H G (.lst ts) v l
  | .self a C ks gs => (ClsF K C ks ∧ ∀ f ∈ gs.map (·.1), f ∈ ks) ∧ ∃ dx fs, v = .ref a ∧ l = [a, dx] ∧ H a = some (.ins C dx fs) ∧ H dx = some (.own a) ∧ IsF K G fs gs
def SlotIs (K : PySem.W.Frag) (H G : Hp) (x : Option V) (l : List Addr) : S → Prop
  | .no => l = []
  | .sh d => l = [] ∧ ∃ v, x = some v ∧ Is K G v d
  | .ow o => ∃ v, x = some v ∧ OwIs K H G v l o
theorem OwIs.mono {K : PySem.W.Frag} {H H' G G' : Hp} {v : V} {l : List Addr} {o : Ow} (h : OwIs K H G v l o) (e : Ex G G') (k : ∀ a ∈ l, H' a = H a) : OwIs K H' G' v l o := by
  cases o with
  | lst ds =>
    obtain ⟨p, xs, a, rfl, b, c⟩ := h
    exact ⟨p, xs, a, rfl, by rw [k p (by simp)]; exact b, c.mono e⟩
  | dic ds =>
    obtain ⟨p, xs, a, rfl, b, c⟩ := h
    exact ⟨p, xs, a, rfl, by rw [k p (by simp)]; exact b, c.mono e⟩
  | ins C fs =>
    obtain ⟨z, p, dx, xs, a, rfl, b, b', c⟩ := h
    exact ⟨z, p, dx, xs, a, rfl, by rw [k p (by simp)]; exact b, by rw [k dx (by simp)]; exact b', c.mono e⟩
  | self q C ks fs =>
    obtain ⟨z, dx, xs, a, rfl, b, b', c⟩ := h
    exact ⟨z, dx, xs, a, rfl, by rw [k q (by simp)]; exact b, by rw [k dx (by simp)]; exact b', c.mono e⟩
  | tr ts => exact TrIs.mono e _ v l k h
theorem OwIs.at {K : PySem.W.Frag} {H G : Hp} {v : V} {l ps : List Addr} {o : Ow} (h : OwIs K H G v l o) (hs : ∀ a ∈ l, a ∈ ps) : ∀ a ∈ l, OwnAt H ps a := by
  cases o with
  | lst ds =>
    obtain ⟨p, xs, _, rfl, b, c⟩ := h
    intro a ha
    obtain rfl : a = p := by simpa using ha
    exact .inl ⟨_, b⟩
  | dic ds =>
    obtain ⟨p, xs, _, rfl, b, c⟩ := h
    intro a ha
    obtain rfl : a = p := by simpa using ha
    exact .inr (.inl ⟨_, b⟩)
  | ins C fs =>
    obtain ⟨_, p, dx, xs, _, rfl, b, b', c⟩ := h
    intro a ha
    rcases (by simpa using ha : a = p ∨ a = dx) with rfl | rfl
    · exact .inr (.inr (.inl ⟨_, _, _, b, hs _ (by simp)⟩))
    · exact .inr (.inr (.inr ⟨_, _, _, b', hs _ (by simp), b⟩))
  | self q C ks fs =>
    obtain ⟨_, dx, xs, _, rfl, b, b', c⟩ := h
    intro a ha
    rcases (by simpa using ha : a = q ∨ a = dx) with rfl | rfl
    · exact .inr (.inr (.inl ⟨_, _, _, b, hs _ (by simp)⟩))
    · exact .inr (.inr (.inr ⟨_, _, _, b', hs _ (by simp), b⟩))
  | tr ts => exact fun a ha => .inl (TrIs.lst_at _ v l h a ha)
/-- frozen -/
theorem OwIs.is {K : PySem.W.Frag} {H G : Hp} {v : V} {l : List Addr} {o : Ow} (h : OwIs K H G v l o) (e : Ex G H) : Is K H v o.d := by
  cases o with
  | lst ds =>
    obtain ⟨p, xs, rfl, rfl, b, c⟩ := h
    exact .mkL (Rd.of b) (c.mono e)
  | dic ds =>
    obtain ⟨p, xs, rfl, rfl, b, c⟩ := h
    exact .dic (Rd.of b) c.1 (c.mono e).2
  | ins C fs =>
    obtain ⟨z, p, dx, xs, rfl, rfl, b, b', c⟩ := h
    exact .ins z b c.1 (c.mono e).2
  | self q C ks fs =>
    obtain ⟨⟨z, z2⟩, dx, xs, rfl, rfl, b, b', c⟩ := h
    exact .ins ⟨z.cls, fun f hf => z.no f (z2 f hf)⟩ b c.1 (c.mono e).2
  | tr ts => exact TrIs.is e _ v l h
/-- the shared part of the state -/
structure RelS (K : PySem.W.Frag) (H0 : Hp) (σ : L2.St) (G : Hp) (δ : List S) : Prop where
  ex : Ex H0 G
  len : σ.length = δ.length
  sh : ∀ (i : Nat) d, δ[i]? = some (.sh d) → ∃ v, σ[i]? = some (some v) ∧ Is K G v d
structure Rel (K : PySem.W.Frag) (H0 : Hp) (σ : L2.St) (H : Hp) (δ : List S) (own : List (List Addr)) : Prop where
  ex : Ex H0 (cut H own.flatten)
  len1 : σ.length = δ.length
  len2 : own.length = δ.length
  sl : ∀ (i : Nat) s x l, δ[i]? = some s → σ[i]? = some x → own[i]? = some l → SlotIs K H (cut H own.flatten) x l s
  nd : own.flatten.Nodup
section
variable {K : PySem.W.Frag} {H0 H H' G G' : Hp} {σ : L2.St} {δ δ' : List S} {own : List (List Addr)} {v : V} {d : D} {i : Nat}
theorem RelS.mono (R : RelS K H0 σ G δ) (e : Ex G G') : RelS K H0 σ G' δ := ⟨R.ex.trans e, R.len, fun i d h => let ⟨v, a, b⟩ := R.sh i d h; ⟨v, a, b.mono e⟩⟩
theorem Rel.idx (R : Rel K H0 σ H δ own) {s : S} (h : δ[i]? = some s) : ∃ x l, σ[i]? = some x ∧ own[i]? = some l ∧ SlotIs K H (cut H own.flatten) x l s := by
  have hi : i < δ.length := (List.getElem?_eq_some_iff.mp h).1
  have h1 : i < σ.length := by rw [R.len1]; exact hi
  have h2 : i < own.length := by rw [R.len2]; exact hi
  exact ⟨_, _, List.getElem?_eq_getElem h1, List.getElem?_eq_getElem h2, R.sl i s _ _ h (List.getElem?_eq_getElem h1) (List.getElem?_eq_getElem h2)⟩
theorem Rel.toS (R : Rel K H0 σ H δ own) : RelS K H0 σ (cut H own.flatten) δ := ⟨R.ex, R.len1, fun i d h => by
  obtain ⟨x, l, a, b, _, v, rfl, q⟩ := R.idx h
  exact ⟨v, a, q⟩⟩
theorem mem_flat {own : List (List Addr)} {l : List Addr} {a : Addr} (h : own[i]? = some l) (ha : a ∈ l) : a ∈ own.flatten := List.mem_flatten.mpr ⟨l, List.mem_of_getElem? h, ha⟩
theorem Rel.owned (R : Rel K H0 σ H δ own) : ∀ a ∈ own.flatten, OwnAt H own.flatten a := fun a ha => by
  obtain ⟨l, hl, hal⟩ := List.mem_flatten.mp ha
  obtain ⟨i, hi⟩ := List.mem_iff_getElem?.mp hl
  have hd : i < δ.length := by rw [← R.len2]; exact (List.getElem?_eq_some_iff.mp hi).1
  obtain ⟨x, l', _, e, q⟩ := R.idx (List.getElem?_eq_getElem hd)
  rw [hi] at e; cases e
  cases hs : δ[i] with
  | no => rw [hs] at q; have q : l = [] := q; rw [q] at hal; cases hal
  | sh d => rw [hs] at q; obtain ⟨q, _⟩ := q; rw [q] at hal; cases hal
  | ow o => rw [hs] at q; obtain ⟨v, _, q⟩ := q; exact q.at (fun a h => mem_flat hi h) a hal
/-- the shared heap has grown -/
theorem Rel.step (R : Rel K H0 σ H δ own) (e : Ex (cut H own.flatten) G) (n : ∀ a ∈ own.flatten, G a = none) : Rel K H0 σ (mrg H own.flatten G) δ own := by
  have c : cut (mrg H own.flatten G) own.flatten = G := cut_mrg n
  refine ⟨by rw [c]; exact R.ex.trans e, R.len1, R.len2, fun i s x l h1 h2 h3 => ?_, R.nd⟩
  rw [c]
  have q := R.sl i s x l h1 h2 h3
  cases s with
  | no => exact q
  | sh d => obtain ⟨q0, v, q1, q2⟩ := q; exact ⟨q0, v, q1, q2.mono e⟩
  | ow o => obtain ⟨v, q1, q2⟩ := q; exact ⟨v, q1, q2.mono e fun a ha => mrg_in (mem_flat h3 ha)⟩
theorem flat_set_sub : ∀ {own : List (List Addr)} {i : Nat} {l : List Addr} {a : Addr}, a ∈ (own.set i l).flatten → a ∈ own.flatten ∨ a ∈ l
  | [], _, _, _, h => .inl h
  | l0 :: r, 0, l, a, h => by
    simp only [List.set_cons_zero, List.flatten_cons, List.mem_append] at h ⊢
    rcases h with h | h
    · exact .inr h
    · exact .inl (.inr h)
  | l0 :: r, i + 1, l, a, h => by
    simp only [List.set_cons_succ, List.flatten_cons, List.mem_append] at h ⊢
    rcases h with h | h
    · exact .inl (.inl h)
    · rcases flat_set_sub h with h | h
      · exact .inl (.inr h)
      · exact .inr h
theorem flat_set_nd : ∀ {own : List (List Addr)} {i : Nat} {l : List Addr}, own.flatten.Nodup → l.Nodup → (∀ a ∈ l, a ∉ own.flatten) → (own.set i l).flatten.Nodup
  | [], _, _, h, _, _ => h
  | l0 :: r, 0, l, h, hl, hd => by
    simp only [List.set_cons_zero, List.flatten_cons] at h ⊢
    rw [List.nodup_append] at h ⊢
    refine ⟨hl, h.2.1, fun a ha b hb e => ?_⟩
    subst e
    exact hd a ha (by simp only [List.flatten_cons, List.mem_append]; exact .inr hb)
  | l0 :: r, i + 1, l, h, hl, hd => by
    simp only [List.set_cons_succ, List.flatten_cons] at h ⊢
    rw [List.nodup_append] at h ⊢
    refine ⟨h.1, flat_set_nd h.2.1 hl fun a ha hb => hd a ha (by simp only [List.flatten_cons, List.mem_append]; exact .inr hb), fun a ha b hb e => ?_⟩
    subst e
    rcases flat_set_sub hb with hb | hb
    · exact h.2.2 a ha a hb rfl
    · exact hd a hb (by simp only [List.flatten_cons, List.mem_append]; exact .inl ha)
/-- what stays when the slots' data may only get easier -/
theorem SlotIs.mono {x : Option V} {l : List Addr} {s : S} (q : SlotIs K H G x l s) (e : Ex G G') (k : ∀ a ∈ l, H' a = H a) : SlotIs K H' G' x l s := by
  cases s with
  | no => exact q
  | sh d => obtain ⟨q0, v, q1, q2⟩ := q; exact ⟨q0, v, q1, q2.mono e⟩
  | ow o => obtain ⟨v, q1, q2⟩ := q; exact ⟨v, q1, q2.mono e k⟩
theorem set_get {α : Type} {l : List α} {i j : Nat} {a b : α} (h : (l.set i a)[j]? = some b) : (i = j ∧ b = a) ∨ (i ≠ j ∧ l[j]? = some b) := by
  rw [List.getElem?_set] at h
  by_cases e : i = j
  · rw [if_pos e] at h
    split at h
    · exact .inl ⟨e, (Option.some.inj h).symm⟩
    · cases h
  · rw [if_neg e] at h
    exact .inr ⟨e, h⟩
theorem Rel.setSh (R : Rel K H0 σ H δ own) (h : Is K (cut H own.flatten) v d) : Rel K H0 (σ.set i (some v)) H (δ.set i (.sh d)) (own.set i []) := by
  have sub : ∀ a ∈ (own.set i []).flatten, a ∈ own.flatten := fun a ha => by
    rcases flat_set_sub ha with z | z
    · exact z
    · cases z
  have e : Ex (cut H own.flatten) (cut H (own.set i []).flatten) := cut_sub sub
  refine ⟨R.ex.trans e, by simp [R.len1], by simp [R.len2], fun j s x l h1 h2 h3 => ?_, flat_set_nd R.nd List.nodup_nil fun a ha => by cases ha⟩
  rcases set_get h1 with ⟨e1, rfl⟩ | ⟨n1, g1⟩
  · rcases set_get h2 with ⟨_, rfl⟩ | ⟨n2, _⟩
    · rcases set_get h3 with ⟨_, rfl⟩ | ⟨n3, _⟩
      · exact ⟨rfl, v, rfl, h.mono e⟩
      · exact absurd e1 n3
    · exact absurd e1 n2
  · rcases set_get h2 with ⟨e2, _⟩ | ⟨_, g2⟩
    · exact absurd e2 n1
    · rcases set_get h3 with ⟨e3, _⟩ | ⟨_, g3⟩
      · exact absurd e3 n1
      · exact (R.sl j s x l g1 g2 g3).mono e fun _ _ => rfl
/-- a new object, the frame's own; G1: the shared heap with it -/
theorem Rel.setOw {G1 : Hp} {l0 : List Addr} {o : Ow} (R : Rel K H0 σ H δ own) (e : Ex (cut H own.flatten) (cut G1 l0)) (n : ∀ a ∈ own.flatten, G1 a = none) (nd : l0.Nodup) (h : OwIs K G1 (cut G1 l0) v l0 o) :
    Rel K H0 (σ.set i (some v)) (mrg H own.flatten G1) (δ.set i (.ow o)) (own.set i l0) := by
  have some1 : ∀ a ∈ l0, G1 a ≠ none := fun a ha z => by
    obtain ⟨u, hu⟩ := (h.at (fun a h => h) a ha).some
    rw [z] at hu; cases hu
  have dis : ∀ a ∈ l0, a ∉ own.flatten := fun a ha z => some1 a ha (n a z)
  have ee : Ex (cut G1 l0) (cut (mrg H own.flatten G1) (own.set i l0).flatten) := fun a u q => by
    obtain ⟨q1, q2⟩ := cut_some q
    have q3 : a ∉ own.flatten := fun z => by rw [n a z] at q2; cases q2
    rw [cut_out (fun z => (flat_set_sub z).elim q3 q1), mrg_out q3]
    exact q2
  refine ⟨(R.ex.trans e).trans ee, by simp [R.len1], by simp [R.len2], fun j s x l h1 h2 h3 => ?_, flat_set_nd R.nd nd dis⟩
  rcases set_get h1 with ⟨e1, rfl⟩ | ⟨n1, g1⟩
  · rcases set_get h2 with ⟨_, rfl⟩ | ⟨n2, _⟩
    · rcases set_get h3 with ⟨_, rfl⟩ | ⟨n3, _⟩
      · exact ⟨v, rfl, h.mono ee fun a ha => mrg_out (dis a ha)⟩
      · exact absurd e1 n3
    · exact absurd e1 n2
  · rcases set_get h2 with ⟨e2, _⟩ | ⟨_, g2⟩
    · exact absurd e2 n1
    · rcases set_get h3 with ⟨e3, _⟩ | ⟨_, g3⟩
      · exact absurd e3 n1
      · exact (R.sl j s x l g1 g2 g3).mono (e.trans ee) fun a ha => mrg_in (mem_flat g3 ha)
theorem nd_apart : ∀ {own : List (List Addr)} {i j : Nat} {l l' : List Addr} {a : Addr}, own.flatten.Nodup → own[i]? = some l → own[j]? = some l' → i ≠ j → a ∈ l → a ∈ l' → False
  | [], _, _, _, _, _, _, h, _, _, _, _ => by cases h
  | l0 :: r, 0, 0, _, _, _, _, _, _, n, _, _ => n rfl
  | l0 :: r, 0, j + 1, l, l', a, nd, h, h', n, ha, ha' => by
    rw [List.flatten_cons, List.nodup_append] at nd
    cases h
    exact nd.2.2 a ha a (mem_flat (i := j) h' ha') rfl
  | l0 :: r, i + 1, 0, l, l', a, nd, h, h', n, ha, ha' => by
    rw [List.flatten_cons, List.nodup_append] at nd
    cases h'
    exact nd.2.2 a ha' a (mem_flat (i := i) h ha) rfl
  | l0 :: r, i + 1, j + 1, l, l', a, nd, h, h', n, ha, ha' => by
    rw [List.flatten_cons, List.nodup_append] at nd
    exact nd_apart (i := i) (j := j) nd.2.1 h h' (fun e => n (by rw [e])) ha ha'
/-- an owned object is written -/
theorem Rel.write {p : Addr} {ho : HO} {l : List Addr} {o' : Ow} (R : Rel K H0 σ H δ own) (hi : own[i]? = some l) (hp : p ∈ l) (hs : σ[i]? = some (some v)) (h : OwIs K (upd H p ho) (cut H own.flatten) v l o') : Rel K H0 σ (upd H p ho) (δ.set i (.ow o')) own := by
  have c : cut (upd H p ho) own.flatten = cut H own.flatten := by
    funext a
    by_cases z : a ∈ own.flatten
    · rw [cut_in z, cut_in z]
    · rw [cut_out z, cut_out z, upd_ne fun e => z (by rw [e]; exact mem_flat hi hp)]
  refine ⟨by rw [c]; exact R.ex, by simp [R.len1], by simp [R.len2], fun j s x l' h1 h2 h3 => ?_, R.nd⟩
  rw [c]
  rcases set_get h1 with ⟨rfl, rfl⟩ | ⟨n1, g1⟩
  · rw [hi] at h3; cases h3
    rw [hs] at h2; cases h2
    exact ⟨v, rfl, h⟩
  · refine (R.sl j s x l' g1 h2 h3).mono (Same.refl _) fun a ha => upd_ne fun e => ?_
    subst e
    exact nd_apart R.nd hi h3 n1 hp ha

/-- a state told by less: a slot forgotten, an owned object read as data -/
inductive Vw : List S → List S → Prop
  | nil : Vw [] []
  | keep {s : S} {a b : List S} : Vw a b → Vw (s :: a) (s :: b)
  | drop {s : S} {a b : List S} : Vw a b → Vw (s :: a) (.no :: b)
  | bor {o : Ow} {a b : List S} : Vw a b → Vw (.ow o :: a) (.sh o.d :: b)
theorem Vw.refl : ∀ (δ : List S), Vw δ δ
  | [] => .nil
  | _ :: r => .keep (Vw.refl r)
theorem Vw.len {δ δ' : List S} (h : Vw δ δ') : δ.length = δ'.length := by
  induction h with
  | nil => rfl
  | keep _ ih => exact congrArg (· + 1) ih
  | drop _ ih => exact congrArg (· + 1) ih
  | bor _ ih => exact congrArg (· + 1) ih
theorem Vw.get {δ δ' : List S} (h : Vw δ δ') : ∀ {i : Nat} {s' : S}, δ'[i]? = some s' → ∃ s, δ[i]? = some s ∧ (s' = s ∨ s' = .no ∨ ∃ o, s = .ow o ∧ s' = .sh o.d) := by
  induction h with
  | nil => intro i s' e; cases e
  | @keep s a b _ ih =>
    intro i s' e
    cases i with
    | zero => cases e; exact ⟨s, rfl, .inl rfl⟩
    | succ i => exact ih (i := i) e
  | @drop s a b _ ih =>
    intro i s' e
    cases i with
    | zero => cases e; exact ⟨s, rfl, .inr (.inl rfl)⟩
    | succ i => exact ih (i := i) e
  | @bor o a b _ ih =>
    intro i s' e
    cases i with
    | zero => cases e; exact ⟨_, rfl, .inr (.inr ⟨o, rfl, rfl⟩)⟩
    | succ i => exact ih (i := i) e
def keepOw : List (List Addr) → List S → List (List Addr)
  | l :: r, .ow _ :: b => l :: keepOw r b
  | _ :: r, _ :: b => [] :: keepOw r b
  | _, _ => []
theorem keepOw_sub : ∀ (own : List (List Addr)) (δ : List S), (keepOw own δ).flatten.Sublist own.flatten
  | [], δ => by cases δ <;> exact List.Sublist.refl _
  | l :: r, [] => by simp [keepOw]
  | l :: r, .ow _ :: b => by
    simp only [keepOw, List.flatten_cons]
    exact (List.Sublist.refl l).append (keepOw_sub r b)
  | l :: r, .no :: b => by
    simp only [keepOw, List.flatten_cons, List.nil_append]
    exact (keepOw_sub r b).trans (List.sublist_append_right _ _)
  | l :: r, .sh _ :: b => by
    simp only [keepOw, List.flatten_cons, List.nil_append]
    exact (keepOw_sub r b).trans (List.sublist_append_right _ _)
theorem keepOw_len : ∀ (own : List (List Addr)) (δ : List S), own.length = δ.length → (keepOw own δ).length = δ.length
  | [], [], _ => rfl
  | l :: r, .ow _ :: b, h => congrArg (· + 1) (keepOw_len r b (Nat.succ.inj h))
  | l :: r, .no :: b, h => congrArg (· + 1) (keepOw_len r b (Nat.succ.inj h))
  | l :: r, .sh _ :: b, h => congrArg (· + 1) (keepOw_len r b (Nat.succ.inj h))
theorem keepOw_get : ∀ (own : List (List Addr)) (δ : List S) (i : Nat) (l : List Addr) (s : S), δ[i]? = some s → (keepOw own δ)[i]? = some l → (∃ o, s = .ow o ∧ own[i]? = some l) ∨ ((∀ o, s ≠ .ow o) ∧ l = [])
  | [], δ, i, l, s, _, h => by cases δ <;> cases h
  | l0 :: r, [], i, l, s, h, _ => by cases h
  | l0 :: r, .ow o :: b, 0, l, s, h, h' => by cases h; cases h'; exact .inl ⟨o, rfl, rfl⟩
  | l0 :: r, .no :: b, 0, l, s, h, h' => by cases h; cases h'; exact .inr ⟨fun o e => (by cases e), rfl⟩
  | l0 :: r, .sh d :: b, 0, l, s, h, h' => by cases h; cases h'; exact .inr ⟨fun o e => (by cases e), rfl⟩
  | l0 :: r, .ow o :: b, i + 1, l, s, h, h' => keepOw_get r b i l s h h'
  | l0 :: r, .no :: b, i + 1, l, s, h, h' => keepOw_get r b i l s h h'
  | l0 :: r, .sh d :: b, i + 1, l, s, h, h' => keepOw_get r b i l s h h'
theorem Rel.view (R : Rel K H0 σ H δ own) (h : Vw δ δ') : Rel K H0 σ H δ' (keepOw own δ') ∧ ∀ a ∈ (keepOw own δ').flatten, a ∈ own.flatten := by
  have hl := h.len
  have sub : ∀ a ∈ (keepOw own δ').flatten, a ∈ own.flatten := fun a ha => (keepOw_sub own δ').mem ha
  have e : Ex (cut H own.flatten) (cut H (keepOw own δ').flatten) := cut_sub sub
  refine ⟨⟨R.ex.trans e, R.len1.trans hl, keepOw_len own δ' (R.len2.trans hl), fun i s' x l h1 h2 h3 => ?_, R.nd.sublist (keepOw_sub own δ')⟩, sub⟩
  obtain ⟨s, hs, c⟩ := h.get h1
  obtain ⟨x', l', e1, e2, q⟩ := R.idx hs
  rw [h2] at e1; cases e1
  rcases keepOw_get own δ' i l s' h1 h3 with ⟨o, rfl, ho⟩ | ⟨no, rfl⟩
  · rw [e2] at ho; cases ho
    rcases c with rfl | c | ⟨o', _, c⟩
    · exact q.mono e fun _ _ => rfl
    · cases c
    · cases c
  · rcases c with rfl | rfl | ⟨o, rfl, rfl⟩
    · cases s' with
      | no => exact rfl
      | sh d => obtain ⟨_, v, q1, q2⟩ := q; exact ⟨rfl, v, q1, q2.mono e⟩
      | ow o => exact absurd rfl (no o)
    · exact rfl
    · obtain ⟨v, q1, q2⟩ := q
      refine ⟨rfl, v, q1, ?_⟩
      -- the object is no more cut
      have e3 : Ex (cut H own.flatten) H := cut_ex
      have gone : ∀ a ∈ l', a ∉ (keepOw own δ').flatten := fun a ha hm => by
        obtain ⟨l2, hl2, ha2⟩ := List.mem_flatten.mp hm
        obtain ⟨j, hj⟩ := List.mem_iff_getElem?.mp hl2
        have hjd : j < δ'.length := by rw [← keepOw_len own δ' (R.len2.trans hl)]; exact (List.getElem?_eq_some_iff.mp hj).1
        rcases keepOw_get own δ' j l2 _ (List.getElem?_eq_getElem hjd) hj with ⟨o2, h4, h5⟩ | ⟨_, rfl⟩
        · by_cases ij : i = j
          · subst ij
            have h6 := List.getElem?_eq_getElem hjd
            rw [h1, h4] at h6
            cases h6
          · exact nd_apart R.nd e2 h5 ij ha ha2
        · cases ha2
      have q3 : OwIs K (cut H (keepOw own δ').flatten) (cut H own.flatten) v l' o := q2.mono (Same.refl _) fun a ha => cut_out (gone a ha)
      exact q3.is e
end
/-! ### what an expression, a statement comes to, as a reading -/
section
variable {X : Cx} {σ : L2.St} {H : Hp}
structure semE (X : Cx) (e : Expr) (σ : L2.St) (H : Hp) (Q : VK) : Prop where
  run : ∀ pins s, Inv X pins σ H s → wpAny (model X.prog X.w) X.A (eval e X.env) (EP X pins σ Q) X.xe s
structure semT (X : Cx) (e : Expr) (σ : L2.St) (H : Hp) (Q : Bool → Hp → Prop) : Prop where
  run : ∀ pins s, Inv X pins σ H s → wpAny (model X.prog X.w) X.A (isTrue e X.env (eval e X.env)) (TP X pins σ Q) X.xe s
structure semW (X : Cx) (e : Expr) (σ : L2.St) (H : Hp) (Q : Bool → Hp → Prop) : Prop where
  run : ∀ whole pins s, Inv X pins σ H s → wpAny (model X.prog X.w) X.A (isTrue e X.env whole) (TP X pins σ Q) X.xe s
structure semA (X : Cx) (es : List Expr) (σ : L2.St) (H : Hp) (Q : List V → Hp → Prop) : Prop where
  run : ∀ pos pins s, Inv X pins σ H s → wpAny (model X.prog X.w) X.A (spliced (backTo pos (starEach es X.env))) (AP X pins σ Q) X.xe s
structure semS (X : Cx) (st : Stmt) (D : Ends) (σ : L2.St) (H : Hp) : Prop where
  run : ∀ pins s, Inv X pins σ H s → wpAny (model X.prog X.w) X.A (exec st X.env) (SP X pins D) X.xe s
structure semB (X : Cx) (st : List Stmt) (D : Ends) (σ : L2.St) (H : Hp) : Prop where
  run : ∀ pins s, Inv X pins σ H s → wpAny (model X.prog X.w) X.A (execs st X.env) (SP X pins D) X.xe s
theorem pe_sem {e : Expr} : PE X e (semE X e) := ⟨fun pins s σ H Q I h => h.run pins s I⟩
theorem pt_sem {e : Expr} : PT X e (semT X e) := ⟨fun pins s σ H Q I h => h.run pins s I⟩
theorem pw_sem {e : Expr} : PW X e (semW X e) := ⟨fun whole pins s σ H Q I h => h.run whole pins s I⟩
theorem pa_sem {es : List Expr} : PA X es (semA X es) := ⟨fun pos pins s σ H Q I h => h.run pos pins s I⟩
theorem ps_sem {st : Stmt} : PS X st (semS X st) := ⟨fun pins s σ H D I h => h.run pins s I⟩
theorem pb_sem {st : List Stmt} : PSs X st (semB X st) := ⟨fun pins s σ H D I h => h.run pins s I⟩
theorem toE {e : Expr} {t : TE} {Q : VK} (h : PE X e t) (q : t σ H Q) : semE X e σ H Q := .mk <| fun pins s I => h.run pins s σ H Q I q
theorem toT {e : Expr} {t : TT} {Q : Bool → Hp → Prop} (h : PT X e t) (q : t σ H Q) : semT X e σ H Q := .mk <| fun pins s I => h.run pins s σ H Q I q
theorem toW {e : Expr} {t : TT} {Q : Bool → Hp → Prop} (h : PW X e t) (q : t σ H Q) : semW X e σ H Q := .mk <| fun whole pins s I => h.run whole pins s σ H Q I q
theorem toA {es : List Expr} {t : TA} {Q : List V → Hp → Prop} (h : PA X es t) (q : t σ H Q) : semA X es σ H Q := .mk <| fun pos pins s I => h.run pos pins s σ H Q I q
theorem toS {st : Stmt} {t : TS} {D : Ends} (h : PS X st t) (q : t D σ H) : semS X st D σ H := .mk <| fun pins s I => h.run pins s σ H D I q
theorem toB {st : List Stmt} {t : TS} {D : Ends} (h : PSs X st t) (q : t D σ H) : semB X st D σ H := .mk <| fun pins s I => h.run pins s σ H D I q
theorem semE.mono {e : Expr} {Q Q' : VK} (h : semE X e σ H Q) (k : ∀ v H', Q v H' → Q' v H') : semE X e σ H Q' := .mk <| fun pins s I => thn (h.run pins s I) fun u s' ⟨v, H', J, r, q⟩ => ⟨v, H', J, r, k v H' q⟩
theorem semT.mono {e : Expr} {Q Q' : Bool → Hp → Prop} (h : semT X e σ H Q) (k : ∀ v H', Q v H' → Q' v H') : semT X e σ H Q' := .mk <| fun pins s I => thn (h.run pins s I) fun u s' ⟨H', J, q⟩ => ⟨H', J, k u H' q⟩
theorem semW.mono {e : Expr} {Q Q' : Bool → Hp → Prop} (h : semW X e σ H Q) (k : ∀ v H', Q v H' → Q' v H') : semW X e σ H Q' := .mk <| fun whole pins s I => thn (h.run whole pins s I) fun u s' ⟨H', J, q⟩ => ⟨H', J, k u H' q⟩
theorem semA.mono {es : List Expr} {Q Q' : List V → Hp → Prop} (h : semA X es σ H Q) (k : ∀ v H', Q v H' → Q' v H') : semA X es σ H Q' := .mk <| fun pos pins s I => thn (h.run pos pins s I) fun u s' ⟨v, H', J, r, q⟩ => ⟨v, H', J, r, k v H' q⟩
theorem SP.mono {D D' : Ends} {pins : List (Addr × Obj)} {f : Flow} {s : Shared} (h : SP X pins D f s) (nx : ∀ σ H, D.nx σ H → D'.nx σ H) (rt : ∀ v H, D.rt v H → D'.rt v H) (bk : ∀ σ H, D.bk σ H → D'.bk σ H) (ct : ∀ σ H, D.ct σ H → D'.ct σ H) : SP X pins D' f s := by
  cases f with
  | next => obtain ⟨σ', H', I, q⟩ := h; exact ⟨σ', H', I, nx _ _ q⟩
  | brk => obtain ⟨σ', H', I, q⟩ := h; exact ⟨σ', H', I, bk _ _ q⟩
  | cont => obtain ⟨σ', H', I, q⟩ := h; exact ⟨σ', H', I, ct _ _ q⟩
  | ret u => obtain ⟨v, σ', H', I, r, q⟩ := h; exact ⟨v, σ', H', I, r, rt _ _ q⟩
theorem semS.mono {st : Stmt} {D D' : Ends} (h : semS X st D σ H) (nx : ∀ σ H, D.nx σ H → D'.nx σ H) (rt : ∀ v H, D.rt v H → D'.rt v H) (bk : ∀ σ H, D.bk σ H → D'.bk σ H) (ct : ∀ σ H, D.ct σ H → D'.ct σ H) : semS X st D' σ H :=
  .mk <| fun pins s I => thn (h.run pins s I) fun f s' q => DL.SP.mono q nx rt bk ct
theorem semB.mono {st : List Stmt} {D D' : Ends} (h : semB X st D σ H) (nx : ∀ σ H, D.nx σ H → D'.nx σ H) (rt : ∀ v H, D.rt v H → D'.rt v H) (bk : ∀ σ H, D.bk σ H → D'.bk σ H) (ct : ∀ σ H, D.ct σ H → D'.ct σ H) : semB X st D' σ H :=
  .mk <| fun pins s I => thn (h.run pins s I) fun f s' q => DL.SP.mono q nx rt bk ct
/-- an expression is run with the owned objects out of sight -/
theorem semE.frame {e : Expr} {ps : List Addr} {Q : VK} (hp : ∀ a ∈ ps, OwnAt H ps a) (h : semE X e σ (cut H ps) Q) : semE X e σ H (fun v H' => ∃ G, H' = mrg H ps G ∧ (∀ a ∈ ps, G a = none) ∧ Q v G) := .mk <| fun pins s I =>
  thn (h.run _ s (cut_inv I hp)) fun u s' ⟨v, G, J, r, q⟩ => by
    obtain ⟨M, gn⟩ := mrg_inv I hp J
    exact ⟨v, _, M, r, G, rfl, gn, q⟩
theorem semT.frame {e : Expr} {ps : List Addr} {Q : Bool → Hp → Prop} (hp : ∀ a ∈ ps, OwnAt H ps a) (h : semT X e σ (cut H ps) Q) : semT X e σ H (fun v H' => ∃ G, H' = mrg H ps G ∧ (∀ a ∈ ps, G a = none) ∧ Q v G) := .mk <| fun pins s I =>
  thn (h.run _ s (cut_inv I hp)) fun u s' ⟨G, J, q⟩ => by
    obtain ⟨M, gn⟩ := mrg_inv I hp J
    exact ⟨_, M, G, rfl, gn, q⟩
theorem semA.frame {es : List Expr} {ps : List Addr} {Q : List V → Hp → Prop} (hp : ∀ a ∈ ps, OwnAt H ps a) (h : semA X es σ (cut H ps) Q) : semA X es σ H (fun v H' => ∃ G, H' = mrg H ps G ∧ (∀ a ∈ ps, G a = none) ∧ Q v G) := .mk <| fun pos pins s I =>
  thn (h.run pos _ s (cut_inv I hp)) fun u s' ⟨v, G, J, r, q⟩ => by
    obtain ⟨M, gn⟩ := mrg_inv I hp J
    exact ⟨v, _, M, r, G, rfl, gn, q⟩
end
end DL
set_option Elab.async false
set_option linter.all false
set_option maxRecDepth 100000
set_option maxHeartbeats 2000000
/-! Part c: expressions, by data. -/
namespace DL
open PySem PySem.Spec PyProof.Rows L2
def notStar : Expr → Bool
  | .Starred _ _ => false
  | _ => true
theorem star_of {e : Expr} {es : List Expr} {env : Env} (h : notStar e = true) : starEach (e :: es) env = (false, eval e env) :: starEach es env := by
  cases e <;> first | rfl | cases h
theorem star_any {pos : Pos} {env : Env} : ∀ {es : List Expr}, es.all notStar = true → (backTo pos (starEach es env)).any (·.1) = false
  | [], _ => rfl
  | e :: es, h => by
    rw [List.all_cons, Bool.and_eq_true] at h
    rw [star_of h.1]
    have ih := star_any (pos := pos) (env := env) h.2
    simpa [backTo] using ih
section
variable (X : Cx) (H0 : Hp)
def We (e : Expr) (δ : List S) (k : D → Prop) : Prop := ∀ σ G, RelS X.K H0 σ G δ → semE X e σ G (fun v G' => Ex G G' ∧ ∃ d, Is X.K G' v d ∧ k d)
def Wt (e : Expr) (δ : List S) (k : Bool → Prop) : Prop := ∀ σ G, RelS X.K H0 σ G δ → semT X e σ G (fun b G' => Ex G G' ∧ k b)
def Ww (e : Expr) (δ : List S) (k : Bool → Prop) : Prop := ∀ σ G, RelS X.K H0 σ G δ → semW X e σ G (fun b G' => Ex G G' ∧ k b)
def Wa (es : List Expr) (δ : List S) (k : List D → Prop) : Prop := ∀ σ G, RelS X.K H0 σ G δ → semA X es σ G (fun vs G' => Ex G G' ∧ ∃ ds, IsL X.K G' vs ds ∧ k ds)
/-- a new object -/
def NewIs (K : PySem.W.Frag) (G : Hp) (v : V) (G' : Hp) (o : Ow) : Prop := ∃ l, OwIs K G' (cut G' l) v l o ∧ (∀ a ∈ l, G a = none) ∧ Ex G (cut G' l) ∧ l.Nodup
def Wo (e : Expr) (δ : List S) (k : Ow → Prop) : Prop := ∀ σ G, RelS X.K H0 σ G δ → semE X e σ G (fun v G' => ∃ o, NewIs X.K G v G' o ∧ k o)
end
theorem NewIs.ex {K : PySem.W.Frag} {G G' : Hp} {v : V} {o : Ow} (h : NewIs K G v G' o) : Ex G G' := by
  obtain ⟨l, _, _, e, _⟩ := h
  exact e.trans cut_ex
theorem NewIs.is {K : PySem.W.Frag} {G G' : Hp} {v : V} {o : Ow} (h : NewIs K G v G' o) : Is K G' v o.d := by
  obtain ⟨l, q, _, e, _⟩ := h
  exact q.is cut_ex
theorem NewIs.back {K : PySem.W.Frag} {G0 G G' : Hp} {v : V} {o : Ow} (e : Ex G0 G) (h : NewIs K G v G' o) : NewIs K G0 v G' o := by
  obtain ⟨l, q, n, e', nd⟩ := h
  exact ⟨l, q, fun a ha => e.free (n a ha), e.trans e', nd⟩
theorem NewIs.lst {K : PySem.W.Frag} {G : Hp} {p : Addr} {xs : List V} {ds : List D} (n : G p = none) (h : IsL K G xs ds) : NewIs K G (.ref p) (upd G p (.lst xs)) (.lst ds) := by
  have e : Ex G (cut (upd G p (.lst xs)) [p]) := fun a u q => by
    have hne : a ≠ p := ne_of_none q n
    rw [cut_out (by simpa using hne), upd_ne hne]
    exact q
  exact ⟨[p], ⟨p, xs, rfl, rfl, upd_same, h.mono e⟩, fun a ha => by rw [show a = p by simpa using ha]; exact n, e, by simp⟩
theorem NewIs.dic {K : PySem.W.Frag} {G : Hp} {p : Addr} {xs : List (Key × V)} {ds : List (Key × D)} (n : G p = none) (h : IsK K G xs ds) : NewIs K G (.ref p) (upd G p (.dK xs)) (.dic ds) := by
  have e : Ex G (cut (upd G p (.dK xs)) [p]) := fun a u q => by
    have hne : a ≠ p := ne_of_none q n
    rw [cut_out (by simpa using hne), upd_ne hne]
    exact q
  exact ⟨[p], ⟨p, xs, rfl, rfl, upd_same, h.mono e⟩, fun a ha => by rw [show a = p by simpa using ha]; exact n, e, by simp⟩
def I2 (x y : D) (P : Int → Int → Prop) : Prop := ∃ i j, x = .int i ∧ y = .int j ∧ P i j
theorem i2 {i j : Int} {P : Int → Int → Prop} (h : P i j) : I2 (.int i) (.int j) P := ⟨i, j, rfl, rfl, h⟩
def I1 (x : D) (P : Int → Prop) : Prop := ∃ i, x = .int i ∧ P i
theorem i1 {i : Int} {P : Int → Prop} (h : P i) : I1 (.int i) P := ⟨i, rfl, h⟩
def B1 (x : D) (P : Bool → Prop) : Prop := ∃ i, x = .bl i ∧ P i
theorem b1 {i : Bool} {P : Bool → Prop} (h : P i) : B1 (.bl i) P := ⟨i, rfl, h⟩
section
variable {X : Cx} {H0 : Hp} {δ : List S} {a b c e : Expr} {es : List Expr} {k : D → Prop} {kt : Bool → Prop} {pos : Pos}
theorem We.mono {k' : D → Prop} (h : We X H0 e δ k) (m : ∀ d, k d → k' d) : We X H0 e δ k' := fun σ G R => (h σ G R).mono fun v G' ⟨e, d, i, q⟩ => ⟨e, d, i, m d q⟩
theorem Wt.mono {k' : Bool → Prop} (h : Wt X H0 e δ kt) (m : ∀ d, kt d → k' d) : Wt X H0 e δ k' := fun σ G R => (h σ G R).mono fun v G' ⟨e, q⟩ => ⟨e, m v q⟩
theorem we_new (h : Wo X H0 e δ (fun o => k o.d)) : We X H0 e δ k := fun σ G R => (h σ G R).mono fun v G' ⟨o, n, q⟩ => ⟨n.ex, _, n.is, q⟩
theorem we_var (i : Nat) {x : Str} {d : D} (hd : δ[i]? = some (.sh d)) (h : k d) (hp : PE X (.Name x pos) (tVar i) := by exact pv _) : We X H0 (.Name x pos) δ k := fun σ G R => by
  obtain ⟨v, e, q⟩ := R.sh i d hd
  exact toE hp ⟨v, e, Same.refl _, d, q, h⟩
theorem we_int {i : Int} {j} (h : k (.int i)) : We X H0 (.Constant (.int i) j pos) δ k := fun σ G R => toE pe_int ⟨Same.refl _, _, .int i, h⟩
theorem we_bl {i : Bool} {j} (h : k (.bl i)) : We X H0 (.Constant (.bool i) j pos) δ k := fun σ G R => toE pe_bl ⟨Same.refl _, _, .bl i, h⟩
theorem we_non {j} (h : k .non) : We X H0 (.Constant .none j pos) δ k := fun σ G R => toE pe_non ⟨Same.refl _, _, .non, h⟩
theorem we_str {x : Str} {j} (h : k (.str x)) : We X H0 (.Constant (.str x) j pos) δ k := fun σ G R => toE pe_str ⟨Same.refl _, _, .str x, h⟩
/-- two operands, then a rule on values -/
theorem two {f : V → V → Hp → VK → Prop} {P : D → D → Prop} (h : We X H0 a δ (fun x => We X H0 b δ (fun y => P x y))) (hf : ∀ G v w x y, Is X.K G v x → Is X.K G w y → P x y → ∀ Q : VK, (∀ z G' d, Ex G G' → Is X.K G' z d → k d → Q z G') → f v w G Q) :
    ∀ σ G, RelS X.K H0 σ G δ → tOp f (semE X a) (semE X b) σ G (fun v G' => Ex G G' ∧ ∃ d, Is X.K G' v d ∧ k d) := fun σ G R =>
  (h σ G R).mono fun v G1 ⟨e1, x, ix, q1⟩ => (q1 σ G1 (R.mono e1)).mono fun w G2 ⟨e2, y, iy, q2⟩ => hf G2 v w x y (ix.mono e2) iy q2 _ fun z G' d e3 iz kz => ⟨(e1.trans e2).trans e3, d, iz, kz⟩
theorem twoT {f : V → V → Hp → VK → Prop} {P : D → D → Prop} (h : We X H0 a δ (fun x => We X H0 b δ (fun y => P x y))) (hf : ∀ G v w x y, Is X.K G v x → Is X.K G w y → P x y → ∀ Q : VK, (∀ z, kt z → Q (.bl z) G) → f v w G Q) :
    ∀ σ G, RelS X.K H0 σ G δ → tTest (tOp f (semE X a) (semE X b)) σ G (fun v G' => Ex G G' ∧ kt v) := fun σ G R =>
  (h σ G R).mono fun v G1 ⟨e1, x, ix, q1⟩ => (q1 σ G1 (R.mono e1)).mono fun w G2 ⟨e2, y, iy, q2⟩ => hf G2 v w x y (ix.mono e2) iy q2 _ fun z kz => ⟨z, rfl, e1.trans e2, kz⟩
theorem one {f : V → Hp → VK → Prop} {P : D → Prop} (h : We X H0 a δ P) (hf : ∀ G v x, Is X.K G v x → P x → ∀ Q : VK, (∀ z G' d, Ex G G' → Is X.K G' z d → k d → Q z G') → f v G Q) :
    ∀ σ G, RelS X.K H0 σ G δ → tUn f (semE X a) σ G (fun v G' => Ex G G' ∧ ∃ d, Is X.K G' v d ∧ k d) := fun σ G R =>
  (h σ G R).mono fun v G1 ⟨e1, x, ix, q1⟩ => hf G1 v x ix q1 _ fun z G' d e3 iz kz => ⟨e1.trans e3, d, iz, kz⟩
theorem ii {C : Int → Int → Prop} {g : Int → Int → V} {g' : Int → Int → D} (hg : ∀ G i j, Is X.K G (g i j) (g' i j)) : ∀ (G : Hp) v w x y, Is X.K G v x → Is X.K G w y → I2 x y (fun i j => C i j ∧ k (g' i j)) → ∀ Q : VK, (∀ z G' d, Ex G G' → Is X.K G' z d → k d → Q z G') → rI C g v w G Q :=
  fun G v w x y iv iw h Q q => by
    obtain ⟨i, j, rfl, rfl, hc, hk⟩ := h
    cases iv
    cases iw
    exact ⟨i, j, rfl, rfl, hc, q _ G _ (Same.refl _) (hg G i j) hk⟩
theorem ii0 {g : Int → Int → V} {g' : Int → Int → D} (hg : ∀ G i j, Is X.K G (g i j) (g' i j)) : ∀ (G : Hp) v w x y, Is X.K G v x → Is X.K G w y → I2 x y (fun i j => k (g' i j)) → ∀ Q : VK, (∀ z G' d, Ex G G' → Is X.K G' z d → k d → Q z G') → rI0 g v w G Q :=
  fun G v w x y iv iw h Q q => by
    obtain ⟨i, j, rfl, rfl, hk⟩ := h
    cases iv
    cases iw
    exact ⟨i, j, rfl, rfl, q _ G _ (Same.refl _) (hg G i j) hk⟩
theorem iiT {g : Int → Int → Bool} : ∀ (G : Hp) v w x y, Is X.K G v x → Is X.K G w y → I2 x y (fun i j => kt (g i j)) → ∀ Q : VK, (∀ z, kt z → Q (.bl z) G) → rI0 (fun i j => .bl (g i j)) v w G Q :=
  fun G v w x y iv iw h Q q => by
    obtain ⟨i, j, rfl, rfl, hk⟩ := h
    cases iv
    cases iw
    exact ⟨i, j, rfl, rfl, q _ hk⟩
theorem we_add (h : We X H0 a δ (fun x => We X H0 b δ (fun y => I2 x y (fun i j => k (.int (i + j)))))) : We X H0 (.BinOp a .Add b pos) δ k := fun σ G R => toE (pe_op op_add pe_sem pe_sem) (two h (ii0 fun G i j => .int _) σ G R)
theorem we_sub (h : We X H0 a δ (fun x => We X H0 b δ (fun y => I2 x y (fun i j => k (.int (i - j)))))) : We X H0 (.BinOp a .Sub b pos) δ k := fun σ G R => toE (pe_op op_sub pe_sem pe_sem) (two h (ii0 fun G i j => .int _) σ G R)
theorem we_mul (h : We X H0 a δ (fun x => We X H0 b δ (fun y => I2 x y (fun i j => CMulW i j ∧ k (.int (i * j)))))) : We X H0 (.BinOp a .Mult b pos) δ k := fun σ G R => toE (pe_op op_mulW pe_sem pe_sem) (two h (ii fun G i j => .int _) σ G R)
theorem we_div (h : We X H0 a δ (fun x => We X H0 b δ (fun y => I2 x y (fun i j => CDivW i j ∧ k (.int (i / j)))))) : We X H0 (.BinOp a .FloorDiv b pos) δ k := fun σ G R => toE (pe_op op_fdivW pe_sem pe_sem) (two h (ii fun G i j => .int _) σ G R)
theorem we_mod (h : We X H0 a δ (fun x => We X H0 b δ (fun y => I2 x y (fun i j => 0 < j ∧ k (.int (i % j)))))) : We X H0 (.BinOp a .Mod b pos) δ k := fun σ G R => toE (pe_op op_mod pe_sem pe_sem) (two h (ii fun G i j => .int _) σ G R)
theorem we_pow (h : We X H0 a δ (fun x => We X H0 b δ (fun y => I2 x y (fun i j => (0 ≤ j ∧ j ≤ 1000000 ∧ i.natAbs < 2 ^ 64) ∧ k (.int (i ^ j.toNat)))))) : We X H0 (.BinOp a .Pow b pos) δ k := fun σ G R => toE (pe_op op_pow pe_sem pe_sem) (two h (ii fun G i j => .int _) σ G R)
theorem we_neg (h : We X H0 a δ (fun x => I1 x (fun i => k (.int (-i))))) : We X H0 (.UnaryOp .USub a pos) δ k := fun σ G R => toE (pe_un un_neg pe_sem) (one h (fun G v x iv h Q q => by
  obtain ⟨i, rfl, hk⟩ := h
  cases iv
  exact ⟨i, rfl, q _ G _ (Same.refl _) (.int _) hk⟩) σ G R)
theorem wt_lt (h : We X H0 a δ (fun x => We X H0 b δ (fun y => I2 x y (fun i j => kt (decide (i < j)))))) : Wt X H0 (.Compare a [.Lt] [b] pos) δ kt := fun σ G R => toT (pt_cmpR op_lt pe_sem pe_sem (nomark _)) (twoT h (iiT (g := fun i j => decide (i < j))) σ G R)
theorem wt_le (h : We X H0 a δ (fun x => We X H0 b δ (fun y => I2 x y (fun i j => kt (decide (i ≤ j)))))) : Wt X H0 (.Compare a [.LtE] [b] pos) δ kt := fun σ G R => toT (pt_cmpR op_le pe_sem pe_sem (nomark _)) (twoT h (iiT (g := fun i j => decide (i ≤ j))) σ G R)
theorem wt_gt (h : We X H0 a δ (fun x => We X H0 b δ (fun y => I2 x y (fun i j => kt (decide (j < i)))))) : Wt X H0 (.Compare a [.Gt] [b] pos) δ kt := fun σ G R => toT (pt_cmpR op_gt pe_sem pe_sem (nomark _)) (twoT h (iiT (g := fun i j => decide (j < i))) σ G R)
theorem wt_ge (h : We X H0 a δ (fun x => We X H0 b δ (fun y => I2 x y (fun i j => kt (decide (j ≤ i)))))) : Wt X H0 (.Compare a [.GtE] [b] pos) δ kt := fun σ G R => toT (pt_cmpR op_ge pe_sem pe_sem (nomark _)) (twoT h (iiT (g := fun i j => decide (j ≤ i))) σ G R)
theorem we_lt (h : We X H0 a δ (fun x => We X H0 b δ (fun y => I2 x y (fun i j => k (.bl (decide (i < j))))))) : We X H0 (.Compare a [.Lt] [b] pos) δ k := fun σ G R => toE (pe_cmpR op_lt pe_sem pe_sem (nomark _)) (two h (ii0 fun G i j => .bl _) σ G R)
theorem we_le (h : We X H0 a δ (fun x => We X H0 b δ (fun y => I2 x y (fun i j => k (.bl (decide (i ≤ j))))))) : We X H0 (.Compare a [.LtE] [b] pos) δ k := fun σ G R => toE (pe_cmpR op_le pe_sem pe_sem (nomark _)) (two h (ii0 fun G i j => .bl _) σ G R)
theorem we_gt (h : We X H0 a δ (fun x => We X H0 b δ (fun y => I2 x y (fun i j => k (.bl (decide (j < i))))))) : We X H0 (.Compare a [.Gt] [b] pos) δ k := fun σ G R => toE (pe_cmpR op_gt pe_sem pe_sem (nomark _)) (two h (ii0 fun G i j => .bl _) σ G R)
theorem we_ge (h : We X H0 a δ (fun x => We X H0 b δ (fun y => I2 x y (fun i j => k (.bl (decide (j ≤ i))))))) : We X H0 (.Compare a [.GtE] [b] pos) δ k := fun σ G R => toE (pe_cmpR op_ge pe_sem pe_sem (nomark _)) (two h (ii0 fun G i j => .bl _) σ G R)
/-! ### == of flat things -/
def flatEq : D → D → Option Bool
  | .non, .non => some true | .non, .int _ => some false | .int _, .non => some false | .non, .bl _ => some false | .bl _, .non => some false | .non, .str _ => some false | .str _, .non => some false
  | .int i, .int j => some (decide (i = j)) | .bl i, .bl j => some (decide (i = j)) | .str i, .str j => some (decide (i = j))
  | .int _, .str _ => some false | .str _, .int _ => some false | .bl _, .str _ => some false | .str _, .bl _ => some false
  | _, _ => none
def FE (x y : D) (P : Bool → Prop) : Prop := ∃ r, flatEq x y = some r ∧ P r
theorem flatEq_is {K : PySem.W.Frag} {G : Hp} {v w : V} {x y : D} {r : Bool} (iv : Is K G v x) (iw : Is K G w y) (h : flatEq x y = some r) : scal v w = true ∧ decide (v = w) = r := by
  cases iv <;> cases iw <;> first
    | (cases h; exact ⟨rfl, by simp⟩)
    | (cases h; exact ⟨rfl, rfl⟩)
    | cases h
theorem wt_eq (h : We X H0 a δ (fun x => We X H0 b δ (fun y => FE x y kt))) : Wt X H0 (.Compare a [.Eq] [b] pos) δ kt := fun σ G R => toT (pt_cmpR op_eq pe_sem pe_sem (nomark _)) (twoT h (fun G v w x y iv iw ⟨r, h, hk⟩ Q q => by
  obtain ⟨h1, h2⟩ := flatEq_is iv iw h
  exact ⟨h1, by rw [h2]; exact q r hk⟩) σ G R)
theorem wt_ne (h : We X H0 a δ (fun x => We X H0 b δ (fun y => FE x y fun r => kt (!r)))) : Wt X H0 (.Compare a [.NotEq] [b] pos) δ kt := fun σ G R => toT (pt_cmpR op_ne pe_sem pe_sem (nomark _)) (twoT h (fun G v w x y iv iw ⟨r, h, hk⟩ Q q => by
  obtain ⟨h1, h2⟩ := flatEq_is iv iw h
  exact ⟨h1, by rw [h2]; exact q _ hk⟩) σ G R)
theorem we_eq (h : We X H0 a δ (fun x => We X H0 b δ (fun y => FE x y fun r => k (.bl r)))) : We X H0 (.Compare a [.Eq] [b] pos) δ k := fun σ G R => toE (pe_cmpR op_eq pe_sem pe_sem (nomark _)) (two h (fun G v w x y iv iw ⟨r, h, hk⟩ Q q => by
  obtain ⟨h1, h2⟩ := flatEq_is iv iw h
  exact ⟨h1, by rw [h2]; exact q _ G _ (Same.refl _) (.bl r) hk⟩) σ G R)
theorem we_ne (h : We X H0 a δ (fun x => We X H0 b δ (fun y => FE x y fun r => k (.bl (!r))))) : We X H0 (.Compare a [.NotEq] [b] pos) δ k := fun σ G R => toE (pe_cmpR op_ne pe_sem pe_sem (nomark _)) (two h (fun G v w x y iv iw ⟨r, h, hk⟩ Q q => by
  obtain ⟨h1, h2⟩ := flatEq_is iv iw h
  exact ⟨h1, by rw [h2]; exact q _ G _ (Same.refl _) (.bl (!r)) hk⟩) σ G R)
theorem fe {x y : D} {r : Bool} {P : Bool → Prop} (e : flatEq x y = some r) (h : P r) : FE x y P := ⟨r, e, h⟩
/-- is None -/
def isNon : D → Bool
  | .non => true
  | _ => false
def NN (y : D) (P : Prop) : Prop := y = .non ∧ P
theorem nn {P : Prop} (h : P) : NN .non P := ⟨rfl, h⟩
theorem isNon_is {K : PySem.W.Frag} {G : Hp} {v : V} {x : D} (iv : Is K G v x) : decide (v = .non) = isNon x := by
  cases iv <;> rfl
theorem wt_isN (h : We X H0 a δ (fun x => We X H0 b δ (fun y => NN y (kt (isNon x))))) : Wt X H0 (.Compare a [.Is] [b] pos) δ kt := fun σ G R => toT (pt_cmpR op_isN pe_sem pe_sem (nomark _)) (twoT h (fun G v w x y iv iw ⟨h, hk⟩ Q q => by
  subst h
  cases iw
  exact ⟨rfl, by rw [isNon_is iv]; exact q _ hk⟩) σ G R)
theorem wt_notN (h : We X H0 a δ (fun x => We X H0 b δ (fun y => NN y (kt (!isNon x))))) : Wt X H0 (.Compare a [.IsNot] [b] pos) δ kt := fun σ G R => toT (pt_cmpR op_notN pe_sem pe_sem (nomark _)) (twoT h (fun G v w x y iv iw ⟨h, hk⟩ Q q => by
  subst h
  cases iw
  exact ⟨rfl, by rw [isNon_is iv]; exact q _ hk⟩) σ G R)
theorem we_isN (h : We X H0 a δ (fun x => We X H0 b δ (fun y => NN y (k (.bl (isNon x)))))) : We X H0 (.Compare a [.Is] [b] pos) δ k := fun σ G R => toE (pe_cmpR op_isN pe_sem pe_sem (nomark _)) (two h (fun G v w x y iv iw ⟨h, hk⟩ Q q => by
  subst h
  cases iw
  exact ⟨rfl, by rw [isNon_is iv]; exact q _ G _ (Same.refl _) (.bl _) hk⟩) σ G R)
theorem we_notN (h : We X H0 a δ (fun x => We X H0 b δ (fun y => NN y (k (.bl (!isNon x)))))) : We X H0 (.Compare a [.IsNot] [b] pos) δ k := fun σ G R => toE (pe_cmpR op_notN pe_sem pe_sem (nomark _)) (two h (fun G v w x y iv iw ⟨h, hk⟩ Q q => by
  subst h
  cases iw
  exact ⟨rfl, by rw [isNon_is iv]; exact q _ G _ (Same.refl _) (.bl _) hk⟩) σ G R)
/-! ### subscripts -/
def Ix (x y : D) (P : D → Prop) : Prop := ∃ l ds i d, x = .sq l ds ∧ y = .int i ∧ atI ds i = some d ∧ P d
theorem ixn (j : Nat) {l : Bool} {ds : List D} {i : Int} {d : D} {P : D → Prop} (e : ds[j]? = some d) (h : P d) (hi : i = (j : Int) := by rfl) : Ix (.sq l ds) (.int i) P := ⟨l, ds, i, d, rfl, rfl, by rw [hi]; exact atI_nat e, h⟩
theorem ixa {l : Bool} {ds : List D} {i : Int} {d : D} {P : D → Prop} (e : L2.atI ds i = some d) (h : P d) : Ix (.sq l ds) (.int i) P := ⟨l, ds, i, d, rfl, rfl, e, h⟩
theorem IsL.atI {K : PySem.W.Frag} {G : Hp} {xs : List V} {ds : List D} {i : Int} {d : D} (h : IsL K G xs ds) (e : L2.atI ds i = some d) : ∃ x, L2.atI xs i = some x ∧ Is K G x d := by
  unfold L2.atI at e ⊢
  rw [h.1]
  cases q : ixN ds.length i with
  | none => rw [q] at e; cases e
  | some j => rw [q] at e; exact h.get e
theorem we_ix (h : We X H0 a δ (fun x => We X H0 b δ (fun y => Ix x y k))) (hs : PlainIx b := by exact fun _ _ => rfl) : We X H0 (.Subscript a b pos) δ k := fun σ G R => toE (pe_ix ix_seq pe_sem pe_sem hs) (two h (fun G v w x y iv iw ⟨l, ds, i, d, ex, ey, he, hk⟩ Q q => by
  subst ex ey
  cases iw
  cases l with
  | true =>
    obtain ⟨p, xs, rfl, hq, hl⟩ := iv.lst_inv
    obtain ⟨z, hz, iz⟩ := hl.atI he
    exact .inl ⟨p, xs, i, z, rfl, rfl, .inl hq, hz, q _ G _ (Same.refl _) iz hk⟩
  | false =>
    obtain ⟨p, xs, rfl, hq, hl⟩ := iv.tup_inv
    obtain ⟨z, hz, iz⟩ := hl.atI he
    exact .inr (.inl ⟨p, xs, i, z, rfl, rfl, hq, hz, q _ G _ (Same.refl _) iz hk⟩)) σ G R)
/-- the script: one item, its length -/
theorem we_ixS (h : We X H0 a δ (fun x => We X H0 b δ (fun y => ∃ ns i n, x = .scr ns ∧ y = .int i ∧ atI ns i = some n ∧ k (.int n)))) (hs : PlainIx b := by exact fun _ _ => rfl) : We X H0 (.Subscript a b pos) δ k := fun σ G R => toE (pe_ix ix_seq pe_sem pe_sem hs) (two h (fun G v w x y iv iw ⟨ns, i, n, ex, ey, he, hk⟩ Q q => by
  subst ex ey
  cases iw
  obtain ⟨p, rfl, hq⟩ := iv.scr_inv
  refine .inl ⟨p, _, i, .int n, rfl, rfl, hq, ?_, q _ G _ (Same.refl _) (.int _) hk⟩
  unfold L2.atI at he ⊢
  rw [List.length_map]
  cases e : ixN ns.length i with
  | none => rw [e] at he; cases he
  | some j =>
    rw [e] at he
    show (ns.map V.int)[j]? = some (.int n)
    rw [List.getElem?_map, show ns[j]? = some n from he] <;> rfl) σ G R)
/-! ### and, or, not, if -/
theorem ww_and1 (h : Wt X H0 a δ kt) : Ww X H0 (.BoolOp .And [a] pos) δ kt := fun σ G R => toW (pw_and1 pt_sem) (h σ G R)
theorem ww_or1 (h : Wt X H0 a δ kt) : Ww X H0 (.BoolOp .Or [a] pos) δ kt := fun σ G R => toW (pw_or1 pt_sem) (h σ G R)
theorem ww_and (h : Wt X H0 a δ (fun r => (r = true → Ww X H0 (.BoolOp .And (b :: es) pos) δ kt) ∧ (r = false → kt false))) : Ww X H0 (.BoolOp .And (a :: b :: es) pos) δ kt := fun σ G R => toW (pw_and pt_sem pw_sem) ((h σ G R).mono fun r G1 ⟨e1, h1, h2⟩ => by
  cases r with
  | true =>
    show semW X _ σ G1 _
    exact (h1 rfl σ G1 (R.mono e1)).mono fun _ _ ⟨e2, q⟩ => ⟨e1.trans e2, q⟩
  | false => exact ⟨e1, h2 rfl⟩)
theorem ww_or (h : Wt X H0 a δ (fun r => (r = false → Ww X H0 (.BoolOp .Or (b :: es) pos) δ kt) ∧ (r = true → kt true))) : Ww X H0 (.BoolOp .Or (a :: b :: es) pos) δ kt := fun σ G R => toW (pw_or pt_sem pw_sem) ((h σ G R).mono fun r G1 ⟨e1, h1, h2⟩ => by
  cases r with
  | false =>
    show semW X _ σ G1 _
    exact (h1 rfl σ G1 (R.mono e1)).mono fun _ _ ⟨e2, q⟩ => ⟨e1.trans e2, q⟩
  | true => exact ⟨e1, h2 rfl⟩)
theorem wt_w (h : Ww X H0 e δ kt) : Wt X H0 e δ kt := fun σ G R => toT pw_sem.pt (h σ G R)
theorem wt_not (h : Wt X H0 a δ (fun r => kt (!r))) : Wt X H0 (.UnaryOp .Not a pos) δ kt := fun σ G R => toT (pt_not pt_sem) (h σ G R)
theorem wt_val (h : We X H0 e δ (fun d => B1 d kt)) (he : ∀ whole, isTrue e X.env whole = (do let v ← whole; standAt e.pos; holding [v] (truthy v)) := by exact fun _ => rfl) : Wt X H0 e δ kt := fun σ G R => toT (pt_val pe_sem he) ((h σ G R).mono fun v G1 ⟨e1, d, i, b, ed, q⟩ => by
  subst ed
  cases i
  exact ⟨b, rfl, e1, q⟩)
def truD : D → Option Bool
  | .non => some false
  | .bl b => some b
  | .int i => some (i != 0)
  | .sq _ ds => some (!ds.isEmpty)
  | _ => none
def TR (x : D) (P : Bool → Prop) : Prop := ∃ r, truD x = some r ∧ P r
theorem tr {x : D} {r : Bool} {P : Bool → Prop} (e : truD x = some r) (h : P r) : TR x P := ⟨r, e, h⟩
theorem isEmpty_len {α β : Type} {xs : List α} {ys : List β} (h : xs.length = ys.length) : xs.isEmpty = ys.isEmpty := by
  cases xs <;> cases ys <;> first | rfl | cases h
/-- the truth of any value -/
theorem wt_tru (h : We X H0 e δ (fun d => TR d kt)) (he : ∀ whole, isTrue e X.env whole = (do let v ← whole; standAt e.pos; holding [v] (truthy v)) := by exact fun _ => rfl) : Wt X H0 e δ kt := fun σ G R => toT (pt_truth pe_sem he) ((h σ G R).mono fun v G1 ⟨e1, d, i, r, ed, q⟩ => by
  refine ⟨r, ?_, e1, q⟩
  cases d with
  | non => cases i; cases ed; rfl
  | bl b => cases i; cases ed; rfl
  | int n => cases i; cases ed; rfl
  | sq l ds =>
    cases ed
    cases l with
    | true =>
      obtain ⟨p, xs, rfl, hq, hl⟩ := i.lst_inv
      exact .inl ⟨xs, .inl hq, by rw [isEmpty_len hl.1]⟩
    | false =>
      obtain ⟨p, xs, rfl, hq, hl⟩ := i.tup_inv
      exact .inr (.inl ⟨xs, hq, by rw [isEmpty_len hl.1]⟩)
  | str x => cases ed
  | dic x => cases ed
  | ins C x => cases ed
  | ob x => cases ed
  | exc x y z => cases ed
  | scr x => cases ed)
theorem we_one {op} (h : We X H0 a δ k) : We X H0 (.BoolOp op [a] pos) δ k := fun σ G R => toE (pe_one pe_sem) (h σ G R)
theorem we_and (h : We X H0 a δ (fun d => B1 d fun r => (r = true → We X H0 (.BoolOp .And (b :: es) pos) δ k) ∧ (r = false → k (.bl false)))) : We X H0 (.BoolOp .And (a :: b :: es) pos) δ k := fun σ G R => toE (pe_and pe_sem pe_sem) ((h σ G R).mono fun v G1 ⟨e1, d, i, r, ed, h1, h2⟩ => by
  subst ed
  cases i
  refine ⟨r, rfl, ?_⟩
  cases r with
  | true =>
    show semE X _ σ G1 _
    exact (h1 rfl σ G1 (R.mono e1)).mono fun _ _ ⟨e2, q⟩ => ⟨e1.trans e2, q⟩
  | false => exact ⟨e1, _, .bl false, h2 rfl⟩)
theorem we_or (h : We X H0 a δ (fun d => B1 d fun r => (r = false → We X H0 (.BoolOp .Or (b :: es) pos) δ k) ∧ (r = true → k (.bl true)))) : We X H0 (.BoolOp .Or (a :: b :: es) pos) δ k := fun σ G R => toE (pe_or pe_sem pe_sem) ((h σ G R).mono fun v G1 ⟨e1, d, i, r, ed, h1, h2⟩ => by
  subst ed
  cases i
  refine ⟨r, rfl, ?_⟩
  cases r with
  | false =>
    show semE X _ σ G1 _
    exact (h1 rfl σ G1 (R.mono e1)).mono fun _ _ ⟨e2, q⟩ => ⟨e1.trans e2, q⟩
  | true => exact ⟨e1, _, .bl true, h2 rfl⟩)
theorem we_not (h : We X H0 a δ (fun d => B1 d fun r => k (.bl (!r)))) : We X H0 (.UnaryOp .Not a pos) δ k := fun σ G R => toE (pe_not pe_sem) ((h σ G R).mono fun v G1 ⟨e1, d, i, r, ed, q⟩ => by
  subst ed
  cases i
  exact ⟨r, rfl, e1, _, .bl _, q⟩)
theorem we_if (h : Wt X H0 c δ (fun r => (r = true → We X H0 a δ k) ∧ (r = false → We X H0 b δ k))) : We X H0 (.IfExp c a b pos) δ k := fun σ G R => toE (pe_ifExp pt_sem pe_sem pe_sem) ((h σ G R).mono fun r G1 ⟨e1, h1, h2⟩ => by
  cases r with
  | true =>
    show semE X _ σ G1 _
    exact (h1 rfl σ G1 (R.mono e1)).mono fun _ _ ⟨e2, q⟩ => ⟨e1.trans e2, q⟩
  | false =>
    show semE X _ σ G1 _
    exact (h2 rfl σ G1 (R.mono e1)).mono fun _ _ ⟨e2, q⟩ => ⟨e1.trans e2, q⟩)
/-! ### arguments, displays -/
variable {ka : List D → Prop}
theorem wa_nil (h : ka []) : Wa X H0 [] δ ka := fun σ G R => toA pa_nil ⟨Same.refl _, _, .nil, h⟩
theorem wa_cons (h : We X H0 e δ (fun d => Wa X H0 es δ (fun ds => ka (d :: ds)))) (hs : notStar e = true := by rfl) : Wa X H0 (e :: es) δ ka := fun σ G R => toA (pa_cons pe_sem pa_sem (star_of hs)) ((h σ G R).mono fun v G1 ⟨e1, d, i, q1⟩ =>
  (q1 σ G1 (R.mono e1)).mono fun vs G2 ⟨e2, ds, is, q2⟩ => ⟨e1.trans e2, _, .cons (i.mono e2) is, q2⟩)
theorem we_tup {x1} (h : Wa X H0 es δ (fun ds => ds.length ≤ 100000 ∧ k (.sq false ds))) : We X H0 (.Tuple es x1 pos) δ k := fun σ G R => toE (pe_tup pa_sem) ((h σ G R).mono fun vs G1 ⟨e1, ds, is, hl, q⟩ =>
  ⟨Nat.le_trans (by rw [is.1]; exact hl) (by decide), fun p hp => ⟨e1.trans (Ex.new hp), _, .mkT (SqT.of upd_same) (is.mono (Ex.new hp)), q⟩⟩)
variable {ko : Ow → Prop}
theorem wo_lst (h : Wa X H0 es δ (fun ds => ds.length ≤ 100000 ∧ ko (.lst ds))) : Wo X H0 (.List es pos) δ ko := fun σ G R => toE (pe_lst pa_sem) ((h σ G R).mono fun vs G1 ⟨e1, ds, is, hl, q⟩ =>
  ⟨Nat.le_trans (by rw [is.1]; exact hl) (by decide), fun p hp => ⟨_, (NewIs.lst hp is).back e1, q⟩⟩)
/-! ### built-in functions -/
/-- a built-in by its name: what its rule asks, by data -/
theorem call1 {r : List V → Hp → VK → Prop} {P : List D → Prop} {ta : TA} (h : Wa X H0 es δ P) (hr : ∀ G vs ds, IsL X.K G vs ds → P ds → ∀ Q : VK, (∀ z G' d, Ex G G' → Is X.K G' z d → k d → Q z G') → r vs G Q) :
    ∀ σ G, RelS X.K H0 σ G δ → tCB r (semA X es) σ G (fun v G' => Ex G G' ∧ ∃ d, Is X.K G' v d ∧ k d) := fun σ G R =>
  (h σ G R).mono fun vs G1 ⟨e1, ds, is, q⟩ => hr G1 vs ds is q _ fun z G' d e3 iz kz => ⟨e1.trans e3, d, iz, kz⟩
variable {p : Pos}
theorem we_callB {x : Str} {id : String} {r : List V → Hp → VK → Prop} {P : List D → Prop} (hc : CallR X (.builtin id) r) (hv : bootBuiltins x = some (.builtin id)) (hn : x ≠ "__name__") (hdb : (x == ("__debug__" : Str)) = false)
    (hr : ∀ G vs ds, IsL X.K G vs ds → P ds → ∀ Q : VK, (∀ z G' d, Ex G G' → Is X.K G' z d → k d → Q z G') → r vs G Q) (hm : X.mg x = none) (h : Wa X H0 (e :: es) δ P) (hg : Gl X x)
    (he : notStar e = true) (hpl : es.all notStar = true) : We X H0 (.Call (.Name x p) (e :: es) [] pos) δ k :=
  fun σ G R => toE (pe_callB hc hg hm hv pa_sem hn hdb (star_of he) (star_any hpl)) (call1 (ta := semA X (e :: es)) h hr σ G R)
theorem we_callTy {x : Str} {T : String} {r : List V → Hp → VK → Prop} {P : List D → Prop} (hc : CallR X (.type T) r) (hv : bootBuiltins x = some (.type T)) (hn : x ≠ "__name__") (hdb : (x == ("__debug__" : Str)) = false)
    (hr : ∀ G vs ds, IsL X.K G vs ds → P ds → ∀ Q : VK, (∀ z G' d, Ex G G' → Is X.K G' z d → k d → Q z G') → r vs G Q) (hm : X.mg x = none) (h : Wa X H0 (e :: es) δ P) (hg : Gl X x)
    (he : notStar e = true) (hpl : es.all notStar = true) : We X H0 (.Call (.Name x p) (e :: es) [] pos) δ k :=
  fun σ G R => toE (pe_callTy hc hg hm hv pa_sem hn hdb (star_of he) (star_any hpl)) (call1 (ta := semA X (e :: es)) h hr σ G R)
def SQ (x : D) (P : Bool → List D → Prop) : Prop := ∃ l xs, x = .sq l xs ∧ P l xs
theorem sqk {l : Bool} {xs : List D} {P : Bool → List D → Prop} (h : P l xs) : SQ (.sq l xs) P := ⟨l, xs, rfl, h⟩
def CI (x : D) (P : Int → Prop) : Prop := (∃ i, x = .int i ∧ P i) ∨ ∃ b, x = .bl b ∧ P (if b then 1 else 0)
theorem ci {i : Int} {P : Int → Prop} (h : P i) : CI (.int i) P := .inl ⟨i, rfl, h⟩
theorem cb {b : Bool} {P : Int → Prop} (h : P (if b then 1 else 0)) : CI (.bl b) P := .inr ⟨b, rfl, h⟩
def A1 (ds : List D) (P : D → Prop) : Prop := ∃ x, ds = [x] ∧ P x
theorem a1 {x : D} {P : D → Prop} (h : P x) : A1 [x] P := ⟨x, rfl, h⟩
def A2 (ds : List D) (P : D → D → Prop) : Prop := ∃ x y, ds = [x, y] ∧ P x y
theorem a2 {x y : D} {P : D → D → Prop} (h : P x y) : A2 [x, y] P := ⟨x, y, rfl, h⟩
theorem IsL.one {K : PySem.W.Frag} {G : Hp} {vs : List V} {x : D} (h : IsL K G vs [x]) : ∃ v, vs = [v] ∧ Is K G v x := by
  obtain ⟨v, r, rfl, i, h⟩ := h.inv_cons
  rw [h.inv_nil]
  exact ⟨v, rfl, i⟩
theorem IsL.two {K : PySem.W.Frag} {G : Hp} {vs : List V} {x y : D} (h : IsL K G vs [x, y]) : ∃ v w, vs = [v, w] ∧ Is K G v x ∧ Is K G w y := by
  obtain ⟨v, r, rfl, i, h⟩ := h.inv_cons
  obtain ⟨w, rfl, j⟩ := h.one
  exact ⟨v, w, rfl, i, j⟩
theorem we_len (hm : X.mg "len" = none) (h : Wa X H0 [e] δ (fun ds => A1 ds fun x => SQ x fun l xs => k (.int xs.length))) (hg : Gl X "len" := by rfl) (he : notStar e = true := by rfl) :
    We X H0 (.Call (.Name "len" p) [e] [] pos) δ k := we_callB call_len_seq boot_len (by decide) (by decide) (fun G vs ds is ⟨x, ed, l, xs, ex, hk⟩ Q q => by
  subst ed ex
  obtain ⟨v, rfl, i⟩ := is.one
  cases l with
  | true =>
    obtain ⟨a, ys, rfl, hq, hl⟩ := i.lst_inv
    exact ⟨a, ys, rfl, .inl (.inl hq), q _ G _ (Same.refl _) (by rw [hl.1]; exact .int _) hk⟩
  | false =>
    obtain ⟨a, ys, rfl, hq, hl⟩ := i.tup_inv
    exact ⟨a, ys, rfl, .inr hq, q _ G _ (Same.refl _) (by rw [hl.1]; exact .int _) hk⟩) hm h hg he rfl
theorem we_lenS (hm : X.mg "len" = none) (h : Wa X H0 [e] δ (fun ds => A1 ds fun x => ∃ ns, x = .scr ns ∧ k (.int (ns.length : Int)))) (hg : Gl X "len" := by rfl) (he : notStar e = true := by rfl) :
    We X H0 (.Call (.Name "len" p) [e] [] pos) δ k := we_callB call_len_seq boot_len (by decide) (by decide) (fun G vs ds is ⟨x, ed, ns, ex, hk⟩ Q q => by
  subst ed ex
  obtain ⟨v, rfl, i⟩ := is.one
  obtain ⟨a, rfl, hq⟩ := i.scr_inv
  exact ⟨a, _, rfl, .inl hq, q _ G _ (Same.refl _) (by rw [List.length_map]; exact .int _) hk⟩) hm h hg he rfl
theorem we_cint (hm : X.mg "int" = none) (h : Wa X H0 [e] δ (fun ds => A1 ds fun x => CI x fun i => k (.int i))) (hg : Gl X "int" := by rfl) (he : notStar e = true := by rfl) :
    We X H0 (.Call (.Name "int" p) [e] [] pos) δ k := we_callTy call_int1 (by decide +kernel) (by decide) (by decide) (fun G vs ds is ⟨x, ed, hx⟩ Q q => by
  subst ed
  obtain ⟨v, rfl, i⟩ := is.one
  rcases hx with ⟨n, ex, hk⟩ | ⟨n, ex, hk⟩
  · subst ex
    cases i
    exact .inl ⟨n, rfl, q _ G _ (Same.refl _) (.int _) hk⟩
  · subst ex
    cases i
    exact .inr ⟨n, rfl, q _ G _ (Same.refl _) (.int _) hk⟩) hm h hg he rfl
theorem we_abs (hm : X.mg "abs" = none) (h : Wa X H0 [e] δ (fun ds => A1 ds fun x => I1 x fun i => k (.int (i.natAbs : Int)))) (hg : Gl X "abs" := by rfl) (he : notStar e = true := by rfl) :
    We X H0 (.Call (.Name "abs" p) [e] [] pos) δ k := we_callB call_abs (by decide +kernel) (by decide) (by decide) (fun G vs ds is ⟨x, ed, n, ex, hk⟩ Q q => by
  subst ed ex
  obtain ⟨v, rfl, i⟩ := is.one
  cases i
  refine ⟨n, rfl, q _ G _ (Same.refl _) ?_ hk⟩
  rw [show (if n < 0 then -n else n) = (n.natAbs : Int) by split <;> omega]
  exact .int _) hm h hg he rfl
theorem wo_list (hm : X.mg "list" = none) (h : Wa X H0 [e] δ (fun ds => A1 ds fun x => SQ x fun l xs => ko (.lst xs))) (hg : Gl X "list" := by rfl) (he : notStar e = true := by rfl) :
    Wo X H0 (.Call (.Name "list" p) [e] [] pos) δ ko := fun σ G R => toE (pe_callTy call_list_of hg hm (by decide +kernel) pa_sem (by decide) (by decide) (star_of he) rfl) ((h σ G R).mono fun vs G1 ⟨e1, ds, is, x, ed, l, xs, ex, hk⟩ => by
  subst ed ex
  obtain ⟨v, rfl, i⟩ := is.one
  cases l with
  | true =>
    obtain ⟨a, ys, rfl, hq, hl⟩ := i.lst_inv
    exact ⟨a, ys, rfl, .inl (.inl hq), fun t ht => ⟨_, (NewIs.lst ht hl).back e1, hk⟩⟩
  | false =>
    obtain ⟨a, ys, rfl, hq, hl⟩ := i.tup_inv
    exact ⟨a, ys, rfl, .inr hq, fun t ht => ⟨_, (NewIs.lst ht hl).back e1, hk⟩⟩)
theorem we_tuple (hm : X.mg "tuple" = none) (h : Wa X H0 [e] δ (fun ds => A1 ds fun x => SQ x fun l xs => k (.sq false xs))) (hg : Gl X "tuple" := by rfl) (he : notStar e = true := by rfl) :
    We X H0 (.Call (.Name "tuple" p) [e] [] pos) δ k := we_callTy call_tuple_of (by decide +kernel) (by decide) (by decide) (fun G vs ds is ⟨x, ed, l, xs, ex, hk⟩ Q q => by
  subst ed ex
  obtain ⟨v, rfl, i⟩ := is.one
  cases l with
  | true =>
    obtain ⟨a, ys, rfl, hq, hl⟩ := i.lst_inv
    exact ⟨a, ys, rfl, .inl ⟨.inl hq, fun t ht => q _ _ _ (Ex.new ht) (.mkT (SqT.of upd_same) (hl.mono (Ex.new ht))) hk⟩⟩
  | false =>
    obtain ⟨a, ys, rfl, hq, hl⟩ := i.tup_inv
    exact ⟨a, ys, rfl, .inr ⟨hq, q _ G _ (Same.refl _) i hk⟩⟩) hm h hg he rfl
/-! ### isinstance with a built-in class -/
def tyD : D → Option String
  | .non => some "NoneType" | .bl _ => some "bool" | .int _ => some "int" | .str _ => some "str"
  | .sq true _ => some "list" | .sq false _ => some "tuple" | .dic _ => some "dict"
  | _ => none
theorem tyD_is {K : PySem.W.Frag} {G : Hp} {v : V} {d : D} {t : String} (i : Is K G v d) (h : tyD d = some t) : TyX K G v (.type t) := by
  cases i with
  | non => cases h; exact .base .non
  | bl b => cases h; exact .base (.bl b)
  | int b => cases h; exact .base (.int b)
  | str b => cases h; exact .base (.str b)
  | lst q _ _ =>
    cases h
    rcases q with q | ⟨o, q⟩
    · exact .base (.lst q)
    · exact .base (.frz q)
  | tup q _ _ =>
    cases h
    rcases q with (q | ⟨o, q⟩) | ⟨o, its, n, q, c, _⟩
    · exact .base (.tup q)
    · exact .fTuple q
    · exact .kTuple q c
  | dic q _ _ =>
    cases h
    rcases q with q | ⟨o, q⟩
    · exact .base (.dK q)
    · exact .fDict q
  | ins _ q _ _ => cases h
  | ob a => cases h
  | exc _ _ _ => cases h
  | scr _ => cases h
def II (d : D) (T : String) (P : Bool → Prop) : Prop := ∃ t b, tyD d = some t ∧ kitB t T = some b ∧ P b
theorem ii_ {d : D} {T t : String} {b : Bool} {P : Bool → Prop} (e : tyD d = some t) (e2 : kitB t T = some b) (h : P b) : II d T P := ⟨t, b, e, e2, h⟩
/-- a built-in class as a value -/
theorem isi_arg {x : Str} {T : String} (hm : X.mg x = none) (hv : bootBuiltins x = some (.type T)) (hg : Gl X x) (hn : x ≠ "__name__") (hd : (x == ("__debug__" : Str)) = false) : PE X (.Name x pos) (tC (.ty T)) := pe_bltn hg hm hv rfl hn hd
theorem we_isi {p2 : Pos} {x : Str} {T : String} (hm : X.mg "isinstance" = none) (hc : PE X (.Name x p2) (tC (.ty T))) (h : We X H0 e δ (fun d => II d T fun b => k (.bl b))) (hg : Gl X "isinstance" := by rfl)
    (he : notStar e = true := by rfl) :
    We X H0 (.Call (.Name "isinstance" p) [e, .Name x p2] [] pos) δ k := fun σ G R => toE (pe_callB call_isi hg hm (by decide +kernel) (pa_cons pe_sem (pa_cons hc pa_nil (star_of rfl)) (star_of he)) (by decide) (by decide) (star_of he) (star_any rfl)) ((h σ G R).mono fun v G1 ⟨e1, d, i, t, b, h1, h2, q⟩ =>
  ⟨v, .ty T, .type t, .type T, b, rfl, .ty T, tyD_is i h1, kit_ty h2, e1, _, .bl b, q⟩)
end
end DL
set_option Elab.async false
set_option linter.all false
set_option maxRecDepth 100000
set_option maxHeartbeats 2000000
/-! Part d: statements, loops, calls, defs, by data. -/
namespace DL
open PySem PySem.Spec PyProof.Rows L2
/-! ### what a call hands back, what it lets out -/
def RetIs (K : PySem.W.Frag) (H : Hp) (v : V) (H' : Hp) : S → Prop
  | .no => False
  | .sh d => Ex H H' ∧ Is K H' v d
  | .ow o => NewIs K H v H' o
theorem RetIs.ex {K : PySem.W.Frag} {H H' : Hp} {v : V} {r : S} (h : RetIs K H v H' r) : Ex H H' ∧ Is K H' v r.d := by
  cases r with
  | no => exact h.elim
  | sh d => exact h
  | ow o => exact ⟨NewIs.ex h, NewIs.is h⟩
theorem RetIs.back {K : PySem.W.Frag} {H0 H H' : Hp} {v : V} {r : S} (e : Ex H0 H) (h : RetIs K H v H' r) : RetIs K H0 v H' r := by
  cases r with
  | no => exact h.elim
  | sh d => exact ⟨e.trans h.1, h.2⟩
  | ow o => exact NewIs.back e h
def ExcIs (K : PySem.W.Frag) (H : Hp) : Option Addr → List (Str × D) → Prop
  | none, fs => fs = []
  | some a, fs => ∃ vs, H a = some (.xd vs) ∧ IsF K H vs fs
abbrev XD := Value → List (Str × D) → Prop
/-- what a def does, by data: its arguments, what is wanted of what it hands back, of what it lets out -/
abbrev DSp := List D → (S → Prop) → XD → Prop
def spD (K : PySem.W.Frag) (T : DSp) : Sp := fun vs H Q E => ∃ ds k x, IsL K H vs ds ∧ T ds k x ∧ (∀ v H' r, RetIs K H v H' r → k r → Q v H') ∧ (∀ c d H' fs, Ex H H' → ExcIs K H' d fs → x c fs → E c d H')
/-- what the context takes of exceptions, by data -/
structure Xc (X : Cx) (H0 : Hp) (xw : List S → XD) : Prop where
  ex : ∃ W : WX, Takes X W ∧ ∀ σ G δ c d fs, RelS X.K H0 σ G δ → ExcIs X.K G d fs → xw δ c fs → W c d σ G
theorem xc0 {X : Cx} {H0 : Hp} : Xc X H0 (fun _ _ _ => False) := ⟨⟨fun _ _ _ _ => False, takes0, fun _ _ _ _ _ _ _ _ h => h.elim⟩⟩
/-- a def that is known -/
structure Fn (P : Program) (w : World) (K : PySem.W.Frag) (mg : Str → Option Value) (base : Heap) (lvl : Nat) (x : Str) (ps : List Str) (T : DSp) (dds : List D) : Prop where
  ex : ∃ (f : Addr) (fd : FuncData) (ds : List Value) (dvs : List V), FnOk P w K mg base (L2.CX P w) lvl f fd ps (spD K T) ∧ mg x = some (.ref f) ∧ PySem.W.keepIn K (.ref f) = true ∧ Binds K fd ps ds ∧ Vals dvs ds ∧ ∀ G, IsL K G dvs dds
section
variable {X : Cx} {H0 : Hp} {δ δ' : List S} {a b c e : Expr} {es : List Expr} {k : D → Prop} {pos p : Pos}
theorem we_callX {lvl : Nat} {x : Str} {ps : List Str} {T : DSp} {dds : List D} {xw : List S → XD} (F : Fn X.prog X.w X.K X.mg X.base lvl x ps T dds) (hr : Room lvl X.A) (hx : Xc X H0 xw) (h : Wa X H0 (e :: es) δ (fun as => T (as ++ dds) (fun r => k r.d) (xw δ)))
    (hg : Gl X x := by rfl) (hdb : (x == ("__debug__" : Str)) = false := by decide) (he : notStar e = true := by rfl) (hpl : es.all notStar = true := by rfl) : We X H0 (.Call (.Name x p) (e :: es) [] pos) δ k := by
  intro σ G R
  obtain ⟨f, fd, ds, dvs, Fk, hm, hk, hb, hd, hdd⟩ := F.ex
  obtain ⟨W, tk, hW⟩ := hx.ex
  refine toE (pe_callSD Fk hr hg hm hk hb hd (fun σ => passAt tk σ) pa_sem hdb (star_of he) (star_any hpl)) ((h σ G R).mono fun vs G1 ⟨e1, as, is, hT⟩ => ?_)
  exact ⟨_, _, _, is.app (hdd G1), hT, fun v H' r hr' hk' => ⟨e1.trans hr'.ex.1, _, hr'.ex.2, hk'⟩, fun c d H' fs e2 i q => hW σ H' δ c d fs ((R.mono e1).mono e2) i q⟩
theorem wo_callX {ko : Ow → Prop} {lvl : Nat} {x : Str} {ps : List Str} {T : DSp} {dds : List D} {xw : List S → XD} (F : Fn X.prog X.w X.K X.mg X.base lvl x ps T dds) (hr : Room lvl X.A) (hx : Xc X H0 xw) (h : Wa X H0 (e :: es) δ (fun as => T (as ++ dds) (fun r => ∃ o, r = .ow o ∧ ko o) (xw δ)))
    (hg : Gl X x) (hdb : (x == ("__debug__" : Str)) = false) (he : notStar e = true) (hpl : es.all notStar = true) : Wo X H0 (.Call (.Name x p) (e :: es) [] pos) δ ko := by
  intro σ G R
  obtain ⟨f, fd, ds, dvs, Fk, hm, hk, hb, hd, hdd⟩ := F.ex
  obtain ⟨W, tk, hW⟩ := hx.ex
  refine toE (pe_callSD Fk hr hg hm hk hb hd (fun σ => passAt tk σ) pa_sem hdb (star_of he) (star_any hpl)) ((h σ G R).mono fun vs G1 ⟨e1, as, is, hT⟩ => ?_)
  exact ⟨_, _, _, is.app (hdd G1), hT, fun v H' r hr' ⟨o, ho, hk'⟩ => (by subst ho; exact ⟨o, NewIs.back e1 hr', hk'⟩), fun c d H' fs e2 i q => hW σ H' δ c d fs ((R.mono e1).mono e2) i q⟩
/-- a call where nothing is let out -/
theorem we_call {lvl : Nat} {x : Str} {ps : List Str} {T : DSp} {dds : List D} (F : Fn X.prog X.w X.K X.mg X.base lvl x ps T dds) (hr : Room lvl X.A) (h : Wa X H0 (e :: es) δ (fun as => T (as ++ dds) (fun r => k r.d) (fun _ _ => False)))
    (hg : Gl X x := by rfl) (hdb : (x == ("__debug__" : Str)) = false := by decide) (he : notStar e = true := by rfl) (hpl : es.all notStar = true := by rfl) : We X H0 (.Call (.Name x p) (e :: es) [] pos) δ k :=
  we_callX F hr xc0 h hg hdb he hpl
theorem wo_call {ko : Ow → Prop} {lvl : Nat} {x : Str} {ps : List Str} {T : DSp} {dds : List D} (F : Fn X.prog X.w X.K X.mg X.base lvl x ps T dds) (hr : Room lvl X.A) (h : Wa X H0 (e :: es) δ (fun as => T (as ++ dds) (fun r => ∃ o, r = .ow o ∧ ko o) (fun _ _ => False)))
    (hg : Gl X x := by rfl) (hdb : (x == ("__debug__" : Str)) = false := by decide) (he : notStar e = true := by rfl) (hpl : es.all notStar = true := by rfl) : Wo X H0 (.Call (.Name x p) (e :: es) [] pos) δ ko :=
  wo_callX F hr xc0 h hg hdb he hpl
end
/-! ### statements -/
structure En where
  nx : List S → Prop
  rt : List S → S → Prop
  bk : List S → Prop := fun _ => False
  ct : List S → Prop := fun _ => False
def toEnds (K : PySem.W.Frag) (H0 : Hp) (E : En) : Ends where
  nx σ H := ∃ δ own, Rel K H0 σ H δ own ∧ E.nx δ
  rt v H := ∃ σ δ own r, Rel K H0 σ H δ own ∧ RetIs K H0 v H r ∧ E.rt δ r
  bk σ H := ∃ δ own, Rel K H0 σ H δ own ∧ E.bk δ
  ct σ H := ∃ δ own, Rel K H0 σ H δ own ∧ E.ct δ
section
variable (X : Cx) (H0 : Hp)
def Ws (st : Stmt) (δ : List S) (E : En) : Prop := ∀ B σ H own, Ex H0 B → Rel X.K B σ H δ own → semS X st (toEnds X.K B E) σ H
def Wb (st : List Stmt) (δ : List S) (E : En) : Prop := ∀ B σ H own, Ex H0 B → Rel X.K B σ H δ own → semB X st (toEnds X.K B E) σ H
end
section
variable {K : PySem.W.Frag} {X : Cx} {H0 B H H' : Hp} {σ : L2.St} {δ δ' : List S} {own : List (List Addr)} {a b c e : Expr} {es : List Expr} {k : D → Prop} {ko : Ow → Prop} {kt : Bool → Prop} {pos p : Pos} {E : En} {st : Stmt} {sts rest : List Stmt}
theorem Rel.grow (R : Rel K H0 σ H δ own) (e : Ex H H') : Rel K H0 σ H' δ own :=
  ⟨R.ex.trans (cut_mono e), R.len1, R.len2, fun i s x l h1 h2 h3 => (R.sl i s x l h1 h2 h3).mono (cut_mono e) fun a ha => by
    obtain ⟨o, ho⟩ := (R.owned a (mem_flat h3 ha)).some
    rw [ho, e a o ho], R.nd⟩
theorem Rel.toEx (R : Rel K H0 σ H δ own) : Ex H0 H := R.ex.trans cut_ex
theorem RelS.weak {G : Hp} (hB : Ex H0 B) (R : RelS K B σ G δ) : RelS K H0 σ G δ := ⟨hB.trans R.ex, R.len, R.sh⟩
theorem Rel.weak (hB : Ex H0 B) (R : Rel K B σ H δ own) : Rel K H0 σ H δ own := ⟨hB.trans R.ex, R.len1, R.len2, R.sl, R.nd⟩
theorem We.at (h : We X H0 e δ k) (hB : Ex H0 B) (R : Rel X.K B σ H δ own) : semE X e σ H (fun v H' => ∃ d, Rel X.K B σ H' δ own ∧ Is X.K (cut H' own.flatten) v d ∧ k d) :=
  (semE.frame R.owned (h σ _ (R.toS.weak hB))).mono fun v H' ⟨G, eq, n, e, d, i, q⟩ => by
    subst eq
    exact ⟨d, R.step e n, by rw [cut_mrg n]; exact i, q⟩
theorem Wt.at (h : Wt X H0 e δ kt) (hB : Ex H0 B) (R : Rel X.K B σ H δ own) : semT X e σ H (fun v H' => Rel X.K B σ H' δ own ∧ kt v) :=
  (semT.frame R.owned (h σ _ (R.toS.weak hB))).mono fun v H' ⟨G, eq, n, e, q⟩ => by
    subst eq
    exact ⟨R.step e n, q⟩
theorem Wa.at {ka : List D → Prop} (h : Wa X H0 es δ ka) (hB : Ex H0 B) (R : Rel X.K B σ H δ own) : semA X es σ H (fun v H' => ∃ ds, Rel X.K B σ H' δ own ∧ IsL X.K (cut H' own.flatten) v ds ∧ ka ds) :=
  (semA.frame R.owned (h σ _ (R.toS.weak hB))).mono fun v H' ⟨G, eq, n, e, d, i, q⟩ => by
    subst eq
    exact ⟨d, R.step e n, by rw [cut_mrg n]; exact i, q⟩
/-- by a view of the state -/
theorem We.atV (hv : Vw δ δ') (h : We X H0 e δ' k) (hB : Ex H0 B) (R : Rel X.K B σ H δ own) : semE X e σ H (fun v H' => ∃ d, Rel X.K B σ H' δ own ∧ Is X.K H' v d ∧ k d) := by
  obtain ⟨R', sub⟩ := R.view hv
  refine (semE.frame R'.owned (h σ _ (R'.toS.weak hB))).mono fun v H' ⟨G, eq, n, e, d, i, q⟩ => ?_
  subst eq
  refine ⟨d, R.grow (mrg_ex e), i.mono fun a o ha => ?_, q⟩
  rw [mrg_out fun z => by rw [n a z] at ha; cases ha]
  exact ha
theorem Wt.atV (hv : Vw δ δ') (h : Wt X H0 e δ' kt) (hB : Ex H0 B) (R : Rel X.K B σ H δ own) : semT X e σ H (fun v H' => Rel X.K B σ H' δ own ∧ kt v) := by
  obtain ⟨R', sub⟩ := R.view hv
  refine (semT.frame R'.owned (h σ _ (R'.toS.weak hB))).mono fun v H' ⟨G, eq, n, e, q⟩ => ?_
  subst eq
  exact ⟨R.grow (mrg_ex e), q⟩
theorem Wa.atV {ka : List D → Prop} (hv : Vw δ δ') (h : Wa X H0 es δ' ka) (hB : Ex H0 B) (R : Rel X.K B σ H δ own) : semA X es σ H (fun v H' => ∃ ds, Rel X.K B σ H' δ own ∧ IsL X.K H' v ds ∧ ka ds) := by
  obtain ⟨R', sub⟩ := R.view hv
  refine (semA.frame R'.owned (h σ _ (R'.toS.weak hB))).mono fun v H' ⟨G, eq, n, e, d, i, q⟩ => ?_
  subst eq
  refine ⟨d, R.grow (mrg_ex e), i.mono fun a o ha => ?_, q⟩
  rw [mrg_out fun z => by rw [n a z] at ha; cases ha]
  exact ha
theorem Wo.at (h : Wo X H0 e δ ko) (hB : Ex H0 B) (R : Rel X.K B σ H δ own) : semE X e σ H (fun v H' => ∃ o, Rel X.K B σ H' δ own ∧ (∀ i, ∃ own', Rel X.K B (σ.set i (some v)) H' (δ.set i (.ow o)) own') ∧ NewIs X.K B v H' o ∧ ko o) :=
  (semE.frame R.owned (h σ _ (R.toS.weak hB))).mono fun v H' ⟨G, eq, n, o, N, q⟩ => by
    subst eq
    obtain ⟨l, hl, fr, ee, nd⟩ := N
    have e1 : Ex (cut H own.flatten) G := NewIs.ex ⟨l, hl, fr, ee, nd⟩
    have R' := R.step e1 n
    have eG : Ex G (mrg H own.flatten G) := fun a u ha => by
      rw [mrg_out fun z => by rw [n a z] at ha; cases ha]
      exact ha
    refine ⟨o, R', fun i => ⟨_, R.setOw ee n nd hl⟩, ?_, q⟩
    have dis : ∀ a ∈ l, mrg H own.flatten G a = G a := fun a ha => by
      obtain ⟨u, hu⟩ := (hl.at (fun a h => h) a ha).some
      rw [hu]
      exact eG a u hu
    have e2 : Ex (cut G l) (cut (mrg H own.flatten G) l) := cut_mono eG
    exact ⟨l, hl.mono e2 dis, fun a ha => R.ex.free (fr a ha), (R.ex.trans ee).trans e2, nd⟩
theorem Wb.mono {E' : En} (h : Wb X H0 sts δ E) (nx : ∀ δ, E.nx δ → E'.nx δ) (rt : ∀ δ r, E.rt δ r → E'.rt δ r) (bk : ∀ δ, E.bk δ → E'.bk δ) (ct : ∀ δ, E.ct δ → E'.ct δ) : Wb X H0 sts δ E' := fun B σ H own hB R =>
  (h B σ H own hB R).mono (fun σ H ⟨δ, own, R, q⟩ => ⟨δ, own, R, nx _ q⟩) (fun v H ⟨σ, δ, own, r, R, i, q⟩ => ⟨σ, δ, own, r, R, i, rt _ _ q⟩) (fun σ H ⟨δ, own, R, q⟩ => ⟨δ, own, R, bk _ q⟩) (fun σ H ⟨δ, own, R, q⟩ => ⟨δ, own, R, ct _ q⟩)
theorem wb_nil (h : E.nx δ) : Wb X H0 [] δ E := fun B σ H own hB R => toB pss_nil ⟨δ, own, R, h⟩
theorem wb_cons (h : Ws X H0 st δ { E with nx := fun δ' => Wb X H0 rest δ' E }) : Wb X H0 (st :: rest) δ E := fun B σ H own hB R => toB (pss_cons ps_sem pb_sem) ((h B σ H own hB R).mono (fun σ H ⟨δ, own, R, q⟩ => q B σ H own hB R) (fun _ _ q => q) (fun _ _ q => q) (fun _ _ q => q))
theorem ws_view (hv : Vw δ δ') (h : Ws X H0 st δ' E) : Ws X H0 st δ E := fun B σ H own hB R => h B σ H _ hB (R.view hv).1
theorem wb_view (hv : Vw δ δ') (h : Wb X H0 sts δ' E) : Wb X H0 sts δ E := fun B σ H own hB R => h B σ H _ hB (R.view hv).1
theorem ws_pass (h : E.nx δ) : Ws X H0 (.Pass pos) δ E := fun B σ H own hB R => toS ps_pass ⟨δ, own, R, h⟩
theorem ws_break (h : E.bk δ) : Ws X H0 (.Break pos) δ E := fun B σ H own hB R => toS ps_break ⟨δ, own, R, h⟩
theorem ws_cont (h : E.ct δ) : Ws X H0 (.Continue pos) δ E := fun B σ H own hB R => toS ps_continue ⟨δ, own, R, h⟩
theorem ws_set (i : Nat) {x : Str} {pos' : Pos} (hN : X.N.Nodup) (h : We X H0 e δ (fun d => E.nx (δ.set i (.sh d)))) (hi : X.N[i]? = some x := by rfl) (hx : Loc X.env.scope x := by first | exact .inl rfl | exact .inr rfl) (hs : swapsWith e (some (.Name x pos')) pos.line X.env = pure false := by rfl) (hf : X.fn x = true ∨ X.env.scope.names.lookup x = some .local := by exact .inl rfl) :
    Ws X H0 (.Assign [.Name x pos'] e pos) δ E := fun B σ H own hB R => toS (ps_set hN hi hx pe_sem hs hf) ((h.at hB R).mono fun v H' ⟨d, R', i, q⟩ => ⟨_, _, R'.setSh i, q⟩)
theorem ws_setV (i : Nat) {x : Str} {pos' : Pos} (hN : X.N.Nodup) (hv : Vw δ δ') (h : We X H0 e δ' (fun d => Flat d ∧ E.nx (δ.set i (.sh d)))) (hi : X.N[i]? = some x := by rfl) (hx : Loc X.env.scope x := by first | exact .inl rfl | exact .inr rfl) (hs : swapsWith e (some (.Name x pos')) pos.line X.env = pure false := by rfl) (hf : X.fn x = true ∨ X.env.scope.names.lookup x = some .local := by exact .inl rfl) :
    Ws X H0 (.Assign [.Name x pos'] e pos) δ E := fun B σ H own hB R => toS (ps_set hN hi hx pe_sem hs hf) ((h.atV hv hB R).mono fun v H' ⟨d, R', i, f, q⟩ => ⟨_, _, R'.setSh (i.flat f), q⟩)
theorem ws_setO (i : Nat) {x : Str} {pos' : Pos} (hN : X.N.Nodup) (h : Wo X H0 e δ (fun o => E.nx (δ.set i (.ow o)))) (hi : X.N[i]? = some x := by rfl) (hx : Loc X.env.scope x := by first | exact .inl rfl | exact .inr rfl) (hs : swapsWith e (some (.Name x pos')) pos.line X.env = pure false := by rfl) (hf : X.fn x = true ∨ X.env.scope.names.lookup x = some .local := by exact .inl rfl) :
    Ws X H0 (.Assign [.Name x pos'] e pos) δ E := fun B σ H own hB R => toS (ps_set hN hi hx pe_sem hs hf) ((h.at hB R).mono fun v H' ⟨o, R', so, N, q⟩ => let ⟨own', Ro⟩ := so i; ⟨_, own', Ro, q⟩)
theorem ws_if (hv : Vw δ δ') (h : Wt X H0 c δ' (fun r => (r = true → Wb X H0 sts δ E) ∧ (r = false → Wb X H0 rest δ E))) : Ws X H0 (.If c sts rest pos) δ E := fun B σ H own hB R => toS (ps_if pt_sem pb_sem pb_sem) ((h.atV hv hB R).mono fun r H' ⟨R', h1, h2⟩ => by
  cases r with
  | true => exact h1 rfl B σ H' _ hB R'
  | false => exact h2 rfl B σ H' _ hB R')
theorem ws_ret (hv : Vw δ δ') (h : We X H0 e δ' (fun d => E.rt δ (.sh d))) : Ws X H0 (.Return (some e) pos) δ E := fun B σ H own hB R => toS (ps_ret pe_sem) ((h.atV hv hB R).mono fun v H' ⟨d, R', i, q⟩ => ⟨σ, δ, own, .sh d, R', ⟨R'.toEx, i⟩, q⟩)
theorem ws_retO (h : Wo X H0 e δ (fun o => E.rt δ (.ow o))) : Ws X H0 (.Return (some e) pos) δ E := fun B σ H own hB R => toS (ps_ret pe_sem) ((h.at hB R).mono fun v H' ⟨o, R', so, N, q⟩ => ⟨σ, δ, own, .ow o, R', N, q⟩)
theorem ws_retN (h : E.rt δ (.sh .non)) : Ws X H0 (.Return none pos) δ E := fun B σ H own hB R => toS ps_retN ⟨σ, δ, own, .sh .non, R, ⟨R.toEx, .non⟩, h⟩
theorem nd_part : ∀ {own : List (List Addr)} {i : Nat} {l : List Addr}, own.flatten.Nodup → own[i]? = some l → l.Nodup
  | [], _, _, _, h => by cases h
  | l0 :: r, 0, l, nd, h => by
    rw [List.flatten_cons, List.nodup_append] at nd
    cases h
    exact nd.1
  | l0 :: r, i + 1, l, nd, h => by
    rw [List.flatten_cons, List.nodup_append] at nd
    exact nd_part (i := i) nd.2.1 h
theorem Rel.newIs {i : Nat} {o : Ow} (R : Rel K H0 σ H δ own) (hi : δ[i]? = some (.ow o)) : ∃ v, σ[i]? = some (some v) ∧ NewIs K H0 v H o := by
  obtain ⟨x, l, h1, h2, v, rfl, q⟩ := R.idx hi
  have sub : ∀ a ∈ l, a ∈ own.flatten := fun a ha => mem_flat h2 ha
  refine ⟨v, h1, l, q.mono (cut_sub sub) fun _ _ => rfl, fun a ha => R.ex.free (cut_in (sub a ha)), R.ex.trans (cut_sub sub), ?_⟩
  exact nd_part R.nd h2
/-- an owned object is handed back -/
theorem ws_retOwn (i : Nat) {x : Str} {px : Pos} {o : Ow} (hi : δ[i]? = some (.ow o)) (h : E.rt δ (.ow o)) (hp : PE X (.Name x px) (tVar i) := by exact pv _) : Ws X H0 (.Return (some (.Name x px)) pos) δ E := fun B σ H own hB R => toS (ps_ret hp) (by
  obtain ⟨v, h1, N⟩ := R.newIs hi
  exact ⟨v, h1, σ, δ, own, .ow o, R, N, h⟩)
theorem ws_expr (hv : Vw δ δ') (h : We X H0 e δ' (fun _ => E.nx δ)) (hs : swapsWith e none pos.line X.env = pure false := by rfl) : Ws X H0 (.Expr e pos) δ E := fun B σ H own hB R => toS (ps_expr pe_sem hs) ((h.atV hv hB R).mono fun v H' ⟨d, R', i, q⟩ => ⟨δ, own, R', q⟩)
theorem few_of {env : Env} {cpos : Pos} (h : notStar e = true) : ((backTo cpos (starEach [e] env)).all (fun x => !x.1) && (backToKw cpos (keywordEach [] env)).all (fun x => x.1.isSome) && decide ([e].length + ([] : List Keyword).length + (if ([] : List Keyword).isEmpty then 0 else 1) < 30)) = true := by
  rw [star_of h]
  rfl
/-- xs.append(e), xs a list that the frame alone holds -/
theorem ws_append (i : Nat) {x : Str} {px apos cpos : Pos} {ds : List D} (hi : δ[i]? = some (.ow (.lst ds))) (hl : ds.length < 100000) (h : We X H0 e δ (fun d => E.nx (δ.set i (.ow (.lst (ds ++ [d])))))) (hp : PE X (.Name x px) (tVar i) := by exact pv _)
    (hbase : attributeBase (.Name x px) "append" X.env (eval (.Name x px) X.env) = eval (.Name x px) X.env := by rfl)
    (hline : (apos.endLine == cpos.line) = true := by rfl) (hs : notStar e = true := by rfl)
    (hw : swapsWith (.Call (.Attribute (.Name x px) "append" apos) [e] [] cpos) none pos.line X.env = pure false := by rfl) : Ws X H0 (.Expr (.Call (.Attribute (.Name x px) "append" apos) [e] [] cpos) pos) δ E := fun B σ H own hB R =>
  toS (ps_expr (pe_bm PySem.F.plainAttrs_list PySem.F.slot_list_append PySem.F.type_list_append mt_append hp (pa_cons pe_sem pa_nil (star_of hs)) hbase (few_of hs) hline (star_of hs) rfl) hw) (by
    obtain ⟨x0, l, h1, h2, v, rfl, p, xs, rfl, rfl, h3, h4⟩ := R.idx hi
    refine ⟨_, h1, .inl ⟨rfl, xs, SqL.of h3⟩, (h.at hB R).mono fun w H' ⟨d, R', id, q⟩ => ?_⟩
    obtain ⟨x0, l, g1, g2, v', rfl, p', xs', ev, rfl, g3, g4⟩ := R'.idx hi
    rw [h1] at g1; cases g1
    rw [h2] at g2; cases g2
    have e1 : xs'.length = ds.length := g4.1
    refine ⟨p, xs', w, rfl, rfl, g3, Nat.lt_trans (by rw [e1]; exact hl) (by decide), _, _, R'.write (o' := .lst _) h2 (by simp) h1 ⟨p, xs' ++ [w], rfl, rfl, upd_same, g4.snoc id⟩, q⟩)
/-- xs[i] = e, xs a list that the frame alone holds -/
theorem ws_setitem (i : Nat) {x : Str} {px spos : Pos} {ix : Expr} {ds : List D} (hi : δ[i]? = some (.ow (.lst ds))) (h : We X H0 e δ (fun d => We X H0 ix δ (fun n => ∃ j : Nat, n = .int j ∧ j < ds.length ∧ E.nx (δ.set i (.ow (.lst (ds.set j d)))))))
    (hp : PE X (.Name x px) (tVar i) := by exact pv _) (ha : PG X (.Subscript (.Name x px) ix spos) (gSub (tVar i) (semE X ix) rSetL) := by exact pg_sub (pv _) pe_sem set_list)
    (hs : swapsWithSole [.Subscript (.Name x px) ix spos] e pos.line X.env = pure false := by rfl) (hw : swappedStores [.Subscript (.Name x px) ix spos] e X.env = pure none := by rfl)
    (h1 : (assignEach [.Subscript (.Name x px) ix spos] X.env).map (·.2) = [assign (.Subscript (.Name x px) ix spos) X.env] := by rfl) : Ws X H0 (.Assign [.Subscript (.Name x px) ix spos] e pos) δ E := fun B σ H own hB R =>
  toS (ps_asg pe_sem ha hs hw h1) ((h.at hB R).mono fun w H1 ⟨d, R1, id, q⟩ => by
    obtain ⟨x0, l, h1, h2, v, rfl, p, xs, rfl, rfl, h3, h4⟩ := R1.idx hi
    refine ⟨_, h1, (semE.frame R1.owned (q σ _ (R1.toS.weak hB))).mono fun n H2 ⟨G, eq, nn, e2, dn, inn, j, ej, hj, q2⟩ => ?_⟩
    have R2 := R1.step e2 nn
    rw [← eq] at R2
    have cH : cut H2 own.flatten = G := by rw [eq]; exact cut_mrg nn
    obtain ⟨x0, l, g1, g2, v', rfl, p', xs', ev, rfl, g3, g4⟩ := R2.idx hi
    rw [h1] at g1; cases g1
    rw [h2] at g2; cases g2
    subst ej
    cases inn
    refine ⟨p, xs', (j : Int), j, rfl, rfl, g3, ?_, _, _, R2.write (o' := .lst _) h2 (by simp) h1 ⟨p, xs'.set j w, rfl, rfl, upd_same, g4.set (by rw [cH]; exact id.mono e2)⟩, q2⟩
    unfold ixN
    have e1 : xs'.length = ds.length := g4.1
    rw [if_pos (by omega), if_pos (by omega)]
    simp)
/-! ### targets -/
structure semG (X : Cx) (tg : Expr) (v : V) (σ : L2.St) (H : Hp) (Q : L2.St → Hp → Prop) : Prop where
  run : ∀ pins s u, Inv X pins σ H s → RelV v u → wpAny (model X.prog X.w) X.A (assign tg X.env u) (fun _ s' => ∃ σ' H', Inv X pins σ' H' s' ∧ Q σ' H') X.xe s
theorem pg_sem {tg : Expr} : PG X tg (semG X tg) := ⟨fun pins s σ H v u Q I r h => h.run pins s u I r⟩
theorem toG {tg : Expr} {t : TG} {v : V} {Q : L2.St → Hp → Prop} (h : PG X tg t) (q : t v σ H Q) : semG X tg v σ H Q := .mk <| fun pins s u I r => h.run pins s σ H v u Q I r q
structure semGs (X : Cx) (ts : List Expr) (vs : List V) (σ : L2.St) (H : Hp) (Q : L2.St → Hp → Prop) : Prop where
  run : ∀ pins s us, Inv X pins σ H s → Vals vs us → wpAny (model X.prog X.w) X.A (assignInOrder ((assignEach ts X.env).map (·.2)) us) (fun _ s' => ∃ σ' H', Inv X pins σ' H' s' ∧ Q σ' H') X.xe s
theorem pgs_sem {ts : List Expr} : PGs X ts (semGs X ts) := ⟨fun pins s σ H v u Q I r h => h.run pins s u I r⟩
theorem toGs {ts : List Expr} {t : TGs} {vs : List V} {Q : L2.St → Hp → Prop} (h : PGs X ts t) (q : t vs σ H Q) : semGs X ts vs σ H Q := .mk <| fun pins s u I r => h.run pins s σ H vs u Q I r q
def Wg (X : Cx) (H0 : Hp) (tg : Expr) (d : D) (δ : List S) (kn : List S → Prop) : Prop := ∀ B σ H own v, Ex H0 B → Rel X.K B σ H δ own → Is X.K (cut H own.flatten) v d → semG X tg v σ H (fun σ' H' => ∃ δ' own', Rel X.K B σ' H' δ' own' ∧ kn δ')
def Wgs (X : Cx) (H0 : Hp) (ts : List Expr) (ds : List D) (δ : List S) (kn : List S → Prop) : Prop := ∀ B σ H own vs, Ex H0 B → Rel X.K B σ H δ own → IsL X.K (cut H own.flatten) vs ds → semGs X ts vs σ H (fun σ' H' => ∃ δ' own', Rel X.K B σ' H' δ' own' ∧ kn δ')
variable {kn : List S → Prop}
theorem wg_name (i : Nat) {x : Str} {d : D} (hN : X.N.Nodup) (h : kn (δ.set i (.sh d))) (hi : X.N[i]? = some x := by rfl) (hx : Loc X.env.scope x := by first | exact .inl rfl | exact .inr rfl) (hf : X.fn x = true ∨ X.env.scope.names.lookup x = some .local := by exact .inl rfl) : Wg X H0 (.Name x pos) d δ kn :=
  fun B σ H own v hB R iv => toG (pg_name hN hi hx hf) ⟨_, _, R.setSh iv, h⟩
theorem wgs_nil (h : kn δ) : Wgs X H0 [] [] δ kn := fun B σ H own vs hB R iv => toGs pgs_nil (by
  rw [iv.inv_nil]
  exact ⟨rfl, δ, own, R, h⟩)
theorem semG.mono {tg : Expr} {v : V} {Q Q' : L2.St → Hp → Prop} (h : semG X tg v σ H Q) (m : ∀ σ H, Q σ H → Q' σ H) : semG X tg v σ H Q' := .mk <| fun pins s u I r => thn (h.run pins s u I r) fun _ s' ⟨σ', H', J, q⟩ => ⟨σ', H', J, m _ _ q⟩
theorem semGs.mono {tg : List Expr} {v : List V} {Q Q' : L2.St → Hp → Prop} (h : semGs X tg v σ H Q) (m : ∀ σ H, Q σ H → Q' σ H) : semGs X tg v σ H Q' := .mk <| fun pins s u I r => thn (h.run pins s u I r) fun _ s' ⟨σ', H', J, q⟩ => ⟨σ', H', J, m _ _ q⟩
theorem ws_asg {tg : Expr} (h : We X H0 e δ (fun d => Wg X H0 tg d δ E.nx)) (hs : swapsWithSole [tg] e pos.line X.env = pure false := by rfl) (hw : swappedStores [tg] e X.env = pure none := by rfl)
    (h1 : (assignEach [tg] X.env).map (·.2) = [assign tg X.env] := by rfl) : Ws X H0 (.Assign [tg] e pos) δ E := fun B σ H own hB R => toS (ps_asg pe_sem pg_sem hs hw h1) ((h.at hB R).mono fun v H1 ⟨d, R1, id, q⟩ => q B σ H1 own v hB R1 id)
/-! ### loops -/
/-- what holds ahead of a turn, up to a view -/
def Upto (P : List S → Prop) (δ : List S) : Prop := ∃ δ', Vw δ δ' ∧ P δ'
theorem upto {P : List S → Prop} (h : P δ) : Upto P δ := ⟨δ, Vw.refl δ, h⟩
abbrev turnE (E : En) (P : List S → Prop) : En := { nx := Upto P, rt := E.rt, bk := E.nx, ct := Upto P }
theorem ws_forR (hm : X.mg "range" = none) (hp : PassesOwn (model X.prog X.w) X.A X.env X.xe) (hc : X.calm = true) {tg : Expr} {pr pc : Pos} (hv : Vw δ δ') (Iv : Nat → List S → Prop)
    (h : Wa X H0 [e] δ' (fun ds => A1 ds fun x => I1 x fun n => (-(2 ^ 62) ≤ n ∧ n < 2 ^ 62) ∧ Upto (Iv 0) δ ∧ (∀ (i : Nat) δ1, (i : Int) < n → Iv i δ1 → Wg X H0 tg (.int (i : Int)) δ1 fun δ2 => Wb X H0 sts δ2 (turnE E (Iv (i + 1)))) ∧ (∀ δ1, Iv n.toNat δ1 → E.nx δ1)))
    (hg : Gl X "range" := by rfl) (hs1 : notStar e = true := by rfl) (hs : ∀ x, foldedSetIterable (.Call (.Name "range" pr) [e] [] pc) X.env x = pure x := by intro _; rfl) : Ws X H0 (.For tg (.Call (.Name "range" pr) [e] [] pc) sts [] pos) δ E := fun B σ H own hB R =>
  toS (ps_for hp hc (pi_range1 hg hm pa_sem (star_of hs1)) pg_sem pb_sem hs) ((h.atV hv hB R).mono fun vs H1 ⟨ds, R1, is, x, ed, n, ex, ⟨b1, b2⟩, h0, ht, he⟩ => by
    subst ed ex
    obtain ⟨v, rfl, i⟩ := is.one
    cases i
    refine ⟨n, rfl, b1, b2, for_range (lo := 0) (n := n.toNat) (fun i σ H => ∃ δ own, Rel X.K B σ H δ own ∧ Upto (Iv i) δ) ⟨δ, own, R1, h0⟩ (fun i σ' H' hi ⟨δ1, own1, R', δ2, hv2, q⟩ => ?_) (fun σ' H' ⟨δ1, own1, R', δ2, hv2, q⟩ => ⟨_, _, (R'.view hv2).1, he _ q⟩)⟩
    rw [Int.zero_add]
    exact (ht i δ2 (by omega) q B σ' H' _ _ hB (R'.view hv2).1 (.int _)).mono fun σ3 H3 ⟨δ3, own3, R3, q3⟩ => q3 B σ3 H3 own3 hB R3)
theorem ws_forR2 (hm : X.mg "range" = none) (hp : PassesOwn (model X.prog X.w) X.A X.env X.xe) (hc : X.calm = true) {tg e2 : Expr} {pr pc : Pos} (hv : Vw δ δ') (Iv : Nat → List S → Prop)
    (h : Wa X H0 [e, e2] δ' (fun ds => A2 ds fun x y => I2 x y fun m n => (-(2 ^ 62) ≤ m ∧ m < 2 ^ 62 ∧ -(2 ^ 62) ≤ n ∧ n < 2 ^ 62) ∧ Upto (Iv 0) δ ∧ (∀ (i : Nat) δ1, m + (i : Int) < n → Iv i δ1 → Wg X H0 tg (.int (m + (i : Int))) δ1 fun δ2 => Wb X H0 sts δ2 (turnE E (Iv (i + 1)))) ∧ (∀ δ1, Iv (n - m).toNat δ1 → E.nx δ1)))
    (hg : Gl X "range" := by rfl) (hs1 : notStar e = true := by rfl) (hs2 : notStar e2 = true := by rfl) (hs : ∀ x, foldedSetIterable (.Call (.Name "range" pr) [e, e2] [] pc) X.env x = pure x := by intro _; rfl) : Ws X H0 (.For tg (.Call (.Name "range" pr) [e, e2] [] pc) sts [] pos) δ E := fun B σ H own hB R =>
  toS (ps_for hp hc (pi_range2 hg hm pa_sem ((star_of hs1).trans (congrArg _ (star_of hs2))) (star_of hs2)) pg_sem pb_sem hs) ((h.atV hv hB R).mono fun vs H1 ⟨ds, R1, is, x, y, ed, m, n, ex, ey, bb, h0, ht, he⟩ => by
    subst ed ex ey
    obtain ⟨v, w, rfl, i, j⟩ := is.two
    cases i
    cases j
    refine ⟨m, n, rfl, bb, for_range (lo := m) (n := (n - m).toNat) (fun i σ H => ∃ δ own, Rel X.K B σ H δ own ∧ Upto (Iv i) δ) ⟨δ, own, R1, h0⟩ (fun i σ' H' hi ⟨δ1, own1, R', δ2, hv2, q⟩ => ?_) (fun σ' H' ⟨δ1, own1, R', δ2, hv2, q⟩ => ⟨_, _, (R'.view hv2).1, he _ q⟩)⟩
    exact (ht i δ2 (by omega) q B σ' H' _ _ hB (R'.view hv2).1 (.int _)).mono fun σ3 H3 ⟨δ3, own3, R3, q3⟩ => q3 B σ3 H3 own3 hB R3)
def loopOf (X : Cx) (l : Bool) (tg : Expr) (sts : List Stmt) (D : Ends) (x : V) (σ : L2.St) (H : Hp) : Prop := match l with
  | true => ∃ a, x = .ref a ∧ (∃ xs, SqL X.K H a xs) ∧ ∃ W : Nat → Nat → L2.St → Hp → Prop, (∃ m, W 0 m σ H) ∧ ∀ i m σ H, W i m σ H →
    ((Itl X.K a).stop i H ∧ D.nx σ H) ∨ ((Itl X.K a).go i H ∧ ∃ N : L2.St → Hp → Prop, (∀ σ' H', N σ' H' → ∃ m', m' < m ∧ W (i + 1) m' σ' H') ∧ ∀ x H', (Itl X.K a).yld i H x H' → semG X tg x σ H' fun σ2 H2 => semB X sts { D with nx := N, ct := N, bk := D.nx } σ2 H2)
  | false => ∃ a, x = .ref a ∧ (∃ xs, SqT X.K H a xs) ∧ ∃ W : Nat → Nat → L2.St → Hp → Prop, (∃ m, W 0 m σ H) ∧ ∀ i m σ H, W i m σ H →
    ((Itt X.K a).stop i H ∧ D.nx σ H) ∨ ((Itt X.K a).go i H ∧ ∃ N : L2.St → Hp → Prop, (∀ σ' H', N σ' H' → ∃ m', m' < m ∧ W (i + 1) m' σ' H') ∧ ∀ x H', (Itt X.K a).yld i H x H' → semG X tg x σ H' fun σ2 H2 => semB X sts { D with nx := N, ct := N, bk := D.nx } σ2 H2)
/-- over a list or a tuple of the shared heap -/
theorem ws_forS (hp : PassesOwn (model X.prog X.w) X.A X.env X.xe) (hc : X.calm = true) {tg it : Expr} (Iv : Nat → List S → Prop) (l : Bool)
    (h : We X H0 it δ (fun x => ∃ ds, x = .sq l ds ∧ Upto (Iv 0) δ ∧ (∀ (i : Nat) d δ1, ds[i]? = some d → Iv i δ1 → Wg X H0 tg d δ1 fun δ2 => Wb X H0 sts δ2 (turnE E (Iv (i + 1)))) ∧ (∀ δ1, Iv ds.length δ1 → E.nx δ1)))
    (hs : ∀ x, foldedSetIterable it X.env x = pure x := by intro _; rfl) : Ws X H0 (.For tg it sts [] pos) δ E := fun B σ H own hB R => by
  suffices step : ∀ H1 v, (∃ d, Rel X.K B σ H1 δ own ∧ Is X.K (cut H1 own.flatten) v d ∧ ∃ ds, d = .sq l ds ∧ Upto (Iv 0) δ ∧ (∀ (i : Nat) d δ1, ds[i]? = some d → Iv i δ1 → Wg X H0 tg d δ1 fun δ2 => Wb X H0 sts δ2 (turnE E (Iv (i + 1)))) ∧ (∀ δ1, Iv ds.length δ1 → E.nx δ1)) → loopOf X l tg sts (toEnds X.K B E) v σ H1 by
    cases l with
    | true => exact toS (ps_for hp hc (pi_list pe_sem) pg_sem pb_sem hs) ((h.at hB R).mono fun v H1 => step H1 v)
    | false => exact toS (ps_for hp hc (pi_tup pe_sem) pg_sem pb_sem hs) ((h.at hB R).mono fun v H1 => step H1 v)
  intro H1 v ⟨d, R1, iv, ds, ed, h0, ht, he⟩
  subst ed
  have hB1 : Ex B (cut H1 own.flatten) := R1.ex
  have R0 : Rel X.K (cut H1 own.flatten) σ H1 δ own := ⟨Same.refl _, R1.len1, R1.len2, R1.sl, R1.nd⟩
  obtain ⟨a, xs, rfl, hq, hl⟩ := iv.sq_inv
  have turn : ∀ i x σ' H', xs[i]? = some x → (∃ δ own', Rel X.K (cut H1 own.flatten) σ' H' δ own' ∧ Upto (Iv i) δ) → semG X tg x σ' H' fun σ2 H2 => semB X sts { toEnds X.K B E with nx := fun σ' H' => ∃ δ own', Rel X.K (cut H1 own.flatten) σ' H' δ own' ∧ Upto (Iv (i + 1)) δ, ct := fun σ' H' => ∃ δ own', Rel X.K (cut H1 own.flatten) σ' H' δ own' ∧ Upto (Iv (i + 1)) δ, bk := (toEnds X.K B E).nx } σ2 H2 := fun i x σ' H' hx ⟨δ1, own1, Ra, δ2, hv2, q⟩ => by
    obtain ⟨d, hd, id⟩ := hl.getV hx
    have Rw := (Ra.view hv2).1
    refine (ht i d δ2 hd q (cut H1 own.flatten) σ' H' _ _ (hB.trans hB1) Rw (id.mono Rw.ex)).mono fun σ3 H3 ⟨δ3, own3, R3, q3⟩ => ?_
    refine (q3 _ σ3 H3 own3 (hB.trans hB1) R3).mono (fun _ _ z => z) (fun v H ⟨σ, δ, own, r, Rr, ri, qq⟩ => ⟨σ, δ, own, r, Rr.weak hB1, ri.back hB1, qq⟩) (fun σ H ⟨δ, own, Rr, qq⟩ => ⟨δ, own, Rr.weak hB1, qq⟩) (fun _ _ z => z)
  have done : ∀ σ' H', (∃ δ own', Rel X.K (cut H1 own.flatten) σ' H' δ own' ∧ Upto (Iv xs.length) δ) → (toEnds X.K B E).nx σ' H' := fun σ' H' ⟨δ1, own1, Ra, δ2, hv2, q⟩ => by
    rw [hl.1] at q
    exact ⟨_, _, ((Ra.view hv2).1).weak hB1, he _ q⟩
  cases l with
  | true =>
    have hq : SqL X.K (cut H1 own.flatten) a xs := .inl hq
    exact ⟨a, rfl, ⟨xs, Ex.sqL cut_ex hq⟩, for_list (K := X.K) (xs := xs) (fun i σ H => ∃ δ own', Rel X.K (cut H1 own.flatten) σ H δ own' ∧ Upto (Iv i) δ) ⟨δ, own, R0, h0⟩ (fun i σ H _ ⟨δ1, own1, Ra, _⟩ => Ex.sqL Ra.toEx hq) (fun i x σ H hx hI => turn i x σ H hx hI) done⟩
  | false =>
    have hq : SqT X.K (cut H1 own.flatten) a xs := hq
    exact ⟨a, rfl, ⟨xs, Ex.sqT cut_ex hq⟩, for_tup (K := X.K) (xs := xs) (fun i σ H => ∃ δ own', Rel X.K (cut H1 own.flatten) σ H δ own' ∧ Upto (Iv i) δ) ⟨δ, own, R0, h0⟩ (fun i σ H _ ⟨δ1, own1, Ra, _⟩ => Ex.sqT Ra.toEx hq) (fun i x σ H hx hI => turn i x σ H hx hI) done⟩

/-- over the script -/
theorem ws_forSS (hp : PassesOwn (model X.prog X.w) X.A X.env X.xe) (hc : X.calm = true) {tg it : Expr} (Iv : Nat → List S → Prop)
    (h : We X H0 it δ (fun x => ∃ ns : List Int, x = .scr ns ∧ Upto (Iv 0) δ ∧ (∀ (i : Nat) n δ1, ns[i]? = some n → Iv i δ1 → Wg X H0 tg (.int n) δ1 fun δ2 => Wb X H0 sts δ2 (turnE E (Iv (i + 1)))) ∧ (∀ δ1, Iv ns.length δ1 → E.nx δ1)))
    (hs : ∀ x, foldedSetIterable it X.env x = pure x := by intro _; rfl) : Ws X H0 (.For tg it sts [] pos) δ E := fun B σ H own hB R =>
  toS (ps_for hp hc (pi_list pe_sem) pg_sem pb_sem hs) ((h.at hB R).mono fun v H1 ⟨d, R1, iv, ns, ed, h0, ht, he⟩ => by
    subst ed
    obtain ⟨a, rfl, hq⟩ := iv.scr_inv
    have hB1 : Ex B (cut H1 own.flatten) := R1.ex
    have R0 : Rel X.K (cut H1 own.flatten) σ H1 δ own := ⟨Same.refl _, R1.len1, R1.len2, R1.sl, R1.nd⟩
    refine ⟨a, rfl, ⟨_, Ex.sqL cut_ex hq⟩, for_list (K := X.K) (xs := ns.map V.int) (fun i σ H => ∃ δ own', Rel X.K (cut H1 own.flatten) σ H δ own' ∧ Upto (Iv i) δ) ⟨δ, own, R0, h0⟩ (fun i σ H _ ⟨δ1, own1, Ra, _⟩ => Ex.sqL Ra.toEx hq) (fun i x σ' H' hx ⟨δ1, own1, Ra, δ2, hv2, q⟩ => ?_) fun σ' H' ⟨δ1, own1, Ra, δ2, hv2, q⟩ => ?_⟩
    · rw [List.getElem?_map] at hx
      cases en : ns[i]? with
      | none => rw [en] at hx; cases hx
      | some n =>
        rw [en] at hx
        cases hx
        have Rw := (Ra.view hv2).1
        refine (ht i n δ2 en q (cut H1 own.flatten) σ' H' _ _ (hB.trans hB1) Rw (.int n)).mono fun σ3 H3 ⟨δ3, own3, R3, q3⟩ => ?_
        exact (q3 _ σ3 H3 own3 (hB.trans hB1) R3).mono (fun _ _ z => z) (fun v H ⟨σ, δ, own, r, Rr, ri, qq⟩ => ⟨σ, δ, own, r, Rr.weak hB1, ri.back hB1, qq⟩) (fun σ H ⟨δ, own, Rr, qq⟩ => ⟨δ, own, Rr.weak hB1, qq⟩) (fun _ _ z => z)
    · rw [List.length_map] at q
      exact ⟨_, _, ((Ra.view hv2).1).weak hB1, he _ q⟩)
theorem semT.mono' {Q Q' : Bool → Hp → Prop} (h : semT X c σ H Q) (m : ∀ b H1, Q b H1 → Q' b H1) : semT X c σ H Q' := h.mono m
/-- while c: body; m: a measure that falls -/
theorem ws_while (hp : PassesOwn (model X.prog X.w) X.A X.env X.xe) (Iv : Nat → List S → Prop) (m0 : Nat) (h0 : Upto (Iv m0) δ)
    (ht : ∀ m δ1, Iv m δ1 → ∃ δ2, Vw δ1 δ2 ∧ Wt X H0 c δ2 (fun r => (r = true → Wb X H0 sts δ1 { nx := fun δ' => ∃ m', m' < m ∧ Upto (Iv m') δ', rt := E.rt, bk := E.nx, ct := fun δ' => ∃ m', m' < m ∧ Upto (Iv m') δ' }) ∧ (r = false → E.nx δ1))) : Ws X H0 (.While c sts [] pos) δ E := fun B σ H own hB R => by
  refine toS (ps_while hp pt_sem pb_sem) ⟨fun m σ H => ∃ δ own, Rel X.K B σ H δ own ∧ Upto (Iv m) δ, ⟨m0, δ, own, R, h0⟩, fun m σ H ⟨δ1, own1, R1, δ2, hv, q⟩ => ?_⟩
  have R2 := (R1.view hv).1
  obtain ⟨δ3, hv3, w⟩ := ht m δ2 q
  refine (w.atV hv3 hB R2).mono fun r H1 ⟨R3, w1, w2⟩ => ?_
  cases r with
  | true =>
    rw [if_pos rfl]
    refine ⟨fun σ' H' => ∃ m', m' < m ∧ ∃ δ own, Rel X.K B σ' H' δ own ∧ Upto (Iv m') δ, fun σ' H' ⟨m', l, z⟩ => ⟨m', l, z⟩, ?_⟩
    refine (w1 rfl B σ H1 _ hB R3).mono (fun σ H ⟨δ, own, Rr, m', l, z⟩ => ⟨m', l, δ, own, Rr, z⟩) (fun _ _ z => z) (fun _ _ z => z) (fun σ H ⟨δ, own, Rr, m', l, z⟩ => ⟨m', l, δ, own, Rr, z⟩)
  | false =>
    rw [if_neg Bool.false_ne_true]
    exact ⟨_, _, R3, w2 rfl⟩
/-! ### several targets -/
theorem wgs_cons {tg : Expr} {ts : List Expr} {d : D} {ds : List D} (h : Wg X H0 tg d δ fun δ1 => Wgs X H0 ts ds δ1 kn)
    (hp : ∀ {t : TG} {u : TGs}, PG X tg t → PGs X ts u → PGs X (tg :: ts) (gCons t u)) : Wgs X H0 (tg :: ts) (d :: ds) δ kn := fun B σ H own vs hB R iv => by
  obtain ⟨v, r, rfl, i, il⟩ := iv.inv_cons
  have R0 : Rel X.K (cut H own.flatten) σ H δ own := ⟨Same.refl _, R.len1, R.len2, R.sl, R.nd⟩
  refine toGs (hp pg_sem pgs_sem) ⟨v, r, rfl, (h _ σ H own v (hB.trans R.ex) R0 i).mono fun σ1 H1 ⟨δ1, own1, R1, q⟩ => ?_⟩
  exact (q _ σ1 H1 own1 r (hB.trans R.ex) R1 (il.mono R1.ex)).mono fun σ2 H2 ⟨δ2, own2, R2, q2⟩ => ⟨δ2, own2, R2.weak R.ex, q2⟩
theorem wg_tup {ts : List Expr} {x1 : Nat} {ds : List D} (hc : X.calm = true) (h : Wgs X H0 ts ds δ kn) (hn : (assignEach ts X.env).length = ds.length := by rfl) (hst : (assignEach ts X.env).findIdx? (·.1) = none := by rfl) : Wg X H0 (.Tuple ts x1 pos) (.sq false ds) δ kn := fun B σ H own v hB R iv => by
  obtain ⟨a, xs, rfl, hq, il⟩ := iv.tup_inv
  exact toG (pg_tup hc pgs_sem hn hst) ⟨a, xs, rfl, Ex.sqT cut_ex hq, il.1, h B σ H own xs hB R il⟩
end
/-! ### a def -/
def startD (N : List Str) (ds : List D) : List S := ds.map .sh ++ List.replicate (N.length - ds.length) .no
theorem flat_rep : ∀ n : Nat, (List.replicate n ([] : List Addr)).flatten = []
  | 0 => rfl
  | n + 1 => by rw [List.replicate_succ, List.flatten_cons, flat_rep n] <;> rfl
theorem rel_start {K : PySem.W.Frag} {H : Hp} {N : List Str} {vs : List V} {ds : List D} (h : IsL K H vs ds) (hl : ds.length ≤ N.length) : Rel K H (start N vs) H (startD N ds) (List.replicate N.length []) := by
  have e0 : (List.replicate N.length ([] : List Addr)).flatten = [] := flat_rep _
  have e1 : (startD N ds).length = N.length := by simp [startD]; omega
  have hv := h.1
  refine ⟨by rw [e0, cut_nil]; exact Same.refl _, by simp [L2.start, startD, hv], by simp [e1], fun i s x l h1 h2 h3 => ?_, by rw [e0]; exact List.nodup_nil⟩
  have el : l = [] := by
    rw [List.getElem?_replicate] at h3
    split at h3 <;> cases h3
    rfl
  subst el
  rw [e0, cut_nil]
  unfold startD at h1
  unfold L2.start at h2
  by_cases hi : i < ds.length
  · rw [List.getElem?_append_left (by simpa using hi), List.getElem?_map] at h1
    rw [List.getElem?_append_left (by simpa [hv] using hi), List.getElem?_map] at h2
    cases ed : ds[i]? with
    | none => rw [ed] at h1; cases h1
    | some d =>
      rw [ed] at h1; cases h1
      obtain ⟨v, ev, iv⟩ := h.get ed
      rw [ev] at h2; cases h2
      exact ⟨rfl, v, rfl, iv⟩
  · rw [List.getElem?_append_right (by simpa using hi), List.getElem?_replicate] at h1
    split at h1 <;> cases h1
    exact rfl
section
variable {P : Program} {w : World} {K : PySem.W.Frag} {mg : Str → Option Value} {base : Heap} {x qual : Str} {params : Arguments} {body : List Stmt} {scope : Scope} {dvs : List V} {kws : List (Str × V)} {f : Addr} {fd : FuncData}
/-- THE RULE for a def, by data -/
theorem fn_ok {N ps : List Str} {k : Nat} {T : DSp} (F : FunD K x qual params body scope dvs kws f fd) (S : FnScope N ps scope) (hN : ps.length ≤ N.length) (hlen : ∀ ds k x, T ds k x → ds.length = ps.length)
    (hbody : ∀ (cdv : Value) (A : Around) (outer : List Env) (s : Shared) (H : Hp) (E : XK) (ds : List D) (kk : DL.S → Prop) (xx : XD), Room k (A.deeper (envOfC qual scope s.heap.objs.size f cdv)) → T ds kk xx →
      Xc (cxOf (L2.CX P w) P w K mg base N qual scope f cdv A outer s H E) H (fun _ => xx) →
      Wb (cxOf (L2.CX P w) P w K mg base N qual scope f cdv A outer s H E) H body (startD N ds) { nx := fun _ => kk (.sh .non), rt := fun _ r => kk r }) : FnOk P w K mg base (L2.CX P w) (k + 1) f fd ps (spD K T) := by
  refine F.ok S (fun vs H Q E ⟨ds, kk, xx, is, hT, _⟩ => by rw [is.1]; exact hlen _ _ _ hT) (fun cdv A outer s H vs Q E hr h => ?_)
  obtain ⟨ds, kk, xx, is, hT, hQ, hE⟩ := h
  have tk : Takes (cxOf (L2.CX P w) P w K mg base N qual scope f cdv A outer s H E) (fun cls d _ H' => E cls d H') := takes_of rfl rfl rfl rfl
  have xc : Xc (cxOf (L2.CX P w) P w K mg base N qual scope f cdv A outer s H E) H (fun _ => xx) := ⟨⟨_, tk, fun σ G δ c d fs R i q => hE c d G fs R.ex i q⟩⟩
  refine ⟨_, pb_sem, (hbody cdv A outer s H E ds kk xx hr hT xc H _ H _ (Same.refl H) (rel_start is (by rw [hlen _ _ _ hT]; exact hN))).mono (fun σ' H' ⟨δ, own, R, q⟩ => hQ _ _ _ (show RetIs K H .non H' (.sh .non) from ⟨R.toEx, .non⟩) q) (fun v H' ⟨σ', δ, own, r, R, i, q⟩ => hQ _ _ _ i q) (fun _ _ ⟨_, _, _, z⟩ => z) (fun _ _ ⟨_, _, _, z⟩ => z)⟩
end
end DL
set_option Elab.async false
set_option linter.all false
set_option maxRecDepth 100000
set_option maxHeartbeats 2000000
/-! Part e: closers, numbers, names of built-ins. -/
namespace DL
open PySem PySem.Spec PyProof.Rows L2
/-- the built-in names that the top leaves alone -/
structure Bi (mg : Str → Option Value) : Prop where
  len : mg "len" = none
  range : mg "range" = none
  int : mg "int" = none
  abs : mg "abs" = none
  tuple : mg "tuple" = none
  list : mg "list" = none
  isinstance : mg "isinstance" = none
  bool : mg "bool" = none
  sum : mg "sum" = none
theorem mul64 {i j : Int} (hi : -18446744073709551616 < i ∧ i < 18446744073709551616) (hj : -18446744073709551616 < j ∧ j < 18446744073709551616) : CMulW i j :=
  wide_mul (a := 64) (b := 64) (show i.natAbs < 18446744073709551616 by omega) (show j.natAbs < 18446744073709551616 by omega) (by decide) (by decide) (by decide)
theorem div64 {i j : Int} (h : 0 < j) (hj : j < 18446744073709551616) : CDivW i j := wide_div (b := 64) h (show j.natAbs < 18446744073709551616 by omega) (by decide) (by decide)
theorem lok {n : Nat} (h : Nat.ble n 100000 = true := by rfl) : n ≤ 100000 := Nat.le_of_ble_eq_true h
/-- of fewer than n bits -/
def Bd (n : Nat) (x : Int) : Prop := x.natAbs < 2 ^ n
theorem Bd.le {m n : Nat} {x : Int} (h : Bd m x) (l : m ≤ n) : Bd n x := Nat.lt_of_lt_of_le h (Nat.pow_le_pow_right (by decide) l)
theorem Bd.mulW {a b : Nat} {x y : Int} (h : Bd a x) (h' : Bd b y) (l : a + b ≤ 900000) : CMulW x y :=
  wide_mul (h.le (Nat.le_add_right a 1)) (h'.le (Nat.le_add_right b 1)) (by omega) (by omega) (by omega)
theorem Bd.mul {a b : Nat} {x y : Int} (h : Bd a x) (h' : Bd b y) : Bd (a + b) (x * y) := wide_lt h h'
theorem Bd.neg {a : Nat} {x : Int} (h : Bd a x) : Bd a (-x) := by
  unfold Bd at *
  rw [Int.natAbs_neg]
  exact h
theorem Bd.add {a b n : Nat} {x y : Int} (h : Bd a x) (h' : Bd b y) (l : a < n) (l' : b < n) : Bd n (x + y) := by
  unfold Bd at *
  have h1 : (x + y).natAbs ≤ x.natAbs + y.natAbs := Int.natAbs_add_le x y
  have h2 : 2 ^ a * 2 ≤ 2 ^ n := by rw [← Nat.pow_succ]; exact Nat.pow_le_pow_right (by decide) l
  have h3 : 2 ^ b * 2 ≤ 2 ^ n := by rw [← Nat.pow_succ]; exact Nat.pow_le_pow_right (by decide) l'
  omega
theorem Bd.sub {a b n : Nat} {x y : Int} (h : Bd a x) (h' : Bd b y) (l : a < n) (l' : b < n) : Bd n (x - y) := by
  rw [Int.sub_eq_add_neg]
  exact h.add h'.neg l l'
theorem Bd.div {b : Nat} {x y : Int} (h : 0 < y) (hy : Bd b y) (l : b ≤ 8999) : CDivW x y := wide_div h (hy.le (Nat.le_add_right b 1)) (by omega) (by omega)
/-- lookup in a list of ints told as data -/
theorem get_ints {ns : List Int} {i : Nat} {n : Int} (h : ns[i]? = some n) : (ns.map D.int)[i]? = some (.int n) := by
  rw [List.getElem?_map, h] <;> rfl
theorem of_get_ints {ns : List Int} {i : Nat} {d : D} (h : (ns.map D.int)[i]? = some d) : ∃ n, ns[i]? = some n ∧ d = .int n := by
  rw [List.getElem?_map] at h
  cases e : ns[i]? with
  | none => rw [e] at h; cases h
  | some n => rw [e] at h; exact ⟨n, rfl, (Option.some.inj h).symm⟩
theorem snoc_ints {ns : List Int} {n : Int} : ns.map D.int ++ [D.int n] = (ns ++ [n]).map D.int := by rw [List.map_append] <;> rfl
section
variable {X : Cx} {H0 : Hp} {δ : List S} {e e2 : Expr} {es : List Expr} {k : D → Prop} {pos p : Pos}
/-- gcd of the module math, by its name -/
theorem we_gcd (hm : X.mg "gcd" = some (.builtin "math.gcd")) (h : Wa X H0 [e, e2] δ (fun ds => A2 ds fun x y => I2 x y fun i j => k (.int ((Nat.gcd i.natAbs j.natAbs : Nat) : Int)))) (hg : Gl X "gcd" := by rfl)
    (he : notStar e = true := by rfl) (hpl : notStar e2 = true := by rfl) : We X H0 (.Call (.Name "gcd" p) [e, e2] [] pos) δ k := fun σ G R =>
  toE (pe_callBfun cr_gcd hg hm pa_sem (by decide) (star_of he) (star_any (by rw [List.all_cons, hpl]; rfl))) (call1 (ta := semA X [e, e2]) h (fun G vs ds is ⟨x, y, ed, i, j, ex, ey, hk⟩ Q q => by
    subst ed ex ey
    obtain ⟨v, w, rfl, a, b⟩ := is.two
    cases a
    cases b
    exact ⟨i, j, rfl, q _ G _ (Same.refl _) (.int _) hk⟩) σ G R)
end
end DL
set_option Elab.async false
set_option linter.all false
set_option maxRecDepth 100000
set_option maxHeartbeats 2000000
set_option pp.maxSteps 1200
/-! Part f: own errors: made, raised, caught, asked. -/
namespace DL
open PySem PySem.Spec PyProof.Rows L2
/-! ### an error class whose __init__ stores its one argument -/
/-- __init__(self, v): self.f = v -/
def spI1 (K : PySem.W.Frag) (f : Str) : Sp := fun vs H Q _ => ∃ (a C : Addr) (v : V), vs = [.ref a, v] ∧ H a = some (exo a C none) ∧ OexC K C ∧ PySem.W.findIn K (.ref C) f = some none ∧ ∀ dx, H dx = none → dx ≠ a → Q .non (upd (upd H dx (exd dx [(f, v)])) a (exo a C (some dx)))
structure Exc1 (P : Program) (w : World) (K : PySem.W.Frag) (mg : Str → Option Value) (base : Heap) (lvl : Nat) (x f : Str) (C : Addr) : Prop where
  ox : OexC K C
  no : PySem.W.findIn K (.ref C) f = some none
  gC : mg x = some (.ref C)
  ex : ∃ (fI : Addr) (fd : FuncData) (ps : List Str), PySem.W.findIn K (.ref C) "__init__" = some (some (.ref fI)) ∧ PySem.W.typeIn K (.ref fI) = some (.type "function") ∧ FnOk P w K mg base (L2.CX P w) lvl fI fd ps (spI1 K f) ∧ Binds K fd ps []
section
variable {P : Program} {w : World} {K : PySem.W.Frag} {mg : Str → Option Value} {base : Heap} {x qual : Str} {params : Arguments} {body : List Stmt} {scope : Scope} {dvs : List V} {kws : List (Str × V)} {f : Addr} {fd : FuncData}
/-- such an __init__ keeps its promise -/
theorem init1_ok {p fld : Str} {a1 a2 a3 : Pos} {pos : Pos} (F : FunD K x qual params [.Assign [.Attribute (.Name "self" a1) fld a2] (.Name p a3) pos] scope dvs kws f fd) (S : FnScope ["self", p] ["self", p] scope)
    (h0 : ∀ (cdv : Value) (A : Around) (outer : List Env) (s : Shared) (H : Hp) (E : XK), PE (cxOf (L2.CX P w) P w K mg base ["self", p] qual scope f cdv A outer s H E) (.Name "self" a1) (tVar 0))
    (h1 : ∀ (cdv : Value) (A : Around) (outer : List Env) (s : Shared) (H : Hp) (E : XK), PE (cxOf (L2.CX P w) P w K mg base ["self", p] qual scope f cdv A outer s H E) (.Name p a3) (tVar 1))
    (h2 : ∀ (cdv : Value) (A : Around) (outer : List Env) (s : Shared) (H : Hp) (E : XK), swapsWith (.Name p a3) (some (.Attribute (.Name "self" a1) fld a2)) pos.line (cxOf (L2.CX P w) P w K mg base ["self", p] qual scope f cdv A outer s H E).env = pure false) :
    FnOk P w K mg base (L2.CX P w) 1 f fd ["self", p] (spI1 K fld) := by
  refine F.ok S (fun vs H Q E h => by obtain ⟨_, _, _, rfl, _⟩ := h; rfl) (fun cdv A outer s H vs Q E hr h => ?_)
  obtain ⟨a, C, v, rfl, ha, T, no, q⟩ := h
  refine ⟨_, pss_one (ps_ost (h0 cdv A outer s H E) (h1 cdv A outer s H E) (h2 cdv A outer s H E)), ?_⟩
  exact ⟨v, rfl, .ref a, rfl, a, C, rfl, T, no, .inl ⟨ha, fun dx n ne => q dx n ne⟩⟩
end
section
variable {K : PySem.W.Frag} {X : Cx} {H0 B H H' : Hp} {σ : L2.St} {δ δ' : List S} {own : List (List Addr)} {a b c e : Expr} {es : List Expr} {k : D → Prop} {pos p : Pos} {E : En}
/-- raise x(e) -/
theorem ws_raise1 {lvl : Nat} {x f : Str} {C : Addr} {p1 : Pos} {xw : List S → XD} (T : Exc1 X.prog X.w X.K X.mg X.base lvl x f C) (hr : Room (lvl + 1) X.A) (hc : X.calm = true) (hx : Xc X H0 xw) (hv : Vw δ δ') (h : Wa X H0 [e] δ' (fun ds => A1 ds fun d => xw δ (.ref C) [(f, d)]))
    (hg : Gl X x := by rfl) (hdb : (x == ("__debug__" : Str)) = false := by decide) (he : notStar e = true := by rfl) :
    Ws X H0 (.Raise (some (.Call (.Name x p1) [e] [] pos)) none p) δ E := fun B σ H own hB R => by
  obtain ⟨fI, fd, ps, iC, tI, F, hb⟩ := T.ex
  obtain ⟨W, tk, hW⟩ := hx.ex
  refine toS (L2.ps_raise hc tk (pmk_oex T.ox iC tI F hr hb .nil passL hg T.gC pa_sem hdb (star_of he) rfl)) ((h.atV hv hB R).mono fun vs H1 ⟨ds, R1, is, d, ed, hq⟩ => ?_)
  subst ed
  obtain ⟨v, rfl, iv⟩ := is.one
  refine ⟨by show 1 ≤ 1000; decide, fun a na => ⟨a, C, v, rfl, upd_same, T.ox, T.no, fun dx ndx nea => ⟨rfl, dx, [(f, v)], upd_same, ?_, ?_, ?_⟩⟩⟩
  · rw [upd_ne nea, upd_same]
  · rw [upd_ne nea] at ndx; exact ndx
  · have e1 : Ex H1 (upd (del (upd (upd (upd H1 a (exo a C none)) dx (exd dx [(f, v)])) a (exo a C (some dx))) a) dx (.xd [(f, v)])) := fun b u hb => by
      have n1 : b ≠ a := ne_of_none hb na
      have n2 : b ≠ dx := by
        intro z
        subst z
        rw [upd_ne n1, hb] at ndx
        cases ndx
      rw [upd_ne n2, del_ne n1, upd_ne n1, upd_ne n2, upd_ne n1]
      exact hb
    have R2 : RelS X.K H0 σ H1 δ := (R1.weak hB).toS.mono cut_ex
    exact hW σ _ δ _ _ _ (R2.mono e1) ⟨[(f, v)], upd_same, rfl, fun i x d' q1 q2 => by
      cases i with
      | zero => cases q1; cases q2; exact iv.mono e1
      | succ i => cases q1⟩ hq
/-! ### caught -/
def noOw : List S → List S
  | [] => []
  | .ow _ :: r => .no :: noOw r
  | s :: r => s :: noOw r
theorem noOw_len : ∀ δ : List S, (noOw δ).length = δ.length
  | [] => rfl
  | .ow _ :: r => congrArg (· + 1) (noOw_len r)
  | .no :: r => congrArg (· + 1) (noOw_len r)
  | .sh _ :: r => congrArg (· + 1) (noOw_len r)
theorem noOw_get : ∀ (δ : List S) (i : Nat) (s : S), (noOw δ)[i]? = some s → s = .no ∨ ∃ d, s = .sh d ∧ δ[i]? = some (.sh d)
  | [], i, s, h => by cases h
  | .ow _ :: r, 0, s, h => by cases h; exact .inl rfl
  | .no :: r, 0, s, h => by cases h; exact .inl rfl
  | .sh d :: r, 0, s, h => by cases h; exact .inr ⟨d, rfl, rfl⟩
  | .ow _ :: r, i + 1, s, h => noOw_get r i s h
  | .no :: r, i + 1, s, h => noOw_get r i s h
  | .sh _ :: r, i + 1, s, h => noOw_get r i s h
theorem RelS.toRel {G : Hp} (R : RelS K H0 σ G δ) : Rel K H0 σ G (noOw δ) (List.replicate δ.length []) := by
  have e0 : (List.replicate δ.length ([] : List Addr)).flatten = [] := flat_rep _
  refine ⟨by rw [e0, cut_nil]; exact R.ex, by rw [noOw_len, R.len], by rw [noOw_len]; simp, fun i s x l h1 h2 h3 => ?_, by rw [e0]; exact List.nodup_nil⟩
  have el : l = [] := by
    rw [List.getElem?_replicate] at h3
    split at h3 <;> cases h3
    rfl
  subst el
  rw [e0, cut_nil]
  rcases noOw_get δ i s h1 with rfl | ⟨d, rfl, hd⟩
  · exact rfl
  · obtain ⟨v, hv, iv⟩ := R.sh i d hd
    rw [h2] at hv; cases hv
    exact ⟨rfl, v, rfl, iv⟩
/-- a name's slot is emptied -/
theorem Rel.setNo {i : Nat} (R : Rel K H0 σ H δ own) : Rel K H0 (σ.set i none) H (δ.set i .no) (own.set i []) := by
  have sub : ∀ a ∈ (own.set i []).flatten, a ∈ own.flatten := fun a ha => by
    rcases flat_set_sub ha with z | z
    · exact z
    · cases z
  have e : Ex (cut H own.flatten) (cut H (own.set i []).flatten) := cut_sub sub
  refine ⟨R.ex.trans e, by simp [R.len1], by simp [R.len2], fun j s x l h1 h2 h3 => ?_, flat_set_nd R.nd List.nodup_nil fun a ha => by cases ha⟩
  rcases set_get h1 with ⟨e1, rfl⟩ | ⟨n1, g1⟩
  · rcases set_get h3 with ⟨_, rfl⟩ | ⟨n3, _⟩
    · exact rfl
    · exact absurd e1 n3
  · rcases set_get h2 with ⟨e2, _⟩ | ⟨_, g2⟩
    · exact absurd e2 n1
    · rcases set_get h3 with ⟨e3, _⟩ | ⟨_, g3⟩
      · exact absurd e3 n1
      · exact (R.sl j s x l g1 g2 g3).mono e fun _ _ => rfl
theorem IsF.lookup {G : Hp} {n : Str} {u : D} : ∀ {vs : List (Str × V)} {fs : List (Str × D)}, IsF K G vs fs → fs.lookup n = some u → ∃ v, vs.lookup n = some v ∧ Is K G v u
  | [], [], _, h => by cases h
  | [], _ :: _, h, _ => by cases h.1
  | _ :: _, [], h, _ => by cases h.1
  | (a, v) :: vs, (b, d) :: fs, h, hl => by
    have h1 := h.1
    simp only [List.map_cons, List.cons.injEq] at h1
    obtain ⟨rfl, h2⟩ := h1
    have i0 : Is K G v d := h.2 0 (a, v) (a, d) rfl rfl
    have ir : IsF K G vs fs := ⟨h2, fun i x d q1 q2 => h.2 (i + 1) x d q1 q2⟩
    rw [List.lookup_cons] at hl ⊢
    by_cases e : n = a
    · subst e
      simp only [beq_self_eq_true] at hl ⊢
      cases hl
      exact ⟨v, rfl, i0⟩
    · have e' : (n == a) = false := beq_eq_false_iff_ne.mpr e
      simp only [e'] at hl ⊢
      exact IsF.lookup ir hl
/-- the caught error as data -/
def excD (a : Addr) : Option Addr → List (Str × D) → D
  | none, _ => .ob a
  | some dd, fs => .exc a dd fs
theorem excD_is {G : Hp} {a : Addr} {d : Option Addr} {fs : List (Str × D)} (h : ExcIs K G d fs) : Is K G (.ref a) (excD a d fs) := by
  cases d with
  | none => exact .ob a
  | some dd =>
    obtain ⟨vs, h1, h2⟩ := h
    exact .exc h1 h2.1 h2.2
/-- try: body / except x as n: suite; xb: what the body may let out, by data -/
theorem ws_try_as (i : Nat) {x n : Str} {cv : Value} {body suite : List Stmt} {b₀ : Stmt} {np pos' : Pos} (hs : X.stack = X.env :: X.outer) (hf : X.env.frame = some X.env.locals) (hN : X.N.Nodup) (hi : X.N[i]? = some n) (hln : X.env.kindOf n = some .local) (hcn : Names X x cv)
    (xb : List S → XD) (hx : Xc X H0 (fun _ _ _ => False))
    (hb : ∀ (pn : List (Addr × Obj)) (xe : Value → Shared → Prop) (B : Hp), Ex H0 B → PassesOwn (model X.prog X.w) X.A X.env xe → Xc (X.tr pn xe) B xb → Wb (X.tr pn xe) B body δ E)
    (hsu : ∀ (a : Addr) (oe : Obj) (pn : List (Addr × Obj)) (cls : Value) (d : Option Addr) (fs : List (Str × D)) δ1, xb δ1 cls fs → PySem.W.exmOne X.K cls cv = some true ∧
      (Zc cls d oe → (∃ vs, oe.data = .fields vs) → (fs ≠ [] → ∃ dd, d = some dd) → Wb (X.suite a ((a, oe) :: pn)) H0 (b₀ :: suite) ((noOw δ1).set i (.sh (excD a d fs))) { nx := fun δ => E.nx (δ.set i .no), rt := E.rt, bk := fun δ => E.bk (δ.set i .no), ct := fun δ => E.ct (δ.set i .no) })) :
    Ws X H0 (.Try body [.ExceptHandler (some (.Name x np)) (some n) (b₀ :: suite) pos'] [] [] pos) δ E := fun B σ H own hB R => by
  refine toS (ps_try_as (tb := fun W D σ H => ∀ pn xe, Takes (X.tr pn xe) W → PassesOwn (model X.prog X.w) X.A X.env xe → semB (X.tr pn xe) body D σ H)
    (ts := fun a cls d D σ H => ∀ oe pn, Zc cls d oe → (∃ vs, oe.data = .fields vs) → semB (X.suite a ((a, oe) :: pn)) (b₀ :: suite) D σ H) (Wout := fun _ _ _ _ => False) hs hf hN hi hln hcn takes0
    (fun W pn xe tk hp => ⟨fun pins s σ H D I h => (h pn xe tk hp).run pins s I⟩) (fun a oe cls d pn hz hv => ⟨fun pins s σ H D I h => (h oe pn hz hv).run pins s I⟩)) fun pn xe tk hp => ?_
  refine hb pn xe B hB hp ⟨⟨_, tk, fun σ1 G δ1 c d fs R1 ie hq => ?_⟩⟩ B σ H own (Same.refl B) R
  refine ⟨true, (hsu 0 ⟨.none, none, .fields #[], #[]⟩ [] c d fs δ1 hq).1, fun _ a na oe pn' hz hv => ?_, fun z => nomatch z⟩
  exact ((hsu a oe pn' c d fs δ1 hq).2 hz hv (fun hne => by cases d with | none => exact absurd ie hne | some dd => exact ⟨dd, rfl⟩) B _ G _ hB (R1.toRel.setSh (i := i) (by rw [flat_rep, cut_nil]; exact excD_is ie))).mono (fun σ2 H2 ⟨δ2, own2, R2, q2⟩ => ⟨_, _, R2.setNo, q2⟩) (fun _ _ z => z) (fun σ2 H2 ⟨δ2, own2, R2, q2⟩ => ⟨_, _, R2.setNo, q2⟩) (fun σ2 H2 ⟨δ2, own2, R2, q2⟩ => ⟨_, _, R2.setNo, q2⟩)
/-- e.f, e the error that the suite holds -/
theorem we_xf {C a : Addr} {oe : Obj} {d : Option Addr} {pn : List (Addr × Obj)} {n : Str} {x : Expr} {k : D → Prop} (T : XfC X.K C) (hno : PySem.W.findIn X.K (.ref C) n = some none) (hz : Zc (.ref C) d oe) (hf : ∃ vs, oe.data = .fields vs)
    (h : We (X.suite a ((a, oe) :: pn)) H0 x δ (fun y => ∃ dd fs v, d = some dd ∧ y = .exc a dd fs ∧ fs.lookup n = some v ∧ k v)) (hb : attributeBase x n X.env (eval x X.env) = eval x X.env := by rfl) : We (X.suite a ((a, oe) :: pn)) H0 (.Attribute x n pos) δ k := fun σ G R =>
  toE (pe_xf T hno hz hf pe_sem hb) ((h σ G R).mono fun v G1 ⟨e1, y, iy, dd, fs, u, ed, ey, hl, hk⟩ => by
    subst ed ey
    obtain ⟨vs, rfl, h1, hv⟩ : ∃ vs, v = .ref a ∧ G1 dd = some (.xd vs) ∧ IsF X.K G1 vs fs := by
      cases iy with
      | exc h1 h2 h3 => exact ⟨_, rfl, h1, h2, h3⟩
    obtain ⟨u', hu, iu⟩ := hv.lookup hl
    exact ⟨rfl, rfl, dd, vs, u', rfl, h1, hu, e1, u, iu, hk⟩)
end
end DL
/-! ### isinstance of a caught error that has a dict -/
namespace DL
open PySem PySem.W PySem.Calls PySem.Spec PyProof.Rows
section
variable {prog : Program} {w : World} {A : Around} {E : Value → Shared → Prop} {s : Shared} {K : Frag} {x C : Addr} {ox : Obj} {od : Option Obj}
/-- what the class must say -/
structure ExcQ (K : Frag) (C : Addr) : Prop where
  ga : findIn K (.ref C) "__getattribute__" = some (some (.builtin "BaseException.__getattribute__"))
  gg : findIn K (.ref C) "__getattr__" = some none
  sb : subIn K (.ref C) (.type "BaseException") = some true
  hd : hasDictIn K C = true
  cl : findIn K (.ref C) "__class__" = some (some (.builtin "object.__class__"))
  gt : specialIn K (.builtin "object.__class__") "__get__" = some (some (.builtin "getset_descriptor.__get__"))
  tk : takesIn K (.builtin "object.__class__") = some true
  mr : mroIn K C (.type "object") = some true
theorem excq_find (T : ExcQ K C) (od : Option Obj) : findObj K C od "__class__" = some (.bind (.builtin "getset_descriptor.__get__") (.builtin "object.__class__")) := by
  obtain ⟨cd, hc⟩ : ∃ cd, clsIn K C = some cd := by
    obtain ⟨cd, hc, _⟩ := any_some T.hd
    exact ⟨cd, hc⟩
  unfold findObj
  rw [hc, Option.bind_some, T.cl, Option.bind_some]
  simp [T.gt, T.tk]
theorem excq_cls {Q : Option Value → Shared → Prop} (T : ExcQ K C) (kin : K.In s.heap) (ia : InstAt s.heap x ox C od) (hq : Q (some (.ref C)) { s with toks := s.toks + 1 }) : wpAny (model prog w) A (getAttr? (.ref x) "__class__") Q E s := by
  obtain ⟨h0, gs, dr, tt, os⟩ := s
  have ty := ia.type (M := model prog w)
  have lg := looks_findIn (M := model prog w) kin T.ga
  have lh := looks_findIn (M := model prog w) kin T.gg
  have lf := looks_find (M := model prog w) kin ia (excq_find T od)
  have inst : Looks (model prog w) h0 (isInstance (.ref x) (.type "BaseException")) true := ty.andThen (looks_subIn kin T.sb)
  have neq : (Value.builtin "BaseException.__getattribute__" == Value.builtin "object.__getattribute__") = false := by decide +kernel
  have c1 : (onTheHeap (Value.ref C) && Value.builtin "BaseException.__getattribute__" == Value.builtin "object.__getattribute__") = false := by rw [neq, Bool.and_false]
  have c2 : (false && onTheHeap (Value.builtin "BaseException.__getattribute__")) = false := Bool.false_and _
  unfold getAttr? getAttrBy? getAttrBy
  refine wpAny_bind (wpAny_mkText (wpAny_bind (wpAny_attempt (wpAny_holding (wpAny_bind (ty.at (wpAny_bind (lg.at ?_))))))))
  show wpAny _ _ (if (onTheHeap (Value.ref C) && Value.builtin "BaseException.__getattribute__" == Value.builtin "object.__getattribute__") = true then _ else _) _ _ _
  rw [c1, if_neg Bool.false_ne_true]; unfold getAttrByItsOwn hookBefore; refine wpAny_bind ?_
  rw [if_pos (show onTheHeap (Value.ref C) = true by rfl)]; refine lh.at ?_
  refine wpAny_bind (wpAny_attempt (wpAny_holding ?_)); unfold callGetattribute
  rw [c2, if_neg Bool.false_ne_true]; unfold boundAndCalled
  rw [PySem.F.excAttr_ValueError.ga.bind (.ref x)]; refine wpAny_bind (wpAny_pure ?_)
  show wpAny _ _ (call (.builtin "BaseException.__getattribute__") [.ref x, .str "__class__" tt]) _ _ _
  refine wpAny_call (codeAny_call_builtin PySem.F.excAttr_ValueError.ga.plain PySem.F.entry_bexc_ga ?_)
  refine @check_slot (model prog w) _ _ ⟨h0, gs, dr, tt + 1, os⟩ "BaseException.__getattribute__" "BaseException" "__getattribute__" (.ref x) [.str "__class__" tt] [] _ (by decide +kernel) (by decide +kernel) inst (PySem.F.args_bexc_ga (.ref x) (.str "__class__" tt)) ?_
  unfold Builtin.«object.__getattribute__»
  refine wpAny_bind (wpAny_of_eq (a := ((Value.ref x : Value), [Value.str "__class__" tt])) (by first | rfl | (simp only [slotArgs]; rfl)) ?_)
  refine wpAny_bind (wpAny_pure (wpAny_bind (ty.at (wpAny_bind (lf.at ?_)))))
  show wpAny _ _ (holding [Value.builtin "object.__class__"] (call (.builtin "getset_descriptor.__get__") [.builtin "object.__class__", .ref x, .ref C]) >>= ret) _ _ _
  refine wpAny_bind (wpAny_holding (wpAny_call (class_get (s := ⟨h0, gs, dr, tt + 1, os⟩) (ox := ox) (od := od) kin ia T.mr (wpAny_pure ?_))))
  show wpAny _ _ (handedOut (.ref C)) _ _ _
  rw [handedOut_of (v := .ref C) rfl]
  first
    | exact wpAny_pure (wpAny_bind (wpAny_pure (wpAny_pure hq)))
    | exact wpAny_pure (wpAny_pure hq)
    | exact wpAny_pure hq
theorem excq_kit (T : ExcQ K C) : KitX K (.ref x) (.ref C) (fun h => ∃ od, InstAt h x ox C od) where
  ty := fun _ _ _ ⟨_, i⟩ => i.type
  it := fun _ _ kin _ => by
    obtain ⟨cd, hc, _⟩ := any_some T.hd
    unfold clsIn at hc
    split at hc
    · rename_i ho
      intro A' Q' E' s' kp q
      unfold isType loadHead
      exact wpAny_bind (wpAny_loadPart (kp _ _ (kin _ _ ho)) (wpAny_pure q))
    · cases hc
  ne := fun h tp dd its n sl kin htp => by
    obtain ⟨cd, hc, _⟩ := any_some T.hd
    refine Bool.eq_false_iff.mpr fun q => ?_
    obtain rfl : C = tp := Value.ref.inj (beq_iff_eq.mp q)
    unfold clsIn at hc
    split at hc
    · rename_i ho
      cases (kin _ _ ho).symm.trans htp
    · cases hc
  ca := fun kin ⟨_, i⟩ q => excq_cls T kin i q
end
end DL
namespace DL
open PySem PySem.Spec PyProof.Rows L2
section
variable {X : Cx} {H0 : Hp} {δ : List S} {k : D → Prop} {pos p : Pos} {a C : Addr} {oe : Obj} {d : Option Addr} {pn : List (Addr × Obj)}
theorem inst_of {H : Hp} {h : Heap} {P : Program} {w : World} (hz : Zc (.ref C) d oe) (hv : ∃ vs, oe.data = .fields vs) (ho : h.get? a = some oe) (hd : ∀ dd, d = some dd → ∃ o, h.get? dd = some o) : ∃ od, PySem.W.InstAt h a oe C od := by
  obtain ⟨oc, odt, oda, osl⟩ := oe
  obtain ⟨z1, z2⟩ := hz
  obtain ⟨vs, hv⟩ := hv
  dsimp only at z1 z2 hv
  subst z1 z2 hv
  cases odt with
  | none => exact ⟨none, ho, rfl, rfl, trivial⟩
  | some dd =>
    obtain ⟨o, hdo⟩ := hd dd rfl
    exact ⟨some o, ho, rfl, rfl, hdo⟩
/-- isinstance(e, c), e the error that the suite holds; its dict stands -/
theorem call_isX (T : ExcQ X.K C) (hz : Zc (.ref C) d oe) (hv : ∃ vs, oe.data = .fields vs) : CallR (X.suite a ((a, oe) :: pn)) (.builtin "isinstance") (fun xs H Q => ∃ (c : V) (cv : Value) (b : Bool), xs = [.ref a, c] ∧ ClsV c cv ∧ (∀ dd, d = some dd → ∃ o, H dd = some o) ∧ PySem.W.kitOne X.K (.ref C) cv = some b ∧ Q (.bl b) H) := by
  intro pins s σ H xs us Q I r h
  obtain ⟨c, cv, b, rfl, hc, hd, e, q⟩ := h
  obtain ⟨u1, u2, rfl, r1, r2⟩ := vals2 r
  cases r1
  have e2 := hc.eq r2
  subst e2
  obtain ⟨hget, _⟩ := I.pin (a, oe) (List.mem_append.mpr (.inl List.mem_cons_self))
  obtain ⟨od, ia⟩ := inst_of (H := H) (P := X.prog) (w := X.w) hz hv hget fun dd ed => by
    obtain ⟨o, ho⟩ := hd dd ed
    exact objOk_get (I.hok dd o ho)
  exact PySem.W.kia_one (excq_kit T) I.kIn ⟨od, ia⟩ e (fun z => nomatch z) fun tk => ⟨.bl b, H, I.kept (t' := tk) fun _ _ z => z, rfl, q⟩
/-- isinstance(e, (c1, c2, ..)) -/
theorem call_isXT (T : ExcQ X.K C) (hz : Zc (.ref C) d oe) (hv : ∃ vs, oe.data = .fields vs) : CallR (X.suite a ((a, oe) :: pn)) (.builtin "isinstance") (fun xs H Q => ∃ (tp : Addr) (cs : List V) (us : List Value) (b : Bool), xs = [.ref a, .ref tp] ∧ H tp = some (.tup cs) ∧ Paired ClsV cs us ∧ (∀ dd, d = some dd → ∃ o, H dd = some o) ∧ PySem.W.kitAny X.K (.ref C) us = some b ∧ Q (.bl b) H) := by
  intro pins s σ H xs us Q I r h
  obtain ⟨tp, cs, ws, b, rfl, hT, k, hd, e, q⟩ := h
  obtain ⟨u1, u2, rfl, r1, r2⟩ := vals2 r
  cases r1
  cases (show u2 = Value.ref tp from r2)
  obtain ⟨hget, _⟩ := I.pin (a, oe) (List.mem_append.mpr (.inl List.mem_cons_self))
  obtain ⟨od, ia⟩ := inst_of (H := H) (P := X.prog) (w := X.w) hz hv hget fun dd ed => by
    obtain ⟨o, ho⟩ := hd dd ed
    exact objOk_get (I.hok dd o ho)
  obtain ⟨_, its, rv, o, h1, h2, n, h3⟩ := (show ObjOk X.prog X.w H s.heap tp (.tup cs) from I.hok tp _ hT)
  have e3 := ClsV.all k rv
  subst e3
  obtain ⟨oc, od', dt, sl⟩ := o
  simp only at h2 h3
  subst h2 h3
  exact PySem.W.kia_tup (excq_kit T) I.kIn ⟨od, ia⟩ h1 e (fun z => nomatch z) fun tk => ⟨.bl b, H, I.kept (t' := tk) fun _ _ z => z, rfl, q⟩
theorem exc_there {G : Hp} {y : D} {v : V} {fs : List (Str × D)} (h : Is X.K G v (excD a d fs)) : v = .ref a ∧ ∀ dd, d = some dd → ∃ o, G dd = some o := by
  cases d with
  | none => cases h; exact ⟨rfl, fun dd e => nomatch e⟩
  | some d' =>
    cases h with
    | exc h1 h2 h3 => exact ⟨rfl, fun dd e => by cases e; exact ⟨_, h1⟩⟩
/-- the error's slot i; one class: c reads as cv -/
theorem we_isx {i : Nat} {nm x : Str} {p1 p2 : Pos} {cV : V} {cv : Value} {b : Bool} {fs : List (Str × D)} (T : ExcQ X.K C) (hz : Zc (.ref C) d oe) (hv : ∃ vs, oe.data = .fields vs) (hm : X.mg "isinstance" = none) (hi : δ[i]? = some (.sh (excD a d fs))) (hc : PE (X.suite a ((a, oe) :: pn)) (.Name x p2) (tC cV)) (hcv : ClsV cV cv)
    (hb : PySem.W.kitOne X.K (.ref C) cv = some b) (h : k (.bl b)) (hp : PE (X.suite a ((a, oe) :: pn)) (.Name nm p1) (tVar i) := by exact pv _) (hg : Gl (X.suite a ((a, oe) :: pn)) "isinstance" := by rfl) :
    We (X.suite a ((a, oe) :: pn)) H0 (.Call (.Name "isinstance" p) [.Name nm p1, .Name x p2] [] pos) δ k := fun σ G R => toE (pe_callB (call_isX T hz hv) hg hm (by decide +kernel) (pa_cons hp (pa_cons hc pa_nil (star_of rfl)) (star_of rfl)) (by decide) (by decide) (star_of rfl) (star_any rfl)) (by
  obtain ⟨v, e, iv⟩ := R.sh i _ hi
  obtain ⟨rfl, hd⟩ := exc_there (X := X) (y := .non) iv
  exact ⟨_, e, cV, cv, b, rfl, hcv, hd, hb, Same.refl _, _, .bl b, h⟩)
/-- a tuple of classes -/
inductive Clss (X : Cx) : List Expr → List V → List Value → Prop where
  | nil : Clss X [] [] []
  | cons {e : Expr} {es : List Expr} {v : V} {vs : List V} {u : Value} {us : List Value} : PE X e (tC v) → ClsV v u → (notStar e = true) → Clss X es vs us → Clss X (e :: es) (v :: vs) (u :: us)
theorem Clss.all {es : List Expr} {vs : List V} {us : List Value} (h : Clss X es vs us) : Paired ClsV vs us ∧ PA X es (fun _ H Q => Q vs H) := by
  induction h with
  | nil => exact ⟨.nil, pa_nil⟩
  | cons h1 h2 h3 _ ih => exact ⟨.cons h2 ih.1, pa_cons h1 ih.2 (star_of h3)⟩
theorem we_isxT {i x1 : Nat} {nm : Str} {p1 p2 : Pos} {es : List Expr} {vs : List V} {us : List Value} {b : Bool} {fs : List (Str × D)} (T : ExcQ X.K C) (hz : Zc (.ref C) d oe) (hv : ∃ vs, oe.data = .fields vs) (hm : X.mg "isinstance" = none) (hi : δ[i]? = some (.sh (excD a d fs))) (hc : Clss (X.suite a ((a, oe) :: pn)) es vs us) (hl : vs.length ≤ 1000)
    (hb : PySem.W.kitAny X.K (.ref C) us = some b) (h : k (.bl b)) (hp : PE (X.suite a ((a, oe) :: pn)) (.Name nm p1) (tVar i) := by exact pv _) (hg : Gl (X.suite a ((a, oe) :: pn)) "isinstance" := by rfl) :
    We (X.suite a ((a, oe) :: pn)) H0 (.Call (.Name "isinstance" p) [.Name nm p1, .Tuple es x1 p2] [] pos) δ k := fun σ G R => toE (pe_callB (call_isXT T hz hv) hg hm (by decide +kernel) (pa_cons hp (pa_cons (pe_tup hc.all.2) pa_nil (star_of rfl)) (star_of rfl)) (by decide) (by decide) (star_of rfl) (star_any rfl)) (by
  obtain ⟨v, e, iv⟩ := R.sh i _ hi
  obtain ⟨rfl, hd⟩ := exc_there (X := X) (y := .non) iv
  refine ⟨_, e, Nat.le_trans hl (by decide), fun tp ht => ⟨tp, vs, us, b, rfl, upd_same, hc.all.1, fun dd ed => ?_, hb, Ex.new ht, _, .bl b, h⟩⟩
  obtain ⟨o, ho⟩ := hd dd ed
  exact ⟨o, (Ex.new ht) dd o ho⟩)
end
end DL
set_option Elab.async false
set_option linter.all false
set_option maxRecDepth 100000
set_option maxHeartbeats 2000000
set_option pp.maxSteps 1200
/-! Part g: more operations. -/
namespace DL
open PySem PySem.Spec PyProof.Rows L2
section
variable {X : Cx} {H0 : Hp} {δ δ' : List S} {a b c e e2 : Expr} {es : List Expr} {k : D → Prop} {ko : Ow → Prop} {kt : Bool → Prop} {pos p : Pos} {E : En}
/-- // by any divisor but zero, below 2 ^ 9000 in size -/
def CDivX (_ j : Int) : Prop := j ≠ 0 ∧ j.natAbs.log2 < 9000
theorem op_fdivX : OpR X (binaryOp .FloorDiv) (rI CDivX fun i j => .int (i.fdiv j)) := opI fun _ _ _ _ _ _ _ hc q => floordiv_int hc.1 q (.inl (PyProof.noPylong_of_log2 hc.2))
theorem Bd.divX {n : Nat} {x y : Int} (h : y ≠ 0) (hy : Bd n y) (l : n ≤ 8999) : CDivX x y := ⟨h, Nat.lt_of_lt_of_le (PySem.Flt.log2_lt_of (by omega) (hy.le (Nat.le_add_right n 1))) (by omega)⟩
theorem we_fdiv (h : We X H0 a δ (fun x => We X H0 b δ (fun y => I2 x y (fun i j => CDivX i j ∧ k (.int (i.fdiv j)))))) : We X H0 (.BinOp a .FloorDiv b pos) δ k := fun σ G R => toE (pe_op op_fdivX pe_sem pe_sem) (two h (ii fun G i j => .int _) σ G R)
/-! ### list + list, list * int -/
def CAT (x y : D) (P : List D → Prop) : Prop := ∃ xs ys, x = .sq true xs ∧ y = .sq true ys ∧ xs.length + ys.length ≤ 100000 ∧ P (xs ++ ys)
theorem cat {xs ys : List D} {P : List D → Prop} (h : xs.length + ys.length ≤ 100000) (q : P (xs ++ ys)) : CAT (.sq true xs) (.sq true ys) P := ⟨xs, ys, rfl, rfl, h, q⟩
def REP (o : Ow) (y : D) (P : List D → Prop) : Prop := ∃ xs n, o = .lst xs ∧ y = .int n ∧ -1000000 ≤ n ∧ n ≤ 1000000 ∧ xs.length * n.toNat ≤ 100000 ∧ P (List.replicate n.toNat xs).flatten
theorem rep {xs : List D} {n : Int} {P : List D → Prop} (h : -1000000 ≤ n ∧ n ≤ 1000000 ∧ xs.length * n.toNat ≤ 100000) (q : P (List.replicate n.toNat xs).flatten) : REP (.lst xs) (.int n) P := ⟨xs, n, rfl, rfl, h.1, h.2.1, h.2.2, q⟩
theorem ObjOk.lstR {P : Program} {w : World} {H : Hp} {h : Heap} {l : Addr} {xs : List V} (r : Rd H l (.lst xs)) (ok : HOk P w H h) : xs.length ≤ sizeLine ∧ ∃ (its : List Value) (n : Nat), Vals xs its ∧ h.get? l = some { cls := .type "list", data := .seq its.toArray n } := r.ok ok
def rCatR : R2 := fun x y H Q => ∃ l b xs zs, x = .ref l ∧ y = .ref b ∧ Rd H l (.lst xs) ∧ Rd H b (.lst zs) ∧ xs.length + zs.length ≤ sizeLine ∧ ∀ p, H p = none → Q (.ref p) (upd H p (.lst (xs ++ zs)))
theorem op_catR : OpR X (binaryOp .Add) rCatR := by
  intro pins s σ H x y v u Q I rx ry h
  obtain ⟨l, b, xs, zs, rfl, rfl, hH, hB, hz, q⟩ := h
  cases rx; cases ry
  obtain ⟨z, its, n, r, e⟩ := ObjOk.lstR hH I.hok
  obtain ⟨z2, its2, n2, r2, e2⟩ := ObjOk.lstR hB I.hok
  refine PySem.P.add_list e e2 ?_ (by rw [List.size_toArray, List.size_toArray, ← r.length, ← r2.length]; exact hz)
  rw [show its.toArray ++ its2.toArray = (its ++ its2).toArray by simp]
  exact ⟨.ref _, _, I.lnew (t' := s.toks) (r.append r2) (by rw [List.length_append]; omega), rfl, q _ I.fresh⟩
theorem flat_len {α : Type} (n : Nat) (xs : List α) : (List.replicate n xs).flatten.length = n * xs.length := by
  induction n with
  | zero => simp
  | succ n ih => rw [List.replicate_succ, List.flatten_cons, List.length_append, ih, Nat.succ_mul, Nat.add_comm]
theorem IsL.rep {K : PySem.W.Frag} {G : Hp} {xs : List V} {ds : List D} (h : IsL K G xs ds) : ∀ n : Nat, IsL K G (List.replicate n xs).flatten (List.replicate n ds).flatten
  | 0 => .nil
  | n + 1 => by
    rw [List.replicate_succ, List.replicate_succ, List.flatten_cons, List.flatten_cons]
    exact h.app (IsL.rep h n)
theorem wo_cat (h : We X H0 a δ (fun x => We X H0 b δ (fun y => CAT x y fun zs => ko (.lst zs)))) : Wo X H0 (.BinOp a .Add b pos) δ ko := fun σ G R => toE (pe_op op_catR pe_sem pe_sem) ((h σ G R).mono fun v G1 ⟨e1, x, ix, q1⟩ => (q1 σ G1 (R.mono e1)).mono fun w G2 ⟨e2, y, iy, xs, ys, ex, ey, hl, hk⟩ => by
  subst ex ey
  obtain ⟨l, us, rfl, r1, l1⟩ := (ix.mono e2).lst_inv
  obtain ⟨l', ws, rfl, r2, l2⟩ := iy.lst_inv
  exact ⟨l, l', us, ws, rfl, rfl, r1, r2, Nat.le_trans (by rw [l1.1, l2.1]; exact hl) (by decide), fun t ht => ⟨_, (NewIs.lst ht (l1.app l2)).back (e1.trans e2), hk⟩⟩)
/-- [..] * n, a new list times an int -/
theorem wo_rep (h : Wo X H0 a δ (fun o => We X H0 b δ (fun y => REP o y fun zs => ko (.lst zs)))) : Wo X H0 (.BinOp a .Mult b pos) δ ko := fun σ G R => toE (pe_op op_rep pe_sem pe_sem) ((h σ G R).mono fun v G1 ⟨o, N, q1⟩ => (q1 σ G1 (R.mono N.ex)).mono fun w G2 ⟨e2, y, iy, xs, n, eo, ey, n1, n2, hl, hk⟩ => by
  subst eo ey
  cases iy
  have e1 := N.ex
  obtain ⟨l, ⟨p, us, rfl, rfl, hp, il⟩, fr, ee, nd⟩ := N
  have iG : IsL X.K G2 us xs := il.mono (cut_ex.trans e2)
  have hn : xs.length * n.toNat ≤ sizeLine := Nat.le_trans hl (by decide)
  exact ⟨p, n, us, rfl, rfl, e2 _ _ hp, by omega, by omega, by rw [il.1]; exact hn, fun t ht => ⟨_, (NewIs.lst ht (iG.rep _)).back (e1.trans e2), hk⟩⟩)
/-! ### == of data at any depth -/
inductive Pd : D → PyData → Prop
  | non : Pd .non .none
  | bl (b : Bool) : Pd (.bl b) (.bool b)
  | int (i : Int) : Pd (.int i) (.int i)
  | str (x : Str) : Pd (.str x) (.str x)
  | lst {ds : List D} {ps : List PyData} : ds.length = ps.length → (∀ (i : Nat) d q, ds[i]? = some d → ps[i]? = some q → Pd d q) → Pd (.sq true ds) (.list ps)
  | tup {ds : List D} {ps : List PyData} : ds.length = ps.length → (∀ (i : Nat) d q, ds[i]? = some d → ps[i]? = some q → Pd d q) → Pd (.sq false ds) (.tuple ps)
theorem dpAll {K : PySem.W.Frag} {H : Hp} : ∀ {vs : List V} {ps : List PyData}, vs.length = ps.length → (∀ (i : Nat) v q, vs[i]? = some v → ps[i]? = some q → Dp K H v q) → DpAll K H vs ps
  | [], [], _, _ => .nil
  | [], _ :: _, h, _ => by cases h
  | _ :: _, [], h, _ => by cases h
  | v :: vs, q :: ps, h, g => .cons (g 0 v q rfl rfl) (dpAll (Nat.succ.inj h) fun i v q a b => g (i + 1) v q a b)
theorem Pd.dp {K : PySem.W.Frag} {H : Hp} {d : D} {q : PyData} (h : Pd d q) : ∀ {v : V}, Is K H v d → Dp K H v q := by
  induction h with
  | non => intro v i; cases i; exact .non
  | bl b => intro v i; cases i; exact .bl b
  | int b => intro v i; cases i; exact .int b
  | str b => intro v i; cases i; exact .str b
  | lst hl _ ih =>
    intro v i
    obtain ⟨a, xs, rfl, r, l⟩ := i.lst_inv
    refine .lst (.inl r) (dpAll (l.1.trans hl) fun j v q h1 h2 => ?_)
    obtain ⟨d, hd, id⟩ := l.getV h1
    exact ih j d q hd h2 id
  | tup hl _ ih =>
    intro v i
    obtain ⟨a, xs, rfl, r, l⟩ := i.tup_inv
    refine .tup r (dpAll (l.1.trans hl) fun j v q h1 h2 => ?_)
    obtain ⟨d, hd, id⟩ := l.getV h1
    exact ih j d q hd h2 id
theorem Pd.nilL : Pd (.sq true []) (.list []) := .lst rfl fun i d q h => by cases h
theorem Pd.nilT : Pd (.sq false []) (.tuple []) := .tup rfl fun i d q h => by cases h
theorem Pd.consL {d : D} {q : PyData} {ds : List D} {ps : List PyData} (h : Pd d q) (r : Pd (.sq true ds) (.list ps)) : Pd (.sq true (d :: ds)) (.list (q :: ps)) := by
  cases r with
  | lst hl g =>
    refine .lst (congrArg (· + 1) hl) fun i d' q' h1 h2 => ?_
    cases i with
    | zero => cases h1; cases h2; exact h
    | succ i => exact g i d' q' h1 h2
theorem Pd.consT {d : D} {q : PyData} {ds : List D} {ps : List PyData} (h : Pd d q) (r : Pd (.sq false ds) (.tuple ps)) : Pd (.sq false (d :: ds)) (.tuple (q :: ps)) := by
  cases r with
  | tup hl g =>
    refine .tup (congrArg (· + 1) hl) fun i d' q' h1 h2 => ?_
    cases i with
    | zero => cases h1; cases h2; exact h
    | succ i => exact g i d' q' h1 h2
/-- the data on both sides, and what == says of them -/
def EQ (x y : D) (P : Bool → Prop) : Prop := ∃ p q, Pd x p ∧ Pd y q ∧ SeqAt.shaped p = true ∧ SeqAt.shaped q = true ∧ P (PyData.eqv p q)
theorem wt_eqD (hu : X.A.units + 64 < cLine) (h : We X H0 a δ (fun x => We X H0 b δ (fun y => EQ x y kt))) : Wt X H0 (.Compare a [.Eq] [b] pos) δ kt := fun σ G R => toT (pt_cmpR (op_eqD hu) pe_sem pe_sem (nomark _)) (twoT h (fun G v w x y iv iw ⟨p, q, hp, hq, sp, sq, hk⟩ Q qq => ⟨p, q, hp.dp iv, hq.dp iw, sp, sq, qq _ hk⟩) σ G R)
theorem we_eqD (hu : X.A.units + 64 < cLine) (h : We X H0 a δ (fun x => We X H0 b δ (fun y => EQ x y fun r => k (.bl r)))) : We X H0 (.Compare a [.Eq] [b] pos) δ k := fun σ G R => toE (pe_cmpR (op_eqD hu) pe_sem pe_sem (nomark _)) (two h (fun G v w x y iv iw ⟨p, q, hp, hq, sp, sq, hk⟩ Q qq => ⟨p, q, hp.dp iv, hq.dp iw, sp, sq, qq _ G _ (Same.refl _) (.bl _) hk⟩) σ G R)
theorem wt_neD (hu : X.A.units + 64 < cLine) (h : We X H0 a δ (fun x => We X H0 b δ (fun y => EQ x y fun r => kt (!r)))) : Wt X H0 (.Compare a [.NotEq] [b] pos) δ kt := fun σ G R => toT (pt_cmpR (op_neD hu) pe_sem pe_sem (nomark _)) (twoT h (fun G v w x y iv iw ⟨p, q, hp, hq, sp, sq, hk⟩ Q qq => ⟨p, q, hp.dp iv, hq.dp iw, sp, sq, qq _ hk⟩) σ G R)
/-- x = xs[i], xs a list that the frame alone holds -/
theorem ws_setIx (i j : Nat) {x y : Str} {px p1 ps : Pos} {ix : Expr} {ds : List D} (hN : X.N.Nodup) (hj : δ[j]? = some (.ow (.lst ds))) (hv : Vw δ δ') (h : We X H0 ix δ' (fun n => ∃ m d, n = .int m ∧ atI ds m = some d ∧ E.nx (δ.set i (.sh d)))) (hi : X.N[i]? = some x := by rfl) (hx : Loc X.env.scope x := by first | exact .inl rfl | exact .inr rfl) (hp : PE X (.Name y p1) (tVar j) := by exact pv _) (hpl : PlainIx ix := by exact fun _ _ => rfl)
    (hs : swapsWith (.Subscript (.Name y p1) ix ps) (some (.Name x px)) pos.line X.env = pure false := by rfl) (hf : X.fn x = true ∨ X.env.scope.names.lookup x = some .local := by exact .inl rfl) : Ws X H0 (.Assign [.Name x px] (.Subscript (.Name y p1) ix ps) pos) δ E := fun B σ H own hB R =>
  toS (ps_set hN hi hx (pe_ix ix_list hp pe_sem hpl) hs hf) (by
    obtain ⟨x0, l, h1, h2, v, rfl, p, xs, rfl, rfl, h3, h4⟩ := R.idx hj
    refine ⟨_, h1, (h.atV hv hB R).mono fun n H1 ⟨d, R1, inn, m, d', em, hat, q⟩ => ?_⟩
    subst em
    cases inn
    obtain ⟨x0, l, g1, g2, v', rfl, p', xs', ev, rfl, g3, g4⟩ := R1.idx hj
    rw [h1] at g1; cases g1
    cases ev
    obtain ⟨z, hz, iz⟩ := g4.atI hat
    exact ⟨p, xs', m, z, rfl, rfl, SqL.of g3, hz, _, _, R1.setSh iz, q⟩)
/-- an if whose ways meet -/
theorem wb_ifj {sts els rest : List Stmt} (M : List S → Prop) (hv : Vw δ δ') (hM : ∀ δ1, M δ1 → Wb X H0 rest δ1 E) (h : Wt X H0 c δ' (fun r => (r = true → Wb X H0 sts δ { E with nx := Upto M }) ∧ (r = false → Wb X H0 els δ { E with nx := Upto M }))) : Wb X H0 (.If c sts els pos :: rest) δ E :=
  wb_cons (ws_if hv (h.mono fun r ⟨h1, h2⟩ => ⟨fun hr => (h1 hr).mono (fun δ1 ⟨δ2, v, q⟩ => wb_view v (hM δ2 q)) (fun _ _ q => q) (fun _ q => q) (fun _ q => q), fun hr => (h2 hr).mono (fun δ1 ⟨δ2, v, q⟩ => wb_view v (hM δ2 q)) (fun _ _ q => q) (fun _ q => q) (fun _ q => q)⟩))
end
end DL
set_option Elab.async false
set_option linter.all false
set_option maxRecDepth 100000
set_option maxHeartbeats 2000000
set_option pp.maxSteps 1200
/-! Part h: defs that an except suite calls. -/
namespace DL
open PySem PySem.Spec PyProof.Rows L2
/-- the promise of a def, whatever is handled; p stays pinned -/
structure FnC (P : Program) (w : World) (K : PySem.W.Frag) (mg : Str → Option Value) (base : Heap) (k : Nat) (f : Addr) (fd : FuncData) (ps : List Str) (sp : Sp) : Prop where
  len : ∀ vs H Q E, sp vs H Q E → vs.length = ps.length
  go : ∀ (A : Around) (outer : List Env) (s : Shared) (H : Hp) (as : Args) (us : List Value) (vs : List V) (Q : VK) (E : XK) (q : Addr × Obj), L2H.RoomH k A → L2H.PinOk outer H s q → Env0 P w K mg base A outer s H → BindsTo s fd as (ps.zip us) → Vals vs us → sp vs H Q E → codeAny (model P w) A (.call (.ref f) as) (CR (L2.CX P w) outer P w H s Q E) s
section
variable {P : Program} {w : World} {K : PySem.W.Frag} {mg : Str → Option Value} {base : Heap} {x qual : Str} {params : Arguments} {body : List Stmt} {scope : Scope} {dvs : List V} {kws : List (Str × V)} {f : Addr} {fd : FuncData}
theorem fn_okC {N ps : List Str} {k : Nat} {T : DSp} (F : FunD K x qual params body scope dvs kws f fd) (S : FnScope N ps scope) (hN : ps.length ≤ N.length) (hlen : ∀ ds k x, T ds k x → ds.length = ps.length)
    (hbody : ∀ (cdv : Value) (A : Around) (outer : List Env) (s : Shared) (H : Hp) (E : XK) (q : Addr × Obj) (ds : List D) (kk : DL.S → Prop) (xx : XD), L2H.RoomH k (A.deeper (envOfC qual scope s.heap.objs.size f cdv)) → T ds kk xx →
      Xc (L2H.cxH (L2.CX P w) P w K mg base N qual scope f cdv A outer s H E q) H (fun _ => xx) →
      Wb (L2H.cxH (L2.CX P w) P w K mg base N qual scope f cdv A outer s H E q) H body (startD N ds) { nx := fun _ => kk (.sh .non), rt := fun _ r => kk r }) : FnC P w K mg base (k + 1) f fd ps (spD K T) := by
  obtain ⟨oc, od, dV, kV, doc, pm, an, cdv, ct, osl, rfl, lk, hcd, _, _⟩ := F.ex
  refine ⟨fun vs H Q E ⟨ds, kk, xx, is, hT, _⟩ => by rw [is.1]; exact hlen _ _ _ hT, fun A outer s H as us vs Q E q rm pin e0 bd rv hsp => ?_⟩
  obtain ⟨ds, kk, xx, is, hT, hQ, hE⟩ := hsp
  have nL : vs.length = ps.length := by rw [is.1]; exact hlen _ _ _ hT
  have kin : K.In s.heap := e0.mod.kin.keeps fun b o z => (e0.bs b o z).1
  have nl : s.heap.NoLimit := e0.mod.nolimit.keeps fun b o z => (e0.bs b o z).1
  have par : ∀ y ∈ ps.zip us, scope.names.lookup y.1 = some .local ∨ (scope.names.lookup y.1 = some .cell ∧ ((cellsFrom (s.heap.objs.size + 1) scope.names []).lookup y.1).isSome = true) := fun y hy =>
    (S.par y.1 (List.of_mem_zip (show (y.1, y.2) ∈ ps.zip us from hy)).1).elim .inl fun z => .inr ⟨z, PySem.W.cellsFrom_some _ _ _ (.inl z)⟩
  have tk : Takes (L2H.cxH (L2.CX P w) P w K mg base N qual scope f cdv A outer s H E q) (fun cls d _ H' => E cls d H') := takes_of rfl rfl rfl rfl
  have xc : Xc (L2H.cxH (L2.CX P w) P w K mg base N qual scope f cdv A outer s H E q) H (fun _ => xx) := ⟨⟨_, tk, fun σ G δ c d fs R i z => hE c d G fs R.ex i z⟩⟩
  refine codeAny_call_function rm.depth (kin _ _ lk) rfl S.co S.gen rfl (PySem.W.codeRec_of kin hcd) (bd _ _ _ _ (wpAny_newFunctionEnv_cells S.kind par fun env he s1 z => ?_))
  subst he
  refine ⟨nl.keeps z.toInCall.keep, codeAny_func ?_⟩
  have sb := (hbody cdv A outer s H E q ds kk xx (rm.deeper _) hT xc H _ H _ (Same.refl H) (rel_start is (by rw [hlen _ _ _ hT]; exact hN))).mono (D' := { nx := fun _ H' => Q .non H', rt := Q }) (fun σ' H' ⟨δ, own, R, g⟩ => hQ _ _ _ (show RetIs K H .non H' (.sh .non) from ⟨R.toEx, .non⟩) g) (fun v H' ⟨σ', δ, own, r, R, i, g⟩ => hQ _ _ _ i g) (fun _ _ ⟨_, _, _, z⟩ => z) (fun _ _ ⟨_, _, _, z⟩ => z)
  have I0 := L2H.inv_startH (CX := L2.CX P w) (E := E) S pin e0 nL rv z
  refine wpAny_mono (pb_sem.run [] s1 _ H _ I0 sb) (fun fl s' hs => ?_) fun _ _ hs => hs
  cases fl with
  | ret u =>
    obtain ⟨v, σ', H', J, r, g⟩ := hs
    exact ⟨v, H', J.os, J.bare, J.base, J.hok, r, g⟩
  | next =>
    obtain ⟨σ', H', J, g⟩ := hs
    exact ⟨.non, H', J.os, J.bare, J.base, J.hok, rfl, g⟩
  | brk =>
    obtain ⟨_, _, _, g⟩ := hs
    exact g.elim
  | cont =>
    obtain ⟨_, _, _, g⟩ := hs
    exact g.elim
end
/-- such a def, known -/
structure Fc (P : Program) (w : World) (K : PySem.W.Frag) (mg : Str → Option Value) (base : Heap) (lvl : Nat) (x : Str) (ps : List Str) (T : DSp) : Prop where
  ex : ∃ (f : Addr) (fd : FuncData), FnC P w K mg base lvl f fd ps (spD K T) ∧ mg x = some (.ref f) ∧ PySem.W.keepIn K (.ref f) = true ∧ Binds K fd ps []
theorem roomH_suite {k : Nat} {A : Around} {v : Option Value} (r : Room k A) : L2H.RoomH k (A.mark v) := ⟨r.dp, r.un⟩
section
variable {X : Cx} {H0 : Hp} {δ : List S} {e : Expr} {es : List Expr} {k : D → Prop} {pos p : Pos} {a : Addr} {oe : Obj} {pn : List (Addr × Obj)}
/-- a call in an except suite, where nothing is let out -/
theorem we_callC {lvl : Nat} {x : Str} {ps : List Str} {T : DSp} (F : Fc X.prog X.w X.K X.mg X.base lvl x ps T) (hr : Room lvl X.A) (h : Wa (X.suite a ((a, oe) :: pn)) H0 (e :: es) δ (fun as => T as (fun r => k r.d) (fun _ _ => False)))
    (hg : Gl (X.suite a ((a, oe) :: pn)) x := by rfl) (hdb : (x == ("__debug__" : Str)) = false := by decide) (he : notStar e = true := by rfl) (hpl : es.all notStar = true := by rfl) : We (X.suite a ((a, oe) :: pn)) H0 (.Call (.Name x p) (e :: es) [] pos) δ k := by
  intro σ G R
  obtain ⟨f, fd, Fk, hm, hk, hb⟩ := F.ex
  have h := h σ G R
  refine .mk fun pins s I => ?_
  refine wpAny_Call_Name_kw (ld_glob I hg hm ?_ hdb)
  refine PySem.W.callWith_K I.ok.mod.kin hk (thn (h.run pos pins s I) fun us s1 ⟨vs, G1, I1, rv, e1, as, is, hT⟩ => ⟨I1.kIn, ?_⟩) (star_of he) (star_any hpl)
  have nl : vs.length = ps.length := Fk.len vs G1 (fun _ _ => True) (fun _ _ _ => True) ⟨as, _, _, is, hT, fun _ _ _ _ _ => trivial, fun _ _ _ _ _ _ _ => trivial⟩
  have bd := hb s1 us I1.kIn (by rw [List.append_nil, ← rv.length]; exact nl)
  rw [List.append_nil] at bd
  have pn1 := I1.pin (a, oe) (List.mem_append_left _ List.mem_cons_self)
  have pin : L2H.PinOk X.stack G1 s1 (a, oe) := ⟨pn1.1, pn1.2.1, fun hm => (List.mem_cons.mp (I1.stkSub a hm)).elim pn1.2.2.1 pn1.2.2.2.1, pn1.2.2.2.2⟩
  refine wpAny_call (codeAny_mono (Fk.go _ X.stack s1 G1 ⟨us, []⟩ us vs (fun v G2 => Ex G G2 ∧ ∃ d, Is X.K G2 v d ∧ k d) (fun _ _ _ => False) (a, oe) (roomH_suite hr) pin I1.env0 bd rv ⟨as, _, _, is, hT, fun v G2 r ir kr => ⟨e1.trans ir.ex.1, _, ir.ex.2, kr⟩, fun _ _ _ _ _ _ z => z⟩) fun r s2 hq => ?_)
  cases r with
  | error z => exact (passAt (X := X.suite a ((a, oe) :: pn)) takes0 σ pins G1 s1 z s2 I1 hq : False).elim
  | ok fl =>
    cases fl with
    | ret u => exact I1.after hq
    | next => exact False.elim hq
    | brk => exact False.elim hq
    | cont => exact False.elim hq
end
/-! ### a call's tuple, kept beside an object that was lent -/
def FlatT : D → Prop
  | .sq false ds => ∀ (i : Nat) d, ds[i]? = some d → Flat d
  | d => Flat d
theorem FlatT.two {a b : D} (h : Flat a) (h' : Flat b) : FlatT (.sq false [a, b]) := fun i d e => by
  match i, e with
  | 0, e => cases e; exact h
  | 1, e => cases e; exact h'
theorem FlatT.is {K : PySem.W.Frag} {H0 H : Hp} {σ : L2.St} {δ : List S} {own : List (List Addr)} {v : V} {d : D} (R : Rel K H0 σ H δ own) (f : FlatT d) (h : Is K H v d) : Is K (cut H own.flatten) v d := by
  cases h with
  | non => exact .non
  | bl b => exact .bl b
  | int i => exact .int i
  | str x => exact .str x
  | tup h1 h2 h3 =>
    refine .tup ?_ h2 fun i x d hx hd => (h3 i x d hx hd).flat (f i d hd)
    rcases h1 with z | z
    · refine .inl ?_
      have no : ∀ (p : Addr) (xs : List V), p ∈ own.flatten → ¬ Rd H p (.tup xs) := fun p xs hp r => by
        rcases R.owned p hp with ⟨_, e⟩ | ⟨_, e⟩ | ⟨_, _, _, e, _⟩ | ⟨_, _, _, e, _⟩
        all_goals (rcases r with r | ⟨_, r⟩ <;> rw [e] at r <;> cases r)
      have na := fun hp => no _ _ hp z
      rcases z with z | ⟨ob, z⟩
      · exact .inl (by rw [cut_out na]; exact z)
      · exact .inr ⟨ob, by rw [cut_out na]; exact z⟩
    · exact .inr z
  | _ => exact f.elim
theorem ws_setT {X : Cx} {H0 : Hp} {δ δ' : List S} {e : Expr} {pos : Pos} {E : En} (i : Nat) {x : Str} {pos' : Pos} (hN : X.N.Nodup) (hv : Vw δ δ') (h : We X H0 e δ' (fun d => FlatT d ∧ E.nx (δ.set i (.sh d)))) (hi : X.N[i]? = some x := by rfl) (hx : Loc X.env.scope x := by first | exact .inl rfl | exact .inr rfl) (hs : swapsWith e (some (.Name x pos')) pos.line X.env = pure false := by rfl) (hf : X.fn x = true ∨ X.env.scope.names.lookup x = some .local := by exact .inl rfl) :
    Ws X H0 (.Assign [.Name x pos'] e pos) δ E := fun B σ H own hB R => toS (ps_set hN hi hx pe_sem hs hf) ((h.atV hv hB R).mono fun v H' ⟨d, R', i, f, q⟩ => ⟨_, _, R'.setSh (f.is R' i), q⟩)
/-- a block of one statement (elif) -/
theorem Ws.mono {X : Cx} {H0 : Hp} {st : Stmt} {δ : List S} {E E' : En} (h : Ws X H0 st δ E) (nx : ∀ δ, E.nx δ → E'.nx δ) (rt : ∀ δ r, E.rt δ r → E'.rt δ r) (bk : ∀ δ, E.bk δ → E'.bk δ) (ct : ∀ δ, E.ct δ → E'.ct δ) : Ws X H0 st δ E' := fun B σ H own hB R =>
  semS.mono (h B σ H own hB R) (fun σ H ⟨δ, own, R, q⟩ => ⟨δ, own, R, nx _ q⟩) (fun v H ⟨σ, δ, own, r, R, i, q⟩ => ⟨σ, δ, own, r, R, i, rt _ _ q⟩) (fun σ H ⟨δ, own, R, q⟩ => ⟨δ, own, R, bk _ q⟩) (fun σ H ⟨δ, own, R, q⟩ => ⟨δ, own, R, ct _ q⟩)
theorem wb_one {X : Cx} {H0 : Hp} {st : Stmt} {δ : List S} {E : En} (h : Ws X H0 st δ E) : Wb X H0 [st] δ E := wb_cons (h.mono (fun _ q => wb_nil q) (fun _ _ q => q) (fun _ q => q) (fun _ q => q))
end DL
set_option Elab.async false
set_option linter.all false
set_option maxRecDepth 100000
set_option maxHeartbeats 2000000
/-! Part i: a law's head by facts; the end. -/
namespace DL
open PySem PySem.Spec PyProof.Rows L2 He
/-! ### the hook: names, any other facts, defs -/
def obsM (fa : List Fa) (ex : List (PySem.W.Frag → Bool)) (fn : List DefD) (K : PySem.W.Frag) : AlD := (((fa.all fun f => f.ok K) && ex.all fun e => e K) && fn.all fun d => d.ok K, fn.map fun d => fnW K d.at_)
def SaysM (fa : List Fa) (ex : List (PySem.W.Frag → Bool)) (fn : List DefD) (K : PySem.W.Frag) : Prop := obsM fa ex fn K = valD fn
def obsMG (n : Nat) (fa : List Fa) (ex : List (PySem.W.Frag → Bool)) (fn : List DefD) (g : Addr → Option Obj) : AlD := obsM fa ex fn (frG g (asD g n))
def hookM (n : Nat) (fa : List Fa) (ex : List (PySem.W.Frag → Bool)) (fn : List DefD) : PySem.W.Hook :=
  { α := AlD, obs := fun s => obsMG n fa ex fn s.heap.get?, val := fun _ => valD fn, says := fun _ h => ∃ K : PySem.W.Frag, K.In h ∧ SaysM fa ex fn K, of := fun _ _ e => ⟨_, frG_in, e⟩, keeps := fun _ _ _ ⟨K, a, c⟩ k => ⟨K, PySem.W.Frag.In.keeps a k, c⟩ }
theorem obsMG_eq {n : Nat} {fa : List Fa} {ex : List (PySem.W.Frag → Bool)} {fn : List DefD} {g : Addr → Option Obj} {s : Shared} (h : ∀ a, g a = s.heap.get? a) : obsMG n fa ex fn g = (hookM n fa ex fn).obs s := by
  obtain rfl : g = s.heap.get? := funext h
  rfl
section
variable {fa : List Fa} {ex : List (PySem.W.Frag → Bool)} {fn : List DefD} {K : PySem.W.Frag}
theorem SaysM.b (c : SaysM fa ex fn K) : (((fa.all fun f => f.ok K) && ex.all fun e => e K) && fn.all fun d => d.ok K) = true := congrArg Prod.fst c
theorem SaysM.fact (c : SaysM fa ex fn K) (i : Nat) {f : Fa} (h : fa[i]? = some f := by rfl) : f.ok K = true :=
  List.all_eq_true.mp (ba (ba c.b).1).1 f (List.mem_of_getElem? h)
theorem SaysM.glo (c : SaysM fa ex fn K) {f : Fa} (h : f ∈ fa) : f.ok K = true := List.all_eq_true.mp (ba (ba c.b).1).1 f h
theorem SaysM.xt (c : SaysM fa ex fn K) (i : Nat) {f : PySem.W.Frag → Bool} (h : ex[i]? = some f := by rfl) : f K = true :=
  List.all_eq_true.mp (ba (ba c.b).1).2 f (List.mem_of_getElem? h)
theorem SaysM.def_ (c : SaysM fa ex fn K) (i : Nat) {d : DefD} (h : fn[i]? = some d := by rfl) : ∃ fd, FunD K d.name d.qual d.params d.body d.scope (d.dvs K) (d.kws K) (fAd K d.at_) fd := by
  have e : (fn.map fun d => fnW K d.at_) = fn.map DefD.val := congrArg Prod.snd c
  have q : (fn.map fun d => fnW K d.at_)[i]? = (fn.map DefD.val)[i]? := congrArg (·[i]?) e
  rw [List.getElem?_map, List.getElem?_map, h] at q
  exact DefD.funD (Option.some.inj q) (List.all_eq_true.mp (ba c.b).2 d (List.mem_of_getElem? h))
end
/-! ### class facts that can be reckoned -/
/-- C is an exception class with a dict, above it classes of its own and then ValueError -/
def oexB (K : PySem.W.Frag) (C : Addr) : Bool := (match K.lookup C with
  | some ⟨.type ty, _, .cls z, zs⟩ => (match z.mro, zs.toList with
    | .ref B :: up, [_, _, _, _, some (.builtin nw), _] => decide (ty = "type") && (decide (B = C) && (decide (nw = "ValueError.__new__") && (!z.hasDel && (z.hasDict && PySem.HandSPX.refsVE up))))
    | _, _ => false)
  | _ => false) && (eqO (PySem.W.findIn K (.ref C) "__setattr__") (some (some (.builtin "object.__setattr__"))) && (decide (PySem.W.subIn K (.ref C) (.type "BaseException") = some true) && (decide (PySem.W.typeIn K (.ref C) = some (.type "type")) && PySem.W.keepIn K (.ref C))))
theorem oexB_ok {K : PySem.W.Frag} {C : Addr} (h : oexB K C = true) : OexC K C := by
  obtain ⟨h0, h⟩ := ba h
  obtain ⟨h1, h⟩ := ba h
  obtain ⟨h2, h⟩ := ba h
  obtain ⟨h3, h4⟩ := ba h
  refine ⟨?_, eqO_ok h1, of_decide_eq_true h2, of_decide_eq_true h3, h4⟩
  split at h0
  · rename_i ty dd z zs lk
    split at h0
    · rename_i B up k0 k1 k2 k3 nw k5 e1 e2
      obtain ⟨t0, h0⟩ := ba h0
      obtain ⟨t1, h0⟩ := ba h0
      obtain ⟨t2, h0⟩ := ba h0
      obtain ⟨t3, h0⟩ := ba h0
      obtain ⟨t4, t5⟩ := ba h0
      have t0 := of_decide_eq_true t0
      have t1 := of_decide_eq_true t1
      have t2 := of_decide_eq_true t2
      obtain ⟨nm, bs, mro, ns, qn, hd, sn, sub, ab, col, del⟩ := z
      obtain ⟨zs⟩ := zs
      dsimp only at e1 e2 t3 t4
      cases del with
      | true => cases t3
      | false =>
        subst t0 t1 t2 e1 e2 t4
        exact ⟨nm, qn, ns, bs, up, sn, sub, ab, col, dd, k0, k1, k2, k3, k5, lk, t5⟩
    · cases h0
  · cases h0
def excqB (K : PySem.W.Frag) (C : Addr) : Bool := eqO (PySem.W.findIn K (.ref C) "__getattribute__") (some (some (.builtin "BaseException.__getattribute__"))) && (eqO (PySem.W.findIn K (.ref C) "__getattr__") (some none) && (decide (PySem.W.subIn K (.ref C) (.type "BaseException") = some true) && (PySem.W.hasDictIn K C &&
  (eqO (PySem.W.findIn K (.ref C) "__class__") (some (some (.builtin "object.__class__"))) && (eqO (PySem.W.specialIn K (.builtin "object.__class__") "__get__") (some (some (.builtin "getset_descriptor.__get__"))) && (decide (PySem.W.takesIn K (.builtin "object.__class__") = some true) && decide (PySem.W.mroIn K C (.type "object") = some true)))))))
theorem excqB_ok {K : PySem.W.Frag} {C : Addr} (h : excqB K C = true) : ExcQ K C := by
  obtain ⟨h1, h⟩ := ba h
  obtain ⟨h2, h⟩ := ba h
  obtain ⟨h3, h⟩ := ba h
  obtain ⟨h4, h⟩ := ba h
  obtain ⟨h5, h⟩ := ba h
  obtain ⟨h6, h⟩ := ba h
  obtain ⟨h7, h8⟩ := ba h
  exact ⟨eqO_ok h1, eqO_ok h2, of_decide_eq_true h3, h4, eqO_ok h5, eqO_ok h6, of_decide_eq_true h7, of_decide_eq_true h8⟩
/-! ### a def, known -/
section
variable {P : Program} {w : World} {K : PySem.W.Frag} {mg : Str → Option Value} {base : Heap} {lvl : Nat} {f : Addr} {fd : FuncData} {x qual : Str} {params : Arguments} {body : List Stmt} {scope : Scope} {dvs : List V} {kws : List (Str × V)} {ps : List Str} {T : DSp}
theorem mk_fn (F : FunD K x qual params body scope [] kws f fd) (ok : FnOk P w K mg base (L2.CX P w) lvl f fd ps (spD K T)) (g : mg x = some (.ref f))
    (h : ∀ (kV doc pm : Value) (an : Option Addr) (cdv ct : Value) (us : List Value), us.length = ps.length → bindArgs (PySem.W.fnOf x qual params body scope .none kV doc pm an cdv ct) ⟨us, []⟩ = pure (ps.zip us)) : Fn P w K mg base lvl x ps T [] :=
  ⟨f, fd, [], [], ok, g, F.kp, F.bindsN h, .nil, fun _ => .nil⟩
theorem mk_fc (F : FunD K x qual params body scope [] kws f fd) (ok : FnC P w K mg base lvl f fd ps (spD K T)) (g : mg x = some (.ref f))
    (h : ∀ (kV doc pm : Value) (an : Option Addr) (cdv ct : Value) (us : List Value), us.length = ps.length → bindArgs (PySem.W.fnOf x qual params body scope .none kV doc pm an cdv ct) ⟨us, []⟩ = pure (ps.zip us)) : Fc P w K mg base lvl x ps T :=
  ⟨f, fd, ok, g, F.kp, F.bindsN h⟩
/-- from the j-th default on they fill up -/
theorem mk_fnD {dds : List D} (F : FunD K x qual params body scope dvs kws f fd) (ok : FnOk P w K mg base (L2.CX P w) lvl f fd ps (spD K T)) (g : mg x = some (.ref f)) (n j : Nat) (hd : dvs ≠ []) (hn : n + (dvs.length - j) = ps.length) (hdd : ∀ G, IsL K G (dvs.drop j) dds)
    (h : ∀ (D : Addr) (kV doc pm : Value) (an : Option Addr) (cdv ct : Value) (us its : List Value), us.length = n → its.length = dvs.length →
      ∃ k, bindArgs (PySem.W.fnOf x qual params body scope (.ref D) kV doc pm an cdv ct) ⟨us, []⟩ = seqItems? (.ref D) >>= k ∧ k (some its.toArray) = pure (ps.zip (us ++ its.drop j))) : Fn P w K mg base lvl x ps T dds := by
  obtain ⟨ds, hv, hb⟩ := F.binds1 (ps := ps) n j hd hn h
  exact ⟨f, fd, ds, dvs.drop j, ok, g, F.kp, hb, hv, hdd⟩
end
/-! ### the law's end -/
theorem cx_none {P : Program} {w : World} {H : Hp} {s : Shared} {e : Value} {s' : Shared} (h : L2.CX P w [] H s (fun _ _ _ => False) e s') : False := by
  obtain ⟨_, _, _, _, _, _, _, _, _, _, _, _, z⟩ := h
  exact z
theorem law_sp {K : PySem.W.Frag} {T : DSp} {H : Hp} {a : Addr} {ns : List Int} (hT : ∀ kk xx, kk (.sh (.bl true)) → T [.scr ns] kk xx) (hS : SqL K H a (ns.map V.int)) : spD K T [.ref a] H (fun v _ => v = .bl true) fun _ _ _ => False :=
  ⟨[.scr ns], fun r => r = .sh (.bl true), fun _ _ => False, .cons (.scr hS) .nil, hT _ _ rfl, fun v H' r ir er => by subst er; exact ir.2.bl_inv, fun _ _ _ _ _ _ z => z⟩
theorem walk_ofM {l : PySem.W.OpenLaw} {n k : Nat} {q : Program} {loose : List Str} {XP : (Str → Option Value) → Heap → Prop} {YP : World → Heap → Prop} {d : DefRec} {x : Str} {T : DSp} (hn : l.most = some n) (hn2 : n ≤ sizeLine) (hdf : d.params.defaults = []) (hr : Room k callerA) (hT : ∀ ns kk xx, kk (.sh (.bl true)) → T [.scr ns] kk xx)
    (F : ∀ (w : World) (mg : Str → Option Value) (fa : Addr) (h : Heap), YP w h → h.Ns mainGlobals mg → mg d.name = some (.ref fa) → ∃ (K : PySem.W.Frag) (fd : FuncData), K.In h ∧ (∀ (s : Shared) (u : Value), BindsTo s fd ⟨[u], []⟩ [(x, u)]) ∧ ∀ base : Heap, K.In base → base.Ns mainGlobals mg → FnOk l.prog w K mg base (L2.CX l.prog w) k fa fd [x] (spD K T)) :
    PySem.W.WalkO q loose XP YP l.row.toRowW d [] (fun f vs => PySem.call f vs) := by
  refine Att.attach_call hn hdf fun w s₀ s₁ mg mb fa o pm cd doc a vs ns G Y _ _ _ hmg hobj hi hl hg => ?_
  obtain ⟨K, fd, inK, bd, ok⟩ := F w mg fa _ Y G.T.g hmg
  exact law_call inK G.T.g G.T.b G.T.builtins G.T.nolimit hg hobj hi (Nat.le_trans hl hn2) hr ok bd (fun H _ hS => law_sp (hT ns) hS) fun H e s' z => cx_none z
end DL
set_option Elab.async false
set_option linter.all false
set_option maxRecDepth 100000
set_option maxHeartbeats 2000000
/-! Part j: list comprehensions of one clause. -/
namespace DL
open PySem PySem.Spec PyProof.Rows L2
section
variable {X : Cx} {H0 : Hp}
/-- in the block's context, whatever it is -/
def bE (X : Cx) (sc : Scope) (e : Expr) : TE := fun σ H Q => ∀ (s : Shared) (h : Hp) (C : Addr) (cl : List (Str × Addr)) (fp : List Addr), semE (X.blk s h sc (compEnvC sc cl C X.env) fp) e σ H Q
def bT (X : Cx) (sc : Scope) (e : Expr) : TT := fun σ H Q => ∀ (s : Shared) (h : Hp) (C : Addr) (cl : List (Str × Addr)) (fp : List Addr), semT (X.blk s h sc (compEnvC sc cl C X.env) fp) e σ H Q
def BWe (X : Cx) (sc : Scope) (H0 : Hp) (e : Expr) (δ : List S) (k : D → Prop) : Prop := ∀ (s : Shared) (h : Hp) (C : Addr) (cl : List (Str × Addr)) (fp : List Addr), We (X.blk s h sc (compEnvC sc cl C X.env) fp) H0 e δ k
def BWt (X : Cx) (sc : Scope) (H0 : Hp) (e : Expr) (δ : List S) (k : Bool → Prop) : Prop := ∀ (s : Shared) (h : Hp) (C : Addr) (cl : List (Str × Addr)) (fp : List Addr), Wt (X.blk s h sc (compEnvC sc cl C X.env) fp) H0 e δ k
/-- owned objects beside it stay as they are -/
def FrE (te : TE) : Prop := ∀ (σ : L2.St) (H : Hp) (ps : List Addr) (Q Q' : VK), (∀ a ∈ ps, OwnAt H ps a) → te σ (cut H ps) Q → (∀ v G, (∀ a ∈ ps, G a = none) → Q v G → Q' v (mrg H ps G)) → te σ H Q'
def FrT (tt : TT) : Prop := ∀ (σ : L2.St) (H : Hp) (ps : List Addr) (Q Q' : Bool → Hp → Prop), (∀ a ∈ ps, OwnAt H ps a) → tt σ (cut H ps) Q → (∀ v G, (∀ a ∈ ps, G a = none) → Q v G → Q' v (mrg H ps G)) → tt σ H Q'
theorem fr_bE {sc : Scope} {e : Expr} : FrE (bE X sc e) := fun σ H ps Q Q' hp h m s h' C cl fp =>
  ((h s h' C cl fp).frame hp).mono fun v H' ⟨G, e, n, q⟩ => by rw [e]; exact m v G n q
theorem fr_bT {sc : Scope} {e : Expr} : FrT (bT X sc e) := fun σ H ps Q Q' hp h m s h' C cl fp =>
  ((h s h' C cl fp).frame hp).mono fun v H' ⟨G, e, n, q⟩ => by rw [e]; exact m v G n q
theorem mrg_cut {H : Hp} {ps : List Addr} : mrg H ps (cut H ps) = H := by
  funext a
  by_cases z : a ∈ ps
  · rw [mrg_in z]
  · rw [mrg_out z, cut_out z]
theorem fr_yes : FrT tYes := fun σ H ps Q Q' hp h m => by
  have h1 := m true (cut H ps) (fun a ha => cut_in ha) h
  rw [mrg_cut] at h1
  exact h1
/-- the whole heap: Hf with its owned objects at ps, the new list at A, the shared rest G -/
def lcH (Hf : Hp) (ps : List Addr) (A : Addr) (as : List V) (G : Hp) : Hp := mrg Hf ps (upd G A (.lst as))
section
variable {Hf G G' : Hp} {ps : List Addr} {A : Addr} {as : List V}
theorem lcH_cut (nA : A ∉ ps) (hA : G A = none) (hp : ∀ a ∈ ps, G a = none) : cut (lcH Hf ps A as G) (A :: ps) = G := by
  funext a
  by_cases e : a = A
  · subst e; rw [cut_in (by simp)]; exact hA.symm
  · by_cases z : a ∈ ps
    · rw [cut_in (by simp [z])]; exact (hp a z).symm
    · rw [cut_out (by simp [z, e])]
      unfold lcH
      rw [mrg_out z, upd_ne e]
theorem lcH_mrg (nA : A ∉ ps) : mrg (lcH Hf ps A as G) (A :: ps) G' = lcH Hf ps A as G' := by
  funext a
  by_cases e : a = A
  · subst e
    rw [mrg_in (by simp)]
    unfold lcH
    rw [mrg_out nA, mrg_out nA, upd_same, upd_same]
  · by_cases z : a ∈ ps
    · rw [mrg_in (by simp [z])]
      unfold lcH
      rw [mrg_in z, mrg_in z]
    · rw [mrg_out (by simp [z, e])]
      unfold lcH
      rw [mrg_out z, upd_ne e]
theorem lcH_at (nA : A ∉ ps) : lcH Hf ps A as G A = some (.lst as) := by
  unfold lcH
  rw [mrg_out nA, upd_same]
theorem lcH_upd (nA : A ∉ ps) {bs : List V} : upd (lcH Hf ps A as G) A (.lst bs) = lcH Hf ps A bs G := by
  funext a
  by_cases e : a = A
  · subst e; rw [upd_same, lcH_at nA]
  · rw [upd_ne e]
    unfold lcH
    by_cases z : a ∈ ps
    · rw [mrg_in z, mrg_in z]
    · rw [mrg_out z, mrg_out z, upd_ne e, upd_ne e]
theorem lcH_own (nA : A ∉ ps) (hp : ∀ a ∈ ps, OwnAt Hf ps a) : ∀ a ∈ A :: ps, OwnAt (lcH Hf ps A as G) (A :: ps) a := fun a ha => by
  have same : ∀ b ∈ ps, lcH Hf ps A as G b = Hf b := fun b hb => mrg_in hb
  rcases List.mem_cons.mp ha with rfl | z
  · exact .inl ⟨as, lcH_at nA⟩
  · rcases hp a z with ⟨xs, e⟩ | ⟨k, e⟩ | ⟨C, dx, fs, e, m⟩ | ⟨x, C, fs, e, m, e2⟩
    · exact .inl ⟨xs, by rw [same a z]; exact e⟩
    · exact .inr (.inl ⟨k, by rw [same a z]; exact e⟩)
    · exact .inr (.inr (.inl ⟨C, dx, fs, by rw [same a z]; exact e, List.mem_cons_of_mem _ m⟩))
    · exact .inr (.inr (.inr ⟨x, C, fs, by rw [same a z]; exact e, List.mem_cons_of_mem _ m, by rw [same x m]; exact e2⟩))
theorem lcH_ex (hA : G A = none) (hp : ∀ a ∈ ps, G a = none) : Ex G (lcH Hf ps A as G) := fun b u q => by
  unfold lcH
  rw [mrg_out (fun z => by rw [hp b z] at q; cases q), upd_ne (ne_of_none q hA)]
  exact q
theorem lcH_start : lcH Hf ps A [] (cut Hf ps) = upd Hf A (.lst []) ∨ A ∈ ps := by
  by_cases nA : A ∈ ps
  · exact .inr nA
  · refine .inl ?_
    funext a
    unfold lcH
    by_cases z : a ∈ ps
    · have e : a ≠ A := fun e => nA (e ▸ z)
      rw [mrg_in z, upd_ne e]
    · rw [mrg_out z]
      by_cases e : a = A
      · subst e; rw [upd_same, upd_same]
      · rw [upd_ne e, upd_ne e, cut_out z]
end
theorem RelS.set {K : PySem.W.Frag} {σ : L2.St} {G : Hp} {δ : List S} {v : V} {d : D} {i : Nat} (R : RelS K H0 σ G δ) (h : Is K G v d) : RelS K H0 (σ.set i (some v)) G (δ.set i (.sh d)) := by
  refine ⟨R.ex, by simp [R.len], fun j d' hj => ?_⟩
  rw [List.getElem?_set] at hj ⊢
  by_cases e : i = j
  · rw [if_pos e] at hj ⊢
    split at hj
    · rename_i hl
      cases hj
      rw [if_pos (by rw [R.len]; exact hl)]
      exact ⟨v, rfl, h⟩
    · cases hj
  · rw [if_neg e] at hj ⊢
    exact R.sh j d' hj
theorem lc_sem {te : TE} {tt : TT} {wv n : Nat} {J : It} {item : Nat → D} {P : Nat → List D → Prop} {σ : L2.St} {Hf : Hp} {ps : List Addr} {δ : List S} {Q : VK} (fe : FrE te) (ft : FrT tt) (hps : ∀ a ∈ ps, OwnAt Hf ps a) (R1 : RelS X.K H0 σ (cut Hf ps) δ)
    (hJ : ∀ i H, Ex (cut Hf ps) H → (i < n → J.go i H ∧ ∀ x H', J.yld i H x H' → H' = H ∧ Is X.K (cut Hf ps) x (item i)) ∧ (n ≤ i → J.stop i H)) (hP : P 0 [])
    (turn : ∀ i es, i < n → P i es → ∀ G σ', Ex (cut Hf ps) G → RelS X.K H0 σ' G (δ.set wv (.sh (item i))) → tt σ' G fun b G' => Ex G G' ∧ (b = true → te σ' G' fun y G'' => Ex G' G'' ∧ ∃ e, Is X.K G'' y e ∧ es.length < 100000 ∧ P (i + 1) (es ++ [e])) ∧ (b = false → P (i + 1) es))
    (done : ∀ A G as es, NewIs X.K (cut Hf ps) (.ref A) (upd G A (.lst as)) (.lst es) → (∀ a ∈ ps, upd G A (.lst as) a = none) → P n es → Q (.ref A) (lcH Hf ps A as G)) : ∀ A, Hf A = none → ∃ W : Nat → Nat → Hp → Prop, (∃ m, W 0 m (upd Hf A (.lst []))) ∧ ∀ i m H, W i m H →
      (J.stop i H ∧ Q (.ref A) H) ∨ (J.go i H ∧ ∃ Nx : Hp → Prop, (∀ H', Nx H' → ∃ m', m' < m ∧ W (i + 1) m' H') ∧ ∀ x H', J.yld i H x H' → gName wv x (wipe σ [wv]) H' fun σ2 H2 => wipe σ2 [wv] = wipe σ [wv] ∧ tt σ2 H2 fun b H3 =>
        if b = true then te σ2 H3 fun y H4 => ∃ acc, H4 A = some (.lst acc) ∧ acc.length < sizeLine ∧ Nx (upd H4 A (.lst (acc ++ [y]))) else Nx H3) := fun A hA => by
  have nA : A ∉ ps := fun z => by
    obtain ⟨u, hu⟩ := (hps A z).some
    rw [hA] at hu; cases hu
  refine ⟨fun i m H => m = n - i ∧ i ≤ n ∧ ∃ (G : Hp) (as : List V) (es : List D), H = lcH Hf ps A as G ∧ (G A = none ∧ ∀ a ∈ ps, G a = none) ∧ Ex (cut Hf ps) G ∧ IsL X.K G as es ∧ P i es, ⟨n, by simp, Nat.zero_le _, cut Hf ps, [], [], ((lcH_start (Hf := Hf)).resolve_right nA).symm, ⟨by rw [cut_out nA]; exact hA, fun a ha => cut_in ha⟩, Same.refl _, .nil, hP⟩, ?_⟩
  rintro i m H ⟨rfl, hi, G, as, es, rfl, ⟨hG, hGp⟩, e1, il, p⟩
  obtain ⟨j1, j2⟩ := hJ i _ (e1.trans (lcH_ex (Hf := Hf) (as := as) hG hGp))
  by_cases hlt : i < n
  · obtain ⟨g1, g2⟩ := j1 hlt
    refine .inr ⟨g1, fun H' => ∃ (G : Hp) (as : List V) (es : List D), H' = lcH Hf ps A as G ∧ (G A = none ∧ ∀ a ∈ ps, G a = none) ∧ Ex (cut Hf ps) G ∧ IsL X.K G as es ∧ P (i + 1) es, fun H' h => ⟨n - (i + 1), by omega, rfl, hlt, h⟩, fun x H' y => ?_⟩
    obtain ⟨rfl, ix⟩ := g2 x H' y
    have w1 : (wipe σ [wv]).set wv (some x) = σ.set wv (some x) := by
      show (σ.set wv none).set wv (some x) = _
      rw [List.set_set]
    show wipe ((wipe σ [wv]).set wv (some x)) [wv] = wipe σ [wv] ∧ tt ((wipe σ [wv]).set wv (some x)) _ _
    rw [w1]
    refine ⟨by show (σ.set wv (some x)).set wv none = σ.set wv none; rw [List.set_set], ?_⟩
    have R2 : RelS X.K H0 (σ.set wv (some x)) G (δ.set wv (.sh (item i))) := RelS.set (R1.mono e1) (ix.mono e1)
    have t1 := turn i es hlt p G _ e1 R2
    rw [← lcH_cut (Hf := Hf) (as := as) nA hG hGp] at t1
    refine ft _ (lcH Hf ps A as G) (A :: ps) _ _ (lcH_own nA hps) t1 fun b G3 n3 ⟨e3, y3, z3⟩ => ?_
    rw [lcH_cut nA hG hGp] at e3
    rw [lcH_mrg nA]
    have nA3 := n3 A (by simp)
    have np3 : ∀ a ∈ ps, G3 a = none := fun a ha => n3 a (List.mem_cons_of_mem _ ha)
    cases b with
    | false => exact ⟨G3, as, es, rfl, ⟨nA3, np3⟩, e1.trans e3, il.mono e3, z3 rfl⟩
    | true =>
      have t3 := y3 rfl
      rw [← lcH_cut (Hf := Hf) (as := as) nA nA3 np3] at t3
      refine fe _ (lcH Hf ps A as G3) (A :: ps) _ _ (lcH_own nA hps) t3 fun y G4 n4 ⟨e4, d, id, hl, hp⟩ => ?_
      rw [lcH_cut nA nA3 np3] at e4
      rw [lcH_mrg nA]
      exact ⟨as, lcH_at nA, Nat.lt_of_lt_of_le (by rw [il.1]; exact hl) (by decide), G4, as ++ [y], es ++ [d], lcH_upd nA, ⟨n4 A (by simp), fun a ha => n4 a (List.mem_cons_of_mem _ ha)⟩, e1.trans (e3.trans e4), (il.mono (e3.trans e4)).snoc id, hp⟩
  · have e : i = n := by omega
    subst e
    refine .inl ⟨j2 (Nat.le_refl _), done A G as es ((NewIs.lst hG il).back e1) (fun a ha => ?_) p⟩
    rw [upd_ne (by intro e; subst e; exact nA ha)]
    exact hGp a ha
end
/-! ### the rules -/
theorem lcH_nil {Hf G : Hp} {A : Addr} {as : List V} : lcH Hf [] A as G = upd G A (.lst as) := by
  funext a
  exact mrg_out (by simp)
theorem jl {K : PySem.W.Frag} {G1 : Hp} {a : Addr} {xs : List V} {ds : List D} (hq : SqL K G1 a xs) (il : IsL K G1 xs ds) : ∀ i H, Ex G1 H → (i < ds.length → (Itl K a).go i H ∧ ∀ x H', (Itl K a).yld i H x H' → H' = H ∧ Is K G1 x (ds.getD i .non)) ∧ (ds.length ≤ i → (Itl K a).stop i H) := fun i H e => by
  have hq' : SqL K H a xs := Ex.sqL e hq
  refine ⟨fun hi => ⟨⟨xs, xs[i]'(by rw [il.1]; exact hi), hq', List.getElem?_eq_getElem _⟩, fun x H' ⟨e2, y⟩ => ⟨e2, ?_⟩⟩, fun hi => ⟨xs, hq', by rw [il.1]; exact hi⟩⟩
  rw [List.getD_eq_getElem?_getD, List.getElem?_eq_getElem hi]
  exact il.2 i x _ (y xs hq') (List.getElem?_eq_getElem hi)
theorem jt {K : PySem.W.Frag} {G1 : Hp} {a : Addr} {xs : List V} {ds : List D} (hq : SqT K G1 a xs) (il : IsL K G1 xs ds) : ∀ i H, Ex G1 H → (i < ds.length → (Itt K a).go i H ∧ ∀ x H', (Itt K a).yld i H x H' → H' = H ∧ Is K G1 x (ds.getD i .non)) ∧ (ds.length ≤ i → (Itt K a).stop i H) := fun i H e => by
  have hq' : SqT K H a xs := Ex.sqT e hq
  refine ⟨fun hi => ⟨⟨xs, xs[i]'(by rw [il.1]; exact hi), hq', List.getElem?_eq_getElem _⟩, fun x H' ⟨e2, y⟩ => ⟨e2, ?_⟩⟩, fun hi => ⟨xs, hq', by rw [il.1]; exact hi⟩⟩
  rw [List.getD_eq_getElem?_getD, List.getElem?_eq_getElem hi]
  exact il.2 i x _ (y xs hq') (List.getElem?_eq_getElem hi)
theorem jr {K : PySem.W.Frag} {G1 : Hp} {lo : Int} {n : Nat} : ∀ i H, Ex G1 H → (i < n → (Itr lo n).go i H ∧ ∀ x H', (Itr lo n).yld i H x H' → H' = H ∧ Is K G1 x (.int (lo + (i : Int)))) ∧ (n ≤ i → (Itr lo n).stop i H) := fun i H e =>
  ⟨fun hi => ⟨hi, fun x H' ⟨e1, e2⟩ => ⟨e1, by rw [e2]; exact .int _⟩⟩, fun hi => hi⟩
/-- results, one for each -/
def Each (R : D → D → Prop) (ds es : List D) : Prop := ds.length = es.length ∧ ∀ (i : Nat) d e, ds[i]? = some d → es[i]? = some e → R d e
theorem Each.map {g : D → D} : ∀ {ds es : List D}, Each (fun d e => e = g d) ds es → es = ds.map g
  | [], [], _ => rfl
  | [], _ :: _, h => by cases h.1
  | _ :: _, [], h => by cases h.1
  | d :: ds, e :: es, h => by
    rw [List.map_cons, ← Each.map (ds := ds) (es := es) ⟨Nat.succ.inj h.1, fun i d e a b => h.2 (i + 1) d e a b⟩, h.2 0 d e rfl rfl]
theorem Each.ints {f : Int → Int} {ns : List Int} {es : List D} (h : Each (fun d e => ∃ n, d = .int n ∧ e = .int (f n)) (ns.map .int) es) : es = (ns.map f).map .int := by
  have h2 : Each (fun d e => e = (match d with | .int n => .int (f n) | _ => .non)) (ns.map .int) es := ⟨h.1, fun i d e a b => by
    obtain ⟨n, rfl, rfl⟩ := h.2 i d e a b
    rfl⟩
  rw [h2.map, List.map_map, List.map_map]
  rfl
/-- results by place -/
def EachN (R : Nat → D → Prop) (n : Nat) (es : List D) : Prop := es.length = n ∧ ∀ (i : Nat) e, es[i]? = some e → R i e
theorem EachN.nil {R : Nat → D → Prop} : EachN R 0 [] := ⟨rfl, fun i e h => by cases h⟩
theorem EachN.snoc {R : Nat → D → Prop} {n : Nat} {es : List D} {e : D} (h : EachN R n es) (he : R n e) : EachN R (n + 1) (es ++ [e]) := by
  refine ⟨by rw [List.length_append, h.1]; rfl, fun i x hx => ?_⟩
  by_cases hi : i < es.length
  · rw [List.getElem?_append_left hi] at hx
    exact h.2 i x hx
  · rw [List.getElem?_append_right (by omega)] at hx
    have e0 : i - es.length = 0 := by
      cases q : i - es.length with
      | zero => rfl
      | succ m => rw [q] at hx; cases hx
    rw [e0] at hx
    cases hx
    have : i = n := by rw [← h.1]; omega
    rw [this]
    exact he
theorem EachN.map {f : Nat → D} {n : Nat} {es : List D} (h : EachN (fun i e => e = f i) n es) : es = (List.range n).map f := by
  refine List.ext_getElem? fun i => ?_
  by_cases hi : i < n
  · rw [List.getElem?_map, List.getElem?_range hi, List.getElem?_eq_getElem (by rw [h.1]; exact hi)]
    exact congrArg some (h.2 i _ (List.getElem?_eq_getElem _))
  · rw [List.getElem?_eq_none (by rw [h.1]; omega), List.getElem?_eq_none (by simp; omega)]
section
variable {X : Cx} {H0 : Hp} {δ : List S} {x : Str} {elt it c e : Expr} {sc : Scope} {pos p pr pc : Pos} {ko : Ow → Prop}
theorem pe_b {elt : Expr} : ∀ (s : Shared) (H : Hp) (C : Addr) (cl : List (Str × Addr)) (fp : List Addr), PE (X.blk s H sc (compEnvC sc cl C X.env) fp) elt (bE X sc elt) := fun s H C cl fp => ⟨fun pins s' σ H' Q I h => (h s H C cl fp).run pins s' I⟩
theorem pt_b {c : Expr} : ∀ (s : Shared) (H : Hp) (C : Addr) (cl : List (Str × Addr)) (fp : List Addr), PTs (X.blk s H sc (compEnvC sc cl C X.env) fp) [c] (bT X sc c) := fun s H C cl fp => pts_one ⟨fun pins s' σ H' Q I h => (h s H C cl fp).run pins s' I⟩
/-- what a turn without a test does -/
theorem turn_no {v n : Nat} {item : Nat → D} {R : Nat → D → Prop} {Hf : Hp} {ps : List Addr} (hl : n ≤ 100000) (h : ∀ i, i < n → BWe X sc H0 elt (δ.set v (.sh (item i))) (R i)) : ∀ i es, i < n → EachN R i es → ∀ G σ', Ex (cut Hf ps) G → RelS X.K H0 σ' G (δ.set v (.sh (item i))) → tYes σ' G fun b G' => Ex G G' ∧ (b = true → bE X sc elt σ' G' fun y G'' => Ex G' G'' ∧ ∃ e, Is X.K G'' y e ∧ es.length < 100000 ∧ EachN R (i + 1) (es ++ [e])) ∧ (b = false → EachN R (i + 1) es) := fun i es hi p G σ' _ R' =>
  ⟨Same.refl _, fun _ s h' C cl fp => (h i hi s h' C cl fp σ' G R').mono fun y G2 ⟨e2, d, id, hd⟩ => ⟨e2, d, id, by rw [p.1]; omega, p.snoc hd⟩, fun z => nomatch z⟩
theorem getD_lt {ds : List D} {i : Nat} (h : i < ds.length) : ds[i]? = some (ds.getD i .non) ∧ ds.getD i .non ∈ ds := by
  rw [List.getD_eq_getElem?_getD, List.getElem?_eq_getElem h]
  exact ⟨rfl, List.getElem_mem h⟩
theorem each_of {R : D → D → Prop} {ds es : List D} (h : EachN (fun i e => R (ds.getD i .non) e) ds.length es) : Each R ds es := ⟨h.1.symm, fun i d e a b => by
  have q : R (ds.getD i .non) e := h.2 i e b
  rw [List.getD_eq_getElem?_getD, a] at q
  exact q⟩
/-! ### what is gone through -/
def FrI (wi : TI) : Prop := ∀ (σ : L2.St) (H : Hp) (ps : List Addr) (R R' : It → Hp → Prop), (∀ a ∈ ps, OwnAt H ps a) → wi σ (cut H ps) R → (∀ J G, (∀ a ∈ ps, G a = none) → R J G → R' J (mrg H ps G)) → wi σ H R'
/-- J goes through n items, at any heap that is not less than G -/
def Goes (K : PySem.W.Frag) (J : It) (n : Nat) (item : Nat → D) (G : Hp) : Prop := ∀ i H, Ex G H → (i < n → J.go i H ∧ ∀ x H', J.yld i H x H' → H' = H ∧ Is K G x (item i)) ∧ (n ≤ i → J.stop i H)
def Wi (X : Cx) (H0 : Hp) (it : Expr) (δ : List S) (k : Nat → (Nat → D) → Prop) : Prop :=
  ∃ wi : TI, (∀ tg, PI X tg it wi) ∧ FrI wi ∧ ∀ σ G, RelS X.K H0 σ G δ → wi σ G fun J G1 => Ex G G1 ∧ ∃ n item, k n item ∧ Goes X.K J n item G1
theorem mrg_exG {H G : Hp} {ps : List Addr} (n : ∀ a ∈ ps, G a = none) : Ex G (mrg H ps G) := fun b u q => by
  rw [mrg_out fun z => by rw [n b z] at q; cases q]
  exact q
theorem wi_sq (l : Bool) {k : Nat → (Nat → D) → Prop} (h : We X H0 it δ (fun y => ∃ ds, y = .sq l ds ∧ k ds.length (fun i => ds.getD i .non))) : Wi X H0 it δ k := by
  cases l with
  | true =>
    refine ⟨_, fun tg => pi_list pe_sem, fun σ H ps R R' hp hw m => ?_, fun σ G R0 => (h σ G R0).mono fun y G1 ⟨e1, d, iv, ds, ed, q⟩ => ?_⟩
    · exact (semE.frame hp hw).mono fun v H' ⟨G, e, n, a, ea, ⟨xs, hq⟩, q⟩ => ⟨a, ea, ⟨xs, by rw [e]; exact Ex.sqL (mrg_exG n) hq⟩, by rw [e]; exact m _ G n q⟩
    · subst ed
      obtain ⟨a, xs, rfl, hq, il⟩ := iv.lst_inv
      exact ⟨a, rfl, ⟨xs, .inl hq⟩, e1, _, _, q, jl (.inl hq) il⟩
  | false =>
    refine ⟨_, fun tg => pi_tup pe_sem, fun σ H ps R R' hp hw m => ?_, fun σ G R0 => (h σ G R0).mono fun y G1 ⟨e1, d, iv, ds, ed, q⟩ => ?_⟩
    · exact (semE.frame hp hw).mono fun v H' ⟨G, e, n, a, ea, ⟨xs, hq⟩, q⟩ => ⟨a, ea, ⟨xs, by rw [e]; exact Ex.sqT (mrg_exG n) hq⟩, by rw [e]; exact m _ G n q⟩
    · subst ed
      obtain ⟨a, xs, rfl, hq, il⟩ := iv.tup_inv
      exact ⟨a, rfl, ⟨xs, hq⟩, e1, _, _, q, jt hq il⟩
theorem wi_rng (hm : X.mg "range" = none) {k : Nat → (Nat → D) → Prop} (h : Wa X H0 [e] δ (fun ds => A1 ds fun y => I1 y fun n => (-(2 ^ 62) ≤ n ∧ n < 2 ^ 62) ∧ k n.toNat (fun i => .int (i : Int))))
    (hgr : Gl X "range" := by rfl) (hs1 : notStar e = true := by rfl) : Wi X H0 (.Call (.Name "range" pr) [e] [] pc) δ k := by
  refine ⟨_, fun tg => pi_range1 hgr hm pa_sem (star_of hs1), fun σ H ps R R' hp hw m => ?_, fun σ G R0 => (h σ G R0).mono fun vs G1 ⟨e1, ds, is, y, ed, n, ey, bb, q⟩ => ?_⟩
  · exact (semA.frame hp hw).mono fun v H' ⟨G, e, n, j, ej, b1, b2, q⟩ => ⟨j, ej, b1, b2, by rw [e]; exact m _ G n q⟩
  · subst ed ey
    obtain ⟨w, rfl, iw⟩ := is.one
    cases iw
    have g : Goes X.K (Itr 0 n.toNat) n.toNat (fun i => .int (0 + (i : Int))) G1 := jr
    refine ⟨n, rfl, bb.1, bb.2, e1, _, _, q, ?_⟩
    have e0 : (fun i : Nat => D.int (0 + (i : Int))) = fun i : Nat => D.int (i : Int) := by funext i; rw [Int.zero_add]
    rw [← e0]
    exact g
theorem wi_rng2 {e2 : Expr} (hm : X.mg "range" = none) {k : Nat → (Nat → D) → Prop} (h : Wa X H0 [e, e2] δ (fun ds => A2 ds fun x y => I2 x y fun m n => (-(2 ^ 62) ≤ m ∧ m < 2 ^ 62 ∧ -(2 ^ 62) ≤ n ∧ n < 2 ^ 62) ∧ k (n - m).toNat (fun i => .int (m + (i : Int)))))
    (hgr : Gl X "range" := by rfl) (hs1 : notStar e = true := by rfl) (hs2 : notStar e2 = true := by rfl) : Wi X H0 (.Call (.Name "range" pr) [e, e2] [] pc) δ k := by
  refine ⟨_, fun tg => pi_range2 hgr hm pa_sem ((star_of hs1).trans (congrArg _ (star_of hs2))) (star_of hs2), fun σ H ps R R' hp hw m => ?_, fun σ G R0 => (h σ G R0).mono fun vs G1 ⟨e1, ds, is, x, y, ed, m, n, ex, ey, bb, q⟩ => ?_⟩
  · exact (semA.frame hp hw).mono fun v H' ⟨G, e, n, j, i, ej, b1, q⟩ => ⟨j, i, ej, b1, by rw [e]; exact m _ G n q⟩
  · subst ed ex ey
    obtain ⟨v, w, rfl, i, j⟩ := is.two
    cases i
    cases j
    exact ⟨m, n, rfl, bb, e1, _, _, q, jr⟩
/-! ### the comprehension -/
/-- what its turns do -/
def LC (X : Cx) (sc : Scope) (H0 : Hp) (elt : Expr) (δ : List S) (v : Nat) (ko : List D → Prop) (n : Nat) (item : Nat → D) : Prop := ∃ R : Nat → D → Prop, n ≤ 100000 ∧ (∀ i, i < n → BWe X sc H0 elt (δ.set v (.sh (item i))) (R i)) ∧ ∀ es, EachN R n es → ko es
theorem lcS {v : Nat} {ko : List D → Prop} {ds : List D} (R : D → D → Prop) (hl : ds.length ≤ 100000) (h : ∀ d ∈ ds, BWe X sc H0 elt (δ.set v (.sh d)) (R d)) (q : ∀ es, Each R ds es → ko es) : LC X sc H0 elt δ v ko ds.length (fun i => ds.getD i .non) :=
  ⟨fun i e => R (ds.getD i .non) e, hl, fun i hi => h _ (getD_lt hi).2, fun es p => q es (each_of p)⟩
theorem lcM {v : Nat} {ko : List D → Prop} {ds : List D} (g : D → D) (hl : ds.length ≤ 100000) (h : ∀ d ∈ ds, BWe X sc H0 elt (δ.set v (.sh d)) (fun e => e = g d)) (q : ko (ds.map g)) : LC X sc H0 elt δ v ko ds.length (fun i => ds.getD i .non) :=
  lcS (fun d e => e = g d) hl h fun es p => by rw [p.map]; exact q
/-- over ints, made of each -/
theorem lcI {v : Nat} {ko : List D → Prop} {ns : List Int} (g : Int → D) (hl : ns.length ≤ 100000) (h : ∀ n ∈ ns, BWe X sc H0 elt (δ.set v (.sh (.int n))) (fun e => e = g n)) (q : ko (ns.map g)) : LC X sc H0 elt δ v ko (ns.map D.int).length (fun i => (ns.map D.int).getD i .non) :=
  lcM (fun d => match d with | .int n => g n | _ => .non) (by rw [List.length_map]; exact hl) (fun d hd => by
    obtain ⟨n, hn, rfl⟩ := List.mem_map.mp hd
    exact h n hn) (by rw [List.map_map]; exact q)
theorem lcR {v n : Nat} {ko : List D → Prop} (R : Nat → D → Prop) (hl : n ≤ 100000) (h : ∀ i, i < n → BWe X sc H0 elt (δ.set v (.sh (.int (i : Int)))) (R i)) (q : ∀ es, EachN R n es → ko es) : LC X sc H0 elt δ v ko n (fun i => .int (i : Int)) := ⟨R, hl, h, q⟩
theorem lcRM {v n : Nat} {ko : List D → Prop} (g : Nat → D) (hl : n ≤ 100000) (h : ∀ i, i < n → BWe X sc H0 elt (δ.set v (.sh (.int (i : Int)))) (fun e => e = g i)) (q : ko ((List.range n).map g)) : LC X sc H0 elt δ v ko n (fun i => .int (i : Int)) :=
  ⟨_, hl, h, fun es p => by rw [EachN.map p]; exact q⟩
/-- with a test -/
def LCF (X : Cx) (sc : Scope) (H0 : Hp) (c elt : Expr) (δ : List S) (v : Nat) (ko : List D → Prop) (n : Nat) (item : Nat → D) : Prop := ∃ (t : D → Bool) (g : D → D), n ≤ 100000 ∧ (∀ i, i < n → BWt X sc H0 c (δ.set v (.sh (item i))) (fun b => b = t (item i) ∧ (b = true → BWe X sc H0 elt (δ.set v (.sh (item i))) (fun e => e = g (item i))))) ∧ ko ((((List.range n).map item).filter t).map g)
theorem range_getD (ds : List D) : (List.range ds.length).map (fun i => ds.getD i .non) = ds := by
  refine List.ext_getElem? fun i => ?_
  by_cases hi : i < ds.length
  · rw [List.getElem?_map, List.getElem?_range hi, (getD_lt hi).1]; rfl
  · rw [List.getElem?_eq_none (by simp; omega), List.getElem?_eq_none (by omega)]
theorem lcf {v : Nat} {ko : List D → Prop} {ds : List D} (t : D → Bool) (g : D → D) (hl : ds.length ≤ 100000) (h : ∀ d ∈ ds, BWt X sc H0 c (δ.set v (.sh d)) (fun b => b = t d ∧ (b = true → BWe X sc H0 elt (δ.set v (.sh d)) (fun e => e = g d)))) (q : ko ((ds.filter t).map g)) : LCF X sc H0 c elt δ v ko ds.length (fun i => ds.getD i .non) :=
  ⟨t, g, hl, fun i hi => h _ (getD_lt hi).2, by rw [range_getD]; exact q⟩
theorem turn_f {v n : Nat} {item : Nat → D} {t : D → Bool} {g : D → D} {Hf : Hp} {ps : List Addr} (hl : n ≤ 100000) (h : ∀ i, i < n → BWt X sc H0 c (δ.set v (.sh (item i))) (fun b => b = t (item i) ∧ (b = true → BWe X sc H0 elt (δ.set v (.sh (item i))) (fun e => e = g (item i))))) : ∀ i es, i < n → es = (((List.range i).map item).filter t).map g → ∀ G σ', Ex (cut Hf ps) G → RelS X.K H0 σ' G (δ.set v (.sh (item i))) →
    bT X sc c σ' G fun b G' => Ex G G' ∧ (b = true → bE X sc elt σ' G' fun y G'' => Ex G' G'' ∧ ∃ e, Is X.K G'' y e ∧ es.length < 100000 ∧ es ++ [e] = (((List.range (i + 1)).map item).filter t).map g) ∧ (b = false → es = (((List.range (i + 1)).map item).filter t).map g) := fun i es hi p G σ' _ R' s h' C cl fp => (h i hi s h' C cl fp σ' G R').mono fun b G1 ⟨e1, eb, q⟩ => by
  have step : (((List.range (i + 1)).map item).filter t).map g = es ++ (if t (item i) then [g (item i)] else []) := by
    rw [List.range_succ, List.map_append, List.filter_append, List.map_append, ← p]
    congr 1
    show ((List.filter t [item i]).map g) = _
    rw [List.filter_cons]
    split <;> rfl
  have hlen : es.length < 100000 := by
    have l1 := List.length_filter_le t ((List.range i).map item)
    rw [p, List.length_map]
    simp only [List.length_map, List.length_range] at l1
    omega
  refine ⟨e1, fun hb s2 h2 C2 cl2 fp2 => ?_, fun hb => ?_⟩
  · refine (q hb s2 h2 C2 cl2 fp2 σ' G1 (R'.mono e1)).mono fun y G2 ⟨e2, d, id, hd⟩ => ⟨e2, d, id, hlen, ?_⟩
    rw [step, ← eb, hb, hd, if_pos rfl]
  · rw [step, ← eb, hb, if_neg Bool.false_ne_true, List.append_nil]
/-- the block's scope fits -/
def blkB (N : List Str) (s1 s2 : Scope) (x : Str) (v : Nat) : Bool := decide (s2.kind = .function) && (s2.names.all (fun y => decide (s2.names.lookup y.1 = some y.2)) && (decide (N[v]? = some x) && (s2.names.all (fun y => decide (y.2 ≠ .free) || (decide (s1.names.lookup y.1 = some .cell) || decide (s1.names.lookup y.1 = some .free))) && s2.names.all (fun y => (decide (y.2 ≠ .local) && decide (y.2 ≠ .cell)) || (decide (y.1 = x) || decide (y.1 ∉ N))))))
theorem blkB_ok {N : List Str} {s1 s2 : Scope} {x : Str} {v : Nat} (h : blkB N s1 s2 x v = true) : BlkOk N s1 s2 [(x, v)] := by
  simp only [blkB, Bool.and_eq_true, List.all_eq_true, decide_eq_true_eq, Bool.or_eq_true] at h
  obtain ⟨h1, h2, h3, h4, h5⟩ := h
  refine ⟨h1, fun y hy => h2 y hy, fun p hp => ?_, fun y hy e => ?_, fun y hy e => ?_⟩
  · obtain rfl : p = (x, v) := by simpa using hp
    exact h3
  · rcases h4 y hy with z | z
    · exact absurd e z
    · exact z
  · rcases h5 y hy with ⟨z1, z2⟩ | z | z
    · rcases e with e | e
      · exact absurd e z1
      · exact absurd e z2
    · exact .inl (by simp [z])
    · exact .inr z
theorem fri_mono {wi : TI} (f : FrI wi) {σ : L2.St} {H : Hp} {R R' : It → Hp → Prop} (h : wi σ H R) (m : ∀ J G, R J G → R' J G) : wi σ H R' := f σ H [] R R' (fun a ha => by cases ha) (by rw [cut_nil]; exact h) fun J G _ q => by
  have e : mrg H [] G = G := by funext a; exact mrg_out (by simp)
  rw [e]
  exact m J G q
abbrev PGB (X : Cx) (sc : Scope) (x : Str) (p : Pos) (v : Nat) : Prop := ∀ (s : Shared) (H : Hp) (C : Addr) (cl : List (Str × Addr)) (fp : List Addr), PG (X.blk s H sc (compEnvC sc cl C X.env) fp) (.Name x p) (gName v)
theorem pgb {v : Nat} (hN : X.N.Nodup) (hi : X.N[v]? = some x) (hl : ∀ cl C, (compEnvC sc cl C X.env).scope.names.lookup x = some .local) : PGB X sc x p v := fun s H C cl fp => pg_name hN hi (.inl (hl cl C)) (.inr (hl cl C))
theorem wo_lc (v : Nat) (hN : X.N.Nodup) (h : Wi X H0 it δ (LC X sc H0 elt δ v fun es => ko (.lst es))) (hc : X.calm = true := by rfl) (ok : blkB X.N X.env.scope sc x v = true := by kernel_rfl) (hi : X.N[v]? = some x := by rfl) (hl : ∀ cl C, (compEnvC sc cl C X.env).scope.names.lookup x = some .local := by intro _ _; rfl)
    (hs : ∀ x, foldedSetIterable it X.env x = pure x := by intro _; rfl) : Wo X H0 (.ListComp elt [⟨.Name x p, it, [], 0⟩] sc pos) δ ko := fun σ G R0 => by
  obtain ⟨wi, hpi, fri, hw⟩ := h
  refine toE (pe_lc hc hN (hpi _) (blkB_ok ok) (pgb hN hi hl) (fun _ _ _ _ _ => pts_nil) pe_b hs) (fri_mono fri (hw σ G R0) fun J G1 ⟨e1, n, item, ⟨R, hl, hw, q⟩, g⟩ => ?_)
  refine lc_sem (X := X) (H0 := H0) (ps := []) (n := n) (wv := v) (item := item) (P := EachN R) (Q := fun v' G' => ∃ o, NewIs X.K G v' G' o ∧ ko o) fr_bE fr_yes (fun a ha => by cases ha) (by rw [cut_nil]; exact R0.mono e1) (by rw [cut_nil]; exact g) EachN.nil (turn_no hl hw) fun A G' as es N _ p => ?_
  rw [lcH_nil]
  rw [cut_nil] at N
  exact ⟨_, N.back e1, q es p⟩
theorem wo_lcf (v : Nat) (hN : X.N.Nodup) (h : Wi X H0 it δ (LCF X sc H0 c elt δ v fun es => ko (.lst es))) (hc : X.calm = true := by rfl) (ok : blkB X.N X.env.scope sc x v = true := by kernel_rfl) (hi : X.N[v]? = some x := by rfl) (hl : ∀ cl C, (compEnvC sc cl C X.env).scope.names.lookup x = some .local := by intro _ _; rfl)
    (hs : ∀ x, foldedSetIterable it X.env x = pure x := by intro _; rfl) : Wo X H0 (.ListComp elt [⟨.Name x p, it, [c], 0⟩] sc pos) δ ko := fun σ G R0 => by
  obtain ⟨wi, hpi, fri, hw⟩ := h
  refine toE (pe_lc hc hN (hpi _) (blkB_ok ok) (pgb hN hi hl) pt_b pe_b hs) (fri_mono fri (hw σ G R0) fun J G1 ⟨e1, n, item, ⟨t, g2, hl, hw, q⟩, g⟩ => ?_)
  refine lc_sem (X := X) (H0 := H0) (ps := []) (n := n) (wv := v) (item := item) (P := fun i es => es = (((List.range i).map item).filter t).map g2) (Q := fun v' G' => ∃ o, NewIs X.K G v' G' o ∧ ko o) fr_bE fr_bT (fun a ha => by cases ha) (by rw [cut_nil]; exact R0.mono e1) (by rw [cut_nil]; exact g) rfl (turn_f hl hw) fun A G' as es N _ p => ?_
  rw [lcH_nil]
  rw [cut_nil] at N
  exact ⟨_, N.back e1, by rw [p]; exact q⟩
/-! ### y = [..] on one line -/
theorem Vw.borAt : ∀ {δ : List S} {i : Nat} {o : Ow}, δ[i]? = some (.ow o) → Vw δ (δ.set i (.sh o.d))
  | [], _, _, h => by cases h
  | s :: r, 0, o, h => by cases h; exact .bor (Vw.refl r)
  | s :: r, i + 1, o, h => .keep (Vw.borAt (i := i) h)
theorem set_lc {te : TE} {tt : TT} {wi : TI} {i v : Nat} {P : Nat → (Nat → D) → Nat → List D → Prop} {k : Nat → (Nat → D) → Prop} {B H : Hp} {σ : L2.St} {own : List (List Addr)} {E : En} (fe : FrE te) (ft : FrT tt) (fri : FrI wi) (hB : Ex H0 B) (R : Rel X.K B σ H δ own)
    (hw : ∀ σ G, RelS X.K H0 σ G δ → wi σ G fun J G1 => Ex G G1 ∧ ∃ n item, k n item ∧ Goes X.K J n item G1) (hP : ∀ n item, k n item → P n item 0 [])
    (turn : ∀ n item (Hf : Hp) (ps : List Addr), k n item → ∀ i es, i < n → P n item i es → ∀ G σ', Ex (cut Hf ps) G → RelS X.K H0 σ' G (δ.set v (.sh (item i))) → tt σ' G fun b G' => Ex G G' ∧ (b = true → te σ' G' fun y G'' => Ex G' G'' ∧ ∃ e, Is X.K G'' y e ∧ es.length < 100000 ∧ P n item (i + 1) (es ++ [e])) ∧ (b = false → P n item (i + 1) es))
    (done : ∀ n item es, k n item → P n item n es → E.nx (δ.set i (.ow (.lst es)))) : tLc wi (gName v) tt te [v] σ H (fun x H1 => gName i x σ H1 (toEnds X.K B E).nx) := by
  refine fri σ H own.flatten _ _ R.owned (hw σ _ (R.toS.weak hB)) fun J G1 n1 ⟨e1, n, item, kk, g⟩ => ?_
  have R1 : Rel X.K B σ (mrg H own.flatten G1) δ own := R.step e1 n1
  have ec : cut (mrg H own.flatten G1) own.flatten = G1 := by
    funext a
    by_cases z : a ∈ own.flatten
    · rw [cut_in z, n1 a z]
    · rw [cut_out z, mrg_out z]
  refine lc_sem (X := X) (H0 := H0) (δ := δ) (ps := own.flatten) (n := n) (wv := v) (item := item) (P := P n item) (Q := fun x H1 => gName i x σ H1 (toEnds X.K B E).nx) fe ft R1.owned (R1.toS.weak hB) (by rw [ec]; exact g) (hP n item kk) (turn n item _ _ kk) fun A G as es N np p => ?_
  obtain ⟨l, hl, fr, ee, nd⟩ := N
  exact ⟨_, _, R1.setOw ee np nd hl, done n item es kk p⟩
theorem ws_setLcO (i v : Nat) {y : Str} {py spos : Pos} {E : En} (hN : X.N.Nodup) (h : Wi X H0 it δ (LC X sc H0 elt δ v fun es => E.nx (δ.set i (.ow (.lst es))))) (hc : X.calm = true := by rfl) (ok : blkB X.N X.env.scope sc x v = true := by kernel_rfl) (hi : X.N[v]? = some x := by rfl) (hl : ∀ cl C, (compEnvC sc cl C X.env).scope.names.lookup x = some .local := by intro _ _; rfl)
    (hy : X.N[i]? = some y := by rfl) (hyl : X.env.scope.names.lookup y = some .local := by rfl) (hsw : swapsWith (.ListComp elt [⟨.Name x p, it, [], 0⟩] sc pos) (some (.Name y py)) spos.line X.env = pure true := by rfl) (hs : ∀ x, foldedSetIterable it X.env x = pure x := by intro _; rfl) :
    Ws X H0 (.Assign [.Name y py] (.ListComp elt [⟨.Name x p, it, [], 0⟩] sc pos) spos) δ E := fun B σ H own hB R => by
  obtain ⟨wi, hpi, fri, hw⟩ := h
  refine toS (ps_setLc hc hN hy hyl hsw (hpi _) (blkB_ok ok) (pgb hN hi hl) (fun _ _ _ _ _ => pts_nil) pe_b hs) ?_
  exact set_lc (P := fun n item j es => ∃ R : Nat → D → Prop, n ≤ 100000 ∧ (∀ i, i < n → BWe X sc H0 elt (δ.set v (.sh (item i))) (R i)) ∧ (∀ es, EachN R n es → E.nx (δ.set i (.ow (.lst es)))) ∧ EachN R j es) fr_bE fr_yes fri hB R hw (fun n item ⟨R, a, b, c⟩ => ⟨R, a, b, c, EachN.nil⟩)
    (fun n item Hf ps _ i es hi ⟨R, a, b, c, q⟩ G σ' e R' => ⟨Same.refl _, fun _ s h' C cl fp => (b i hi s h' C cl fp σ' G R').mono fun y G2 ⟨e2, d, id, hd⟩ => ⟨e2, d, id, by rw [q.1]; omega, R, a, b, c, q.snoc hd⟩, fun z => nomatch z⟩) fun n item es _ ⟨R, a, b, c, q⟩ => c es q
theorem ws_setLcfO (i v : Nat) {y : Str} {py spos : Pos} {E : En} (hN : X.N.Nodup) (h : Wi X H0 it δ (LCF X sc H0 c elt δ v fun es => E.nx (δ.set i (.ow (.lst es))))) (hc : X.calm = true := by rfl) (ok : blkB X.N X.env.scope sc x v = true := by kernel_rfl) (hi : X.N[v]? = some x := by rfl) (hl : ∀ cl C, (compEnvC sc cl C X.env).scope.names.lookup x = some .local := by intro _ _; rfl)
    (hy : X.N[i]? = some y := by rfl) (hyl : X.env.scope.names.lookup y = some .local := by rfl) (hsw : swapsWith (.ListComp elt [⟨.Name x p, it, [c], 0⟩] sc pos) (some (.Name y py)) spos.line X.env = pure true := by rfl) (hs : ∀ x, foldedSetIterable it X.env x = pure x := by intro _; rfl) :
    Ws X H0 (.Assign [.Name y py] (.ListComp elt [⟨.Name x p, it, [c], 0⟩] sc pos) spos) δ E := fun B σ H own hB R => by
  obtain ⟨wi, hpi, fri, hw⟩ := h
  refine toS (ps_setLc hc hN hy hyl hsw (hpi _) (blkB_ok ok) (pgb hN hi hl) pt_b pe_b hs) ?_
  exact set_lc (P := fun n item j es => ∃ (t : D → Bool) (g : D → D), n ≤ 100000 ∧ (∀ i, i < n → BWt X sc H0 c (δ.set v (.sh (item i))) (fun b => b = t (item i) ∧ (b = true → BWe X sc H0 elt (δ.set v (.sh (item i))) (fun e => e = g (item i))))) ∧ E.nx (δ.set i (.ow (.lst ((((List.range n).map item).filter t).map g)))) ∧ es = (((List.range j).map item).filter t).map g) fr_bE fr_bT fri hB R hw (fun n item ⟨t, g, a, b, c⟩ => ⟨t, g, a, b, c, rfl⟩)
    (fun n item Hf ps _ i es hi ⟨t, g, a, b, c, q⟩ G σ' e R' s h' C cl fp => (turn_f (Hf := Hf) (ps := ps) a b i es hi q G σ' e R' s h' C cl fp).mono fun bb G1 ⟨e1, y1, z1⟩ => ⟨e1, fun hb s2 h2 C2 cl2 fp2 => (y1 hb s2 h2 C2 cl2 fp2).mono fun y G2 ⟨e2, d, id, hd, he⟩ => ⟨e2, d, id, hd, t, g, a, b, c, he⟩, fun hb => ⟨t, g, a, b, c, z1 hb⟩⟩) fun n item es _ ⟨t, g, a, b, c, q⟩ => by rw [q]; exact c
/-- a view behind a statement -/
theorem ws_post {st : Stmt} {E : En} (h : Ws X H0 st δ { E with nx := fun δ' => ∃ δ'', Vw δ' δ'' ∧ E.nx δ'' }) : Ws X H0 st δ E := fun B σ H own hB R =>
  semS.mono (h B σ H own hB R) (fun σ H ⟨δ', own, R, δ'', v, q⟩ => ⟨δ'', _, (R.view v).1, q⟩) (fun _ _ q => q) (fun _ _ q => q) (fun _ _ q => q)
theorem vw_set {i : Nat} {o : Ow} : Vw (δ.set i (.ow o)) (δ.set i (.sh o.d)) := by
  by_cases hi : i < δ.length
  · have h := Vw.borAt (δ := δ.set i (.ow o)) (i := i) (o := o) (by rw [List.getElem?_set_self hi])
    rw [List.set_set] at h
    exact h
  · rw [List.set_eq_of_length_le (by omega), List.set_eq_of_length_le (by omega)]
    exact Vw.refl _
theorem Wi.mono {k k' : Nat → (Nat → D) → Prop} (h : Wi X H0 it δ k) (m : ∀ n item, k n item → k' n item) : Wi X H0 it δ k' := by
  obtain ⟨wi, a, b, hw⟩ := h
  exact ⟨wi, a, b, fun σ G R => fri_mono b (hw σ G R) fun J G1 ⟨e1, n, item, q, g⟩ => ⟨e1, n, item, m _ _ q, g⟩⟩
/-- the new list read from now on, not written -/
theorem ws_setLc (i v : Nat) {y : Str} {py spos : Pos} {E : En} (hN : X.N.Nodup) (h : Wi X H0 it δ (LC X sc H0 elt δ v fun es => E.nx (δ.set i (.sh (.sq true es))))) (hc : X.calm = true := by rfl) (ok : blkB X.N X.env.scope sc x v = true := by kernel_rfl) (hi : X.N[v]? = some x := by rfl) (hl : ∀ cl C, (compEnvC sc cl C X.env).scope.names.lookup x = some .local := by intro _ _; rfl)
    (hy : X.N[i]? = some y := by rfl) (hyl : X.env.scope.names.lookup y = some .local := by rfl) (hsw : swapsWith (.ListComp elt [⟨.Name x p, it, [], 0⟩] sc pos) (some (.Name y py)) spos.line X.env = pure true := by rfl) (hs : ∀ x, foldedSetIterable it X.env x = pure x := by intro _; rfl) :
    Ws X H0 (.Assign [.Name y py] (.ListComp elt [⟨.Name x p, it, [], 0⟩] sc pos) spos) δ E :=
  ws_post (ws_setLcO i v hN (h.mono fun n item ⟨R, a, b, c⟩ => ⟨R, a, b, fun es p => ⟨_, vw_set, c es p⟩⟩) hc ok hi hl hy hyl hsw hs)
theorem ws_setLcf (i v : Nat) {y : Str} {py spos : Pos} {E : En} (hN : X.N.Nodup) (h : Wi X H0 it δ (LCF X sc H0 c elt δ v fun es => E.nx (δ.set i (.sh (.sq true es))))) (hc : X.calm = true := by rfl) (ok : blkB X.N X.env.scope sc x v = true := by kernel_rfl) (hi : X.N[v]? = some x := by rfl) (hl : ∀ cl C, (compEnvC sc cl C X.env).scope.names.lookup x = some .local := by intro _ _; rfl)
    (hy : X.N[i]? = some y := by rfl) (hyl : X.env.scope.names.lookup y = some .local := by rfl) (hsw : swapsWith (.ListComp elt [⟨.Name x p, it, [c], 0⟩] sc pos) (some (.Name y py)) spos.line X.env = pure true := by rfl) (hs : ∀ x, foldedSetIterable it X.env x = pure x := by intro _; rfl) :
    Ws X H0 (.Assign [.Name y py] (.ListComp elt [⟨.Name x p, it, [c], 0⟩] sc pos) spos) δ E :=
  ws_post (ws_setLcfO i v hN (h.mono fun n item ⟨t, g, a, b, c⟩ => ⟨t, g, a, b, _, vw_set, c⟩) hc ok hi hl hy hyl hsw hs)
end

end DL
set_option Elab.async false
set_option linter.all false
set_option maxRecDepth 100000
set_option maxHeartbeats 2000000
set_option exponentiation.threshold 50000
/-! Part k: lcm, sum, max and min of two. -/
namespace DL
open PySem PySem.Spec PyProof.Rows L2
section
variable {X : Cx} {H0 : Hp} {δ : List S} {e e2 : Expr} {es : List Expr} {k : D → Prop} {pos p : Pos}
theorem log_le {n m : Nat} (h : n < 2 ^ m) (hm : 0 < m) : n.log2 < m := PySem.Flt.log2_lt_of hm (Nat.lt_of_lt_of_le h (Nat.pow_le_pow_right (by decide) (Nat.le_refl _)))
theorem cr_lcm : CallR X (.builtin "math.lcm") (fun vs H Q => ∃ a b : Int, vs = [.int a, .int b] ∧ a.natAbs < 2 ^ 13000 ∧ b.natAbs < 2 ^ 13000 ∧ Q (.int ((Nat.lcm a.natAbs b.natAbs : Nat) : Int)) H) := by
  intro pins s σ H vs us Q I r h
  obtain ⟨a, b, rfl, ha, hb, q⟩ := h
  obtain ⟨t, u, rfl⟩ := Vals.int2 r
  have e1 : Nat.lcm 1 a.natAbs = a.natAbs := Nat.lcm_one_left _
  have l1 : (max 1 a.natAbs).log2 < 13000 := log_le (by have : 1 < 2 ^ 13000 := Nat.one_lt_two_pow (by decide); omega) (by decide)
  have l2 : (max a.natAbs b.natAbs).log2 < 13000 := log_le (by omega) (by decide)
  have l3 : (a.natAbs.lcm b.natAbs).log2 < 26000 := by
    refine log_le ?_ (by decide)
    by_cases z : a.natAbs = 0 ∨ b.natAbs = 0
    · have : a.natAbs.lcm b.natAbs = 0 := by rcases z with z | z <;> rw [z] <;> simp [Nat.lcm]
      rw [this]; exact Nat.pow_pos (by decide)
    · have h1 : a.natAbs.lcm b.natAbs ≤ a.natAbs * b.natAbs := Nat.le_of_dvd (Nat.mul_pos (by omega) (by omega)) (Nat.lcm_dvd (Nat.dvd_mul_right _ _) (Nat.dvd_mul_left _ _))
      have h2 : a.natAbs * b.natAbs < 2 ^ 13000 * 2 ^ 13000 := Nat.mul_lt_mul'' ha hb
      rw [← Nat.pow_add] at h2
      exact Nat.lt_of_le_of_lt h1 h2
  have g := PySem.W.mg_run_lcm a t b u (by omega) (by omega) (by rw [e1]; exact Nat.lt_of_lt_of_le l3 (by decide))
  rw [e1] at g
  exact call_function_meets PySem.W.MGF.kind_lcm PySem.W.MGF.plain_lcm PySem.W.MGF.entry_lcm (PySem.W.MGF.args_lcm _ _) g.meets ⟨.int _, H, I.tok _, ⟨_, rfl⟩, q⟩
theorem we_lcm (hm : X.mg "lcm" = some (.builtin "math.lcm")) (h : Wa X H0 [e, e2] δ (fun ds => A2 ds fun x y => I2 x y fun i j => (Bd 13000 i ∧ Bd 13000 j) ∧ k (.int ((Nat.lcm i.natAbs j.natAbs : Nat) : Int)))) (hg : Gl X "lcm" := by rfl)
    (he : notStar e = true := by rfl) (hpl : notStar e2 = true := by rfl) : We X H0 (.Call (.Name "lcm" p) [e, e2] [] pos) δ k := fun σ G R =>
  toE (pe_callBfun cr_lcm hg hm pa_sem (by decide) (star_of he) (star_any (by rw [List.all_cons, hpl]; rfl))) (call1 (ta := semA X [e, e2]) h (fun G vs ds is ⟨x, y, ed, i, j, ex, ey, ⟨b1, b2⟩, hk⟩ Q q => by
    subst ed ex ey
    obtain ⟨v, w, rfl, a, b⟩ := is.two
    cases a
    cases b
    exact ⟨i, j, rfl, b1, b2, q _ G _ (Same.refl _) (.int _) hk⟩) σ G R)
def IL (x : D) (P : List Int → Prop) : Prop := ∃ ns, x = .sq true (ns.map .int) ∧ P ns
theorem il {ns : List Int} {P : List Int → Prop} (h : P ns) : IL (.sq true (ns.map .int)) P := ⟨ns, rfl, h⟩
theorem ilE {xs : List D} {ns : List Int} {P : List Int → Prop} (e : xs = ns.map .int) (h : P ns) : IL (.sq true xs) P := ⟨ns, by rw [e], h⟩
theorem ints_of {K : PySem.W.Frag} {G : Hp} {xs : List V} {ns : List Int} (h : IsL K G xs (ns.map .int)) : xs = ns.map .int := by
  refine List.ext_getElem? fun i => ?_
  by_cases hi : i < ns.length
  · have hx : i < xs.length := by rw [h.1, List.length_map]; exact hi
    have z := h.2 i _ (.int ns[i]) (List.getElem?_eq_getElem hx) (by rw [List.getElem?_map, List.getElem?_eq_getElem hi]; rfl)
    rw [List.getElem?_eq_getElem hx, List.getElem?_map, List.getElem?_eq_getElem hi]
    exact congrArg some z.int_inv
  · rw [List.getElem?_eq_none (by rw [h.1, List.length_map]; omega), List.getElem?_eq_none (by rw [List.length_map]; omega)]
/-- sum(e), e a list of ints -/
theorem we_sum (hm : X.mg "sum" = none) (h : Wa X H0 [e] δ (fun ds => A1 ds fun x => IL x fun ns => k (.int ns.sum))) (hc : X.calm = true := by rfl) (hg : Gl X "sum" := by rfl) (he : notStar e = true := by rfl) :
    We X H0 (.Call (.Name "sum" p) [e] [] pos) δ k := we_callB (cr_sum hc) (by decide +kernel) (by decide) (by decide) (fun G vs ds is ⟨x, ed, ns, ex, hk⟩ Q q => by
  subst ed ex
  obtain ⟨v, rfl, i⟩ := is.one
  obtain ⟨a, xs, rfl, hq, il⟩ := i.lst_inv
  rw [ints_of il] at hq
  exact ⟨a, ns, rfl, .inl hq, q _ G _ (Same.refl _) (.int _) hk⟩) hm h hg he rfl
theorem we_max2 (hm : X.mg "max" = none) (h : Wa X H0 [e, e2] δ (fun ds => A2 ds fun x y => I2 x y fun i j => k (.int (if j > i then j else i)))) (hc : X.calm = true := by rfl) (hg : Gl X "max" := by rfl) (he : notStar e = true := by rfl) (hpl : notStar e2 = true := by rfl) :
    We X H0 (.Call (.Name "max" p) [e, e2] [] pos) δ k := we_callB (call_max2 hc) (by decide +kernel) (by decide) (by decide) (fun G vs ds is ⟨x, y, ed, i, j, ex, ey, hk⟩ Q q => by
  subst ed ex ey
  obtain ⟨v, w, rfl, a, b⟩ := is.two
  cases a
  cases b
  exact ⟨i, j, rfl, q _ G _ (Same.refl _) (.int _) hk⟩) hm h hg he (by rw [List.all_cons, hpl]; rfl)
theorem we_min2 (hm : X.mg "min" = none) (h : Wa X H0 [e, e2] δ (fun ds => A2 ds fun x y => I2 x y fun i j => k (.int (if j < i then j else i)))) (hc : X.calm = true := by rfl) (hg : Gl X "min" := by rfl) (he : notStar e = true := by rfl) (hpl : notStar e2 = true := by rfl) :
    We X H0 (.Call (.Name "min" p) [e, e2] [] pos) δ k := we_callB (call_min2 hc) (by decide +kernel) (by decide) (by decide) (fun G vs ds is ⟨x, y, ed, i, j, ex, ey, hk⟩ Q q => by
  subst ed ex ey
  obtain ⟨v, w, rfl, a, b⟩ := is.two
  cases a
  cases b
  exact ⟨i, j, rfl, q _ G _ (Same.refl _) (.int _) hk⟩) hm h hg he (by rw [List.all_cons, hpl]; rfl)
end
/-! ### comprehensions over things told by α -/
section
variable {X : Cx} {H0 : Hp} {δ : List S} {elt : Expr} {sc : Scope} {α : Type}
theorem lcA {v : Nat} {ko : List D → Prop} {xs : List α} (emb g : α → D) (hl : xs.length ≤ 100000) (h : ∀ x ∈ xs, BWe X sc H0 elt (δ.set v (.sh (emb x))) (fun e => e = g x)) (q : ko (xs.map g)) : LC X sc H0 elt δ v ko (xs.map emb).length (fun i => (xs.map emb).getD i .non) :=
  ⟨fun i e => ∀ x, xs[i]? = some x → e = g x, by rw [List.length_map]; exact hl, fun i hi => by
    rw [List.length_map] at hi
    have e1 : (xs.map emb).getD i .non = emb xs[i] := by rw [List.getD_eq_getElem?_getD, List.getElem?_map, List.getElem?_eq_getElem hi]; rfl
    show BWe X sc H0 elt (δ.set v (.sh ((xs.map emb).getD i .non))) _
    rw [e1]
    intro s hh C cl fp σ G R
    exact (h _ (List.getElem_mem hi) s hh C cl fp σ G R).mono fun y G2 ⟨e2, d, id, hd⟩ => ⟨e2, d, id, fun x hx => by rw [List.getElem?_eq_getElem hi] at hx; cases hx; exact hd⟩, fun es p => by
    have e : es = xs.map g := by
      refine List.ext_getElem? fun i => ?_
      have hl := p.1
      rw [List.length_map] at hl
      by_cases hi : i < xs.length
      · rw [List.getElem?_map, List.getElem?_eq_getElem hi, List.getElem?_eq_getElem (show i < es.length by omega)]
        exact congrArg some (p.2 i _ (List.getElem?_eq_getElem (by omega)) _ (List.getElem?_eq_getElem hi))
      · rw [List.getElem?_eq_none (by omega), List.getElem?_eq_none (by rw [List.length_map]; omega)]
    rw [e]; exact q⟩
/-- each told by something -/
theorem each_ex {emb : α → D} {Q : Nat → α → Prop} : ∀ {n : Nat} {es : List D}, EachN (fun i e => ∃ x, e = emb x ∧ Q i x) n es → ∃ xs : List α, xs.length = n ∧ es = xs.map emb ∧ ∀ (i : Nat) x, xs[i]? = some x → Q i x := fun {n} => by
  induction n generalizing Q with
  | zero =>
    intro es h
    have : es = [] := List.length_eq_zero_iff.mp h.1
    exact ⟨[], rfl, this, fun i x hx => by cases hx⟩
  | succ n ih =>
    intro es h
    cases es with
    | nil => cases h.1
    | cons e es =>
      obtain ⟨x, rfl, q⟩ := h.2 0 e rfl
      obtain ⟨xs, h1, rfl, h3⟩ := ih (Q := fun i x => Q (i + 1) x) (es := es) ⟨Nat.succ.inj h.1, fun i e he => h.2 (i + 1) e he⟩
      refine ⟨x :: xs, congrArg (· + 1) h1, rfl, fun i y hy => ?_⟩
      cases i with
      | zero => cases hy; exact q
      | succ i => exact h3 i y hy
/-- each made into something told by β -/
theorem lcAE {β : Type} {v : Nat} {ko : List D → Prop} {xs : List α} (emb : α → D) (embB : β → D) (Q : α → β → Prop) (hl : xs.length ≤ 100000) (h : ∀ x ∈ xs, BWe X sc H0 elt (δ.set v (.sh (emb x))) (fun e => ∃ y, e = embB y ∧ Q x y))
    (q : ∀ ys : List β, ys.length = xs.length → (∀ (i : Nat) x y, xs[i]? = some x → ys[i]? = some y → Q x y) → ko (ys.map embB)) : LC X sc H0 elt δ v ko (xs.map emb).length (fun i => (xs.map emb).getD i .non) :=
  ⟨fun i e => ∃ y, e = embB y ∧ ∀ x, xs[i]? = some x → Q x y, by rw [List.length_map]; exact hl, fun i hi => by
    rw [List.length_map] at hi
    have e1 : (xs.map emb).getD i .non = emb xs[i] := by rw [List.getD_eq_getElem?_getD, List.getElem?_map, List.getElem?_eq_getElem hi]; rfl
    show BWe X sc H0 elt (δ.set v (.sh ((xs.map emb).getD i .non))) _
    rw [e1]
    intro s hh C cl fp σ G R
    exact (h _ (List.getElem_mem hi) s hh C cl fp σ G R).mono fun y G2 ⟨e2, d, id, z, ez, hd⟩ => ⟨e2, d, id, z, ez, fun x hx => by rw [List.getElem?_eq_getElem hi] at hx; cases hx; exact hd⟩, fun es p => by
    obtain ⟨ys, h1, rfl, h3⟩ := each_ex p
    rw [List.length_map] at h1
    exact q ys h1 fun i x y hx hy => h3 i y hy x hx⟩
theorem sum_bd {m k : Nat} : ∀ {xs : List Int}, (∀ x ∈ xs, Bd m x) → xs.length ≤ 2 ^ k → Bd (m + k) xs.sum := fun {xs} h hl => by
  have key : ∀ {xs : List Int}, (∀ x ∈ xs, Bd m x) → xs.sum.natAbs + xs.length ≤ xs.length * 2 ^ m ∨ xs = [] := fun {xs} => by
    induction xs with
    | nil => intro _; exact .inr rfl
    | cons x xs ih =>
      intro h
      refine .inl ?_
      have hx : x.natAbs < 2 ^ m := h x List.mem_cons_self
      have h1 := Int.natAbs_add_le x xs.sum
      rw [List.sum_cons, List.length_cons, Nat.succ_mul]
      rcases ih fun y hy => h y (List.mem_cons_of_mem _ hy) with z | z
      · omega
      · subst z
        simp only [List.sum_nil, List.length_nil] at *
        omega
  rcases key h with z | z
  · unfold Bd
    have h2 : xs.length * 2 ^ m ≤ 2 ^ k * 2 ^ m := Nat.mul_le_mul_right _ hl
    rw [Nat.pow_add, Nat.mul_comm (2 ^ m)]
    by_cases e : xs.length = 0
    · have : xs = [] := List.length_eq_zero_iff.mp e
      subst this
      exact Nat.mul_pos (Nat.pow_pos (by decide)) (Nat.pow_pos (by decide))
    · omega
  · subst z
    exact Nat.pow_pos (by decide)
end
end DL
set_option Elab.async false
set_option linter.all false
set_option maxRecDepth 100000
set_option maxHeartbeats 2000000
/-! Part l: == of plain data (ints, None, lists and tuples of them, at any depth to 64). -/
namespace DL
open PySem PySem.Spec PyProof.Rows L2
mutual
def toPy : D → PyData
  | .int i => .int i
  | .sq true ds => .list (toPys ds)
  | .sq false ds => .tuple (toPys ds)
  | _ => .none
def toPys : List D → List PyData
  | [] => []
  | d :: ds => toPy d :: toPys ds
end
mutual
/-- plain, no deeper than n -/
def plB : Nat → D → Bool
  | _, .int _ => true
  | _, .non => true
  | n + 1, .sq _ ds => plBs n ds
  | _, _ => false
def plBs : Nat → List D → Bool
  | _, [] => true
  | n, d :: ds => plB n d && plBs n ds
end
mutual
theorem pl_pd : ∀ (n : Nat) (d : D), plB n d = true → Pd d (toPy d) ∧ (toPy d).canLay0 = true ∧ (toPy d).depth ≤ n
  | n, .int i, _ => ⟨.int i, rfl, Nat.zero_le _⟩
  | n, .non, _ => ⟨.non, rfl, Nat.zero_le _⟩
  | n + 1, .sq true ds, h => by
    obtain ⟨h1, h2, h3⟩ := pl_pds n ds (by simpa [plB] using h)
    exact ⟨h1.1, h2, Nat.succ_le_succ h3⟩
  | n + 1, .sq false ds, h => by
    obtain ⟨h1, h2, h3⟩ := pl_pds n ds (by simpa [plB] using h)
    exact ⟨h1.2, h2, Nat.succ_le_succ h3⟩
  | 0, .sq _ _, h => by simp [plB] at h
  | n, .bl _, h => by cases n <;> simp [plB] at h
  | n, .str _, h => by cases n <;> simp [plB] at h
  | n, .dic _, h => by cases n <;> simp [plB] at h
  | n, .ins _ _, h => by cases n <;> simp [plB] at h
  | n, .ob _, h => by cases n <;> simp [plB] at h
  | n, .exc _ _ _, h => by cases n <;> simp [plB] at h
  | n, .scr _, h => by cases n <;> simp [plB] at h
theorem pl_pds : ∀ (n : Nat) (ds : List D), plBs n ds = true → (Pd (.sq true ds) (.list (toPys ds)) ∧ Pd (.sq false ds) (.tuple (toPys ds))) ∧ PyData.canLayAll0 (toPys ds) = true ∧ PyData.depthAll (toPys ds) ≤ n
  | n, [], _ => ⟨⟨.nilL, .nilT⟩, rfl, Nat.zero_le _⟩
  | n, d :: ds, h => by
    obtain ⟨h1, h2⟩ := Bool.and_eq_true_iff.mp (by simpa [plBs] using h : (plB n d && plBs n ds) = true)
    obtain ⟨a1, a2, a3⟩ := pl_pd n d h1
    obtain ⟨b1, b2, b3⟩ := pl_pds n ds h2
    refine ⟨⟨.consL a1 b1.1, .consT a1 b1.2⟩, ?_, ?_⟩
    · show (PyData.canLay0 (toPy d) && PyData.canLayAll0 (toPys ds)) = true
      rw [a2, b2]; rfl
    · show max (PyData.depth (toPy d)) (PyData.depthAll (toPys ds)) ≤ n
      omega
end
mutual
theorem pl_eqv : ∀ (n m : Nat) (d d' : D), plB n d = true → plB m d' = true → (PyData.eqv (toPy d) (toPy d') = true ↔ d = d')
  | n, m, .int i, .int j, _, _ => by
    show ((i == j) = true) ↔ _
    simp
  | n, m, .non, .non, _, _ => by simp [toPy, PyData.eqv]
  | n, m, .int i, .non, _, _ => by simp [toPy, PyData.eqv]
  | n, m, .non, .int i, _, _ => by simp [toPy, PyData.eqv]
  | n + 1, m + 1, .sq true ds, .sq true es, h, h' => by
    have := pl_eqvs n m ds es (by simpa [plB] using h) (by simpa [plB] using h')
    show (PyData.eqvAll (toPys ds) (toPys es) = true) ↔ _
    rw [this]; simp
  | n + 1, m + 1, .sq false ds, .sq false es, h, h' => by
    have := pl_eqvs n m ds es (by simpa [plB] using h) (by simpa [plB] using h')
    show (PyData.eqvAll (toPys ds) (toPys es) = true) ↔ _
    rw [this]; simp
  | n + 1, m + 1, .sq true ds, .sq false es, h, h' => by simp [toPy, PyData.eqv]
  | n + 1, m + 1, .sq false ds, .sq true es, h, h' => by simp [toPy, PyData.eqv]
  | n, m + 1, .int i, .sq l es, h, h' => by cases l <;> simp [toPy, PyData.eqv]
  | n, m + 1, .non, .sq l es, h, h' => by cases l <;> simp [toPy, PyData.eqv]
  | n + 1, m, .sq l es, .int i, h, h' => by cases l <;> simp [toPy, PyData.eqv]
  | n + 1, m, .sq l es, .non, h, h' => by cases l <;> simp [toPy, PyData.eqv]
  | 0, m, .sq _ _, _, h, _ => by simp [plB] at h
  | n, 0, _, .sq _ _, _, h => by simp [plB] at h
  | n, m, .bl _, _, h, _ => by cases n <;> simp [plB] at h
  | n, m, .str _, _, h, _ => by cases n <;> simp [plB] at h
  | n, m, .dic _, _, h, _ => by cases n <;> simp [plB] at h
  | n, m, .ins _ _, _, h, _ => by cases n <;> simp [plB] at h
  | n, m, .ob _, _, h, _ => by cases n <;> simp [plB] at h
  | n, m, .exc _ _ _, _, h, _ => by cases n <;> simp [plB] at h
  | n, m, .scr _, _, h, _ => by cases n <;> simp [plB] at h
  | n, m, _, .bl _, _, h => by cases m <;> simp [plB] at h
  | n, m, _, .str _, _, h => by cases m <;> simp [plB] at h
  | n, m, _, .dic _, _, h => by cases m <;> simp [plB] at h
  | n, m, _, .ins _ _, _, h => by cases m <;> simp [plB] at h
  | n, m, _, .ob _, _, h => by cases m <;> simp [plB] at h
  | n, m, _, .exc _ _ _, _, h => by cases m <;> simp [plB] at h
  | n, m, _, .scr _, _, h => by cases m <;> simp [plB] at h
theorem pl_eqvs : ∀ (n m : Nat) (ds es : List D), plBs n ds = true → plBs m es = true → (PyData.eqvAll (toPys ds) (toPys es) = true ↔ ds = es)
  | n, m, [], [], _, _ => by simp [toPys, PyData.eqvAll]
  | n, m, [], _ :: _, _, _ => by simp [toPys, PyData.eqvAll]
  | n, m, _ :: _, [], _, _ => by simp [toPys, PyData.eqvAll]
  | n, m, d :: ds, e :: es, h, h' => by
    obtain ⟨h1, h2⟩ := Bool.and_eq_true_iff.mp (by simpa [plBs] using h : (plB n d && plBs n ds) = true)
    obtain ⟨g1, g2⟩ := Bool.and_eq_true_iff.mp (by simpa [plBs] using h' : (plB m e && plBs m es) = true)
    have a := pl_eqv n m d e h1 g1
    have b := pl_eqvs n m ds es h2 g2
    show ((PyData.eqv (toPy d) (toPy e) && PyData.eqvAll (toPys ds) (toPys es)) = true) ↔ _
    rw [Bool.and_eq_true_iff, a, b]
    simp
end
/-- == of plain data -/
theorem eqP {x y : D} {P : Bool → Prop} (hx : plB 60 x = true) (hy : plB 60 y = true) (h : ∀ b : Bool, (b = true ↔ x = y) → P b) : EQ x y P := by
  obtain ⟨a1, a2, a3⟩ := pl_pd 60 x hx
  obtain ⟨b1, b2, b3⟩ := pl_pd 60 y hy
  exact ⟨_, _, a1, b1, Bool.and_eq_true_iff.mpr ⟨a2, decide_eq_true (by omega)⟩, Bool.and_eq_true_iff.mpr ⟨b2, decide_eq_true (by omega)⟩, h _ (pl_eqv 60 60 x y hx hy)⟩
theorem plBs_of {n : Nat} : ∀ {ds : List D}, (∀ d ∈ ds, plB n d = true) → plBs n ds = true
  | [], _ => by simp [plBs]
  | d :: ds, h => by
    simp only [plBs, Bool.and_eq_true]
    exact ⟨h d List.mem_cons_self, plBs_of fun e he => h e (List.mem_cons_of_mem _ he)⟩
theorem plB_int {n : Nat} {i : Int} : plB n (.int i) = true := by cases n <;> simp [plB]
theorem plB_sq {n : Nat} {l : Bool} {ds : List D} (h : ∀ d ∈ ds, plB n d = true) : plB (n + 1) (.sq l ds) = true := by
  simp only [plB]
  exact plBs_of h
theorem plB_ints {n : Nat} {l : Bool} {ns : List Int} : plB (n + 1) (.sq l (ns.map .int)) = true := plB_sq fun d hd => by
  obtain ⟨i, _, rfl⟩ := List.mem_map.mp hd
  exact plB_int
/-! ### tuples within tuples, kept beside an object that was lent -/
inductive FlatN : D → Prop
  | flat {d : D} : Flat d → FlatN d
  | tup {ds : List D} : (∀ (i : Nat) d, ds[i]? = some d → FlatN d) → FlatN (.sq false ds)
theorem FlatN.ints {ns : List Int} : FlatN (.sq false (ns.map .int)) := .tup fun i d h => by
  rw [List.getElem?_map] at h
  cases e : ns[i]? with
  | none => rw [e] at h; cases h
  | some n => rw [e] at h; cases h; exact .flat trivial
theorem FlatN.two {a b : D} (h : FlatN a) (h' : FlatN b) : FlatN (.sq false [a, b]) := .tup fun i d e => by
  match i, e with
  | 0, e => cases e; exact h
  | 1, e => cases e; exact h'
theorem FlatN.is {K : PySem.W.Frag} {H0 H : Hp} {σ : L2.St} {δ : List S} {own : List (List Addr)} {d : D} (R : Rel K H0 σ H δ own) (f : FlatN d) : ∀ {v : V}, Is K H v d → Is K (cut H own.flatten) v d := by
  induction f with
  | flat f => intro v h; exact h.flat f
  | tup _ ih =>
    intro v h
    obtain ⟨a, xs, rfl, h1, il⟩ := h.tup_inv
    refine .mkT ?_ (IsL.of_get il.1 fun i x d hx hd => ih i d hd (il.2 i x d hx hd))
    rcases h1 with z | z
    · refine .inl ?_
      have no : ∀ (p : Addr) (ys : List V), p ∈ own.flatten → ¬ Rd H p (.tup ys) := fun p ys hp r => by
        rcases R.owned p hp with ⟨_, e⟩ | ⟨_, e⟩ | ⟨_, _, _, e, _⟩ | ⟨_, _, _, e, _⟩
        all_goals (rcases r with r | ⟨_, r⟩ <;> rw [e] at r <;> cases r)
      have na := fun hp => no _ _ hp z
      rcases z with z | ⟨ob, z⟩
      · exact .inl (by rw [cut_out na]; exact z)
      · exact .inr ⟨ob, by rw [cut_out na]; exact z⟩
    · exact .inr z
theorem ws_setN {X : Cx} {H0 : Hp} {δ δ' : List S} {e : Expr} {pos : Pos} {E : En} (i : Nat) {x : Str} {pos' : Pos} (hN : X.N.Nodup) (hv : Vw δ δ') (h : We X H0 e δ' (fun d => FlatN d ∧ E.nx (δ.set i (.sh d)))) (hi : X.N[i]? = some x := by rfl) (hx : Loc X.env.scope x := by first | exact .inl rfl | exact .inr rfl) (hs : swapsWith e (some (.Name x pos')) pos.line X.env = pure false := by rfl) (hf : X.fn x = true ∨ X.env.scope.names.lookup x = some .local := by exact .inl rfl) :
    Ws X H0 (.Assign [.Name x pos'] e pos) δ E := fun B σ H own hB R => toS (ps_set hN hi hx pe_sem hs hf) ((h.atV hv hB R).mono fun v H' ⟨d, R', i, f, q⟩ => ⟨_, _, R'.setSh (f.is R' i), q⟩)
theorem we_neD {X : Cx} {H0 : Hp} {δ : List S} {a b : Expr} {k : D → Prop} {pos : Pos} (hu : X.A.units + 64 < cLine) (h : We X H0 a δ (fun x => We X H0 b δ (fun y => EQ x y fun r => k (.bl (!r))))) : We X H0 (.Compare a [.NotEq] [b] pos) δ k := fun σ G R => toE (pe_cmpR (op_neD hu) pe_sem pe_sem (nomark _)) (two h (fun G v w x y iv iw ⟨p, q, hp, hq, sp, sq, hk⟩ Q qq => ⟨p, q, hp.dp iv, hq.dp iw, sp, sq, qq _ G _ (Same.refl _) (.bl _) hk⟩) σ G R)
end DL
set_option Elab.async false
set_option linter.all false
set_option maxRecDepth 100000
set_option maxHeartbeats 2000000
/-! Part m: trees of owned lists: what comes as one, several values at once, a comprehension of them, a write within. -/
namespace DL
open PySem PySem.Spec PyProof.Rows L2
/-- a value that has come, as a tree -/
def asT : S → Tr
  | .no => .sh .non
  | .sh d => .sh d
  | .ow (.lst ds) => .lst (ds.map .sh)
  | .ow (.tr ts) => .lst ts
  | .ow o => .sh o.d
theorem ds_sh : ∀ ds : List D, Tr.ds (ds.map .sh) = ds
  | [] => rfl
  | d :: ds => by
    show d :: Tr.ds (ds.map .sh) = _
    rw [ds_sh ds]
theorem ds_map : ∀ ts : List Tr, Tr.ds ts = ts.map Tr.d
  | [] => rfl
  | t :: ts => by
    show t.d :: Tr.ds ts = _
    rw [ds_map ts]; rfl
theorem ds_len (ts : List Tr) : (Tr.ds ts).length = ts.length := by rw [ds_map, List.length_map]
theorem asT_d {r : S} : (asT r).d = r.d := by
  cases r with
  | no => rfl
  | sh d => rfl
  | ow o =>
    cases o with
    | lst ds => show D.sq true (Tr.ds (ds.map .sh)) = .sq true ds; rw [ds_sh]
    | tr ts => rfl
    | _ => rfl
section
variable {K : PySem.W.Frag} {H H' G G' H0 B : Hp} {v : V} {r : S} {σ : L2.St} {δ : List S} {own : List (List Addr)}
theorem trs_sh : ∀ {xs : List V} {ds : List D}, IsL K G xs ds → TrsIs K H G (ds.map .sh) xs (List.replicate xs.length [])
  | xs, [], h => by
    rw [h.inv_nil]
    exact ⟨rfl, rfl⟩
  | xs, d :: ds, h => by
    obtain ⟨x, r, rfl, i, il⟩ := h.inv_cons
    exact ⟨x, r, [], _, rfl, rfl, ⟨rfl, i⟩, trs_sh il⟩
theorem flat_reps : ∀ n : Nat, (List.replicate n ([] : List Addr)).flatten = []
  | 0 => rfl
  | n + 1 => by rw [List.replicate_succ, List.flatten_cons, flat_reps n]; rfl
/-- new, as a tree -/
def NewT (K : PySem.W.Frag) (G : Hp) (v : V) (G' : Hp) (t : Tr) : Prop := ∃ l, TrIs K G' (cut G' l) t v l ∧ (∀ a ∈ l, G a = none) ∧ Ex G (cut G' l) ∧ l.Nodup
theorem RetIs.newT (h : RetIs K G v G' r) : NewT K G v G' (asT r) := by
  have sh : ∀ {d : D}, Ex G G' → Is K G' v d → NewT K G v G' (.sh d) := fun e i => ⟨[], ⟨rfl, by rw [cut_nil]; exact i⟩, fun a ha => (by cases ha), by rw [cut_nil]; exact e, List.nodup_nil⟩
  cases r with
  | no => exact h.elim
  | sh d => exact sh h.1 h.2
  | ow o =>
    cases o with
    | lst ds =>
      obtain ⟨l, ⟨p, xs, rfl, rfl, hp, il⟩, fr, ee, nd⟩ := h
      exact ⟨[p], ⟨p, xs, List.replicate xs.length [], rfl, by rw [flat_reps], hp, trs_sh il⟩, fr, ee, nd⟩
    | tr ts => exact h
    | dic kvs => exact sh h.ex.1 h.ex.2
    | ins C fs => exact sh h.ex.1 h.ex.2
    | self a C ks fs => exact sh h.ex.1 h.ex.2
theorem NewT.tr {ts : List Tr} (h : NewT K G v G' (.lst ts)) : NewIs K G v G' (.tr ts) := h
/-! ### several values, each a tree of its own, beside the frame's state -/
structure RT (K : PySem.W.Frag) (H0 : Hp) (σ : L2.St) (H : Hp) (δ : List S) (own : List (List Addr)) (vs : List V) (ts : List Tr) (ls : List (List Addr)) : Prop where
  ex : Ex H0 (cut H (own.flatten ++ ls.flatten))
  len1 : σ.length = δ.length
  len2 : own.length = δ.length
  sl : ∀ (i : Nat) s x l, δ[i]? = some s → σ[i]? = some x → own[i]? = some l → SlotIs K H (cut H (own.flatten ++ ls.flatten)) x l s
  tr : TrsIs K H (cut H (own.flatten ++ ls.flatten)) ts vs ls
  nd : (own.flatten ++ ls.flatten).Nodup
theorem trs_snoc {t : Tr} {x : V} {l : List Addr} : ∀ {ts : List Tr} {xs : List V} {ls : List (List Addr)}, TrsIs K H G ts xs ls → TrIs K H G t x l → TrsIs K H G (ts ++ [t]) (xs ++ [x]) (ls ++ [l])
  | [], xs, ls, h, i => by
    obtain ⟨rfl, rfl⟩ := h
    exact ⟨x, [], l, [], rfl, rfl, i, rfl, rfl⟩
  | t :: ts, xs, ls, h, i => by
    obtain ⟨y, xs', m, ls', rfl, rfl, h1, h2⟩ := h
    exact ⟨y, _, m, _, rfl, rfl, h1, trs_snoc h2 i⟩
theorem trs_len : ∀ {ts : List Tr} {xs : List V} {ls : List (List Addr)}, TrsIs K H G ts xs ls → xs.length = ts.length ∧ ls.length = ts.length
  | [], xs, ls, h => by
    obtain ⟨rfl, rfl⟩ := h
    exact ⟨rfl, rfl⟩
  | t :: ts, xs, ls, h => by
    obtain ⟨y, xs', m, ls', rfl, rfl, h1, h2⟩ := h
    obtain ⟨a, b⟩ := trs_len h2
    exact ⟨congrArg (· + 1) a, congrArg (· + 1) b⟩
theorem Rel.rt (R : Rel K H0 σ H δ own) : RT K H0 σ H δ own [] [] [] := by
  have e : own.flatten ++ ([] : List (List Addr)).flatten = own.flatten := by simp
  exact ⟨by rw [e]; exact R.ex, R.len1, R.len2, by rw [e]; exact R.sl, ⟨rfl, rfl⟩, by rw [e]; exact R.nd⟩
theorem RT.idx {vs : List V} {ts : List Tr} {ls : List (List Addr)} (R : RT K H0 σ H δ own vs ts ls) {i : Nat} {s : S} (h : δ[i]? = some s) : ∃ x l, σ[i]? = some x ∧ own[i]? = some l ∧ SlotIs K H (cut H (own.flatten ++ ls.flatten)) x l s := by
  have hi : i < δ.length := (List.getElem?_eq_some_iff.mp h).1
  have h1 : i < σ.length := by rw [R.len1]; exact hi
  have h2 : i < own.length := by rw [R.len2]; exact hi
  exact ⟨_, _, List.getElem?_eq_getElem h1, List.getElem?_eq_getElem h2, R.sl i s _ _ h (List.getElem?_eq_getElem h1) (List.getElem?_eq_getElem h2)⟩
theorem RT.owned {vs : List V} {ts : List Tr} {ls : List (List Addr)} (R : RT K H0 σ H δ own vs ts ls) : ∀ a ∈ own.flatten ++ ls.flatten, OwnAt H (own.flatten ++ ls.flatten) a := fun a ha => by
  rcases List.mem_append.mp ha with ha | ha
  · obtain ⟨l, hl, hal⟩ := List.mem_flatten.mp ha
    obtain ⟨i, hi⟩ := List.mem_iff_getElem?.mp hl
    have hd : i < δ.length := by rw [← R.len2]; exact (List.getElem?_eq_some_iff.mp hi).1
    obtain ⟨x, l', _, e, q⟩ := R.idx (List.getElem?_eq_getElem hd)
    rw [hi] at e; cases e
    cases hs : δ[i] with
    | no => rw [hs] at q; have q : l = [] := q; rw [q] at hal; cases hal
    | sh d => rw [hs] at q; obtain ⟨q, _⟩ := q; rw [q] at hal; cases hal
    | ow o => rw [hs] at q; obtain ⟨v, _, q⟩ := q; exact q.at (fun a h => List.mem_append_left _ (mem_flat hi h)) a hal
  · obtain ⟨xs, e⟩ := TrsIs.lst_at ts vs ls R.tr a ha
    exact .inl ⟨xs, e⟩
theorem RT.toS {vs : List V} {ts : List Tr} {ls : List (List Addr)} (R : RT K H0 σ H δ own vs ts ls) : RelS K H0 σ (cut H (own.flatten ++ ls.flatten)) δ := ⟨R.ex, R.len1, fun i d h => by
  obtain ⟨x, l, a, b, _, v, rfl, q⟩ := R.idx h
  exact ⟨v, a, q⟩⟩
/-- one more value has come: new -/
theorem RT.push {vs : List V} {ts : List Tr} {ls : List (List Addr)} {t : Tr} (R : RT K H0 σ H δ own vs ts ls) (n : ∀ a ∈ own.flatten ++ ls.flatten, G a = none) (h : NewT K (cut H (own.flatten ++ ls.flatten)) v G t) :
    ∃ l, RT K H0 σ (mrg H (own.flatten ++ ls.flatten) G) δ own (vs ++ [v]) (ts ++ [t]) (ls ++ [l]) := by
  obtain ⟨l, hl, fr, ee, nd⟩ := h
  have hlG : ∀ a ∈ l, ∃ u, G a = some u := fun a ha => by
    obtain ⟨xs, e⟩ := TrIs.lst_at t v l hl a ha
    exact ⟨_, e⟩
  have dis : ∀ a ∈ l, a ∉ own.flatten ++ ls.flatten := fun a ha z => by
    obtain ⟨u, e⟩ := hlG a ha
    rw [n a z] at e; cases e
  have eO : own.flatten ++ (ls ++ [l]).flatten = (own.flatten ++ ls.flatten) ++ l := by simp [List.append_assoc]
  have cc : cut (mrg H (own.flatten ++ ls.flatten) G) ((own.flatten ++ ls.flatten) ++ l) = cut G l := by
    funext a
    by_cases z : a ∈ own.flatten ++ ls.flatten
    · rw [cut_in (List.mem_append_left _ z)]
      by_cases y : a ∈ l
      · rw [cut_in y]
      · rw [cut_out y, n a z]
    · by_cases y : a ∈ l
      · rw [cut_in (List.mem_append_right _ y), cut_in y]
      · rw [cut_out (by simp only [List.mem_append] at z ⊢; intro w; rcases w with w | w; exact z w; exact y w), cut_out y, mrg_out z]
  refine ⟨l, ?_⟩
  have ex2 : Ex (cut H (own.flatten ++ ls.flatten)) (cut G l) := ee
  refine ⟨by rw [eO, cc]; exact R.ex.trans ex2, R.len1, R.len2, fun i s x m h1 h2 h3 => ?_, ?_, ?_⟩
  · rw [eO, cc]
    exact (R.sl i s x m h1 h2 h3).mono ex2 fun a ha => mrg_in (List.mem_append_left _ (mem_flat h3 ha))
  · rw [eO, cc]
    refine trs_snoc (TrsIs.mono ex2 ts vs ls (fun a ha => mrg_in (List.mem_append_right _ ha)) R.tr) (TrIs.mono (Same.refl _) t v l (fun a ha => mrg_out (dis a ha)) hl)
  · rw [eO, List.nodup_append]
    exact ⟨R.nd, nd, fun a ha b hb e => dis b hb (e ▸ ha)⟩
theorem flat_set_perm : ∀ {own : List (List Addr)} {i : Nat} {l : List Addr}, own[i]? = some l → own.flatten.Perm ((own.set i []).flatten ++ l)
  | [], _, _, h => by cases h
  | l0 :: r, 0, l, h => by
    cases h
    simp only [List.set_cons_zero, List.flatten_cons, List.nil_append]
    exact List.perm_append_comm
  | l0 :: r, i + 1, l, h => by
    simp only [List.set_cons_succ, List.flatten_cons, List.append_assoc]
    exact List.Perm.append_left _ (flat_set_perm (i := i) h)
theorem cut_congr {ps qs : List Addr} (h : ∀ a, a ∈ ps ↔ a ∈ qs) : cut H ps = cut H qs := by
  funext a
  by_cases z : a ∈ ps
  · rw [cut_in z, cut_in ((h a).mp z)]
  · rw [cut_out z, cut_out fun y => z ((h a).mpr y)]
/-- one more value: the frame's own object, given up -/
theorem RT.move {vs : List V} {ts : List Tr} {ls : List (List Addr)} {i : Nat} {o : Ow} (R : RT K H0 σ H δ own vs ts ls) (hi : δ[i]? = some (.ow o)) (ho : (∃ ds, o = .lst ds) ∨ ∃ us, o = .tr us) :
    ∃ v l, σ[i]? = some (some v) ∧ RT K H0 σ H (δ.set i .no) (own.set i []) (vs ++ [v]) (ts ++ [asT (.ow o)]) (ls ++ [l]) := by
  obtain ⟨x, l, h1, h2, v, rfl, q⟩ := R.idx hi
  have pm : ((own.set i []).flatten ++ (ls ++ [l]).flatten).Perm (own.flatten ++ ls.flatten) := by
    have e : (ls ++ [l]).flatten = ls.flatten ++ l := by simp
    rw [e]
    refine List.Perm.trans ?_ (List.Perm.append_right _ (flat_set_perm h2).symm)
    rw [← List.append_assoc]
    refine List.Perm.trans ?_ (by rw [List.append_assoc])
    rw [List.append_assoc]
    exact List.Perm.append_left _ List.perm_append_comm
  have cc : cut H ((own.set i []).flatten ++ (ls ++ [l]).flatten) = cut H (own.flatten ++ ls.flatten) := cut_congr fun a => pm.mem_iff
  refine ⟨v, l, h1, by rw [cc]; exact R.ex, by simp [R.len1], by simp [R.len2], fun j s x m g1 g2 g3 => ?_, ?_, pm.symm.nodup R.nd⟩
  · rw [cc]
    rcases set_get g1 with ⟨e1, rfl⟩ | ⟨n1, g1⟩
    · rcases set_get g3 with ⟨_, rfl⟩ | ⟨n3, _⟩
      · exact rfl
      · exact absurd e1 n3
    · rcases set_get g3 with ⟨e3, _⟩ | ⟨_, g3⟩
      · exact absurd e3 n1
      · exact R.sl j s x m g1 g2 g3
  · rw [cc]
    refine trs_snoc R.tr ?_
    rcases ho with ⟨ds, rfl⟩ | ⟨us, rfl⟩
    · obtain ⟨p, xs, rfl, rfl, hp, il⟩ := q
      exact ⟨p, xs, List.replicate xs.length [], rfl, by rw [flat_reps], hp, trs_sh il⟩
    · exact q
end
end DL
set_option Elab.async false
set_option linter.all false
set_option maxRecDepth 100000
set_option maxHeartbeats 2000000
/-! Part n: expressions that come as trees; statements with them. -/
namespace DL
open PySem PySem.Spec PyProof.Rows L2
section
variable {K : PySem.W.Frag} {H H' G G' H0 B : Hp} {v : V} {r : S} {σ : L2.St} {δ : List S} {own : List (List Addr)}
theorem NewT.ex {t : Tr} (h : NewT K G v G' t) : Ex G G' := by
  obtain ⟨l, _, _, e, _⟩ := h
  exact e.trans cut_ex
theorem RT.free {vs : List V} {ts : List Tr} {ls : List (List Addr)} (R : RT K B σ H δ own vs ts ls) : ∀ a ∈ own.flatten ++ ls.flatten, B a = none := fun a ha => R.ex.free (cut_in ha)
theorem trs_split {K : PySem.W.Frag} {H G : Hp} : ∀ {ts us : List Tr} {vs ws : List V} {ls ls2 : List (List Addr)}, TrsIs K H G (ts ++ us) (vs ++ ws) (ls ++ ls2) → vs.length = ts.length → ls.length = ts.length → TrsIs K H G ts vs ls ∧ TrsIs K H G us ws ls2
  | [], us, [], ws, [], ls2, h, _, _ => ⟨⟨rfl, rfl⟩, h⟩
  | t :: ts, us, v :: vs, ws, l :: ls, ls2, h, h1, h2 => by
    obtain ⟨x, xs', l', ls', e1, e2, a, b⟩ := h
    simp only [List.cons_append, List.cons.injEq] at e1 e2
    obtain ⟨rfl, rfl⟩ := e1
    obtain ⟨rfl, rfl⟩ := e2
    obtain ⟨c, d⟩ := trs_split b (Nat.succ.inj h1) (Nat.succ.inj h2)
    exact ⟨⟨v, vs, l, ls, rfl, rfl, a, c⟩, d⟩
  | [], us, v :: vs, ws, ls, ls2, h, h1, _ => by cases h1
  | [], us, [], ws, l :: ls, ls2, h, _, h2 => by cases h2
  | t :: ts, us, [], ws, ls, ls2, h, h1, _ => by cases h1
  | t :: ts, us, v :: vs, ws, [], ls2, h, _, h2 => by cases h2
/-- the last values become a list's items -/
theorem RT.pack {vs ws : List V} {ts us : List Tr} {ls ls2 : List (List Addr)} {p : Addr} (R : RT K B σ H δ own (vs ++ ws) (ts ++ us) (ls ++ ls2)) (h1 : vs.length = ts.length) (h2 : ls.length = ts.length) (hp : H p = none) :
    RT K B σ (upd H p (.lst ws)) δ own (vs ++ [.ref p]) (ts ++ [.lst us]) (ls ++ [p :: ls2.flatten]) := by
  have np : ∀ a ∈ own.flatten ++ (ls ++ ls2).flatten, a ≠ p := fun a ha e => by
    obtain ⟨u, hu⟩ := (R.owned a ha).some
    rw [e, hp] at hu; cases hu
  have eF : (ls ++ [p :: ls2.flatten]).flatten = ls.flatten ++ p :: ls2.flatten := by simp
  have eF2 : (ls ++ ls2).flatten = ls.flatten ++ ls2.flatten := by simp
  have pm : (own.flatten ++ (ls ++ [p :: ls2.flatten]).flatten).Perm (p :: (own.flatten ++ (ls ++ ls2).flatten)) := by
    rw [eF, eF2, ← List.append_assoc, ← List.append_assoc]
    exact List.perm_middle
  have cc : cut (upd H p (.lst ws)) (own.flatten ++ (ls ++ [p :: ls2.flatten]).flatten) = cut H (own.flatten ++ (ls ++ ls2).flatten) := by
    rw [cut_congr (H := upd H p (.lst ws)) (fun a => pm.mem_iff)]
    funext a
    by_cases z : a = p
    · subst z
      rw [cut_in (by simp)]
      by_cases y : a ∈ own.flatten ++ (ls ++ ls2).flatten
      · rw [cut_in y]
      · rw [cut_out y, hp]
    · by_cases y : a ∈ own.flatten ++ (ls ++ ls2).flatten
      · rw [cut_in y, cut_in (List.mem_cons_of_mem _ y)]
      · rw [cut_out y, cut_out (by rw [List.mem_cons]; rintro (w | w); exact z w; exact y w), upd_ne z]
  obtain ⟨t1, t2⟩ := trs_split R.tr h1 h2
  have nf : ∀ a ∈ (ls ++ ls2).flatten, a ≠ p := fun a ha => np a (List.mem_append_right _ ha)
  refine ⟨by rw [cc]; exact R.ex, R.len1, R.len2, fun i s x l g1 g2 g3 => ?_, ?_, ?_⟩
  · rw [cc]
    exact (R.sl i s x l g1 g2 g3).mono (Same.refl _) fun a ha => upd_ne (np a (List.mem_append_left _ (mem_flat g3 ha)))
  · rw [cc]
    refine trs_snoc (TrsIs.mono (Same.refl _) ts vs ls (fun a ha => upd_ne (nf a (by rw [eF2]; exact List.mem_append_left _ ha))) t1) ⟨p, ws, ls2, rfl, rfl, upd_same, TrsIs.mono (Same.refl _) us ws ls2 (fun a ha => upd_ne (nf a (by rw [eF2]; exact List.mem_append_right _ ha))) t2⟩
  · exact pm.symm.nodup (List.nodup_cons.mpr ⟨fun z => np p z rfl, R.nd⟩)
theorem RT.rel {vs : List V} {ts : List Tr} {ls : List (List Addr)} (R : RT K B σ H δ own vs ts ls) : Rel K B σ H δ own := by
  have e : Ex (cut H (own.flatten ++ ls.flatten)) (cut H own.flatten) := cut_sub fun a ha => List.mem_append_left _ ha
  exact ⟨R.ex.trans e, R.len1, R.len2, fun i s x l h1 h2 h3 => (R.sl i s x l h1 h2 h3).mono e fun _ _ => rfl, (List.nodup_append.mp R.nd).1⟩
/-- one value, into a slot -/
theorem RT.set {t : Tr} {l : List Addr} {i : Nat} {us : List Tr} (R : RT K B σ H δ own [v] [t] [l]) (ht : t = .lst us) : Rel K B (σ.set i (some v)) H (δ.set i (.ow (.tr us))) (own.set i l) := by
  subst ht
  have el : ([l] : List (List Addr)).flatten = l := by simp
  have R1 := R
  obtain ⟨x, xs', l', ls', e1, e2, tr, e3, e4⟩ := R.tr
  cases e1; cases e2
  rw [el] at tr
  have nd := R.nd
  rw [el, List.nodup_append] at nd
  have sub : ∀ a ∈ (own.set i l).flatten, a ∈ own.flatten ++ l := fun a ha => List.mem_append.mpr (flat_set_sub ha)
  have e : Ex (cut H (own.flatten ++ l)) (cut H (own.set i l).flatten) := cut_sub sub
  have ex := R.ex
  rw [el] at ex
  refine ⟨ex.trans e, by simp [R.len1], by simp [R.len2], fun j s x m h1 h2 h3 => ?_, flat_set_nd nd.1 nd.2.1 fun a ha hb => nd.2.2 a hb a ha rfl⟩
  rcases set_get h1 with ⟨e1, rfl⟩ | ⟨n1, g1⟩
  · rcases set_get h2 with ⟨_, rfl⟩ | ⟨n2, _⟩
    · rcases set_get h3 with ⟨_, rfl⟩ | ⟨n3, _⟩
      · exact ⟨v, rfl, TrIs.mono e _ v _ (fun _ _ => rfl) tr⟩
      · exact absurd e1 n3
    · exact absurd e1 n2
  · rcases set_get h2 with ⟨e2, _⟩ | ⟨_, g2⟩
    · exact absurd e2 n1
    · rcases set_get h3 with ⟨e3, _⟩ | ⟨_, g3⟩
      · exact absurd e3 n1
      · have q := R.sl j s x m g1 g2 g3
        rw [el] at q
        exact q.mono e fun _ _ => rfl
theorem RT.ret {t : Tr} {l : List Addr} {us : List Tr} (R : RT K B σ H δ own [v] [t] [l]) (ht : t = .lst us) : RetIs K B v H (.ow (.tr us)) := by
  subst ht
  have el : ([l] : List (List Addr)).flatten = l := by simp
  obtain ⟨x, xs', l', ls', e1, e2, tr, e3, e4⟩ := R.tr
  cases e1; cases e2
  rw [el] at tr
  have e : Ex (cut H (own.flatten ++ l)) (cut H l) := cut_sub fun a ha => List.mem_append_right _ ha
  have ex := R.ex
  rw [el] at ex
  have nd := R.nd
  rw [el, List.nodup_append] at nd
  refine ⟨l, TrIs.mono e _ v l (fun _ _ => rfl) tr, fun a ha => R.free a (by rw [el]; exact List.mem_append_right _ ha), ex.trans e, nd.2.1⟩
end
section
variable (X : Cx) (H0 : Hp)
/-- a new tree -/
def WN (e : Expr) (δ : List S) (k : Tr → Prop) : Prop := ∀ σ G, RelS X.K H0 σ G δ → semE X e σ G (fun v G' => ∃ t, NewT X.K G v G' t ∧ k t)
/-- a tree; slots may be given up to it -/
def WT (e : Expr) (δ : List S) (k : Tr → List S → Prop) : Prop := ∀ B σ H own vs ts ls, Ex H0 B → RT X.K B σ H δ own vs ts ls → semE X e σ H (fun v H' => ∃ t δ' own' l, RT X.K B σ H' δ' own' (vs ++ [v]) (ts ++ [t]) (ls ++ [l]) ∧ Ex H H' ∧ k t δ')
def WTs (es : List Expr) (δ : List S) (k : List Tr → List S → Prop) : Prop := ∀ B σ H own vs ts ls, Ex H0 B → RT X.K B σ H δ own vs ts ls → semA X es σ H (fun ws H' => ∃ us δ' own' ls', RT X.K B σ H' δ' own' (vs ++ ws) (ts ++ us) (ls ++ ls') ∧ Ex H H' ∧ us.length = es.length ∧ k us δ')
def WNs (es : List Expr) (δ : List S) (k : List Tr → Prop) : Prop := ∀ σ G H vs ts ls, RelS X.K H0 σ G δ → RT X.K G [] H [] [] vs ts ls → semA X es σ H (fun ws H' => ∃ us ls', RT X.K G [] H' [] [] (vs ++ ws) (ts ++ us) (ls ++ ls') ∧ k us)
end
section
variable {X : Cx} {H0 : Hp} {δ : List S} {e : Expr} {es : List Expr} {pos p : Pos} {E : En}
theorem RelS.base {K : PySem.W.Frag} {σ : L2.St} {G : Hp} (R : RelS K H0 σ G δ) : RelS K H0 σ G δ := R
theorem wn_wu {k : Tr → Prop} (h : ∀ {σ G}, RelS X.K H0 σ G δ → semE X e σ G (fun v G' => ∃ r, RetIs X.K G v G' r ∧ k (asT r))) : WN X H0 e δ k := fun σ G R => (h R).mono fun v G' ⟨r, i, q⟩ => ⟨asT r, i.newT, q⟩
theorem wt_wn {k : Tr → List S → Prop} (h : WN X H0 e δ fun t => k t δ) : WT X H0 e δ k := fun B σ H own vs ts ls hB R =>
  (semE.frame R.owned (h σ _ (R.toS.weak hB))).mono fun v H' ⟨G, eq, n, t, nt, q⟩ => by
    subst eq
    obtain ⟨l, R'⟩ := R.push n nt
    exact ⟨t, δ, own, l, R', mrg_ex nt.ex, q⟩
def mvT : Ow → Option Tr
  | .lst ds => some (.lst (ds.map .sh))
  | .tr ts => some (.lst ts)
  | _ => none
theorem wt_mv {k : Tr → List S → Prop} {x : Str} (i : Nat) {o : Ow} {t : Tr} (hi : δ[i]? = some (.ow o)) (ho : mvT o = some t) (h : k t (δ.set i .no)) (hp : PE X (.Name x pos) (tVar i)) : WT X H0 (.Name x pos) δ k := fun B σ H own vs ts ls hB R => by
  have ho2 : (∃ ds, o = .lst ds) ∨ ∃ us, o = .tr us := by
    cases o with
    | lst ds => exact .inl ⟨ds, rfl⟩
    | tr us => exact .inr ⟨us, rfl⟩
    | _ => cases ho
  have et : asT (.ow o) = t := by
    cases o with
    | lst ds => cases ho; rfl
    | tr us => cases ho; rfl
    | _ => cases ho
  obtain ⟨v, l, h1, R'⟩ := R.move hi ho2
  rw [et] at R'
  exact toE hp ⟨v, h1, t, _, _, l, R', Same.refl _, h⟩
theorem wts_nil {k : List Tr → List S → Prop} (h : k [] δ) : WTs X H0 [] δ k := fun B σ H own vs ts ls hB R => toA pa_nil ⟨[], δ, own, [], by rw [List.append_nil, List.append_nil, List.append_nil]; exact R, Same.refl _, rfl, h⟩
theorem wts_cons {k : List Tr → List S → Prop} (h : WT X H0 e δ fun t δ' => WTs X H0 es δ' fun us δ'' => k (t :: us) δ'') (hs : notStar e = true) : WTs X H0 (e :: es) δ k := fun B σ H own vs ts ls hB R => toA (pa_cons pe_sem pa_sem (star_of hs)) ((h B σ H own vs ts ls hB R).mono fun v H' ⟨t, δ', own', l, R', e1, q⟩ =>
  (q B σ H' own' _ _ _ hB R').mono fun ws H'' ⟨us, δ'', own'', ls'', R'', e2, n2, q2⟩ => ⟨t :: us, δ'', own'', l :: ls'', by simpa using R'', e1.trans e2, by rw [List.length_cons, List.length_cons, n2], q2⟩)
theorem wt_lst {k : Tr → List S → Prop} (h : WTs X H0 es δ fun ts δ' => k (.lst ts) δ') (hl : Nat.ble es.length 100000 = true) : WT X H0 (.List es pos) δ k := fun B σ H own vs ts ls hB R =>
  toE (pe_lst pa_sem) ((h B σ H own vs ts ls hB R).mono fun ws H' ⟨us, δ', own', ls', R', e1, n, q⟩ => by
    obtain ⟨l1, l2⟩ := trs_len R.tr
    obtain ⟨_, t2⟩ := trs_split R'.tr l1 l2
    refine ⟨Nat.le_trans (by rw [(trs_len t2).1, n]; exact Nat.le_of_ble_eq_true hl) (by decide), fun p hp => ?_⟩
    exact ⟨.lst us, δ', own', _, R'.pack l1 l2 hp, e1.trans (Ex.new hp), q⟩)
/-! a new tree: displays, comprehensions -/
theorem RT.newT {K : PySem.W.Frag} {G H : Hp} {v : V} {t : Tr} {l : List Addr} (R : RT K G [] H [] [] [v] [t] [l]) : NewT K G v H t := by
  have el : (([] : List (List Addr)).flatten ++ [l].flatten) = l := by simp
  obtain ⟨x, xs', l', ls', e1, e2, tr, e3, e4⟩ := R.tr
  cases e1; cases e2
  have fr := R.free
  have ex := R.ex
  have nd := R.nd
  rw [el] at tr fr ex nd
  exact ⟨l, tr, fr, ex, nd⟩
theorem RT.nil {K : PySem.W.Frag} {G H : Hp} (e : Ex G H) : RT K G [] H [] [] [] [] [] := by
  have el : (([] : List (List Addr)).flatten ++ ([] : List (List Addr)).flatten) = [] := by simp
  exact ⟨by rw [el, cut_nil]; exact e, rfl, rfl, fun i s x l h => (by cases h), ⟨rfl, rfl⟩, by rw [el]; exact List.nodup_nil⟩
theorem wns_nil {k : List Tr → Prop} (h : k []) : WNs X H0 [] δ k := fun σ G H vs ts ls R0 R => toA pa_nil ⟨[], [], by rw [List.append_nil, List.append_nil, List.append_nil]; exact R, h⟩
theorem wns_cons {k : List Tr → Prop} (h : WN X H0 e δ fun t => WNs X H0 es δ fun us => k (t :: us)) (hs : notStar e = true) : WNs X H0 (e :: es) δ k := fun σ G H vs ts ls R0 R => toA (pa_cons pe_sem pa_sem (star_of hs)) ((semE.frame R.owned (h σ _ (R0.mono R.ex))).mono fun v H' ⟨G', eq, n, t, nt, q⟩ => by
  subst eq
  obtain ⟨l, R'⟩ := R.push n nt
  exact (q σ G _ _ _ _ R0 R').mono fun ws H'' ⟨us, ls'', R'', q2⟩ => ⟨t :: us, l :: ls'', by simpa using R'', q2⟩)
theorem wn_lst {k : Tr → Prop} (h : WNs X H0 es δ fun ts => ts.length = es.length ∧ k (.lst ts)) (hl : Nat.ble es.length 100000 = true) : WN X H0 (.List es pos) δ k := fun σ G R0 =>
  toE (pe_lst pa_sem) ((h σ G G [] [] [] R0 (RT.nil (Same.refl G))).mono fun ws H' ⟨us, ls', R', n, q⟩ => by
    have lw : ws.length = es.length := by have := (trs_len R'.tr).1; rw [List.nil_append, List.nil_append] at this; rw [this, n]
    refine ⟨Nat.le_trans (by rw [lw]; exact Nat.le_of_ble_eq_true hl) (by decide), fun p hp => ?_⟩
    exact ⟨.lst us, (RT.pack (vs := []) (ts := []) (ls := []) R' rfl rfl hp).newT, q⟩)
theorem wns_len {k : List Tr → Prop} (h : WNs X H0 es δ k) : True := trivial
/-- what a comprehension's turns do, by trees -/
def LCT (X : Cx) (sc : Scope) (H0 : Hp) (elt : Expr) (δ : List S) (v : Nat) (ko : List Tr → Prop) (n : Nat) (item : Nat → D) : Prop := ∃ R : Nat → Tr → Prop, n ≤ 100000 ∧ (∀ i, i < n → ∀ (s : Shared) (h : Hp) (C : Addr) (cl : List (Str × Addr)) (fp : List Addr), WN (X.blk s h sc (compEnvC sc cl C X.env) fp) H0 elt (δ.set v (.sh (item i))) (R i)) ∧
  ∀ ts : List Tr, ts.length = n → (∀ (i : Nat) t, ts[i]? = some t → R i t) → ko ts
theorem own_lst {H : Hp} {O : List Addr} (h : ∀ a ∈ O, ∃ xs, H a = some (.lst xs)) : ∀ a ∈ O, OwnAt H O a := fun a ha => .inl (h a ha)
theorem mrg_cutH {H0 H : Hp} {ps : List Addr} (k : ∀ a ∈ ps, H a = H0 a) : mrg H0 ps (cut H ps) = H := by
  funext a
  by_cases z : a ∈ ps
  · rw [mrg_in z, k a z]
  · rw [mrg_out z, cut_out z]
theorem lct_sem {te : TE} {wv n : Nat} {J : It} {item : Nat → D} {P : Nat → List Tr → Prop} {σ : L2.St} {Hf : Hp} {ps : List Addr} {δ : List S} {Q : VK} (fe : FrE te) (hps : ∀ a ∈ ps, OwnAt Hf ps a) (R1 : RelS X.K H0 σ (cut Hf ps) δ)
    (hJ : ∀ i H, Ex (cut Hf ps) H → (i < n → J.go i H ∧ ∀ x H', J.yld i H x H' → H' = H ∧ Is X.K (cut Hf ps) x (item i)) ∧ (n ≤ i → J.stop i H)) (hP : P 0 []) (hn : n ≤ 100000)
    (turn : ∀ i ts, i < n → P i ts → ts.length = i → ∀ G1 σ', Ex (cut Hf ps) G1 → RelS X.K H0 σ' G1 (δ.set wv (.sh (item i))) → te σ' G1 fun y G2 => ∃ t, NewT X.K G1 y G2 t ∧ P (i + 1) (ts ++ [t]))
    (done : ∀ A G ts, NewT X.K (cut Hf ps) (.ref A) G (.lst ts) → (∀ a ∈ ps, G a = none) → ts.length = n → P n ts → Q (.ref A) (mrg Hf ps G)) : ∀ A, Hf A = none → ∃ W : Nat → Nat → Hp → Prop, (∃ m, W 0 m (upd Hf A (.lst []))) ∧ ∀ i m H, W i m H →
      (J.stop i H ∧ Q (.ref A) H) ∨ (J.go i H ∧ ∃ Nx : Hp → Prop, (∀ H', Nx H' → ∃ m', m' < m ∧ W (i + 1) m' H') ∧ ∀ x H', J.yld i H x H' → gName wv x (wipe σ [wv]) H' fun σ2 H2 => wipe σ2 [wv] = wipe σ [wv] ∧ tYes σ2 H2 fun b H3 =>
        if b = true then te σ2 H3 fun y H4 => ∃ acc, H4 A = some (.lst acc) ∧ acc.length < sizeLine ∧ Nx (upd H4 A (.lst (acc ++ [y]))) else Nx H3) := fun A hA => by
  have nA : A ∉ ps := fun z => by
    obtain ⟨u, hu⟩ := (hps A z).some
    rw [hA] at hu; cases hu
  refine ⟨fun i m H => m = n - i ∧ i ≤ n ∧ ∃ (as : List V) (ts : List Tr) (ls : List (List Addr)), H A = some (.lst as) ∧ (∀ a ∈ ps, H a = Hf a) ∧ Ex (cut Hf ps) (cut H (A :: (ls.flatten ++ ps))) ∧ TrsIs X.K H (cut H (A :: (ls.flatten ++ ps))) ts as ls ∧ (A :: ls.flatten).Nodup ∧ (∀ a ∈ ls.flatten, a ∉ ps) ∧ ts.length = i ∧ P i ts, ⟨n, by simp, Nat.zero_le _, [], [], [], upd_same, fun a ha => upd_ne (by rintro rfl; exact nA ha), ?_, ⟨rfl, rfl⟩, by simp, fun a ha => (by cases ha), rfl, hP⟩, ?_⟩
  · intro a u q
    obtain ⟨n1, n2⟩ := cut_some q
    have ne : a ≠ A := ne_of_none n2 hA
    rw [cut_out (by simp [ne, n1]), upd_ne ne]
    exact n2
  rintro i m H ⟨rfl, hi, as, ts, ls, hH, kps, e1, tr, nd, dps, hlen, p⟩
  have e2 : Ex (cut Hf ps) H := e1.trans cut_ex
  obtain ⟨j1, j2⟩ := hJ i H e2
  by_cases hlt : i < n
  · obtain ⟨g1, g2⟩ := j1 hlt
    refine .inr ⟨g1, fun H' => ∃ (as : List V) (ts : List Tr) (ls : List (List Addr)), H' A = some (.lst as) ∧ (∀ a ∈ ps, H' a = Hf a) ∧ Ex (cut Hf ps) (cut H' (A :: (ls.flatten ++ ps))) ∧ TrsIs X.K H' (cut H' (A :: (ls.flatten ++ ps))) ts as ls ∧ (A :: ls.flatten).Nodup ∧ (∀ a ∈ ls.flatten, a ∉ ps) ∧ ts.length = i + 1 ∧ P (i + 1) ts, fun H' h => ⟨n - (i + 1), by omega, rfl, hlt, h⟩, fun x H' y => ?_⟩
    obtain ⟨rfl, ix⟩ := g2 x H' y
    have w1 : (wipe σ [wv]).set wv (some x) = σ.set wv (some x) := by
      show (σ.set wv none).set wv (some x) = _
      rw [List.set_set]
    show wipe ((wipe σ [wv]).set wv (some x)) [wv] = wipe σ [wv] ∧ tYes ((wipe σ [wv]).set wv (some x)) _ _
    rw [w1]
    refine ⟨by show (σ.set wv (some x)).set wv none = σ.set wv none; rw [List.set_set], ?_⟩
    unfold tYes
    refine iteT ?_
    have R2 : RelS X.K H0 (σ.set wv (some x)) (cut H' (A :: (ls.flatten ++ ps))) (δ.set wv (.sh (item i))) := RelS.set (R1.mono e1) (ix.mono e1)
    have owned : ∀ a ∈ A :: (ls.flatten ++ ps), OwnAt H' (A :: (ls.flatten ++ ps)) a := fun a ha => by
      rcases List.mem_cons.mp ha with rfl | ha
      · exact .inl ⟨_, hH⟩
      · rcases List.mem_append.mp ha with ha | ha
        · exact .inl (TrsIs.lst_at ts as ls tr a ha)
        · have up : ∀ b ∈ ps, b ∈ A :: (ls.flatten ++ ps) := fun b hb => List.mem_cons_of_mem _ (List.mem_append_right _ hb)
          rcases hps a ha with ⟨xs, e⟩ | ⟨k, e⟩ | ⟨C, dx, fs, e, y⟩ | ⟨x, C, fs, e, y, e2⟩
          · exact .inl ⟨xs, by rw [kps a ha]; exact e⟩
          · exact .inr (.inl ⟨k, by rw [kps a ha]; exact e⟩)
          · exact .inr (.inr (.inl ⟨C, dx, fs, by rw [kps a ha]; exact e, up _ y⟩))
          · exact .inr (.inr (.inr ⟨x, C, fs, by rw [kps a ha]; exact e, up _ y, by rw [kps x y]; exact e2⟩))
    refine fe _ H' (A :: (ls.flatten ++ ps)) _ _ owned (turn i ts hlt p hlen _ _ e1 R2) fun y G2 n2 ⟨t, nt, pt⟩ => ?_
    obtain ⟨l, hl, fr, ee, ndl⟩ := nt
    refine ⟨as, by rw [mrg_in (by simp)]; exact hH, Nat.lt_of_le_of_lt (by rw [(trs_len tr).1, hlen]; omega : as.length ≤ 100000) (by decide), as ++ [y], ts ++ [t], ls ++ [l], upd_same, ?_⟩
    have eF : (ls ++ [l]).flatten = ls.flatten ++ l := by simp
    have lG : ∀ a ∈ l, ∃ u, G2 a = some u := fun a ha => by
      obtain ⟨xs, e⟩ := TrIs.lst_at t y l hl a ha
      exact ⟨_, e⟩
    have lO : ∀ a ∈ l, a ∉ A :: (ls.flatten ++ ps) := fun a ha z => by obtain ⟨u, e⟩ := lG a ha; rw [n2 a z] at e; cases e
    have lA : A ∉ l := fun z => lO A z (by simp)
    have lls : ∀ a ∈ l, a ∉ ls.flatten := fun a ha z => lO a ha (List.mem_cons_of_mem _ (List.mem_append_left _ z))
    have lps : ∀ a ∈ l, a ∉ ps := fun a ha z => lO a ha (List.mem_cons_of_mem _ (List.mem_append_right _ z))
    have nAls : A ∉ ls.flatten := (List.nodup_cons.mp nd).1
    have cc : cut (upd (mrg H' (A :: (ls.flatten ++ ps)) G2) A (.lst (as ++ [y]))) (A :: ((ls ++ [l]).flatten ++ ps)) = cut G2 l := by
      rw [eF]
      funext a
      by_cases z : a = A
      · subst z; rw [cut_in (by simp), cut_out lA, n2 a (by simp)]
      · by_cases y1 : a ∈ ls.flatten ++ ps
        · rw [cut_in (by simp only [List.mem_cons, List.mem_append] at y1 ⊢; rcases y1 with y1 | y1; exact .inr (.inl (.inl y1)); exact .inr (.inr y1))]
          by_cases y2 : a ∈ l
          · rw [cut_in y2]
          · rw [cut_out y2, n2 a (List.mem_cons_of_mem _ y1)]
        · by_cases y2 : a ∈ l
          · rw [cut_in (by simp [y2]), cut_in y2]
          · rw [cut_out (by simp only [List.mem_cons, List.mem_append] at y1 ⊢; rintro (w | (w | w) | w); exact z w; exact y1 (.inl w); exact y2 w; exact y1 (.inr w)), cut_out y2, upd_ne z, mrg_out (by rw [List.mem_cons]; rintro (w | w); exact z w; exact y1 w)]
    rw [cc]
    refine ⟨fun a ha => by rw [upd_ne (by rintro rfl; exact nA ha), mrg_in (List.mem_cons_of_mem _ (List.mem_append_right _ ha))]; exact kps a ha, e1.trans ee, trs_snoc (TrsIs.mono ee ts as ls (fun a ha => ?_) tr) (TrIs.mono (Same.refl _) t y l (fun a ha => ?_) hl), ?_, fun a ha => ?_, by rw [List.length_append, hlen]; rfl, pt⟩
    · rw [upd_ne (by rintro rfl; exact nAls ha), mrg_in (List.mem_cons_of_mem _ (List.mem_append_left _ ha))]
    · rw [upd_ne (by rintro rfl; exact lA ha), mrg_out (lO a ha)]
    · rw [eF]
      refine List.nodup_cons.mpr ⟨by rw [List.mem_append]; rintro (z | z); exact nAls z; exact lA z, List.nodup_append.mpr ⟨(List.nodup_cons.mp nd).2, ndl, fun a ha b hb e => lls b hb (e ▸ ha)⟩⟩
    · rw [eF] at ha
      rcases List.mem_append.mp ha with z | z
      · exact dps a z
      · exact lps a z
  · have e : i = n := by omega
    subst e
    have dA : ∀ a ∈ A :: ls.flatten, a ∉ ps := fun a ha => by
      rcases List.mem_cons.mp ha with rfl | ha
      · exact nA
      · exact dps a ha
    have cc : cut (cut H ps) (A :: ls.flatten) = cut H (A :: (ls.flatten ++ ps)) := by
      funext a
      by_cases z : a ∈ A :: ls.flatten
      · rw [cut_in z, cut_in (by simp only [List.mem_cons, List.mem_append] at z ⊢; rcases z with z | z; exact .inl z; exact .inr (.inl z))]
      · by_cases y : a ∈ ps
        · rw [cut_out z, cut_in y, cut_in (by simp [y])]
        · rw [cut_out z, cut_out y, cut_out (by simp only [List.mem_cons, List.mem_append] at z ⊢; rintro (w | w | w); exact z (.inl w); exact z (.inr w); exact y w)]
    have q := done A (cut H ps) ts ⟨A :: ls.flatten, ⟨A, as, ls, rfl, rfl, by rw [cut_out nA]; exact hH, by rw [cc]; exact TrsIs.mono (Same.refl _) ts as ls (fun a ha => cut_out (dps a ha)) tr⟩, fun a ha => e1.free (cut_in (by
      rcases List.mem_cons.mp ha with rfl | ha
      · simp
      · exact List.mem_cons_of_mem _ (List.mem_append_left _ ha))), by rw [cc]; exact e1, nd⟩ (fun a ha => cut_in ha) hlen p
    rw [mrg_cutH kps] at q
    exact .inl ⟨j2 (Nat.le_refl _), q⟩
theorem wn_lc {x : Str} {elt it : Expr} {sc : Scope} (v : Nat) (hN : X.N.Nodup) {k : Tr → Prop} (h : Wi X H0 it δ (LCT X sc H0 elt δ v fun ts => k (.lst ts))) (hc : X.calm = true) (ok : blkB X.N X.env.scope sc x v = true) (hi : X.N[v]? = some x) (hl : ∀ cl C, (compEnvC sc cl C X.env).scope.names.lookup x = some .local)
    (hs : ∀ x, foldedSetIterable it X.env x = pure x) : WN X H0 (.ListComp elt [⟨.Name x p, it, [], 0⟩] sc pos) δ k := fun σ G R0 => by
  obtain ⟨wi, hpi, fri, hw⟩ := h
  refine toE (pe_lc hc hN (hpi _) (blkB_ok ok) (pgb hN hi hl) (fun _ _ _ _ _ => pts_nil) pe_b hs) (fri_mono fri (hw σ G R0) fun J G1 ⟨e1, n, item, ⟨R, hl, hw, q⟩, g⟩ => ?_)
  refine lct_sem (X := X) (H0 := H0) (n := n) (wv := v) (item := item) (P := fun i ts => ∀ (j : Nat) t, ts[j]? = some t → R j t) (Q := fun v' G' => ∃ t, NewT X.K G v' G' t ∧ k t) (ps := []) fr_bE (fun a ha => by cases ha) (by rw [cut_nil]; exact R0.mono e1) (by rw [cut_nil]; exact g) (fun j t z => by cases z) hl (fun i ts hi p hlen G2 σ' e2 R' s h' C cl fp => ?_) fun A H ts N _ hlen p => ?_
  · refine (hw i hi s h' C cl fp σ' G2 R').mono fun y G3 ⟨t, nt, rt⟩ => ⟨t, nt, fun j u z => ?_⟩
    by_cases hj : j < ts.length
    · rw [List.getElem?_append_left hj] at z
      exact p j u z
    · rw [List.getElem?_append_right (by omega)] at z
      have e0 : j - ts.length = 0 := by
        cases w : j - ts.length with
        | zero => rfl
        | succ m => rw [w] at z; cases z
      rw [e0] at z
      cases z
      have : j = i := by omega
      rw [this]; exact rt
  · rw [show mrg G1 [] H = H from by funext a; exact mrg_out (by simp)]
    rw [cut_nil] at N
    obtain ⟨l, a, b, c, d⟩ := N
    exact ⟨.lst ts, ⟨l, a, fun z hz => e1.free (b z hz), e1.trans c, d⟩, q ts hlen p⟩
end
end DL
set_option Elab.async false
set_option linter.all false
set_option maxRecDepth 100000
set_option maxHeartbeats 2000000
/-! Part o: a write within a tree. -/
namespace DL
open PySem PySem.Spec PyProof.Rows L2
/-- from v down the places π stands the list at q -/
def AtP (H : Hp) : V → List Nat → Addr → Prop
  | v, [], q => v = .ref q
  | v, j :: π, q => ∃ p xs x, v = .ref p ∧ H p = some (.lst xs) ∧ xs[j]? = some x ∧ AtP H x π q
def subAt : List Tr → List Nat → Option (List Tr)
  | ts, [] => some ts
  | ts, j :: π => match ts[j]? with
    | some (.lst us) => subAt us π
    | _ => none
def updAt : List Tr → List Nat → List Tr → List Tr
  | _, [], us => us
  | ts, j :: π, us => match ts[j]? with
    | some (.lst vs) => ts.set j (.lst (updAt vs π us))
    | _ => ts
section
variable {K : PySem.W.Frag} {H H' G G' H0 B : Hp} {v : V} {σ : L2.St} {δ : List S} {own : List (List Addr)}
theorem AtP.mono (e : Ex H H') : ∀ {π : List Nat} {v : V} {q : Addr}, AtP H v π q → AtP H' v π q
  | [], v, q, h => h
  | j :: π, v, q, ⟨p, xs, x, a, b, c, d⟩ => ⟨p, xs, x, a, e _ _ b, c, AtP.mono e d⟩
theorem AtP.snoc {j : Nat} {q' : Addr} {xs : List V} : ∀ {π : List Nat} {v : V} {q : Addr}, AtP H v π q → H q = some (.lst xs) → xs[j]? = some (.ref q') → AtP H v (π ++ [j]) q'
  | [], v, q, h, h1, h2 => ⟨q, xs, .ref q', h, h1, h2, rfl⟩
  | k :: π, v, q, ⟨p, ys, y, a, b, c, d⟩, h1, h2 => ⟨p, ys, y, a, b, c, AtP.snoc d h1 h2⟩
theorem subAt_snoc {j : Nat} {us vs : List Tr} : ∀ {π : List Nat} {ts : List Tr}, subAt ts π = some us → us[j]? = some (.lst vs) → subAt ts (π ++ [j]) = some vs
  | [], ts, h, h2 => by
    cases h
    show (match us[j]? with | some (.lst us) => subAt us [] | _ => none) = _
    rw [h2]; rfl
  | k :: π, ts, h, h2 => by
    show (match ts[k]? with | some (.lst us) => subAt us (π ++ [j]) | _ => none) = _
    have h : (match ts[k]? with | some (.lst us) => subAt us π | _ => none) = some us := h
    cases e : ts[k]? with
    | none => rw [e] at h; cases h
    | some t =>
      rw [e] at h
      cases t with
      | sh d => cases h
      | lst ws => exact subAt_snoc (π := π) h h2
/-- one child -/
theorem trs_get : ∀ {ts : List Tr} {xs : List V} {ls : List (List Addr)} {j : Nat} {t : Tr}, TrsIs K H G ts xs ls → ts[j]? = some t → ∃ x l, xs[j]? = some x ∧ ls[j]? = some l ∧ TrIs K H G t x l
  | [], xs, ls, j, t, h, e => by cases e
  | t :: ts, xs, ls, j, u, h, e => by
    obtain ⟨x, xs', l, ls', rfl, rfl, a, b⟩ := h
    cases j with
    | zero => cases e; exact ⟨x, l, rfl, rfl, a⟩
    | succ j => exact trs_get (ts := ts) (j := j) b e
theorem trs_set {t : Tr} {x : V} {l : List Addr} : ∀ {ts : List Tr} {xs : List V} {ls : List (List Addr)} {j : Nat}, TrsIs K H G ts xs ls → TrIs K H G t x l → TrsIs K H G (ts.set j t) (xs.set j x) (ls.set j l)
  | [], xs, ls, j, h, i => by
    obtain ⟨rfl, rfl⟩ := h
    exact ⟨rfl, rfl⟩
  | t' :: ts, xs, ls, j, h, i => by
    obtain ⟨y, xs', m, ls', rfl, rfl, a, b⟩ := h
    cases j with
    | zero => exact ⟨x, xs', l, ls', rfl, rfl, i, b⟩
    | succ j => exact ⟨y, _, m, _, rfl, rfl, a, trs_set b i⟩
/-- an edit of one child, the others' objects as they are -/
theorem trs_upd {t : Tr} {x : V} {l' : List Addr} : ∀ {ts : List Tr} {xs : List V} {ls : List (List Addr)} {j : Nat} {l : List Addr}, TrsIs K H G ts xs ls → ls[j]? = some l → xs[j]? = some x → ls.flatten.Nodup → (∀ a ∈ ls.flatten, a ∉ l → H' a = H a) → TrIs K H' G t x l' → TrsIs K H' G (ts.set j t) xs (ls.set j l')
  | [], xs, ls, j, l, h, e, _, _, _, _ => by
    obtain ⟨rfl, rfl⟩ := h
    cases e
  | t' :: ts, xs, ls, j, l, h, e, e2, nd, k, i => by
    obtain ⟨y, xs', m, ls', rfl, rfl, a, b⟩ := h
    rw [List.flatten_cons, List.nodup_append] at nd
    cases j with
    | zero =>
      cases e; cases e2
      exact ⟨x, xs', l', ls', rfl, rfl, i, TrsIs.mono (Same.refl _) ts xs' ls' (fun a ha => k a (by rw [List.flatten_cons]; exact List.mem_append_right _ ha) fun z => nd.2.2 a z a ha rfl) b⟩
    | succ j =>
      have hl : ∀ a ∈ l, a ∈ ls'.flatten := fun a ha => mem_flat (i := j) e ha
      exact ⟨y, xs', m, _, rfl, rfl, TrIs.mono (Same.refl _) t' y m (fun a ha => k a (by rw [List.flatten_cons]; exact List.mem_append_left _ ha) fun z => nd.2.2 a ha a (hl a z) rfl) a, trs_upd b e e2 nd.2.1 (fun a ha hn => k a (by rw [List.flatten_cons]; exact List.mem_append_right _ ha) hn) i⟩
/-- THE EDIT: the list at q, reached by π, gets new items -/
theorem tr_edit {xs' : List V} {us' : List Tr} {ls' : List (List Addr)} : ∀ (π : List Nat) {ts us : List Tr} {v : V} {L : List Addr} {q : Addr}, TrIs K H G (.lst ts) v L → L.Nodup → subAt ts π = some us → AtP H v π q →
    q ∈ L ∧ ∃ xs ls, H q = some (.lst xs) ∧ TrsIs K H G us xs ls ∧ ls.flatten.Nodup ∧ q ∉ ls.flatten ∧ (∀ a ∈ ls.flatten, a ∈ L) ∧
      (TrsIs K (upd H q (.lst xs')) G us' xs' ls' → ls'.flatten.Nodup → (∀ a ∈ ls'.flatten, a ≠ q ∧ (a ∈ L → a ∈ ls.flatten)) → ∃ L', TrIs K (upd H q (.lst xs')) G (.lst (updAt ts π us')) v L' ∧ L'.Nodup ∧ ∀ a ∈ L', a ∈ L ∨ a ∈ ls'.flatten)
  | [], ts, us, v, L, q, h, nd, hs, hp => by
    obtain ⟨p, xs, ls, rfl, rfl, hH, tr⟩ := h
    obtain rfl : q = p := by cases hp; rfl
    cases hs
    obtain ⟨n1, n2⟩ := List.nodup_cons.mp nd
    refine ⟨by simp, xs, ls, hH, tr, n2, n1, fun a ha => List.mem_cons_of_mem _ ha, fun h2 nd' k => ⟨q :: ls'.flatten, ⟨q, xs', ls', rfl, rfl, upd_same, h2⟩, List.nodup_cons.mpr ⟨fun z => (k q z).1 rfl, nd'⟩, fun a ha => ?_⟩⟩
    rcases List.mem_cons.mp ha with rfl | ha
    · exact .inl (by simp)
    · exact .inr ha
  | j :: π, ts, us, v, L, q, h, nd, hs, hp => by
    obtain ⟨p, xs, ls, rfl, rfl, hH, tr⟩ := h
    obtain ⟨p', ys, x, e1, e2, e3, hp⟩ := hp
    cases e1
    rw [hH] at e2; cases e2
    have hs : (match ts[j]? with | some (.lst us) => subAt us π | _ => none) = some us := hs
    cases et : ts[j]? with
    | none => rw [et] at hs; cases hs
    | some t =>
      rw [et] at hs
      cases t with
      | sh d => cases hs
      | lst ws =>
        have hs : subAt ws π = some us := hs
        obtain ⟨x', l, f1, f2, tx⟩ := trs_get tr et
        rw [e3] at f1; cases f1
        obtain ⟨n1, n2⟩ := List.nodup_cons.mp nd
        have ndl : l.Nodup := nd_part n2 f2
        have lsub : ∀ a ∈ l, a ∈ ls.flatten := fun a ha => mem_flat f2 ha
        obtain ⟨hq, zs, ms, g1, g2, g3, g4, g5, g6⟩ := tr_edit π tx ndl hs hp
        refine ⟨List.mem_cons_of_mem _ (lsub q hq), zs, ms, g1, g2, g3, g4, fun a ha => List.mem_cons_of_mem _ (lsub a (g5 a ha)), fun h2 nd' k => ?_⟩
        obtain ⟨L', t', nL, sub⟩ := g6 h2 nd' fun a ha => ⟨(k a ha).1, fun z => (k a ha).2 (List.mem_cons_of_mem _ (lsub a z))⟩
        have pq : p ≠ q := fun e => n1 (e ▸ lsub q hq)
        have apart : ∀ a ∈ L', a ∉ (ls.set j []).flatten := fun a ha z => by
          have pm := flat_set_perm f2
          have ndp := pm.nodup n2
          rw [List.nodup_append] at ndp
          rcases sub a ha with y | y
          · exact ndp.2.2 a z a y rfl
          · have w := (k a y).2 (List.mem_cons_of_mem _ (pm.mem_iff.mpr (List.mem_append_left _ z)))
            exact ndp.2.2 a z a (g5 a w) rfl
        have eu : updAt ts (j :: π) us' = ts.set j (.lst (updAt ws π us')) := by
          show (match ts[j]? with | some (.lst vs) => ts.set j (.lst (updAt vs π us')) | _ => ts) = _
          rw [et]
        rw [eu]
        have pm2 : (ls.set j L').flatten.Perm ((ls.set j []).flatten ++ L') := by
          have f3 : (ls.set j L')[j]? = some L' := List.getElem?_set_self (List.getElem?_eq_some_iff.mp f2).1
          have := flat_set_perm f3
          rw [List.set_set] at this
          exact this
        refine ⟨p :: (ls.set j L').flatten, ⟨p, xs, ls.set j L', rfl, rfl, by rw [upd_ne pq]; exact hH, trs_upd tr f2 e3 n2 (fun a ha hn => upd_ne fun e => hn (e ▸ hq)) t'⟩, ?_, fun a ha => ?_⟩
        · refine List.nodup_cons.mpr ⟨fun z => ?_, pm2.symm.nodup (List.nodup_append.mpr ⟨?_, nL, fun a ha b hb e => apart b hb (e ▸ ha)⟩)⟩
          · rcases List.mem_append.mp (pm2.mem_iff.mp z) with z | z
            · exact n1 ((flat_set_perm f2).mem_iff.mpr (List.mem_append_left _ z))
            · rcases sub p z with y | y
              · exact n1 (lsub p y)
              · exact n1 (lsub p (g5 p ((k p y).2 (by simp))))
          · have := (flat_set_perm f2).nodup n2
            exact (List.nodup_append.mp this).1
        · rcases List.mem_cons.mp ha with rfl | ha
          · exact .inl (by simp)
          · rcases List.mem_append.mp (pm2.mem_iff.mp ha) with z | z
            · exact .inl (List.mem_cons_of_mem _ ((flat_set_perm f2).mem_iff.mpr (List.mem_append_left _ z)))
            · rcases sub a z with y | y
              · exact .inl (List.mem_cons_of_mem _ (lsub a y))
              · exact .inr y
end
end DL
set_option Elab.async false
set_option linter.all false
set_option maxRecDepth 100000
set_option maxHeartbeats 2000000
/-! Part p: statements with trees. -/
namespace DL
open PySem PySem.Spec PyProof.Rows L2
/-! the same items: the same objects -/
mutual
theorem tr_addr {K : PySem.W.Frag} {H G : Hp} : ∀ (t : Tr) {v : V} {l l' : List Addr}, TrIs K H G t v l → TrIs K H G t v l' → l = l'
  | .sh d, v, l, l', h, h' => by rw [h.1, h'.1]
  | .lst ts, v, l, l', h, h' => by
    obtain ⟨p, xs, ls, rfl, rfl, hp, tr⟩ := h
    obtain ⟨p', xs', ls', e, rfl, hp', tr'⟩ := h'
    cases e
    rw [hp] at hp'; cases hp'
    rw [trs_addrs ts tr tr']
theorem trs_addrs {K : PySem.W.Frag} {H G : Hp} : ∀ (ts : List Tr) {xs : List V} {ls ls' : List (List Addr)}, TrsIs K H G ts xs ls → TrsIs K H G ts xs ls' → ls = ls'
  | [], xs, ls, ls', h, h' => by rw [h.2, h'.2]
  | t :: ts, xs, ls, ls', h, h' => by
    obtain ⟨x, xs', l, r, rfl, rfl, a, b⟩ := h
    obtain ⟨x', xs'', l', r', e, rfl, a', b'⟩ := h'
    cases e
    rw [tr_addr t a a', trs_addrs ts b b']
end
theorem trs_addr {K : PySem.W.Frag} {H G : Hp} {ts : List Tr} {xs : List V} {ls ls' : List (List Addr)} {a : Addr} (h : TrsIs K H G ts xs ls) (h' : TrsIs K H G ts xs ls') (m : a ∈ ls.flatten) : a ∈ ls'.flatten := by
  rw [← trs_addrs ts h h']; exact m
section
variable {K : PySem.W.Frag} {H H' G G' H0 B : Hp} {v w : V} {t : Tr} {l : List Addr} {σ : L2.St} {δ δ' : List S} {own : List (List Addr)}
theorem RT.grow {vs : List V} {ts : List Tr} {ls : List (List Addr)} (R : RT K B σ H δ own vs ts ls) (e : Ex H H') : RT K B σ H' δ own vs ts ls := by
  have same : ∀ a ∈ own.flatten ++ ls.flatten, H' a = H a := fun a ha => by
    obtain ⟨o, ho⟩ := (R.owned a ha).some
    rw [ho, e a o ho]
  exact ⟨R.ex.trans (cut_mono e), R.len1, R.len2, fun i s x m h1 h2 h3 => (R.sl i s x m h1 h2 h3).mono (cut_mono e) fun a ha => same a (List.mem_append_left _ (mem_flat h3 ha)), TrsIs.mono (cut_mono e) ts vs ls (fun a ha => same a (List.mem_append_right _ ha)) R.tr, R.nd⟩
theorem RT.edit0 {i : Nat} {ts0 us us' : List Tr} {π : List Nat} {root : V} {q : Addr} {xs' : List V} (R : RT K B σ H δ own [w] [t] [l]) (hi : δ[i]? = some (.ow (.tr ts0))) (hr : σ[i]? = some (some root)) (hs : subAt ts0 π = some us) (hp : AtP H root π q)
    (hn : ∀ xs ls, H q = some (.lst xs) → TrsIs K H (cut H (own.flatten ++ l)) us xs ls → TrIs K H (cut H (own.flatten ++ l)) t w l → ls.flatten.Nodup → q ∉ ls.flatten → l.Nodup → q ∉ l → (∀ a ∈ l, a ∉ ls.flatten) →
      ∃ ls', TrsIs K (upd H q (.lst xs')) (cut H (own.flatten ++ l)) us' xs' ls' ∧ ls'.flatten.Nodup ∧ ∀ a ∈ ls'.flatten, a ∈ ls.flatten ∨ a ∈ l) :
    ∃ own', Rel K B σ (upd H q (.lst xs')) (δ.set i (.ow (.tr (updAt ts0 π us')))) own' := by
  have el : ([l] : List (List Addr)).flatten = l := by simp
  have ex := R.ex
  have nd := R.nd
  have tr := R.tr
  rw [el] at ex nd tr
  obtain ⟨y, ys', m, ms', e1, e2, tw, _, _⟩ := tr
  cases e1; cases e2
  rw [List.nodup_append] at nd
  obtain ⟨x0, L, g1, g2, root', e3, tx⟩ := R.idx hi
  rw [hr] at g1; cases g1
  cases e3
  rw [el] at tx
  have ndL : L.Nodup := nd_part nd.1 g2
  have Lsub : ∀ a ∈ L, a ∈ own.flatten := fun a ha => mem_flat g2 ha
  obtain ⟨hq, xs, ls, f1, f2, f3, f4, f5, -⟩ := tr_edit (xs' := xs') (us' := us') (ls' := []) π tx ndL hs hp
  have ql : q ∉ l := fun z => nd.2.2 q (Lsub q hq) q z rfl
  have dl : ∀ a ∈ l, a ∉ ls.flatten := fun a ha z => nd.2.2 a (Lsub a (f5 a z)) a ha rfl
  obtain ⟨ls', t1, t2, t3⟩ := hn xs ls f1 f2 tw f3 f4 nd.2.1 ql dl
  obtain ⟨_, xs2, ls2, f1', f2', f3', f4', f5', f6⟩ := tr_edit (xs' := xs') (us' := us') (ls' := ls') π tx ndL hs hp
  obtain ⟨L', h1, h2, h3⟩ := f6 t1 t2 fun a ha => by
    rcases t3 a ha with z | z
    · refine ⟨fun e => f4 (e ▸ z), fun _ => ?_⟩
      rw [f1] at f1'; cases f1'
      exact trs_addr f2 f2' z
    · exact ⟨fun e => ql (e ▸ z), fun y => absurd rfl (nd.2.2 a (Lsub a y) a z)⟩
  have pm := flat_set_perm g2
  have ndp := pm.nodup nd.1
  rw [List.nodup_append] at ndp
  have sub : ∀ a ∈ L', a ∈ L ∨ a ∈ l := fun a ha => by
    rcases h3 a ha with z | z
    · exact .inl z
    · rcases t3 a z with y | y
      · exact .inl (f5 a y)
      · exact .inr y
  have apart : ∀ a ∈ L', a ∉ (own.set i []).flatten := fun a ha z => by
    rcases sub a ha with y | y
    · exact ndp.2.2 a z a y rfl
    · exact nd.2.2 a (pm.mem_iff.mpr (List.mem_append_left _ z)) a y rfl
  have eset : (own.set i []).set i L' = own.set i L' := by rw [List.set_set]
  have newO : ∀ a ∈ (own.set i L').flatten, a ∈ own.flatten ++ l := fun a ha => by
    rcases flat_set_sub ha with z | z
    · exact List.mem_append_left _ z
    · rcases sub a z with y | y
      · exact List.mem_append_left _ (Lsub a y)
      · exact List.mem_append_right _ y
  have e : Ex (cut H (own.flatten ++ l)) (cut (upd H q (.lst xs')) (own.set i L').flatten) := fun a u z => by
    obtain ⟨n1, n2⟩ := cut_some z
    rw [cut_out fun y => n1 (newO a y), upd_ne fun y => n1 (by rw [y]; exact List.mem_append_left _ (Lsub q hq))]
    exact n2
  refine ⟨own.set i L', ex.trans e, by simp [R.len1], by simp [R.len2], fun j s x m k1 k2 k3 => ?_, ?_⟩
  · rcases set_get k1 with ⟨rfl, rfl⟩ | ⟨n1, k1⟩
    · rcases set_get k3 with ⟨_, rfl⟩ | ⟨n3, _⟩
      · rw [hr] at k2; cases k2
        exact ⟨root, rfl, TrIs.mono e _ root _ (fun _ _ => rfl) h1⟩
      · exact absurd rfl n3
    · rcases set_get k3 with ⟨e3, _⟩ | ⟨_, k3⟩
      · exact absurd e3 n1
      · have q3 := R.sl j s x m k1 k2 k3
        rw [el] at q3
        exact q3.mono e fun a ha => upd_ne fun z => nd_apart nd.1 g2 k3 n1 hq (z ▸ ha)
  · rw [← eset]
    exact flat_set_nd ndp.1 h2 apart
theorem RT.node {i : Nat} {ts0 us : List Tr} {π : List Nat} {root : V} {q : Addr} {vs : List V} {ts : List Tr} {ls0 : List (List Addr)} (R : RT K B σ H δ own vs ts ls0) (hi : δ[i]? = some (.ow (.tr ts0))) (hr : σ[i]? = some (some root)) (hs : subAt ts0 π = some us) (hp : AtP H root π q) :
    ∃ xs, H q = some (.lst xs) ∧ xs.length = us.length := by
  obtain ⟨x0, L, g1, g2, root', e3, tx⟩ := R.idx hi
  rw [hr] at g1; cases g1
  cases e3
  obtain ⟨hq, xs, ls, f1, f2, -⟩ := tr_edit (xs' := []) (us' := []) (ls' := []) π tx (nd_part (List.nodup_append.mp R.nd).1 g2) hs hp
  exact ⟨xs, f1, (trs_len f2).1⟩
/-- a child more -/
theorem RT.editApp {i : Nat} {ts0 us : List Tr} {π : List Nat} {root : V} {q : Addr} (R : RT K B σ H δ own [w] [t] [l]) (hi : δ[i]? = some (.ow (.tr ts0))) (hr : σ[i]? = some (some root)) (hs : subAt ts0 π = some us) (hp : AtP H root π q) :
    ∃ xs, H q = some (.lst xs) ∧ xs.length = us.length ∧ ∃ own', Rel K B σ (upd H q (.lst (xs ++ [w]))) (δ.set i (.ow (.tr (updAt ts0 π (us ++ [t]))))) own' := by
  obtain ⟨xs, hq, hl⟩ := R.node hi hr hs hp
  refine ⟨xs, hq, hl, R.edit0 hi hr hs hp fun xs1 ls h1 tr tw nd1 nq ndl ql dl => ⟨ls ++ [l], ?_, ?_, ?_⟩⟩
  · rw [hq] at h1; cases h1
    exact trs_snoc (TrsIs.mono (Same.refl _) us xs ls (fun a ha => upd_ne fun e => nq (e ▸ ha)) tr) (TrIs.mono (Same.refl _) t w l (fun a ha => upd_ne fun e => ql (e ▸ ha)) tw)
  · rw [show (ls ++ [l]).flatten = ls.flatten ++ l by simp]
    exact List.nodup_append.mpr ⟨nd1, ndl, fun a ha b hb e => dl b hb (e ▸ ha)⟩
  · intro a ha
    rw [show (ls ++ [l]).flatten = ls.flatten ++ l by simp] at ha
    exact List.mem_append.mp ha
/-- another child at j -/
theorem RT.editSet {i j : Nat} {ts0 us : List Tr} {π : List Nat} {root : V} {q : Addr} (R : RT K B σ H δ own [w] [t] [l]) (hi : δ[i]? = some (.ow (.tr ts0))) (hr : σ[i]? = some (some root)) (hs : subAt ts0 π = some us) (hp : AtP H root π q) :
    ∃ xs, H q = some (.lst xs) ∧ xs.length = us.length ∧ ∃ own', Rel K B σ (upd H q (.lst (xs.set j w))) (δ.set i (.ow (.tr (updAt ts0 π (us.set j t))))) own' := by
  obtain ⟨xs, hq, hl⟩ := R.node hi hr hs hp
  refine ⟨xs, hq, hl, R.edit0 hi hr hs hp fun xs1 ls h1 tr tw nd1 nq ndl ql dl => ⟨ls.set j l, ?_, flat_set_nd nd1 ndl dl, fun a ha => flat_set_sub ha⟩⟩
  rw [hq] at h1; cases h1
  exact trs_set (TrsIs.mono (Same.refl _) us xs ls (fun a ha => upd_ne fun e => nq (e ▸ ha)) tr) (TrIs.mono (Same.refl _) t w l (fun a ha => upd_ne fun e => ql (e ▸ ha)) tw)
end
end DL
set_option Elab.async false
set_option linter.all false
set_option maxRecDepth 100000
set_option maxHeartbeats 2000000
/-! Part q: comprehensions with several names. -/
namespace DL
open PySem PySem.Spec PyProof.Rows L2
section
variable {X : Cx} {H0 : Hp}
theorem wipe_set {σ : L2.St} {v : Nat} {x : Option V} : ∀ {ws : List Nat}, v ∈ ws → wipe (σ.set v x) ws = wipe σ ws
  | [], h => by cases h
  | w :: ws, h => by
    show (wipe (σ.set v x) ws).set w none = (wipe σ ws).set w none
    by_cases e : v = w
    · subst e
      by_cases m : v ∈ ws
      · rw [wipe_set m]
      · have : ∀ {vs : List Nat}, v ∉ vs → wipe (σ.set v x) vs = (wipe σ vs).set v x := by
          intro vs
          induction vs with
          | nil => intro _; rfl
          | cons u us ih =>
            intro hn
            show (wipe (σ.set v x) us).set u none = ((wipe σ us).set u none).set v x
            rw [ih (fun z => hn (List.mem_cons_of_mem _ z)), List.set_comm _ _ (fun z => hn (by rw [z]; exact List.mem_cons_self))]
        rw [this m, List.set_set]
    · rcases List.mem_cons.mp h with z | z
      · exact absurd z e
      · rw [wipe_set z]
theorem wipe_wipe {σ : L2.St} : ∀ {ws us : List Nat}, (∀ v ∈ ws, v ∈ us) → wipe (wipe σ ws) us = wipe σ us
  | [], us, h => rfl
  | w :: ws, us, h => by
    show wipe ((wipe σ ws).set w none) us = _
    rw [wipe_set (h w List.mem_cons_self), wipe_wipe fun v hv => h v (List.mem_cons_of_mem _ hv)]
/-- a comprehension's turns, any target -/
theorem lcg_sem {te : TE} {tt : TT} {ws : List Nat} {g : TG} {n : Nat} {J : It} {item : Nat → D} {δi : Nat → List S} {P : Nat → List D → Prop} {σ : L2.St} {Hf : Hp} {ps : List Addr} {Q : VK} (fe : FrE te) (ft : FrT tt) (hps : ∀ a ∈ ps, OwnAt Hf ps a)
    (hg : ∀ i x H', i < n → Ex (cut Hf ps) H' → Is X.K (cut Hf ps) x (item i) → ∃ σ2, (∀ Qg : L2.St → Hp → Prop, Qg σ2 H' → g x (wipe σ ws) H' Qg) ∧ wipe σ2 ws = wipe σ ws ∧ RelS X.K H0 σ2 (cut Hf ps) (δi i))
    (hJ : ∀ i H, Ex (cut Hf ps) H → (i < n → J.go i H ∧ ∀ x H', J.yld i H x H' → H' = H ∧ Is X.K (cut Hf ps) x (item i)) ∧ (n ≤ i → J.stop i H)) (hP : P 0 [])
    (turn : ∀ i es, i < n → P i es → ∀ G σ', Ex (cut Hf ps) G → RelS X.K H0 σ' G (δi i) → tt σ' G fun b G' => Ex G G' ∧ (b = true → te σ' G' fun y G'' => Ex G' G'' ∧ ∃ e, Is X.K G'' y e ∧ es.length < 100000 ∧ P (i + 1) (es ++ [e])) ∧ (b = false → P (i + 1) es))
    (done : ∀ A G as es, NewIs X.K (cut Hf ps) (.ref A) (upd G A (.lst as)) (.lst es) → (∀ a ∈ ps, upd G A (.lst as) a = none) → P n es → Q (.ref A) (lcH Hf ps A as G)) : ∀ A, Hf A = none → ∃ W : Nat → Nat → Hp → Prop, (∃ m, W 0 m (upd Hf A (.lst []))) ∧ ∀ i m H, W i m H →
      (J.stop i H ∧ Q (.ref A) H) ∨ (J.go i H ∧ ∃ Nx : Hp → Prop, (∀ H', Nx H' → ∃ m', m' < m ∧ W (i + 1) m' H') ∧ ∀ x H', J.yld i H x H' → g x (wipe σ ws) H' fun σ2 H2 => wipe σ2 ws = wipe σ ws ∧ tt σ2 H2 fun b H3 =>
        if b = true then te σ2 H3 fun y H4 => ∃ acc, H4 A = some (.lst acc) ∧ acc.length < sizeLine ∧ Nx (upd H4 A (.lst (acc ++ [y]))) else Nx H3) := fun A hA => by
  have nA : A ∉ ps := fun z => by
    obtain ⟨u, hu⟩ := (hps A z).some
    rw [hA] at hu; cases hu
  refine ⟨fun i m H => m = n - i ∧ i ≤ n ∧ ∃ (G : Hp) (as : List V) (es : List D), H = lcH Hf ps A as G ∧ (G A = none ∧ ∀ a ∈ ps, G a = none) ∧ Ex (cut Hf ps) G ∧ IsL X.K G as es ∧ P i es, ⟨n, by simp, Nat.zero_le _, cut Hf ps, [], [], ((lcH_start (Hf := Hf)).resolve_right nA).symm, ⟨by rw [cut_out nA]; exact hA, fun a ha => cut_in ha⟩, Same.refl _, .nil, hP⟩, ?_⟩
  rintro i m H ⟨rfl, hi, G, as, es, rfl, ⟨hG, hGp⟩, e1, il, p⟩
  have eH : Ex (cut Hf ps) (lcH Hf ps A as G) := e1.trans (lcH_ex (Hf := Hf) (as := as) hG hGp)
  obtain ⟨j1, j2⟩ := hJ i _ eH
  by_cases hlt : i < n
  · obtain ⟨g1, g2⟩ := j1 hlt
    refine .inr ⟨g1, fun H' => ∃ (G : Hp) (as : List V) (es : List D), H' = lcH Hf ps A as G ∧ (G A = none ∧ ∀ a ∈ ps, G a = none) ∧ Ex (cut Hf ps) G ∧ IsL X.K G as es ∧ P (i + 1) es, fun H' h => ⟨n - (i + 1), by omega, rfl, hlt, h⟩, fun x H' y => ?_⟩
    obtain ⟨rfl, ix⟩ := g2 x H' y
    obtain ⟨σ2, w1, w2, R1⟩ := hg i x _ hlt eH ix
    refine w1 _ ⟨w2, ?_⟩
    have t1 := turn i es hlt p G _ e1 (R1.mono e1)
    rw [← lcH_cut (Hf := Hf) (as := as) nA hG hGp] at t1
    refine ft _ (lcH Hf ps A as G) (A :: ps) _ _ (lcH_own nA hps) t1 fun b G3 n3 ⟨e3, y3, z3⟩ => ?_
    rw [lcH_cut nA hG hGp] at e3
    rw [lcH_mrg nA]
    have nA3 := n3 A (by simp)
    have np3 : ∀ a ∈ ps, G3 a = none := fun a ha => n3 a (List.mem_cons_of_mem _ ha)
    cases b with
    | false => exact ⟨G3, as, es, rfl, ⟨nA3, np3⟩, e1.trans e3, il.mono e3, z3 rfl⟩
    | true =>
      have t3 := y3 rfl
      rw [← lcH_cut (Hf := Hf) (as := as) nA nA3 np3] at t3
      refine fe _ (lcH Hf ps A as G3) (A :: ps) _ _ (lcH_own nA hps) t3 fun y G4 n4 ⟨e4, d, id, hl, hp⟩ => ?_
      rw [lcH_cut nA nA3 np3] at e4
      rw [lcH_mrg nA]
      exact ⟨as, lcH_at nA, Nat.lt_of_lt_of_le (by rw [il.1]; exact hl) (by decide), G4, as ++ [y], es ++ [d], lcH_upd nA, ⟨n4 A (by simp), fun a ha => n4 a (List.mem_cons_of_mem _ ha)⟩, e1.trans (e3.trans e4), (il.mono (e3.trans e4)).snoc id, hp⟩
  · have e : i = n := by omega
    subst e
    refine .inl ⟨j2 (Nat.le_refl _), done A G as es ((NewIs.lst hG il).back e1) (fun a ha => ?_) p⟩
    rw [upd_ne (by intro e; subst e; exact nA ha)]
    exact hGp a ha
/-! names of a tuple -/
def setL : List Nat → List D → List S → List S
  | i :: is, d :: ds, δ => setL is ds (δ.set i (.sh d))
  | _, _, δ => δ
def gNames : List Nat → TGs
  | [] => gNil
  | v :: vs => gCons (gName v) (gNames vs)
theorem gNames_ok {G : Hp} {H' : Hp} : ∀ {is : List Nat} {xs : List V} {ds : List D} {σ : L2.St} {δ : List S}, IsL X.K G xs ds → ds.length = is.length → RelS X.K H0 σ G δ → ∃ σ2, (∀ Qg : L2.St → Hp → Prop, Qg σ2 H' → gNames is xs σ H' Qg) ∧ (∀ us, (∀ v ∈ is, v ∈ us) → wipe σ2 us = wipe σ us) ∧ RelS X.K H0 σ2 G (setL is ds δ)
  | [], xs, ds, σ, δ, h, hl, R => by
    have hd : ds = [] := List.length_eq_zero_iff.mp hl
    subst hd
    exact ⟨σ, fun Qg q => ⟨h.inv_nil, q⟩, fun _ _ => rfl, R⟩
  | i :: is, xs, [], σ, δ, h, hl, R => by cases hl
  | i :: is, xs, d :: ds, σ, δ, h, hl, R => by
    obtain ⟨x, r, rfl, i0, il⟩ := h.inv_cons
    obtain ⟨σ2, a, b, c⟩ := gNames_ok (is := is) (H' := H') il (Nat.succ.inj hl) (RelS.set (i := i) R i0)
    exact ⟨σ2, fun Qg q => ⟨x, r, rfl, a Qg q⟩, fun us hu => by rw [b us fun v hv => hu v (List.mem_cons_of_mem _ hv), wipe_set (hu i List.mem_cons_self)], c⟩
theorem RelS.wipe {K : PySem.W.Frag} {G : Hp} {σ : L2.St} {δ : List S} (R : RelS K H0 σ G δ) : ∀ ws : List Nat, RelS K H0 (wipe σ ws) G (ws.foldr (fun w δ => δ.set w .no) δ)
  | [] => R
  | w :: ws => by
    have R1 := RelS.wipe R ws
    refine ⟨R1.ex, by show ((L2.wipe σ ws).set w none).length = _; simp [R1.len], fun j d hj => ?_⟩
    rcases set_get hj with ⟨_, e⟩ | ⟨n, e⟩
    · cases e
    · show ∃ v, ((L2.wipe σ ws).set w none)[j]? = _ ∧ _
      rw [List.getElem?_set_ne n]
      exact R1.sh j d e
end
end DL
set_option Elab.async false
set_option linter.all false
set_option maxHeartbeats 4000000
/-! The mathematics of k00: Euclid's steps, lowest terms. -/
namespace K00
open DL
theorem euclid_step {l r i M : Nat} (hr : 0 < r) (h1 : l * r * 2 ^ i ≤ M) (h0 : i = 0 → 2 * (l * r) ≤ M) (hl : 0 < i → r < l) : r * (l % r) * 2 ^ (i + 1) ≤ M ∧ l % r < r := by
  refine ⟨?_, Nat.mod_lt _ hr⟩
  by_cases h : r ≤ l
  · have e : 2 * (l % r) ≤ l := by
      have a := Nat.mod_lt l hr
      have b := Nat.div_add_mod l r
      have c : 1 ≤ l / r := Nat.div_pos h hr
      have d : r * 1 ≤ r * (l / r) := Nat.mul_le_mul_left r c
      omega
    calc r * (l % r) * 2 ^ (i + 1) = r * 2 ^ i * (2 * (l % r)) := by
          rw [Nat.pow_succ, Nat.mul_assoc, Nat.mul_assoc, Nat.mul_left_comm (l % r), Nat.mul_comm (l % r)]
      _ ≤ r * 2 ^ i * l := Nat.mul_le_mul_left _ e
      _ = l * r * 2 ^ i := by rw [Nat.mul_comm, Nat.mul_assoc]
      _ ≤ M := h1
  · have e : i = 0 := by
      rcases Nat.eq_zero_or_pos i with z | z
      · exact z
      · exact absurd (Nat.le_of_lt (hl z)) h
    subst e
    rw [Nat.mod_eq_of_lt (Nat.lt_of_not_le h)]
    have := h0 rfl
    rw [Nat.pow_one, Nat.mul_comm r l, Nat.mul_comm]
    exact this
theorem euclid_end {l r i n : Nat} (h : l * r * 2 ^ i ≤ 2 ^ n) (hn : n < i) (hl : r < l) : r = 0 := by
  rcases Nat.eq_zero_or_pos r with z | z
  · exact z
  · exfalso
    have a : 1 ≤ l * r := Nat.mul_pos (Nat.lt_of_le_of_lt (Nat.zero_le _) hl) z
    have b : 2 ^ i ≤ l * r * 2 ^ i := Nat.le_mul_of_pos_left _ a
    have c : 2 ^ n < 2 ^ i := Nat.pow_lt_pow_right (by decide) hn
    omega
/-- p / q is u / v in its one form -/
structure RatIs (p q u v : Int) : Prop where
  pos : 1 ≤ q
  gcd : Nat.gcd p.natAbs q.natAbs = 1
  eq : p * v = u * q
  lp : p.natAbs ≤ u.natAbs
  lq : q.natAbs ≤ v.natAbs
theorem fdiv_pos {a g : Int} (hg : 0 < g) : a.fdiv g = a / g := Int.fdiv_eq_ediv_of_nonneg a (by omega)
theorem rat_of {u v : Int} (hv : 0 < v) : RatIs (u / ((Nat.gcd u.natAbs v.natAbs : Nat) : Int)) (v / ((Nat.gcd u.natAbs v.natAbs : Nat) : Int)) u v := by
  have hg : 0 < Nat.gcd u.natAbs v.natAbs := Nat.gcd_pos_of_pos_right _ (by omega)
  obtain ⟨a, ha⟩ : ((Nat.gcd u.natAbs v.natAbs : Nat) : Int) ∣ u := Int.ofNat_dvd_left.mpr (Nat.gcd_dvd_left _ _)
  obtain ⟨b, hb⟩ : ((Nat.gcd u.natAbs v.natAbs : Nat) : Int) ∣ v := Int.ofNat_dvd_left.mpr (Nat.gcd_dvd_right _ _)
  generalize hG : Nat.gcd u.natAbs v.natAbs = g at *
  have hg' : (g : Int) ≠ 0 := by omega
  have e1 : u / (g : Int) = a := by rw [ha]; exact Int.mul_ediv_cancel_left _ hg'
  have e2 : v / (g : Int) = b := by rw [hb]; exact Int.mul_ediv_cancel_left _ hg'
  rw [e1, e2]
  have na : u.natAbs = g * a.natAbs := by rw [ha, Int.natAbs_mul]; rfl
  have nb : v.natAbs = g * b.natAbs := by rw [hb, Int.natAbs_mul]; rfl
  have bp : 0 < b := by
    rw [hb] at hv
    rcases Int.lt_or_le 0 b with z | z
    · exact z
    · have := Int.mul_le_mul_of_nonneg_left z (show (0 : Int) ≤ (g : Int) by omega)
      rw [Int.mul_zero] at this
      omega
  refine ⟨by omega, ?_, ?_, ?_, ?_⟩
  · rw [na, nb, Nat.gcd_mul_left] at hG
    exact Nat.eq_of_mul_eq_mul_left hg (by rw [hG]; simp)
  · rw [ha, hb]
    rw [Int.mul_left_comm, Int.mul_assoc]
  · rw [na]; exact Nat.le_mul_of_pos_left _ hg
  · rw [nb]; exact Nat.le_mul_of_pos_left _ hg
theorem RatIs.negs {p q u v : Int} (h : RatIs p q (-u) (-v)) : RatIs p q u v := by
  refine ⟨h.pos, h.gcd, ?_, by have := h.lp; rwa [Int.natAbs_neg] at this, by have := h.lq; rwa [Int.natAbs_neg] at this⟩
  have := h.eq
  rw [Int.mul_neg, Int.neg_mul] at this
  omega
theorem Bd.of_le {n : Nat} {x y : Int} (h : Bd n y) (l : x.natAbs ≤ y.natAbs) : Bd n x := Nat.lt_of_le_of_lt l h
end K00
set_option Elab.async false
set_option linter.all false
/-! The mathematics of k01: rows in lowest terms. -/
namespace K00
open DL
def gcdL (a : Nat) (ns : List Int) : Nat := ns.foldl (fun g n => Nat.gcd g n.natAbs) a
theorem gcdL_cons {a : Nat} {n : Int} {ns : List Int} : gcdL a (n :: ns) = gcdL (Nat.gcd a n.natAbs) ns := rfl
theorem gcdL_snoc {a : Nat} {n : Int} {ns : List Int} : gcdL a (ns ++ [n]) = Nat.gcd (gcdL a ns) n.natAbs := by unfold gcdL; rw [List.foldl_append]; rfl
theorem dvd_gcdL {d : Nat} : ∀ {ns : List Int} {a : Nat}, d ∣ gcdL a ns ↔ d ∣ a ∧ ∀ n ∈ ns, d ∣ n.natAbs
  | [], a => ⟨fun h => ⟨h, fun n hn => by cases hn⟩, fun h => h.1⟩
  | n :: ns, a => by
    rw [gcdL_cons, dvd_gcdL, Nat.dvd_gcd_iff]
    constructor
    · intro ⟨⟨h1, h2⟩, h3⟩
      refine ⟨h1, fun m hm => ?_⟩
      rcases List.mem_cons.mp hm with rfl | z
      · exact h2
      · exact h3 m z
    · intro ⟨h1, h2⟩
      exact ⟨⟨h1, h2 n List.mem_cons_self⟩, fun m hm => h2 m (List.mem_cons_of_mem _ hm)⟩
theorem gcdL_mul {c : Int} : ∀ {ns : List Int} {a : Nat}, gcdL (c.natAbs * a) (ns.map (c * ·)) = c.natAbs * gcdL a ns
  | [], a => rfl
  | n :: ns, a => by
    rw [List.map_cons, gcdL_cons, gcdL_cons, Int.natAbs_mul, Nat.gcd_mul_left, gcdL_mul]
theorem gcdL_pos {a : Nat} (h : 0 < a) (ns : List Int) : 0 < gcdL a ns := by
  rcases Nat.eq_zero_or_pos (gcdL a ns) with z | z
  · have := (dvd_gcdL (d := gcdL a ns) (ns := ns) (a := a)).mp (Nat.dvd_refl _)
    rw [z] at this
    have := Nat.eq_zero_of_zero_dvd this.1
    omega
  · exact z
/-- ps over q is tops over line, in its one form -/
structure RowIs (ps : List Int) (q : Int) (tops : List Int) (line : Int) : Prop where
  pos : 1 ≤ q
  len : ps.length = tops.length
  gcd : gcdL q.natAbs ps = 1
  eq : ∀ (i : Nat) p t, ps[i]? = some p → tops[i]? = some t → p * line = t * q
  lq : q.natAbs ≤ line.natAbs
  lp : ∀ (i : Nat) p t, ps[i]? = some p → tops[i]? = some t → p.natAbs ≤ t.natAbs
theorem row_math {ns : List Int} {ln : Int} (hl : 1 ≤ ln) : RowIs (ns.map (· / ((gcdL ln.natAbs ns : Nat) : Int))) (ln / ((gcdL ln.natAbs ns : Nat) : Int)) ns ln := by
  have g0 := gcdL_pos (a := ln.natAbs) (by omega) ns
  have dv := (dvd_gcdL (d := gcdL ln.natAbs ns) (ns := ns) (a := ln.natAbs)).mp (Nat.dvd_refl _)
  generalize hg : gcdL ln.natAbs ns = g at *
  have dl : (g : Int) ∣ ln := Int.ofNat_dvd_left.mpr dv.1
  have dn : ∀ n ∈ ns, (g : Int) ∣ n := fun n hn => Int.ofNat_dvd_left.mpr (dv.2 n hn)
  have el : ln / (g : Int) * (g : Int) = ln := Int.ediv_mul_cancel dl
  have en : ∀ n ∈ ns, n / (g : Int) * (g : Int) = n := fun n hn => Int.ediv_mul_cancel (dn n hn)
  have qp : 1 ≤ ln / (g : Int) := by
    have : 0 < ln / (g : Int) := Int.ediv_pos_of_pos_of_dvd (by omega) (by omega) dl
    omega
  refine ⟨qp, by simp, ?_, fun i p t h1 h2 => ?_, ?_, fun i p t h1 h2 => ?_⟩
  · have m := gcdL_mul (c := (g : Int)) (ns := ns.map (· / (g : Int))) (a := (ln / (g : Int)).natAbs)
    have e1 : (ns.map (· / (g : Int))).map ((g : Int) * ·) = ns := by
      rw [List.map_map]
      conv => rhs; rw [← List.map_id ns]
      exact List.map_congr_left fun n hn => by
        show (g : Int) * (n / (g : Int)) = n
        rw [Int.mul_comm]; exact en n hn
    have e2 : (g : Int).natAbs * (ln / (g : Int)).natAbs = ln.natAbs := by rw [← Int.natAbs_mul, Int.mul_comm, el]
    rw [e1, e2, hg] at m
    have m' : g * gcdL (ln / (g : Int)).natAbs (ns.map (· / (g : Int))) = g * 1 := by rw [Nat.mul_one]; exact m.symm
    exact Nat.eq_of_mul_eq_mul_left g0 m'
  · rw [List.getElem?_map, h2] at h1
    cases h1
    have ht := en t (List.mem_of_getElem? h2)
    calc t / (g : Int) * ln = t / (g : Int) * (ln / (g : Int) * (g : Int)) := by rw [el]
      _ = (t / (g : Int) * (g : Int)) * (ln / (g : Int)) := by ac_rfl
      _ = t * (ln / (g : Int)) := by rw [ht]
  · have : (ln / (g : Int)).natAbs * g = ln.natAbs := by
      have := congrArg Int.natAbs el
      rwa [Int.natAbs_mul] at this
    rw [← this]; exact Nat.le_mul_of_pos_right _ g0
  · rw [List.getElem?_map, h2] at h1
    cases h1
    have ht := en t (List.mem_of_getElem? h2)
    have : (t / (g : Int)).natAbs * g = t.natAbs := by
      have := congrArg Int.natAbs ht
      rwa [Int.natAbs_mul] at this
    rw [← this]; exact Nat.le_mul_of_pos_right _ g0
theorem RowIs.neg {ps : List Int} {q : Int} {ts : List Int} {line : Int} (h : RowIs ps q (ts.map (fun t => -t)) (-line)) : RowIs ps q ts line := by
  refine ⟨h.pos, by rw [h.len]; simp, h.gcd, fun i p t h1 h2 => ?_, by have := h.lq; rwa [Int.natAbs_neg] at this, fun i p t h1 h2 => ?_⟩
  · have := h.eq i p (-t) h1 (by rw [List.getElem?_map, h2]; rfl)
    rw [Int.mul_neg, Int.neg_mul] at this
    omega
  · have := h.lp i p (-t) h1 (by rw [List.getElem?_map, h2]; rfl)
    rwa [Int.natAbs_neg] at this
theorem RowIs.uniq {ps ps' : List Int} {q q' : Int} {ts ts' : List Int} {l l' : Int} (h : RowIs ps q ts l) (h' : RowIs ps' q' ts' l') (hl : l ≠ 0) (hl' : l' ≠ 0) (hn : ts.length = ts'.length) (e : ∀ (i : Nat) t t', ts[i]? = some t → ts'[i]? = some t' → t * l' = t' * l) : ps = ps' ∧ q = q' := by
  have len : ps.length = ps'.length := by rw [h.len, h'.len, hn]
  have cross : ∀ (i : Nat) p p', ps[i]? = some p → ps'[i]? = some p' → p * q' = p' * q := fun i p p' h1 h2 => by
    have i1 : i < ts.length := by rw [← h.len]; exact (List.getElem?_eq_some_iff.mp h1).1
    have i2 : i < ts'.length := by rw [← hn]; exact i1
    have t1 := List.getElem?_eq_getElem i1
    have t2 := List.getElem?_eq_getElem i2
    have a1 := h.eq i p _ h1 t1
    have a2 := h'.eq i p' _ h2 t2
    have a3 := e i _ _ t1 t2
    generalize ts[i] = t at *
    generalize ts'[i] = t' at *
    have k : (p * q') * (l * l') = (p' * q) * (l * l') := by
      calc (p * q') * (l * l') = (p * l) * (q' * l') := by ac_rfl
        _ = (t * q) * (q' * l') := by rw [a1]
        _ = (t * l') * (q * q') := by ac_rfl
        _ = (t' * q') * (q * l) := by rw [a3]; ac_rfl
        _ = (p' * l') * (q * l) := by rw [a2]
        _ = (p' * q) * (l * l') := by ac_rfl
    exact Int.eq_of_mul_eq_mul_right (Int.mul_ne_zero hl hl') k
  have half : ∀ {ps ps' : List Int} {q q' : Int}, ps.length = ps'.length → gcdL q.natAbs ps = 1 → (∀ (i : Nat) p p', ps[i]? = some p → ps'[i]? = some p' → p * q' = p' * q) → q.natAbs ∣ q'.natAbs := fun {ps ps' q q'} hlen hg hc => by
    have m := gcdL_mul (c := q') (ns := ps) (a := q.natAbs)
    rw [hg, Nat.mul_one] at m
    rw [← m]
    refine dvd_gcdL.mpr ⟨Nat.dvd_mul_left _ _, fun n hn => ?_⟩
    obtain ⟨p, hp, rfl⟩ := List.mem_map.mp hn
    obtain ⟨i, hi⟩ := List.mem_iff_getElem?.mp hp
    have i2 : i < ps'.length := by rw [← hlen]; exact (List.getElem?_eq_some_iff.mp hi).1
    have c := hc i p _ hi (List.getElem?_eq_getElem i2)
    show q.natAbs ∣ (q' * p).natAbs
    rw [Int.mul_comm, c, Int.natAbs_mul]
    exact Nat.dvd_mul_left _ _
  have d1 := half len h.gcd cross
  have d2 := half len.symm h'.gcd fun i p p' a b => (cross i p' p b a).symm
  have e3 := Nat.dvd_antisymm d1 d2
  have hq := h.pos
  have hq' := h'.pos
  have e4 : q = q' := by omega
  subst e4
  refine ⟨List.ext_getElem? fun i => ?_, rfl⟩
  by_cases hi : i < ps.length
  · have a := List.getElem?_eq_getElem hi
    have b := List.getElem?_eq_getElem (show i < ps'.length by omega)
    have c := cross i _ _ a b
    rw [a, b]
    exact congrArg some (Int.eq_of_mul_eq_mul_right (by omega) c)
  · rw [List.getElem?_eq_none (by omega), List.getElem?_eq_none (by omega)]
end K00
set_option Elab.async false
set_option linter.all false
set_option maxRecDepth 100000
set_option maxHeartbeats 2000000
/-! The deep machine, part a: a small language of resolved defs, and what each of its texts asks for (a weakest precondition over data). -/
namespace DL
open PySem PySem.Spec PyProof.Rows L2
inductive Bop where
  | add | sub | mul | div | mod | pow
  deriving DecidableEq
inductive Cop where
  | eq | ne | lt | le | gt | ge | is | isnot | inn | nin
  deriving DecidableEq
inductive Ty where
  | int | bool | str | list | tuple
  deriving DecidableEq
inductive Bf where
  | len | int | abs | tuple | list | sum | max | min | gcd | lcm
  deriving DecidableEq
mutual
/-- an expression; names are slots, defs stand by their number -/
inductive Xe where
  | var (i : Nat) | int (i : Int) | bl (b : Bool) | non | str (s : Str)
  | bin (o : Bop) (a b : Xe) | rep (a b : Xe) | neg (a : Xe) | not (a : Xe) | cmp (o : Cop) (a b : Xe)
  | and (as : Xl) | or (as : Xl) | ite (c a b : Xe) | itu (c a b : Xe)
  | ix (a b : Xe) | ixn (a : Xe) (n : Nat) | fld (a : Xe) (f : Str) | slc (a lo hi : Xe)
  | tup (as : Xl) | lst (as : Xl)
  | call (i : Nat) (as : Xl) | bi (f : Bf) (as : Xl) | isi (a : Xe) (t : Ty)
  | lc (v : Nat) (elt : Xe) (it : Xi) | lcf (v : Nat) (elt : Xe) (it : Xi) (c : Xe) | lct (is : List Nat) (elt : Xe) (it : Xi)
inductive Xl where
  | nil | cons (a : Xe) (as : Xl)
inductive Xi where
  | rng (a : Xe) | rng2 (a b : Xe) | sq (a : Xe)
end
def Xl.none_ : Xl → Bool
  | .nil => true
  | .cons .. => false
/-! ### what operations ask, by data -/
def binD : Bop → D → D → (S → Prop) → Prop
  | .add, .int i, .int j, k => k (.sh (.int (i + j)))
  | .add, .sq true xs, .sq true ys, k => xs.length + ys.length ≤ 100000 ∧ k (.ow (.lst (xs ++ ys)))
  | .add, .sq false xs, .sq false ys, k => xs.length + ys.length ≤ 100000 ∧ k (.sh (.sq false (xs ++ ys)))
  | .sub, .int i, .int j, k => k (.sh (.int (i - j)))
  | .mul, .int i, .int j, k => CMulW i j ∧ k (.sh (.int (i * j)))
  | .div, .int i, .int j, k => (CDivW i j ∧ k (.sh (.int (i / j)))) ∨ (CDivX i j ∧ k (.sh (.int (i.fdiv j))))
  | .mod, .int i, .int j, k => 0 < j ∧ k (.sh (.int (i % j)))
  | .pow, .int i, .int j, k => (0 ≤ j ∧ j ≤ 1000000 ∧ i.natAbs < 2 ^ 64) ∧ k (.sh (.int (i ^ j.toNat)))
  | _, _, _, _ => False
def repD : S → D → (S → Prop) → Prop
  | .ow (.lst xs), .int n, k => (-1000000 ≤ n ∧ n ≤ 1000000 ∧ xs.length * n.toNat ≤ 100000) ∧ k (.ow (.lst (List.replicate n.toNat xs).flatten))
  | _, _, _ => False
def negD : D → (S → Prop) → Prop
  | .int i, k => k (.sh (.int (-i)))
  | _, _ => False
/-- == of two things: ints, texts, bools; else plain data -/
def eqD : D → D → (Bool → Prop) → Prop
  | .int i, .int j, k => k (decide (i = j))
  | .bl i, .bl j, k => k (decide (i = j))
  | .str i, .str j, k => k (decide (i = j))
  | x, y, k => (plB 60 x = true ∧ plB 60 y = true) ∧ ∀ b : Bool, (b = true ↔ x = y) → k b
def eqT : D → D → Prop → Prop → Prop
  | .int i, .int j, y, n => (i = j → y) ∧ (i ≠ j → n)
  | .bl i, .bl j, y, n => (i = j → y) ∧ (i ≠ j → n)
  | .str i, .str j, y, n => (i = j → y) ∧ (i ≠ j → n)
  | a, b, y, n => (plB 60 a = true ∧ plB 60 b = true) ∧ (a = b → y) ∧ (a ≠ b → n)
/-- things that in compares by kind -/
def isIntD : D → Bool
  | .int _ => true
  | _ => false
def isStrD : D → Bool
  | .str _ => true
  | _ => false
def kin : D → List D → Bool
  | .int _, ds => ds.all isIntD
  | .str _, ds => ds.all isStrD
  | _, _ => false
def cmpB : Cop → D → D → (Bool → Prop) → Prop
  | .eq, x, y, k => eqD x y k
  | .ne, x, y, k => eqD x y fun b => k (!b)
  | .lt, .int i, .int j, k => k (decide (i < j))
  | .le, .int i, .int j, k => k (decide (i ≤ j))
  | .gt, .int i, .int j, k => k (decide (j < i))
  | .ge, .int i, .int j, k => k (decide (j ≤ i))
  | .is, x, .non, k => k (isNon x)
  | .isnot, x, .non, k => k (!isNon x)
  | .is, .bl i, .bl j, k => k (decide (i = j))
  | .isnot, .bl i, .bl j, k => k (!decide (i = j))
  | .inn, x, .sq _ ds, k => kin x ds = true ∧ ∀ b : Bool, (b = true ↔ x ∈ ds) → k b
  | .nin, x, .sq _ ds, k => kin x ds = true ∧ ∀ b : Bool, (b = true ↔ x ∈ ds) → k (!b)
  | _, _, _, _ => False
def cmpT : Cop → D → D → Prop → Prop → Prop
  | .eq, x, y, a, b => eqT x y a b
  | .ne, x, y, a, b => eqT x y b a
  | .lt, .int i, .int j, a, b => (i < j → a) ∧ (¬ i < j → b)
  | .le, .int i, .int j, a, b => (i ≤ j → a) ∧ (¬ i ≤ j → b)
  | .gt, .int i, .int j, a, b => (j < i → a) ∧ (¬ j < i → b)
  | .ge, .int i, .int j, a, b => (j ≤ i → a) ∧ (¬ j ≤ i → b)
  | .is, x, .non, a, b => match isNon x with | true => a | false => b
  | .isnot, x, .non, a, b => match isNon x with | true => b | false => a
  | .is, .bl i, .bl j, a, b => (i = j → a) ∧ (i ≠ j → b)
  | .isnot, .bl i, .bl j, a, b => (i = j → b) ∧ (i ≠ j → a)
  | .inn, x, .sq _ ds, a, b => kin x ds = true ∧ (x ∈ ds → a) ∧ (x ∉ ds → b)
  | .nin, x, .sq _ ds, a, b => kin x ds = true ∧ (x ∈ ds → b) ∧ (x ∉ ds → a)
  | _, _, _, _, _ => False
/-- the truth of a value -/
def truT : D → Prop → Prop → Prop
  | .bl b, y, n => (b = true → y) ∧ (b = false → n)
  | .int i, y, n => (i ≠ 0 → y) ∧ (i = 0 → n)
  | .sq _ xs, y, n => (xs ≠ [] → y) ∧ (xs = [] → n)
  | .non, _, n => n
  | _, _, _ => False
def ixD : D → D → (D → Prop) → Prop
  | .sq _ ds, .int i, k => ∃ d, atI ds i = some d ∧ k d
  | .scr ns, .int i, k => ∃ n, atI ns i = some n ∧ k (.int n)
  | _, _, _ => False
/-- at a written place from the left -/
def ixN' : D → Nat → (D → Prop) → Prop
  | .sq _ ds, n, k => match ds[n]? with
    | some d => k d
    | none => False
  | _, _, _ => False
/-- a field -/
def fldD : D → Str → (D → Prop) → Prop
  | .ins _ gs, f, k => match gs.lookup f with
    | some d => k d
    | none => False
  | _, _, _ => False
/-- a slice -/
def cutD (ds : List D) (lo hi : Option Int) : List D := (ds.drop (HT.sIx ds.length 0 lo)).take (HT.sIx ds.length ds.length hi - HT.sIx ds.length 0 lo)
def optI : D → (Option Int → Prop) → Prop
  | .int i, k => k (some i)
  | _, _ => False
def isNonX : Xe → Bool
  | .non => true
  | _ => false
def slcD : D → Option Int → Option Int → (S → Prop) → Prop
  | .sq true ds, lo, hi, k => k (.ow (.lst (cutD ds lo hi)))
  | .sq false ds, lo, hi, k => k (.sh (.sq false (cutD ds lo hi)))
  | _, _, _, _ => False
def isiD : D → Ty → Option Bool
  | .int _, .int => some true | .int _, _ => some false
  | .bl _, .int => some true | .bl _, .bool => some true | .bl _, _ => some false
  | .str _, .str => some true | .str _, _ => some false
  | .sq true _, .list => some true | .sq true _, _ => some false
  | .sq false _, .tuple => some true | .sq false _, _ => some false
  | .non, _ => some false
  | _, _ => none
structure SumW (xs : List D) (k : Int → Prop) : Prop where
  ex : ∃ ns : List Int, xs = ns.map .int ∧ k ns.sum
def bfD : Bf → List D → (S → Prop) → Prop
  | .len, [.sq _ xs], k => k (.sh (.int (xs.length : Int)))
  | .len, [.scr ns], k => k (.sh (.int (ns.length : Int)))
  | .int, [.int i], k => k (.sh (.int i))
  | .int, [.bl b], k => k (.sh (.int (if b then 1 else 0)))
  | .abs, [.int i], k => k (.sh (.int (i.natAbs : Int)))
  | .tuple, [.sq _ xs], k => k (.sh (.sq false xs))
  | .list, [.sq _ xs], k => k (.ow (.lst xs))
  | .sum, [.sq true xs], k => SumW xs fun i => k (.sh (.int i))
  | .max, [.int i, .int j], k => k (.sh (.int (if j > i then j else i)))
  | .min, [.int i, .int j], k => k (.sh (.int (if j < i then j else i)))
  | .gcd, [.int i, .int j], k => k (.sh (.int ((Nat.gcd i.natAbs j.natAbs : Nat) : Int)))
  | .lcm, [.int i, .int j], k => (Bd 13000 i ∧ Bd 13000 j) ∧ k (.sh (.int ((Nat.lcm i.natAbs j.natAbs : Nat) : Int)))
  | _, _, _ => False
/-- a comprehension: what each item becomes -/
structure LcW (n : Nat) (item : Nat → D) (body : D → (D → Prop) → Prop) (k : List D → Prop) : Prop where
  ex : ∃ R : Nat → D → Prop, n ≤ 100000 ∧ (∀ i, i < n → body (item i) (R i)) ∧ ∀ es, EachN R n es → k es
structure LcfW (n : Nat) (item : Nat → D) (test : D → (Bool → Prop) → Prop) (body : D → (D → Prop) → Prop) (k : List D → Prop) : Prop where
  ex : ∃ (t : D → Bool) (g : D → D), n ≤ 100000 ∧ (∀ i, i < n → test (item i) fun b => b = t (item i) ∧ (b = true → body (item i) fun e => e = g (item i))) ∧ k ((((List.range n).map item).filter t).map g)
/-- a tuple's items under their names -/
def tgtD (is : List Nat) : D → List S → (List S → Prop) → Prop
  | .sq _ ds, δ, k => ds.length = is.length ∧ k (setL is ds δ)
  | _, _, _ => False
/-- a call: the def's promise -/
structure CallW (T : DSp) (ds : List D) (k : S → Prop) (x : XD) : Prop where
  ex : T ds k x
def noX : XD := fun _ _ => False
/-- two ways that meet: what is known of the value behind them -/
structure UpW (p : (S → Prop) → Prop) (k : S → Prop) : Prop where
  ex : ∃ M : S → Prop, p M ∧ ∀ r, M r → k r
/-- what is wanted of an expression: of its value; as a test, both ways -/
inductive Cn where
  | e (k : S → Prop) | t (y n : Prop)
def Cn.fn : Cn → S → Prop
  | .e k => k
  | .t y n => fun r => truT r.d y n
/-- of several: their values; joined by and, by or -/
inductive Cl where
  | a (k : List D → Prop) | and (c : Cn) | or (c : Cn)
def blK : D → Prop → Prop → Prop
  | .bl r, y, n => (r = true → y) ∧ (r = false → n)
  | _, _, _ => False
def rngI (m n : Int) (k : Nat → (Nat → D) → Prop) : Prop := (-(2 ^ 62) ≤ m ∧ m < 2 ^ 62 ∧ -(2 ^ 62) ≤ n ∧ n < 2 ^ 62) ∧ k (n - m).toNat (fun i => .int (m + (i : Int)))
def notD : D → (S → Prop) → Prop
  | .bl b, k => k (.sh (.bl (!b)))
  | _, _ => False
def isiT : Option Bool → Cn → Prop
  | some b, .e k => k (.sh (.bl b))
  | some true, .t y _ => y
  | some false, .t _ n => n
  | none, _ => False
def varD : Option S → (S → Prop) → Prop
  | some (.sh d), k => k (.sh d)
  | _, _ => False
def rng1 : D → (Nat → (Nat → D) → Prop) → Prop
  | .int n, k => (-(2 ^ 62) ≤ n ∧ n < 2 ^ 62) ∧ k n.toNat (fun i => .int (i : Int))
  | _, _ => False
def rng2D : D → D → (Nat → (Nat → D) → Prop) → Prop
  | .int m, .int n, k => rngI m n k
  | _, _, _ => False
def seqD : D → (Nat → (Nat → D) → Prop) → Prop
  | .sq _ ds, k => k ds.length (fun i => ds.getD i .non)
  | .scr ns, k => k ns.length (fun i => .int (ns.getD i 0))
  | _, _ => False
def callD : Option DSp → List D → (S → Prop) → XD → Prop
  | some T, ds, k, x => CallW T ds k x
  | none, _, _, _ => False
mutual
def wpe (Γ : List DSp) : Xe → List S → XD → Cn → Prop
  | .var i, δ, _, c => varD δ[i]? c.fn
  | .int i, _, _, c => c.fn (.sh (.int i))
  | .bl b, _, _, c => c.fn (.sh (.bl b))
  | .non, _, _, c => c.fn (.sh .non)
  | .str s, _, _, c => c.fn (.sh (.str s))
  | .bin o a b, δ, x, c => wpe Γ a δ x (.e fun r => wpe Γ b δ x (.e fun q => binD o r.d q.d c.fn))
  | .rep a b, δ, x, c => wpe Γ a δ x (.e fun r => wpe Γ b δ x (.e fun q => repD r q.d c.fn))
  | .neg a, δ, x, c => wpe Γ a δ x (.e fun r => negD r.d c.fn)
  | .not a, δ, x, c => match c with
    | .e k => wpe Γ a δ x (.e fun r => notD r.d k)
    | .t y n => wpe Γ a δ x (.t n y)
  | .cmp o a b, δ, x, c => match c with
    | .e k => wpe Γ a δ x (.e fun r => wpe Γ b δ x (.e fun q => cmpB o r.d q.d fun c => k (.sh (.bl c))))
    | .t y n => wpe Γ a δ x (.e fun r => wpe Γ b δ x (.e fun q => cmpT o r.d q.d y n))
  | .and as, δ, x, c => wpl Γ as δ x (.and c)
  | .or as, δ, x, c => wpl Γ as δ x (.or c)
  | .ite t a b, δ, x, c => match c with
    | .e k => wpe Γ t δ x (.t (wpe Γ a δ x (.e k)) (wpe Γ b δ x (.e k)))
    | .t _ _ => False
  | .itu t a b, δ, x, c => match c with
    | .e k => UpW (fun M => wpe Γ t δ x (.t (wpe Γ a δ x (.e M)) (wpe Γ b δ x (.e M)))) k
    | .t _ _ => False
  | .ix a b, δ, x, c => wpe Γ a δ x (.e fun r => wpe Γ b δ x (.e fun q => ixD r.d q.d fun d => c.fn (.sh d)))
  | .ixn a n, δ, x, c => wpe Γ a δ x (.e fun r => ixN' r.d n fun d => c.fn (.sh d))
  | .fld a f, δ, x, c => wpe Γ a δ x (.e fun r => fldD r.d f fun d => c.fn (.sh d))
  | .slc a lo hi, δ, x, c => wpe Γ a δ x (.e fun r => match isNonX lo, isNonX hi with
    | true, true => slcD r.d none none c.fn
    | true, false => wpe Γ hi δ x (.e fun q => optI q.d fun u => slcD r.d none u c.fn)
    | false, true => wpe Γ lo δ x (.e fun p => optI p.d fun l => slcD r.d l none c.fn)
    | false, false => wpe Γ lo δ x (.e fun p => optI p.d fun l => wpe Γ hi δ x (.e fun q => optI q.d fun u => slcD r.d l u c.fn)))
  | .tup as, δ, x, c => wpl Γ as δ x (.a fun ds => c.fn (.sh (.sq false ds)))
  | .lst as, δ, x, c => wpl Γ as δ x (.a fun ds => c.fn (.ow (.lst ds)))
  | .call i as, δ, x, c => wpl Γ as δ x (.a fun ds => callD Γ[i]? ds c.fn x)
  | .bi f as, δ, x, c => wpl Γ as δ x (.a fun ds => bfD f ds c.fn)
  | .isi a t, δ, x, c => wpe Γ a δ x (.e fun r => isiT (isiD r.d t) c)
  | .lc v elt it, δ, x, c => wpi Γ it δ x fun n item => LcW n item (fun d q => wpe Γ elt (δ.set v (.sh d)) noX (.e fun r => q r.d)) fun es => c.fn (.ow (.lst es))
  | .lcf v elt it t, δ, x, c => wpi Γ it δ x fun n item => LcfW n item (fun d q => wpe Γ t (δ.set v (.sh d)) noX (.t (q true) (q false))) (fun d q => wpe Γ elt (δ.set v (.sh d)) noX (.e fun r => q r.d)) fun es => c.fn (.ow (.lst es))
  | .lct is elt it, δ, x, c => wpi Γ it δ x fun n item => LcW n item (fun d q => tgtD is d δ fun δ' => wpe Γ elt δ' noX (.e fun r => q r.d)) fun es => c.fn (.ow (.lst es))
def wpl (Γ : List DSp) : Xl → List S → XD → Cl → Prop
  | .nil, _, _, c => match c with
    | .a k => k []
    | _ => False
  | .cons a as, δ, x, c => match c with
    | .a k => wpe Γ a δ x (.e fun r => wpl Γ as δ x (.a fun ds => k (r.d :: ds)))
    | .and c => match as.none_ with
      | true => wpe Γ a δ x c
      | false => match c with
        | .e k => wpe Γ a δ x (.e fun r => blK r.d (wpl Γ as δ x (.and (.e k))) (k (.sh (.bl false))))
        | .t y n => wpe Γ a δ x (.t (wpl Γ as δ x (.and (.t y n))) n)
    | .or c => match as.none_ with
      | true => wpe Γ a δ x c
      | false => match c with
        | .e k => wpe Γ a δ x (.e fun r => blK r.d (k (.sh (.bl true))) (wpl Γ as δ x (.or (.e k))))
        | .t y n => wpe Γ a δ x (.t y (wpl Γ as δ x (.or (.t y n))))
def wpi (Γ : List DSp) : Xi → List S → XD → (Nat → (Nat → D) → Prop) → Prop
  | .rng a, δ, x, k => wpe Γ a δ x (.e fun r => rng1 r.d k)
  | .rng2 a b, δ, x, k => wpe Γ a δ x (.e fun r => wpe Γ b δ x (.e fun q => rng2D r.d q.d k))
  | .sq a, δ, x, k => wpe Γ a δ x (.e fun r => seqD r.d k)
end
/-! ### statements -/
inductive Xt where
  | nm (i : Nat) | tup (is : List Nat)
def isComp : Xe → Bool
  | .lc .. => true
  | .lcf .. => true
  | .lct .. => true
  | _ => false
/-! trees of owned lists: made (Xn), gone down (Xp) -/
mutual
inductive Xn where
  | e (bs : List Nat) (a : Xe) | lst (as : Xnl) | lc (v : Nat) (elt : Xn) (it : Xi) | mv (i : Nat)
inductive Xnl where
  | nil | cons (a : Xn) (as : Xnl)
end
inductive Xp where
  | nm | sub (p : Xp) (bs : List Nat) (ix : Xe)
mutual
inductive Xs where
  | set (i : Nat) (own : Bool) (bs : List Nat) (e : Xe)
  | setIx (i j : Nat) (e : Xe)
  | asg (t : Xt) (bs : List Nat) (e : Xe)
  | ite (bs : List Nat) (c : Xe) (t e : Xb)
  | itj (dd bs : List Nat) (c : Xe) (t e : Xb)
  | ret (bs : List Nat) (e : Xe) | retO (i : Nat) | retN
  | app (i : Nat) (bs : List Nat) (e : Xe)
  | sti (i : Nat) (bs : List Nat) (e ix : Xe)
  | expr (bs : List Nat) (e : Xe)
  | for_ (dd bs : List Nat) (t : Xt) (it : Xi) (body : Xb)
  | whl (dd bs : List Nat) (c : Xe) (body : Xb)
  | brk | cnt | pass
  | fst (i : Nat) (f : Str) (bs : List Nat) (e : Xe)
  | setT (i : Nat) (e : Xn) | retT (e : Xn) | appT (i : Nat) (p : Xp) (e : Xn) | stiT (i : Nat) (p : Xp) (bs : List Nat) (ix : Xe) (e : Xn)
inductive Xb where
  | nil | cons (s : Xs) (r : Xb)
end
/-- where a text ends: behind it, by return, by break, by continue; what may be raised -/
structure Ed where
  nx : List S → Prop
  rt : S → Prop
  bk : List S → Prop
  ct : List S → Prop
  xw : List S → XD
/-- slots lent for good -/
def bor1 (i : Nat) (δ : List S) : List S := match δ[i]? with
  | some (.ow o) => δ.set i (.sh o.d)
  | _ => δ
def bor : List Nat → List S → List S
  | [], δ => δ
  | i :: is, δ => bor is (bor1 i δ)
/-- slots forgotten -/
def drp : List Nat → List S → List S
  | [], δ => δ
  | i :: is, δ => drp is (δ.set i .no)
def SafeR : S → Prop
  | .no => False
  | .sh d => FlatN d
  | .ow (.lst ds) => ∀ d ∈ ds, FlatN d
  | .ow _ => False
def S.un : S → S
  | .no => .no
  | s => .sh s.d
/-- a value comes into a slot: as it is (own), or to be read alone -/
def putS (own : Bool) (r : S) : S := match own with
  | true => r
  | false => r.un
/-- the value was made while the slots bs were lent -/
structure KeepW (bs : List Nat) (r : S) (δ : List S) (k : List S → Prop) : Prop where
  ex : (SafeR r ∧ k δ) ∨ k (bor bs δ)
def keepW (bs : List Nat) (r : S) (δ : List S) (k : List S → Prop) : Prop := match bs with
  | [] => k δ
  | bs => KeepW bs r δ k
def setAll : List Nat → List D → List S → (List S → Prop) → Prop
  | [], [], δ, k => k δ
  | i :: is, d :: ds, δ, k => setAll is ds (δ.set i (.sh d)) k
  | _, _, _, _ => False
def wpt : Xt → D → List S → (List S → Prop) → Prop
  | .nm i, d, δ, k => k (δ.set i (.sh d))
  | .tup is, .sq _ ds, δ, k => setAll is ds δ k
  | _, _, _, _ => False
structure ForW (n : Nat) (item : Nat → D) (dd : List Nat) (tg : D → List S → (List S → Prop) → Prop) (body : List S → Ed → Prop) (δ : List S) (E : Ed) : Prop where
  ex : ∃ Iv : Nat → List S → Prop, Iv 0 (drp dd δ) ∧ (∀ i δ1, i < n → Iv i δ1 → tg (item i) δ1 fun δ2 => body δ2 ⟨fun δ => Iv (i + 1) (drp dd δ), E.rt, E.nx, fun δ => Iv (i + 1) (drp dd δ), E.xw⟩) ∧ ∀ δ1, Iv n δ1 → E.nx δ1
structure WhlW (dd bs : List Nat) (test : List S → XD → Prop → Prop → Prop) (body : List S → Ed → Prop) (δ : List S) (E : Ed) : Prop where
  ex : ∃ (Iv : Nat → List S → Prop) (m0 : Nat), Iv m0 (drp dd δ) ∧ ∀ m δ1, Iv m δ1 → test (bor bs δ1) (E.xw (bor bs δ1)) (body δ1 ⟨fun δ => ∃ m', m' < m ∧ Iv m' (drp dd δ), E.rt, E.nx, fun δ => ∃ m', m' < m ∧ Iv m' (drp dd δ), E.xw⟩) (E.nx δ1)
structure JoinW (p : (List S → Prop) → Prop) (q : List S → Prop) : Prop where
  ex : ∃ M : List S → Prop, p M ∧ ∀ δ, M δ → q δ
def appD (i : Nat) (d : D) (δ : List S) (k : List S → Prop) : Prop := match δ[i]? with
  | some (.ow (.lst ds)) => ds.length < 100000 ∧ k (δ.set i (.ow (.lst (ds ++ [d]))))
  | _ => False
def stiD (i : Nat) (ds : List D) (d : D) (q : D) (δ : List S) (k : List S → Prop) : Prop := match q with
  | .int n => ∃ j : Nat, n = j ∧ j < ds.length ∧ k (δ.set i (.ow (.lst (ds.set j d))))
  | _ => False
def owL : Option S → (List D → Prop) → Prop
  | some (.ow (.lst ds)), k => k ds
  | _, _ => False
def retD (bs : List Nat) (r : S) (k : S → Prop) : Prop := match bs with
  | [] => k r
  | _ => k r.un
/-- a comprehension of trees -/
structure LctW (n : Nat) (item : Nat → D) (body : D → (Tr → Prop) → Prop) (k : List Tr → Prop) : Prop where
  ex : ∃ R : Nat → Tr → Prop, n ≤ 100000 ∧ (∀ i, i < n → body (item i) (R i)) ∧ ∀ ts : List Tr, ts.length = n → (∀ (i : Nat) t, ts[i]? = some t → R i t) → k ts
mutual
def wpn (Γ : List DSp) : Xn → List S → XD → (Tr → Prop) → Prop
  | .e bs a, δ, x, k => match bs with
    | [] => wpe Γ a δ x (.e fun r => k (asT r))
    | _ => False
  | .lst as, δ, x, k => wpns Γ as δ x fun ts => k (.lst ts)
  | .lc v elt it, δ, x, k => wpi Γ it δ x fun n item => LctW n item (fun d q => wpn Γ elt (δ.set v (.sh d)) noX q) fun ts => k (.lst ts)
  | .mv _, _, _, _ => False
def wpns (Γ : List DSp) : Xnl → List S → XD → (List Tr → Prop) → Prop
  | .nil, _, _, k => k []
  | .cons a as, δ, x, k => wpn Γ a δ x fun t => wpns Γ as δ x fun ts => k (t :: ts)
end
def moD : Option S → (Tr → Prop) → Prop
  | some (.ow (.lst ds)), k => k (.lst (ds.map .sh))
  | some (.ow (.tr ts)), k => k (.lst ts)
  | _, _ => False
mutual
def wpT (Γ : List DSp) : Xn → List S → (List S → XD) → (Tr → List S → Prop) → Prop
  | .e bs a, δ, x, k => match bs with
    | [] => wpe Γ a δ (x δ) (.e fun r => k (asT r) δ)
    | b :: bs => wpe Γ a (bor (b :: bs) δ) (x (bor (b :: bs) δ)) (.e fun r => FlatN r.d ∧ k (.sh r.d) δ)
  | .lst as, δ, x, k => wpTs Γ as δ x fun ts δ' => k (.lst ts) δ'
  | .lc v elt it, δ, x, k => wpi Γ it δ (x δ) fun n item => LctW n item (fun d q => wpn Γ elt (δ.set v (.sh d)) noX q) fun ts => k (.lst ts) δ
  | .mv i, δ, x, k => moD δ[i]? fun t => k t (δ.set i .no)
def wpTs (Γ : List DSp) : Xnl → List S → (List S → XD) → (List Tr → List S → Prop) → Prop
  | .nil, δ, _, k => k [] δ
  | .cons a as, δ, x, k => wpT Γ a δ x fun t δ' => wpTs Γ as δ' x fun ts δ'' => k (t :: ts) δ''
end
/-- a written place, from the left -/
structure NatW (i : Int) (k : Nat → Prop) : Prop where
  ex : ∃ j : Nat, i = j ∧ k j
def natD : D → (Nat → Prop) → Prop
  | .int i, k => NatW i k
  | _, _ => False
def trO : Option S → (List Tr → Prop) → Prop
  | some (.ow (.tr ts)), k => k ts
  | _, _ => False
/-- the list at a place of a tree -/
structure SubW (us : List Tr) (j : Nat) (k : List Tr → Prop) : Prop where
  ex : ∃ ws, us[j]? = some (.lst ws) ∧ k ws
def wpp (Γ : List DSp) : Xp → Nat → List S → (List S → XD) → (List Nat → List Tr → Prop) → Prop
  | .nm, i, δ, _, k => trO δ[i]? fun ts => k [] ts
  | .sub p bs ix, i, δ, x, k => wpp Γ p i δ x fun π us => wpe Γ ix (bor bs δ) (x (bor bs δ)) (.e fun q => natD q.d fun j => SubW us j fun ws => k (π ++ [j]) ws)
/-- a field is set -/
def putFD (f : Str) (d : D) : List (Str × D) → List (Str × D)
  | [] => [(f, d)]
  | (g, x) :: r => match g == f with
    | true => (g, d) :: r
    | false => (g, x) :: putFD f d r
def fstD : Option S → Str → D → (Ow → Prop) → Prop
  | some (.ow (.self a C ks gs)), f, d, k => (ks.elem f = true ∧ Nat.blt gs.length 1000 = true) ∧ k (.self a C ks (putFD f d gs))
  | _, _, _, _ => False
def lstT : Tr → (List Tr → Prop) → Prop
  | .lst us, k => k us
  | _, _ => False
def retV : Option S → (S → Prop) → Prop
  | some (.ow o), k => k (.ow o)
  | some (.sh d), k => k (.sh d)
  | _, _ => False
mutual
def wps (Γ : List DSp) : Xs → List S → Ed → Prop
  | .set i own bs e, δ, E => match isComp e with
    | true => wpe Γ e (bor bs δ) (E.xw (bor bs δ)) (.e fun r => E.nx ((bor bs δ).set i (putS own r)))
    | false => wpe Γ e (bor bs δ) (E.xw (bor bs δ)) (.e fun r => keepW bs r δ fun δ' => E.nx (δ'.set i (putS own r)))
  | .setIx i j e, δ, E => owL δ[j]? fun ds => wpe Γ e (bor [j] δ) (E.xw (bor [j] δ)) (.e fun q => ixD (.sq true ds) q.d fun d => E.nx (δ.set i (.sh d)))
  | .asg t bs e, δ, E => wpe Γ e (bor bs δ) (E.xw (bor bs δ)) (.e fun r => keepW bs r δ fun δ' => wpt t r.d δ' E.nx)
  | .ite bs c t e, δ, E => wpe Γ c (bor bs δ) (E.xw (bor bs δ)) (.t (wpb Γ t δ E) (wpb Γ e δ E))
  | .itj dd bs c t e, δ, E => JoinW (fun M => wpe Γ c (bor bs δ) (E.xw (bor bs δ)) (.t (wpb Γ t δ { E with nx := fun δ => M (drp dd δ) }) (wpb Γ e δ { E with nx := fun δ => M (drp dd δ) }))) E.nx
  | .ret bs e, δ, E => wpe Γ e (bor bs δ) (E.xw (bor bs δ)) (.e fun r => retD bs r E.rt)
  | .retO i, δ, E => retV δ[i]? E.rt
  | .retN, _, E => E.rt (.sh .non)
  | .app i bs e, δ, E => owL δ[i]? fun _ => wpe Γ e (bor bs δ) (E.xw (bor bs δ)) (.e fun r => keepW bs r δ fun δ' => appD i r.d δ' E.nx)
  | .sti i bs e ix, δ, E => wpe Γ e (bor bs δ) (E.xw (bor bs δ)) (.e fun r => keepW bs r δ fun δ' => owL δ'[i]? fun ds => wpe Γ ix (bor bs δ') (E.xw (bor bs δ')) (.e fun q => stiD i ds r.d q.d δ' E.nx))
  | .expr bs e, δ, E => wpe Γ e (bor bs δ) (E.xw (bor bs δ)) (.e fun _ => E.nx δ)
  | .for_ dd bs t it body, δ, E => wpi Γ it (bor bs δ) (E.xw (bor bs δ)) fun n item => match it with
    | .sq _ => ForW n item dd (wpt t) (wpb Γ body) (bor bs δ) E
    | _ => ForW n item dd (wpt t) (wpb Γ body) δ E
  | .whl dd bs c body, δ, E => WhlW dd bs (fun δ x y n => wpe Γ c δ x (.t y n)) (wpb Γ body) δ E
  | .fst i f bs e, δ, E => wpe Γ e (bor bs δ) (E.xw (bor bs δ)) (.e fun r => keepW bs r δ fun δ' => fstD δ'[i]? f r.d fun o => E.nx (δ'.set i (.ow o)))
  | .setT i e, δ, E => wpT Γ e δ E.xw fun t δ' => lstT t fun us => E.nx (δ'.set i (.ow (.tr us)))
  | .retT e, δ, E => wpT Γ e δ E.xw fun t _ => lstT t fun us => E.rt (.ow (.tr us))
  | .appT i p e, δ, E => wpp Γ p i δ E.xw fun π us => us.length < 100000 ∧ wpT Γ e δ E.xw fun t δ' => trO δ'[i]? fun ts => subAt ts π = some us ∧ E.nx (δ'.set i (.ow (.tr (updAt ts π (us ++ [t])))))
  | .stiT i p bs ix e, δ, E => wpT Γ e δ E.xw fun t δ' => wpp Γ p i δ' E.xw fun π us => wpe Γ ix (bor bs δ') (E.xw (bor bs δ')) (.e fun q => natD q.d fun j => j < us.length ∧ trO δ'[i]? fun ts => E.nx (δ'.set i (.ow (.tr (updAt ts π (us.set j t))))))
  | .brk, δ, E => E.bk δ
  | .cnt, δ, E => E.ct δ
  | .pass, δ, E => E.nx δ
def wpb (Γ : List DSp) : Xb → List S → Ed → Prop
  | .nil, δ, E => E.nx δ
  | .cons s r, δ, E => wps Γ s δ { E with nx := fun δ' => wpb Γ r δ' E }
end
end DL
set_option Elab.async false
set_option linter.all false
set_option maxRecDepth 100000
set_option maxHeartbeats 4000000
/-! The deep machine, part b: expressions are what they are said to be. -/
namespace DL
open PySem PySem.Spec PyProof.Rows L2
def Wu (X : Cx) (H0 : Hp) (e : Expr) (δ : List S) (k : S → Prop) : Prop := ∀ σ G, RelS X.K H0 σ G δ → semE X e σ G (fun v G' => ∃ r, RetIs X.K G v G' r ∧ k r)
section
variable {X : Cx} {H0 : Hp} {δ : List S} {a b c e : Expr} {es : List Expr} {k : S → Prop} {pos : Pos}
theorem Wu.mono {k' : S → Prop} (h : Wu X H0 e δ k) (m : ∀ r, k r → k' r) : Wu X H0 e δ k' := fun σ G R => (h σ G R).mono fun v G' ⟨r, i, q⟩ => ⟨r, i, m r q⟩
theorem wu_we (h : We X H0 e δ fun d => k (.sh d)) : Wu X H0 e δ k := fun σ G R => (h σ G R).mono fun v G' ⟨e, d, i, q⟩ => ⟨.sh d, ⟨e, i⟩, q⟩
theorem wu_wo (h : Wo X H0 e δ fun o => k (.ow o)) : Wu X H0 e δ k := fun σ G R => (h σ G R).mono fun v G' ⟨o, n, q⟩ => ⟨.ow o, n, q⟩
theorem we_wu {k : D → Prop} (h : Wu X H0 e δ fun r => k r.d) : We X H0 e δ k := fun σ G R => (h σ G R).mono fun v G' ⟨r, i, q⟩ => ⟨i.ex.1, _, i.ex.2, q⟩
theorem wo_wu {ko : Ow → Prop} (h : Wu X H0 e δ fun r => ∃ o, r = .ow o ∧ ko o) : Wo X H0 e δ ko := fun σ G R => (h σ G R).mono fun v G' ⟨r, i, o, eo, q⟩ => by subst eo; exact ⟨o, i, q⟩
/-- two operands, by data -/
theorem twoU {f : V → V → Hp → VK → Prop} {P : D → D → Prop} (h : We X H0 a δ (fun x => We X H0 b δ (fun y => P x y))) (hf : ∀ G v w x y, Is X.K G v x → Is X.K G w y → P x y → ∀ Q : VK, (∀ z G' r, RetIs X.K G z G' r → k r → Q z G') → f v w G Q) :
    ∀ σ G, RelS X.K H0 σ G δ → tOp f (semE X a) (semE X b) σ G (fun v G' => ∃ r, RetIs X.K G v G' r ∧ k r) := fun σ G R =>
  (h σ G R).mono fun v G1 ⟨e1, x, ix, q1⟩ => (q1 σ G1 (R.mono e1)).mono fun w G2 ⟨e2, y, iy, q2⟩ => hf G2 v w x y (ix.mono e2) iy q2 _ fun z G' r i kr => ⟨r, i.back (e1.trans e2), kr⟩
theorem op_or {f : Value → Value → Sem Value} {r1 r2 : R2} (h1 : OpR X f r1) (h2 : OpR X f r2) : OpR X f (fun v w H Q => r1 v w H Q ∨ r2 v w H Q) := fun pins s σ H x y v u Q I rx ry h =>
  h.elim (h1 pins s σ H x y v u Q I rx ry) (h2 pins s σ H x y v u Q I rx ry)
theorem sh_ret {K : PySem.W.Frag} {G : Hp} {v : V} {d : D} (i : Is K G v d) : RetIs K G v G (.sh d) := ⟨Same.refl _, i⟩
theorem wu_add (h : We X H0 a δ (fun x => We X H0 b δ (fun y => binD .add x y k))) : Wu X H0 (.BinOp a .Add b pos) δ k := fun σ G R => toE (pe_op (op_or (op_or op_add op_catR) op_catA) pe_sem pe_sem) (twoU h (fun G v w x y iv iw h Q q => by
  unfold binD at h
  split at h
  · cases iv; cases iw; exact .inl (.inl ⟨_, _, rfl, rfl, q _ _ _ (sh_ret (.int _)) h⟩)
  · obtain ⟨hl, hk⟩ := h
    obtain ⟨l, us, rfl, r1, l1⟩ := iv.lst_inv
    obtain ⟨l', ws, rfl, r2, l2⟩ := iw.lst_inv
    exact .inl (.inr ⟨l, l', us, ws, rfl, rfl, r1, r2, Nat.le_trans (by rw [l1.1, l2.1]; exact hl) (by decide), fun t ht => q _ _ (.ow (.lst _)) (NewIs.lst ht (l1.app l2)) hk⟩)
  · obtain ⟨hl, hk⟩ := h
    obtain ⟨l, us, rfl, r1, l1⟩ := iv.tup_inv
    obtain ⟨l', ws, rfl, r2, l2⟩ := iw.tup_inv
    refine .inr ⟨l, l', us, ws, rfl, rfl, r1, r2, Nat.le_trans (by rw [l1.1, l2.1]; exact hl) (by decide), fun z => ?_, fun _ z => ?_, fun _ _ t ht => ?_⟩
    · have e : us = [] := z
      subst e
      have hx := List.length_eq_zero_iff.mp (l1.1.symm.trans rfl)
      exact q _ _ _ (sh_ret (by rw [hx, List.nil_append]; exact iw)) hk
    · have e : ws = [] := z
      subst e
      have hy := List.length_eq_zero_iff.mp (l2.1.symm.trans rfl)
      exact q _ _ _ (sh_ret (by rw [hy, List.append_nil]; exact iv)) hk
    · exact q _ _ (.sh _) ⟨Ex.new ht, .mkT (.inl (.inl upd_same)) ((l1.app l2).mono (Ex.new ht))⟩ hk
  all_goals (first | (rename_i z; cases z; done) | exact h.elim | contradiction)) σ G R)
theorem wu_sub (h : We X H0 a δ (fun x => We X H0 b δ (fun y => binD .sub x y k))) : Wu X H0 (.BinOp a .Sub b pos) δ k := wu_we (we_sub (h.mono fun x hx => hx.mono fun y hy => by
  unfold binD at hy
  split at hy
  any_goals (first | exact hy.elim | contradiction)
  exact i2 hy))
theorem wu_mul (h : We X H0 a δ (fun x => We X H0 b δ (fun y => binD .mul x y k))) : Wu X H0 (.BinOp a .Mult b pos) δ k := wu_we (we_mul (h.mono fun x hx => hx.mono fun y hy => by
  unfold binD at hy
  split at hy
  any_goals (first | exact hy.elim | contradiction)
  exact i2 hy))
theorem wu_mod (h : We X H0 a δ (fun x => We X H0 b δ (fun y => binD .mod x y k))) : Wu X H0 (.BinOp a .Mod b pos) δ k := wu_we (we_mod (h.mono fun x hx => hx.mono fun y hy => by
  unfold binD at hy
  split at hy
  any_goals (first | exact hy.elim | contradiction)
  exact i2 hy))
theorem wu_pow (h : We X H0 a δ (fun x => We X H0 b δ (fun y => binD .pow x y k))) : Wu X H0 (.BinOp a .Pow b pos) δ k := wu_we (we_pow (h.mono fun x hx => hx.mono fun y hy => by
  unfold binD at hy
  split at hy
  any_goals (first | exact hy.elim | contradiction)
  exact i2 hy))
theorem wu_div (h : We X H0 a δ (fun x => We X H0 b δ (fun y => binD .div x y k))) : Wu X H0 (.BinOp a .FloorDiv b pos) δ k := fun σ G R => toE (pe_op (op_or op_fdivW op_fdivX) pe_sem pe_sem) (twoU h (fun G v w x y iv iw h Q q => by
  unfold binD at h
  split at h
  any_goals (first | exact h.elim | contradiction)
  cases iv; cases iw
  rcases h with ⟨h1, h2⟩ | ⟨h1, h2⟩
  · exact .inl ⟨_, _, rfl, rfl, h1, q _ _ _ (sh_ret (.int _)) h2⟩
  · exact .inr ⟨_, _, rfl, rfl, h1, q _ _ _ (sh_ret (.int _)) h2⟩) σ G R)
theorem wu_rep (h : Wu X H0 a δ (fun x => We X H0 b δ (fun y => repD x y k))) : Wu X H0 (.BinOp a .Mult b pos) δ k := fun σ G R => toE (pe_op op_rep pe_sem pe_sem) ((h σ G R).mono fun v G1 ⟨r, N, q1⟩ => (q1 σ G1 (R.mono N.ex.1)).mono fun w G2 ⟨e2, y, iy, hy⟩ => by
  have hy : repD r y k := hy
  unfold repD at hy
  split at hy
  any_goals (first | exact hy.elim | contradiction)
  obtain ⟨⟨n1, n2, hl⟩, hk⟩ := hy
  cases iy
  have e1 := N.ex.1
  obtain ⟨l, ⟨p, us, rfl, rfl, hp, il⟩, fr, ee, nd⟩ := N
  have iG := IsL.mono (cut_ex.trans e2) il
  exact ⟨p, _, us, rfl, rfl, e2 _ _ hp, by omega, by omega, by rw [il.1]; exact Nat.le_trans hl (by decide), fun t ht => ⟨.ow (.lst _), (NewIs.lst ht (iG.rep _)).back (e1.trans e2), hk⟩⟩)
theorem wu_neg (h : We X H0 a δ (fun x => negD x k)) : Wu X H0 (.UnaryOp .USub a pos) δ k := wu_we (we_neg (h.mono fun x hx => by
  cases x <;> first | exact i1 hx | exact hx.elim))
theorem wu_not (h : We X H0 a δ (fun x => notD x k)) : Wu X H0 (.UnaryOp .Not a pos) δ k := wu_we (we_not (h.mono fun x hx => by
  cases x <;> first | exact b1 hx | exact hx.elim))
/-! comparisons -/
theorem eqD_sem {x y : D} {kb : Bool → Prop} {G : Hp} {v w : V} (iv : Is X.K G v x) (iw : Is X.K G w y) (h : eqD x y kb) :
    (scal v w = true ∧ kb (decide (v = w))) ∨ ∃ p q, Pd x p ∧ Pd y q ∧ SeqAt.shaped p = true ∧ SeqAt.shaped q = true ∧ kb (PyData.eqv p q) := by
  unfold eqD at h
  split at h
  · cases iv; cases iw; exact .inl ⟨rfl, by simp only [V.int.injEq]; exact h⟩
  · cases iv; cases iw; exact .inl ⟨rfl, by simp only [V.bl.injEq]; exact h⟩
  · cases iv; cases iw; exact .inl ⟨rfl, by simp only [V.str.injEq]; exact h⟩
  · obtain ⟨⟨h1, h2⟩, h3⟩ := h
    obtain ⟨p, q, a1, a2, a3, a4, a5⟩ := eqP h1 h2 h3
    exact .inr ⟨p, q, a1, a2, a3, a4, a5⟩
theorem wu_eq (hu : X.A.units + 64 < cLine) (h : We X H0 a δ (fun x => We X H0 b δ (fun y => eqD x y fun r => k (.sh (.bl r))))) : Wu X H0 (.Compare a [.Eq] [b] pos) δ k := fun σ G R => toE (pe_cmpR (op_or op_eq (op_eqD hu)) pe_sem pe_sem (nomark _)) (twoU h (fun G v w x y iv iw h Q q => by
  rcases eqD_sem iv iw h with ⟨h1, h2⟩ | ⟨p, p', a1, a2, a3, a4, a5⟩
  · exact .inl ⟨h1, q _ _ _ (sh_ret (.bl _)) h2⟩
  · exact .inr ⟨p, p', a1.dp iv, a2.dp iw, a3, a4, q _ _ _ (sh_ret (.bl _)) a5⟩) σ G R)
theorem wu_ne (hu : X.A.units + 64 < cLine) (h : We X H0 a δ (fun x => We X H0 b δ (fun y => eqD x y fun r => k (.sh (.bl (!r)))))) : Wu X H0 (.Compare a [.NotEq] [b] pos) δ k := fun σ G R => toE (pe_cmpR (op_or op_ne (op_neD hu)) pe_sem pe_sem (nomark _)) (twoU h (fun G v w x y iv iw h Q q => by
  rcases eqD_sem iv iw h with ⟨h1, h2⟩ | ⟨p, p', a1, a2, a3, a4, a5⟩
  · exact .inl ⟨h1, q _ _ _ (sh_ret (.bl _)) h2⟩
  · exact .inr ⟨p, p', a1.dp iv, a2.dp iw, a3, a4, q _ _ _ (sh_ret (.bl _)) a5⟩) σ G R)
/-- a test of a value that is a bool -/
def tk (y n : Prop) (b : Bool) : Prop := (b = true → y) ∧ (b = false → n)
theorem eqT_D {x y : D} {p n : Prop} (h : eqT x y p n) : eqD x y (tk p n) := by
  unfold eqT at h
  split at h
  · exact ⟨fun e => h.1 (of_decide_eq_true e), fun e => h.2 (of_decide_eq_false e)⟩
  · exact ⟨fun e => h.1 (of_decide_eq_true e), fun e => h.2 (of_decide_eq_false e)⟩
  · exact ⟨fun e => h.1 (of_decide_eq_true e), fun e => h.2 (of_decide_eq_false e)⟩
  · rename_i n1 n2 n3
    obtain ⟨h1, h2, h3⟩ := h
    unfold eqD
    split
    · exact absurd rfl (n1 _ _ rfl)
    · exact absurd rfl (n2 _ _ rfl)
    · exact absurd rfl (n3 _ _ rfl)
    · exact ⟨h1, fun b hb => ⟨fun e => h2 (hb.mp e), fun e => h3 fun z => by rw [hb.mpr z] at e; cases e⟩⟩
theorem eqD_mono {x y : D} {k k' : Bool → Prop} (h : eqD x y k) (m : ∀ b, k b → k' b) : eqD x y k' := by
  unfold eqD at h ⊢
  split at h
  · exact m _ h
  · exact m _ h
  · exact m _ h
  · exact ⟨h.1, fun b hb => m b (h.2 b hb)⟩
theorem cmpT_B {o : Cop} {x y : D} {p n : Prop} (h : cmpT o x y p n) : cmpB o x y (tk p n) := by
  unfold cmpT at h
  split at h
  · exact eqT_D h
  · exact eqD_mono (eqT_D h) fun b q => ⟨fun e => q.2 (by simpa using e), fun e => q.1 (by simpa using e)⟩
  · exact ⟨fun e => h.1 (of_decide_eq_true e), fun e => h.2 (of_decide_eq_false e)⟩
  · exact ⟨fun e => h.1 (of_decide_eq_true e), fun e => h.2 (of_decide_eq_false e)⟩
  · exact ⟨fun e => h.1 (of_decide_eq_true e), fun e => h.2 (of_decide_eq_false e)⟩
  · exact ⟨fun e => h.1 (of_decide_eq_true e), fun e => h.2 (of_decide_eq_false e)⟩
  · split at h
    · rename_i e; show tk _ _ (isNon _); rw [e]; exact ⟨fun _ => h, fun z => nomatch z⟩
    · rename_i e; show tk _ _ (isNon _); rw [e]; exact ⟨fun z => (nomatch z), fun _ => h⟩
  · split at h
    · rename_i e; show tk _ _ (!isNon _); rw [e]; exact ⟨fun z => (nomatch z), fun _ => h⟩
    · rename_i e; show tk _ _ (!isNon _); rw [e]; exact ⟨fun _ => h, fun z => nomatch z⟩
  · exact ⟨fun e => h.1 (of_decide_eq_true e), fun e => h.2 (of_decide_eq_false e)⟩
  · exact ⟨fun e => h.2 (fun z => (by rw [decide_eq_true z] at e; cases e)), fun e => h.1 (by simpa using e)⟩
  · exact ⟨h.1, fun b hb => ⟨fun e => h.2.1 (hb.mp e), fun e => h.2.2 fun z => by rw [hb.mpr z] at e; cases e⟩⟩
  · exact ⟨h.1, fun b hb => ⟨fun e => h.2.2 fun z => (by rw [hb.mpr z] at e; cases e), fun e => h.2.1 (hb.mp (by simpa using e))⟩⟩
  · exact h.elim
theorem wtD_eq {kt : Bool → Prop} (hu : X.A.units + 64 < cLine) (h : We X H0 a δ (fun x => We X H0 b δ (fun y => eqD x y kt))) : Wt X H0 (.Compare a [.Eq] [b] pos) δ kt := fun σ G R => toT (pt_cmpR (op_or op_eq (op_eqD hu)) pe_sem pe_sem (nomark _)) (twoT h (fun G v w x y iv iw h Q qq => by
  rcases eqD_sem iv iw h with ⟨h1, h2⟩ | ⟨p, p', a1, a2, a3, a4, a5⟩
  · exact .inl ⟨h1, qq _ h2⟩
  · exact .inr ⟨p, p', a1.dp iv, a2.dp iw, a3, a4, qq _ a5⟩) σ G R)
theorem wtD_ne {kt : Bool → Prop} (hu : X.A.units + 64 < cLine) (h : We X H0 a δ (fun x => We X H0 b δ (fun y => eqD x y fun r => kt (!r)))) : Wt X H0 (.Compare a [.NotEq] [b] pos) δ kt := fun σ G R => toT (pt_cmpR (op_or op_ne (op_neD hu)) pe_sem pe_sem (nomark _)) (twoT h (fun G v w x y iv iw h Q qq => by
  rcases eqD_sem iv iw h with ⟨h1, h2⟩ | ⟨p, p', a1, a2, a3, a4, a5⟩
  · exact .inl ⟨h1, qq _ h2⟩
  · exact .inr ⟨p, p', a1.dp iv, a2.dp iw, a3, a4, qq _ a5⟩) σ G R)
theorem truT_TR {d : D} {y n : Prop} (h : truT d y n) : TR d (tk y n) := by
  unfold truT at h
  split at h
  · exact tr rfl h
  · refine tr (r := _ != 0) rfl ⟨fun e => h.1 (by simpa using e), fun e => h.2 (by simpa using e)⟩
  · refine tr (r := !List.isEmpty _) rfl ⟨fun e => h.1 (by simpa using e), fun e => h.2 (by simpa using e)⟩
  · exact tr rfl ⟨fun z => (nomatch z), fun _ => h⟩
  · exact h.elim
theorem wtD_tru {y n : Prop} (h : Wu X H0 e δ (fun r => truT r.d y n)) (he : ∀ whole, isTrue e X.env whole = (do let v ← whole; standAt e.pos; holding [v] (truthy v))) : Wt X H0 e δ (tk y n) := wt_tru ((we_wu h).mono fun d hd => truT_TR hd) he
/-! and, or of values -/
theorem wu_one {op} (h : Wu X H0 a δ k) : Wu X H0 (.BoolOp op [a] pos) δ k := fun σ G R => toE (pe_one pe_sem) (h σ G R)
theorem wu_and (h : Wu X H0 a δ (fun r => blK r.d (Wu X H0 (.BoolOp .And (b :: es) pos) δ k) (k (.sh (.bl false))))) : Wu X H0 (.BoolOp .And (a :: b :: es) pos) δ k := fun σ G R => toE (pe_and pe_sem pe_sem) ((we_wu (k := fun d => blK d _ _) h σ G R).mono fun v G1 ⟨e1, d, i, hd⟩ => by
  have hd : blK d _ _ := hd
  cases d with
  | bl r =>
    cases i
    refine ⟨r, rfl, ?_⟩
    cases r with
    | true =>
      show semE X _ σ G1 _
      exact (hd.1 rfl σ G1 (R.mono e1)).mono fun _ _ ⟨r, i, q⟩ => ⟨r, i.back e1, q⟩
    | false => exact ⟨.sh _, ⟨e1, .bl false⟩, hd.2 rfl⟩
  | _ => exact hd.elim)
theorem wu_or (h : Wu X H0 a δ (fun r => blK r.d (k (.sh (.bl true))) (Wu X H0 (.BoolOp .Or (b :: es) pos) δ k))) : Wu X H0 (.BoolOp .Or (a :: b :: es) pos) δ k := fun σ G R => toE (pe_or pe_sem pe_sem) ((we_wu (k := fun d => blK d _ _) h σ G R).mono fun v G1 ⟨e1, d, i, hd⟩ => by
  have hd : blK d _ _ := hd
  cases d with
  | bl r =>
    cases i
    refine ⟨r, rfl, ?_⟩
    cases r with
    | false =>
      show semE X _ σ G1 _
      exact (hd.2 rfl σ G1 (R.mono e1)).mono fun _ _ ⟨r, i, q⟩ => ⟨r, i.back e1, q⟩
    | true => exact ⟨.sh _, ⟨e1, .bl true⟩, hd.1 rfl⟩
  | _ => exact hd.elim)
theorem wu_if {y n : Prop} (h : Wt X H0 c δ (tk y n)) (ha : y → Wu X H0 a δ k) (hb : n → Wu X H0 b δ k) : Wu X H0 (.IfExp c a b pos) δ k := fun σ G R => toE (pe_ifExp pt_sem pe_sem pe_sem) ((h σ G R).mono fun r G1 ⟨e1, h1, h2⟩ => by
  cases r with
  | true =>
    show semE X _ σ G1 _
    exact (ha (h1 rfl) σ G1 (R.mono e1)).mono fun _ _ ⟨r, i, q⟩ => ⟨r, i.back e1, q⟩
  | false =>
    show semE X _ σ G1 _
    exact (hb (h2 rfl) σ G1 (R.mono e1)).mono fun _ _ ⟨r, i, q⟩ => ⟨r, i.back e1, q⟩)
/-! subscripts -/
theorem wu_ix {k : D → Prop} (h : We X H0 a δ (fun x => We X H0 b δ (fun y => ixD x y k))) (hs : PlainIx b) : We X H0 (.Subscript a b pos) δ k := fun σ G R => toE (pe_ix ix_seq pe_sem pe_sem hs) (two h (fun G v w x y iv iw h Q q => by
  cases x with
  | sq l ds =>
    cases y with
    | int i =>
      obtain ⟨d, he, hk⟩ := h
      cases iw
      cases l with
      | true =>
        obtain ⟨p, xs, rfl, hq, hl⟩ := iv.lst_inv
        obtain ⟨z, hz, iz⟩ := hl.atI he
        exact .inl ⟨p, xs, i, z, rfl, rfl, .inl hq, hz, q _ G _ (Same.refl _) iz hk⟩
      | false =>
        obtain ⟨p, xs, rfl, hq, hl⟩ := iv.tup_inv
        obtain ⟨z, hz, iz⟩ := hl.atI he
        exact .inr (.inl ⟨p, xs, i, z, rfl, rfl, hq, hz, q _ G _ (Same.refl _) iz hk⟩)
    | _ => exact h.elim
  | scr ns =>
    cases y with
    | int i =>
      obtain ⟨n, he, hk⟩ := h
      cases iw
      obtain ⟨p, rfl, hq⟩ := iv.scr_inv
      refine .inl ⟨p, _, i, .int n, rfl, rfl, hq, ?_, q _ G _ (Same.refl _) (.int _) hk⟩
      unfold L2.atI at he ⊢
      rw [List.length_map]
      cases e : ixN ns.length i with
      | none => rw [e] at he; cases he
      | some j =>
        rw [e] at he
        show (ns.map V.int)[j]? = some (.int n)
        rw [List.getElem?_map, show ns[j]? = some n from he] <;> rfl
    | _ => exact h.elim
  | _ => exact h.elim) σ G R)
end
end DL
set_option Elab.async false
set_option linter.all false
set_option maxRecDepth 100000
set_option maxHeartbeats 4000000
/-! The deep machine, part q: fields, slices, in, is of bools. -/
namespace DL
open PySem PySem.Spec PyProof.Rows L2
section
variable {X : Cx} {H0 : Hp} {δ : List S} {a b c e : Expr} {es : List Expr} {k : S → Prop} {pos : Pos}
def notCall : Expr → Bool
  | .Call .. => false
  | _ => true
theorem attr_plain {f : Str} {env : Env} {w : Sem Value} (h : notCall e = true) : attributeBase e f env w = w := by cases e <;> first | rfl | cases h
theorem fldD_inv {x : D} {f : Str} {k : D → Prop} (h : fldD x f k) : ∃ C gs d, x = .ins C gs ∧ gs.lookup f = some d ∧ k d := by
  unfold fldD at h
  split at h
  · split at h
    · rename_i hl
      exact ⟨_, _, _, rfl, hl, h⟩
    · exact h.elim
  · exact h.elim
theorem wu_fld {f : Str} (h : We X H0 a δ (fun x => fldD x f fun d => k (.sh d))) (hn : notCall a = true) : Wu X H0 (.Attribute a f pos) δ k := fun σ G R => toE (pe_fld pe_sem (attr_plain hn)) ((h σ G R).mono fun v G1 ⟨e1, d, iv, hd⟩ => by
  have hd : fldD d f (fun d => k (.sh d)) := hd
  obtain ⟨C, gs, d', rfl, hl, hd⟩ := fldD_inv hd
  cases iv with
  | ins c hH hk hf =>
    obtain ⟨v, hv, i⟩ := IsF.lookup ⟨hk, hf⟩ hl
    refine ⟨_, _, _, _, v, rfl, hH, c.cls, c.no f ?_, hv, .sh _, ⟨e1, i⟩, hd⟩
    obtain ⟨l1, l2, e2, _⟩ := List.lookup_eq_some_iff.mp hl
    rw [e2]
    simp)
/-! slices -/
def tlO (X : Cx) : Option Expr → TO
  | none => tNoPart
  | some e => tPart (semE X e)
theorem po_tl : ∀ {o : Option Expr}, PO X o (tlO X o)
  | none => po_none
  | some e => po_some pe_sem
def Po (X : Cx) (H0 : Hp) (o : Option Expr) (δ : List S) (k : Option Int → Prop) : Prop := ∀ σ G, RelS X.K H0 σ G δ → tlO X o σ G fun o G' => Ex G G' ∧ k o
theorem po_no {k : Option Int → Prop} (h : k none) : Po X H0 none δ k := fun σ G R => ⟨Same.refl _, h⟩
theorem po_e {k : Option Int → Prop} (h : We X H0 e δ fun d => ∃ i, d = .int i ∧ k (some i)) : Po X H0 (some e) δ k := fun σ G R => (h σ G R).mono fun v G1 ⟨e1, d, iv, i, ed, q⟩ => by
  subst ed
  exact ⟨i, iv.int_inv, e1, q⟩
theorem tlO_mono {o : Option Expr} {σ : L2.St} {H : Hp} {Q Q' : Option Int → Hp → Prop} (h : tlO X o σ H Q) (m : ∀ u H', Q u H' → Q' u H') : tlO X o σ H Q' := by
  cases o with
  | none => exact m _ _ h
  | some e => exact semE.mono h fun v H' ⟨i, ei, q⟩ => ⟨i, ei, m _ _ q⟩
theorem IsL.cut {K : PySem.W.Frag} {G : Hp} {xs : List V} {ds : List D} (h : IsL K G xs ds) (lo hi : Option Int) : IsL K G (cutV xs lo hi) (cutD ds lo hi) := by
  unfold cutV cutD
  rw [h.1]
  refine ⟨by rw [List.length_take, List.length_take, List.length_drop, List.length_drop, h.1], fun i x d e1 e2 => ?_⟩
  rw [List.getElem?_take] at e1 e2
  split at e1
  · rename_i hl
    rw [if_pos hl] at e2
    rw [List.getElem?_drop] at e1 e2
    exact h.2 _ x d e1 e2
  · cases e1
theorem cutD_all {ds : List D} {lo hi : Option Int} (h1 : HT.sIx ds.length 0 lo = 0) (h2 : HT.sIx ds.length ds.length hi = ds.length) : cutD ds lo hi = ds := by
  unfold cutD
  rw [h1, h2]
  simp
theorem slcD_inv {x : D} {lo hi : Option Int} {k : S → Prop} (h : slcD x lo hi k) : ∃ ds, (x = .sq true ds ∧ k (.ow (.lst (cutD ds lo hi)))) ∨ (x = .sq false ds ∧ k (.sh (.sq false (cutD ds lo hi)))) := by
  unfold slcD at h
  split at h
  · exact ⟨_, .inl ⟨rfl, h⟩⟩
  · exact ⟨_, .inr ⟨rfl, h⟩⟩
  · exact h.elim
theorem wu_slc {lo hi : Option Expr} {p2 : Pos} (h : We X H0 a δ (fun x => Po X H0 lo δ fun l => Po X H0 hi δ fun u => slcD x l u k)) : Wu X H0 (.Subscript a (.Slice lo hi none p2) pos) δ k := fun σ G R =>
  toE (pe_slice (SlR.or sl_list sl_tupA) pe_sem po_tl po_tl) ((h σ G R).mono fun v G1 ⟨e1, d, iv, hd⟩ => tlO_mono (hd σ G1 (R.mono e1)) fun l G2 ⟨e2, hd⟩ => tlO_mono (hd σ G2 ((R.mono e1).mono e2)) fun u G3 ⟨e3, hd⟩ => by
    have iv := (iv.mono e2).mono e3
    have e4 := (e1.trans e2).trans e3
    obtain ⟨ds, ⟨rfl, hd⟩ | ⟨rfl, hd⟩⟩ := slcD_inv hd
    · obtain ⟨p, xs, rfl, hq, hl⟩ := iv.lst_inv
      exact .inl ⟨p, xs, rfl, .inl hq, fun q hq => ⟨.ow (.lst _), (NewIs.lst hq (hl.cut _ _)).back e4, hd⟩⟩
    · obtain ⟨p, xs, rfl, hq, hl⟩ := iv.tup_inv
      refine .inr ⟨p, xs, rfl, hq, fun hw => ⟨.sh (.sq false (cutD ds l u)), ⟨e4, ?_⟩, hd⟩, fun hw q hn => ⟨.sh (.sq false (cutD ds l u)), ⟨e4.trans (Ex.new hn), ?_⟩, hd⟩⟩
      · rw [cutD_all (by rw [← hl.1]; exact hw.1) (by rw [← hl.1]; exact hw.2)]; exact iv
      · exact .mkT (.inl (.inl upd_same)) ((hl.cut _ _).mono (Ex.new hn)))
/-! in -/
theorem flat_ints {ds : List D} {xs : List V} {K : PySem.W.Frag} {G : Hp} (h : IsL K G xs ds) (f : ds.all isIntD = true) : ∃ ns : List Int, ds = ns.map .int ∧ xs = ns.map .int := by
  induction ds generalizing xs with
  | nil => exact ⟨[], rfl, h.inv_nil⟩
  | cons d ds ih =>
    obtain ⟨x, r, rfl, h1, h2⟩ := h.inv_cons
    rw [List.all_cons, Bool.and_eq_true] at f
    obtain ⟨ns, rfl, rfl⟩ := ih h2 f.2
    cases d with
    | int i => exact ⟨i :: ns, rfl, by rw [h1.int_inv]; rfl⟩
    | _ => exact absurd f.1 (by simp [isIntD])
theorem flat_strs {ds : List D} {xs : List V} {K : PySem.W.Frag} {G : Hp} (h : IsL K G xs ds) (f : ds.all isStrD = true) : ∃ ns : List Str, ds = ns.map .str ∧ xs = ns.map .str := by
  induction ds generalizing xs with
  | nil => exact ⟨[], rfl, h.inv_nil⟩
  | cons d ds ih =>
    obtain ⟨x, r, rfl, h1, h2⟩ := h.inv_cons
    rw [List.all_cons, Bool.and_eq_true] at f
    obtain ⟨ns, rfl, rfl⟩ := ih h2 f.2
    cases d with
    | str i => cases h1; exact ⟨i :: ns, rfl, rfl⟩
    | _ => exact absurd f.1 (by simp [isStrD])
theorem in_sem {K : PySem.W.Frag} {G : Hp} {v : V} {d : D} {xs : List V} {ds : List D} (iv : Is K G v d) (h : IsL K G xs ds) (f : kin d ds = true) : flatV v = true ∧ xs.all flatV = true ∧ (inV v xs = true ↔ d ∈ ds) := by
  cases d with
  | int i =>
    obtain ⟨ns, rfl, rfl⟩ := flat_ints h f
    cases iv
    refine ⟨rfl, by simp [flatV], ?_⟩
    unfold inV
    rw [List.any_map, List.any_eq_true, List.mem_map]
    constructor
    · rintro ⟨n, hn, q⟩
      refine ⟨n, hn, ?_⟩
      have : (n == i) = true := q
      rw [eq_of_beq this]
    · rintro ⟨n, hn, q⟩
      cases q
      exact ⟨_, hn, beq_self_eq_true _⟩
  | str i =>
    obtain ⟨ns, rfl, rfl⟩ := flat_strs h f
    cases iv
    refine ⟨rfl, by simp [flatV], ?_⟩
    unfold inV
    rw [List.any_map, List.any_eq_true, List.mem_map]
    constructor
    · rintro ⟨n, hn, q⟩
      refine ⟨n, hn, ?_⟩
      have : (n == i) = true := q
      rw [eq_of_beq this]
    · rintro ⟨n, hn, q⟩
      cases q
      exact ⟨_, hn, beq_self_eq_true _⟩
  | _ => cases f
theorem cmpB_inn {x y : D} {kb : Bool → Prop} (h : cmpB .inn x y kb) : ∃ l ds, y = .sq l ds ∧ kin x ds = true ∧ ∀ b : Bool, (b = true ↔ x ∈ ds) → kb b := by
  unfold cmpB at h
  split at h
  any_goals (first | exact h.elim | contradiction)
  exact ⟨_, _, rfl, h⟩
theorem cmpB_nin {x y : D} {kb : Bool → Prop} (h : cmpB .nin x y kb) : ∃ l ds, y = .sq l ds ∧ kin x ds = true ∧ ∀ b : Bool, (b = true ↔ x ∈ ds) → kb (!b) := by
  unfold cmpB at h
  split at h
  any_goals (first | exact h.elim | contradiction)
  exact ⟨_, _, rfl, h⟩
theorem wu_in (hm : behindInMarks .In b = false) (h : We X H0 a δ (fun x => We X H0 b δ (fun y => cmpB .inn x y fun r => k (.sh (.bl r))))) : Wu X H0 (.Compare a [.In] [b] pos) δ k := fun σ G R => toE (pe_cmpR op_in_seq pe_sem pe_sem hm) (twoU h (fun G v w x y iv iw h Q q => by
  obtain ⟨l, ds, rfl, f, h2⟩ := cmpB_inn h
  cases l with
  | true =>
    obtain ⟨p, xs, rfl, hq, hl⟩ := iw.lst_inv
    obtain ⟨f1, f2, f3⟩ := in_sem iv hl f
    exact ⟨p, xs, rfl, .inl (.inl hq), f1, f2, q _ _ _ (sh_ret (.bl _)) (h2 _ f3)⟩
  | false =>
    obtain ⟨p, xs, rfl, hq, hl⟩ := iw.tup_inv
    obtain ⟨f1, f2, f3⟩ := in_sem iv hl f
    exact ⟨p, xs, rfl, .inr hq, f1, f2, q _ _ _ (sh_ret (.bl _)) (h2 _ f3)⟩) σ G R)
theorem wu_nin (hm : behindInMarks .NotIn b = false) (h : We X H0 a δ (fun x => We X H0 b δ (fun y => cmpB .nin x y fun r => k (.sh (.bl r))))) : Wu X H0 (.Compare a [.NotIn] [b] pos) δ k := fun σ G R => toE (pe_cmpR op_notIn_seq pe_sem pe_sem hm) (twoU h (fun G v w x y iv iw h Q q => by
  obtain ⟨l, ds, rfl, f, h2⟩ := cmpB_nin h
  cases l with
  | true =>
    obtain ⟨p, xs, rfl, hq, hl⟩ := iw.lst_inv
    obtain ⟨f1, f2, f3⟩ := in_sem iv hl f
    exact ⟨p, xs, rfl, .inl (.inl hq), f1, f2, q _ _ _ (sh_ret (.bl _)) (h2 _ f3)⟩
  | false =>
    obtain ⟨p, xs, rfl, hq, hl⟩ := iw.tup_inv
    obtain ⟨f1, f2, f3⟩ := in_sem iv hl f
    exact ⟨p, xs, rfl, .inr hq, f1, f2, q _ _ _ (sh_ret (.bl _)) (h2 _ f3)⟩) σ G R)
theorem wtD_in {kt : Bool → Prop} (hm : behindInMarks .In b = false) (h : We X H0 a δ (fun x => We X H0 b δ (fun y => cmpB .inn x y kt))) : Wt X H0 (.Compare a [.In] [b] pos) δ kt := fun σ G R => toT (pt_cmpR op_in_seq pe_sem pe_sem hm) (twoT h (fun G v w x y iv iw h Q q => by
  obtain ⟨l, ds, rfl, f, h2⟩ := cmpB_inn h
  cases l with
  | true =>
    obtain ⟨p, xs, rfl, hq, hl⟩ := iw.lst_inv
    obtain ⟨f1, f2, f3⟩ := in_sem iv hl f
    exact ⟨p, xs, rfl, .inl (.inl hq), f1, f2, q _ (h2 _ f3)⟩
  | false =>
    obtain ⟨p, xs, rfl, hq, hl⟩ := iw.tup_inv
    obtain ⟨f1, f2, f3⟩ := in_sem iv hl f
    exact ⟨p, xs, rfl, .inr hq, f1, f2, q _ (h2 _ f3)⟩) σ G R)
theorem wtD_nin {kt : Bool → Prop} (hm : behindInMarks .NotIn b = false) (h : We X H0 a δ (fun x => We X H0 b δ (fun y => cmpB .nin x y kt))) : Wt X H0 (.Compare a [.NotIn] [b] pos) δ kt := fun σ G R => toT (pt_cmpR op_notIn_seq pe_sem pe_sem hm) (twoT h (fun G v w x y iv iw h Q q => by
  obtain ⟨l, ds, rfl, f, h2⟩ := cmpB_nin h
  cases l with
  | true =>
    obtain ⟨p, xs, rfl, hq, hl⟩ := iw.lst_inv
    obtain ⟨f1, f2, f3⟩ := in_sem iv hl f
    exact ⟨p, xs, rfl, .inl (.inl hq), f1, f2, q _ (h2 _ f3)⟩
  | false =>
    obtain ⟨p, xs, rfl, hq, hl⟩ := iw.tup_inv
    obtain ⟨f1, f2, f3⟩ := in_sem iv hl f
    exact ⟨p, xs, rfl, .inr hq, f1, f2, q _ (h2 _ f3)⟩) σ G R)
theorem wu_is (h : We X H0 a δ (fun x => We X H0 b δ (fun y => cmpB .is x y fun r => k (.sh (.bl r))))) : Wu X H0 (.Compare a [.Is] [b] pos) δ k := fun σ G R => toE (pe_cmpR (op_or op_isN op_isBl) pe_sem pe_sem (nomark _)) (twoU h (fun G v w x y iv iw h Q q => by
  unfold cmpB at h
  split at h
  any_goals (first | exact h.elim | contradiction)
  · cases iw
    exact .inl ⟨rfl, by rw [isNon_is iv]; exact q _ _ _ (sh_ret (.bl _)) h⟩
  · cases iv; cases iw
    exact .inr ⟨_, _, rfl, rfl, q _ _ _ (sh_ret (.bl _)) h⟩) σ G R)
theorem wu_isnot (h : We X H0 a δ (fun x => We X H0 b δ (fun y => cmpB .isnot x y fun r => k (.sh (.bl r))))) : Wu X H0 (.Compare a [.IsNot] [b] pos) δ k := fun σ G R => toE (pe_cmpR (op_or op_notN op_notBl) pe_sem pe_sem (nomark _)) (twoU h (fun G v w x y iv iw h Q q => by
  unfold cmpB at h
  split at h
  any_goals (first | exact h.elim | contradiction)
  · cases iw
    exact .inl ⟨rfl, by rw [isNon_is iv]; exact q _ _ _ (sh_ret (.bl _)) h⟩
  · cases iv; cases iw
    exact .inr ⟨_, _, rfl, rfl, q _ _ _ (sh_ret (.bl _)) h⟩) σ G R)
theorem wtD_is {kt : Bool → Prop} (h : We X H0 a δ (fun x => We X H0 b δ (fun y => cmpB .is x y kt))) : Wt X H0 (.Compare a [.Is] [b] pos) δ kt := fun σ G R => toT (pt_cmpR (op_or op_isN op_isBl) pe_sem pe_sem (nomark _)) (twoT h (fun G v w x y iv iw h Q q => by
  unfold cmpB at h
  split at h
  any_goals (first | exact h.elim | contradiction)
  · cases iw
    exact .inl ⟨rfl, by rw [isNon_is iv]; exact q _ h⟩
  · cases iv; cases iw
    exact .inr ⟨_, _, rfl, rfl, q _ h⟩) σ G R)
theorem wtD_isnot {kt : Bool → Prop} (h : We X H0 a δ (fun x => We X H0 b δ (fun y => cmpB .isnot x y kt))) : Wt X H0 (.Compare a [.IsNot] [b] pos) δ kt := fun σ G R => toT (pt_cmpR (op_or op_notN op_notBl) pe_sem pe_sem (nomark _)) (twoT h (fun G v w x y iv iw h Q q => by
  unfold cmpB at h
  split at h
  any_goals (first | exact h.elim | contradiction)
  · cases iw
    exact .inl ⟨rfl, by rw [isNon_is iv]; exact q _ h⟩
  · cases iv; cases iw
    exact .inr ⟨_, _, rfl, rfl, q _ h⟩) σ G R)
def copB : Cop → CmpOp → Bool
  | .eq, .Eq => true | .ne, .NotEq => true | .lt, .Lt => true | .le, .LtE => true | .gt, .Gt => true | .ge, .GtE => true | .is, .Is => true | .isnot, .IsNot => true | .inn, .In => true | .nin, .NotIn => true
  | _, _ => false
theorem wu_cmp (hu : X.A.units + 64 < cLine) {o : Cop} {op : CmpOp} (ho : copB o op = true) (hm : ∀ op, behindInMarks op b = false) (h : We X H0 a δ (fun x => We X H0 b δ (fun y => cmpB o x y fun r => k (.sh (.bl r))))) : Wu X H0 (.Compare a [op] [b] pos) δ k := by
  unfold copB at ho
  split at ho
  · exact wu_eq hu h
  · exact wu_ne hu h
  · exact wu_we (we_lt (h.mono fun x hx => hx.mono fun y hy => by
      unfold cmpB at hy
      split at hy
      any_goals (first | exact hy.elim | contradiction)
      exact i2 hy))
  · exact wu_we (we_le (h.mono fun x hx => hx.mono fun y hy => by
      unfold cmpB at hy
      split at hy
      any_goals (first | exact hy.elim | contradiction)
      exact i2 hy))
  · exact wu_we (we_gt (h.mono fun x hx => hx.mono fun y hy => by
      unfold cmpB at hy
      split at hy
      any_goals (first | exact hy.elim | contradiction)
      exact i2 hy))
  · exact wu_we (we_ge (h.mono fun x hx => hx.mono fun y hy => by
      unfold cmpB at hy
      split at hy
      any_goals (first | exact hy.elim | contradiction)
      exact i2 hy))
  · exact wu_is h
  · exact wu_isnot h
  · exact wu_in (hm _) h
  · exact wu_nin (hm _) h
  · cases ho
theorem wtD_cmp (hu : X.A.units + 64 < cLine) {o : Cop} {op : CmpOp} {kt : Bool → Prop} (ho : copB o op = true) (hm : ∀ op, behindInMarks op b = false) (h : We X H0 a δ (fun x => We X H0 b δ (fun y => cmpB o x y kt))) : Wt X H0 (.Compare a [op] [b] pos) δ kt := by
  unfold copB at ho
  split at ho
  · exact wtD_eq hu h
  · exact wtD_ne hu h
  · exact wt_lt (h.mono fun x hx => hx.mono fun y hy => by
      unfold cmpB at hy
      split at hy
      any_goals (first | exact hy.elim | contradiction)
      exact i2 hy)
  · exact wt_le (h.mono fun x hx => hx.mono fun y hy => by
      unfold cmpB at hy
      split at hy
      any_goals (first | exact hy.elim | contradiction)
      exact i2 hy)
  · exact wt_gt (h.mono fun x hx => hx.mono fun y hy => by
      unfold cmpB at hy
      split at hy
      any_goals (first | exact hy.elim | contradiction)
      exact i2 hy)
  · exact wt_ge (h.mono fun x hx => hx.mono fun y hy => by
      unfold cmpB at hy
      split at hy
      any_goals (first | exact hy.elim | contradiction)
      exact i2 hy)
  · exact wtD_is h
  · exact wtD_isnot h
  · exact wtD_in (hm _) h
  · exact wtD_nin (hm _) h
  · cases ho
end
end DL
set_option Elab.async false
set_option linter.all false
set_option maxRecDepth 100000
set_option maxHeartbeats 4000000
/-! The deep machine, part k: classes that are called; what a name that is called stands for. -/
namespace DL
open PySem PySem.Spec PyProof.Rows L2
/-- a class that is known: T, what its call promises -/
structure Mf (P : Program) (w : World) (K : PySem.W.Frag) (mg : Str → Option Value) (base : Heap) (lvl : Nat) (x : Str) (T : DSp) : Prop where
  ex : ∃ (C f : Addr) (fd : FuncData) (ps : List Str) (sp : Sp) (ds : List Value) (dvs : List V), Mk K C f ∧ FnOk P w K mg base (L2.CX P w) lvl f fd ps sp ∧ mg x = some (.ref C) ∧ Binds K fd ps ds ∧ Vals dvs ds ∧
    ∀ (H : Hp) (vs : List V) (as : List D) (kk : S → Prop) (xx : XD), IsL K H vs as → T as kk xx → ∀ (Q : VK) (E : XK), (∀ a H2 r, RetIs K H (.ref a) H2 r → kk r → Q (.ref a) H2) → (∀ c d H' fs, Ex H H' → ExcIs K H' d fs → xx c fs → E c d H') →
      ∀ a dx, H a = none → H dx = none → dx ≠ a → sp (.ref a :: (vs ++ dvs)) (upd (upd H dx (.own a)) a (.ins C dx [])) (fun v H2 => v = .non ∧ Q (.ref a) H2) E
section
variable {X : Cx} {CX : CXT} {k : Nat} {f C : Addr} {fd : FuncData} {ps : List Str} {sp : Sp} {dvs : List V} {ds : List Value} {E : L2.St → XK} {x : Str} {p pos : Pos} {e : Expr} {es : List Expr} {t : TA}
/-- a class is called; exceptions by the caller's names -/
theorem pe_makeSD (M : Mk X.K C f) (F : FnOk X.prog X.w X.K X.mg X.base CX k f fd ps sp) (hr : Room (k + 1) X.A) (hg : Gl X x) (hm : X.mg x = some (.ref C)) (hb : Binds X.K fd ps ds) (hd : Vals dvs ds) (hx : ∀ σ, PassesAt CX X σ (E σ))
    (ha : PA X (e :: es) t) (hdb : (x == ("__debug__" : Str)) = false) (he : starEach (e :: es) X.env = (false, eval e X.env) :: starEach es X.env) (hpl : (backTo pos (starEach es X.env)).any (·.1) = false) :
    PE X (.Call (.Name x p) (e :: es) [] pos) (fun σ H Q => t σ H fun vs H1 => ∀ x dx, H1 x = none → H1 dx = none → dx ≠ x → sp (.ref x :: (vs ++ dvs)) (upd (upd H1 dx (.own x)) x (.ins C dx [])) (fun v H2 => v = .non ∧ Q (.ref x) H2) (E σ)) := by
  refine ⟨fun pins s σ H Q I h => ?_⟩
  refine wpAny_Call_Name_kw (ld_glob I hg hm ?_ hdb)
  refine PySem.W.callWith_K (h₀ := X.base) I.ok.mod.kin M.kp (thn (ha.run pos pins s σ H _ I h) fun us s1 ⟨vs, H1, I1, r, q⟩ => ⟨I1.kIn, ?_⟩) he hpl
  have hq := q (s1.heap.objs.size + 1) s1.heap.objs.size (I1.hok.fresh (Nat.le_succ _)) (I1.hok.fresh (Nat.le_refl _)) (Nat.ne_of_lt (Nat.lt_succ_self _))
  have I2 := Inv.made (C := C) I1
  have r2 : Vals (V.ref (s1.heap.objs.size + 1) :: (vs ++ dvs)) (Value.ref (s1.heap.objs.size + 1) :: (us ++ ds)) := .cons rfl (r.append hd)
  have hl : (Value.ref (s1.heap.objs.size + 1) :: us ++ ds).length = ps.length := by
    have e := r2.length
    rw [F.len _ _ _ _ hq] at e
    exact e.symm
  refine wpAny_call (make_map (f := f) I1.kIn M.makes M.init (beq_iff_eq.mp M.fn) (codeAny_mono (F.run _ X.stack _ _ ⟨Value.ref (s1.heap.objs.size + 1) :: us, []⟩ (Value.ref (s1.heap.objs.size + 1) :: (us ++ ds)) _ _ (E σ) (hr.make C us [])
    (I2.env0.make C us []) (hb _ (Value.ref (s1.heap.objs.size + 1) :: us) I2.kIn hl) r2 hq) fun z s' hq' => ?_))
  cases z with
  | error e => exact hx σ pins _ _ e s' I2 hq'
  | ok fl =>
    cases fl with
    | ret u =>
      obtain ⟨v, H', I3, rv, ev, q3⟩ := I2.after hq'
      subst ev
      exact ⟨rv, ⟨V.ref (s1.heap.objs.size + 1), H', I3, rfl, q3⟩⟩
    | next => exact False.elim hq'
    | brk => exact False.elim hq'
    | cont => exact False.elim hq'
end
/-- what a called name stands for -/
inductive Kn (X : Cx) (x : Str) (T : DSp) : Prop
  | fn {lvl : Nat} {ps : List Str} {T0 : DSp} {dds : List D} : Fn X.prog X.w X.K X.mg X.base lvl x ps T0 dds → Room lvl X.A → (∀ as k x, T as k x → T0 (as ++ dds) k x) → Kn X x T
  | mk {lvl : Nat} : Mf X.prog X.w X.K X.mg X.base lvl x T → Room (lvl + 1) X.A → Kn X x T
theorem Kn.blk {X : Cx} {x : Str} {T : DSp} {sc : Scope} {s : Shared} {h : Hp} {C' : Addr} {cl : List (Str × Addr)} {fp : List Addr} (k : Kn X x T) : Kn (X.blk s h sc (compEnvC sc cl C' X.env) fp) x T := by
  cases k with
  | fn F r c => exact .fn F r c
  | mk M r => exact .mk M r
section
variable {X : Cx} {H0 : Hp} {δ : List S} {x : Str} {es : List Expr} {pos p : Pos} {k : S → Prop} {T : DSp} {xw : List S → XD}
theorem kn_call (hk : Kn X x T) (hx : Xc X H0 xw) (g : Gl X x) (hdb : (x == ("__debug__" : Str)) = false) (hn : es ≠ []) (hs : es.all notStar = true)
    (h : Wa X H0 es δ (fun ds => T ds k (xw δ))) : Wu X H0 (.Call (.Name x p) es [] pos) δ k := by
  cases es with
  | nil => exact absurd rfl hn
  | cons e es =>
    rw [List.all_cons, Bool.and_eq_true] at hs
    cases hk with
    | fn F hr hTT =>
      intro σ G R
      obtain ⟨f, fd, ds, dvs, Fk, hm, hk, hb, hd, hdd⟩ := F.ex
      obtain ⟨W, tk, hW⟩ := hx.ex
      refine toE (pe_callSD Fk hr g hm hk hb hd (fun σ => passAt tk σ) pa_sem hdb (star_of hs.1) (star_any hs.2)) ((h σ G R).mono fun vs G1 ⟨e1, as, is, hT⟩ => ?_)
      exact ⟨_, _, _, is.app (hdd G1), hTT _ _ _ hT, fun v H' r hr' hk' => ⟨r, hr'.back e1, hk'⟩, fun c d H' fs e2 i q => hW σ H' δ c d fs ((R.mono e1).mono e2) i q⟩
    | mk M hr =>
      intro σ G R
      obtain ⟨C, f, fd, ps, sp, ds, dvs, M1, Fk, hm, hb, hd, hS⟩ := M.ex
      obtain ⟨W, tk, hW⟩ := hx.ex
      refine toE (pe_makeSD M1 Fk hr g hm hb hd (fun σ => passAt tk σ) pa_sem hdb (star_of hs.1) (star_any hs.2)) ((h σ G R).mono fun vs G1 ⟨e1, as, is, hT⟩ => ?_)
      exact fun a dx na nd ne => hS G1 vs as _ _ is hT (fun v G' => ∃ r, RetIs X.K G v G' r ∧ k r) (WE W σ) (fun a H2 r hr' hk' => ⟨r, hr'.back e1, hk'⟩) (fun c d H' fs e2 i q => hW σ H' δ c d fs ((R.mono e1).mono e2) i q) a dx na nd ne
end
end DL
set_option Elab.async false
set_option linter.all false
set_option maxRecDepth 100000
set_option maxHeartbeats 4000000
/-! The deep machine, part l: comprehensions with several names. -/
namespace DL
open PySem PySem.Spec PyProof.Rows L2
/-- a block's own names may stand in these slots -/
def blkBs (N : List Str) (s1 s2 : Scope) (own : List (Str × Nat)) : Bool := decide (s2.kind = .function) && (s2.names.all (fun y => decide (s2.names.lookup y.1 = some y.2)) && (own.all (fun p => decide (N[p.2]? = some p.1)) && (s2.names.all (fun y => decide (y.2 ≠ .free) || (decide (s1.names.lookup y.1 = some .cell) || decide (s1.names.lookup y.1 = some .free))) && s2.names.all (fun y => (decide (y.2 ≠ .local) && decide (y.2 ≠ .cell)) || (decide (y.1 ∈ own.map (·.1)) || decide (y.1 ∉ N))))))
theorem blkBs_ok {N : List Str} {s1 s2 : Scope} {own : List (Str × Nat)} (h : blkBs N s1 s2 own = true) : BlkOk N s1 s2 own := by
  simp only [blkBs, Bool.and_eq_true, List.all_eq_true, decide_eq_true_eq, Bool.or_eq_true] at h
  obtain ⟨h1, h2, h3, h4, h5⟩ := h
  refine ⟨h1, fun y hy => h2 y hy, fun p hp => h3 p hp, fun y hy e => ?_, fun y hy e => ?_⟩
  · rcases h4 y hy with z | z
    · exact absurd e z
    · exact z
  · rcases h5 y hy with ⟨z1, z2⟩ | z
    · rcases e with e | e
      · exact absurd e z1
      · exact absurd e z2
    · exact z
/-- the targets are the names at these slots -/
def nmsB (N : List Str) (sc : Scope) : List Nat → List Expr → Bool
  | [], es => es.isEmpty
  | i :: is, es => match es with
    | .Name x _ :: r => (decide (N[i]? = some x) && decide (sc.names.lookup x = some .local)) && nmsB N sc is r
    | _ => false
def nms : List Expr → List Str
  | .Name x _ :: r => x :: nms r
  | _ => []
theorem pgs_names {X : Cx} {N : List Str} {sc : Scope} (hN : X.N.Nodup) (e1 : X.N = N) (e2 : X.env.scope = sc) : ∀ {is : List Nat} {es : List Expr}, nmsB N sc is es = true → PGs X es (gNames is) ∧ (assignEach es X.env).length = is.length ∧ (assignEach es X.env).findIdx? (·.1) = none
  | [], es, h => by
    rw [nmsB, List.isEmpty_iff] at h
    subst h
    exact ⟨pgs_nil, rfl, rfl⟩
  | i :: is, es, h => by
    unfold nmsB at h
    split at h
    · obtain ⟨h1, h2⟩ := Bool.and_eq_true_iff.mp h
      obtain ⟨h3, h4⟩ := Bool.and_eq_true_iff.mp h1
      obtain ⟨a, b, c⟩ := pgs_names hN e1 e2 h2
      have hl := of_decide_eq_true h4
      rw [← e2] at hl
      refine ⟨pgs_cons (pg_name hN (by rw [e1]; exact of_decide_eq_true h3) (.inl hl) (.inr hl)) a rfl, ?_, ?_⟩
      · show (assignEach _ X.env).length + 1 = _
        rw [b]; rfl
      · show List.findIdx? _ ((false, _) :: assignEach _ X.env) = none
        rw [List.findIdx?_cons, c]; rfl
    · cases h
theorem setL_set {w : Nat} {s : S} : ∀ {is : List Nat} {ds : List D} {δ : List S}, w ∈ is → ds.length = is.length → setL is ds (δ.set w s) = setL is ds δ
  | [], _, _, h, _ => by cases h
  | i :: is, [], _, _, hl => by cases hl
  | i :: is, d :: ds, δ, h, hl => by
    show setL is ds ((δ.set w s).set i (.sh d)) = setL is ds (δ.set i (.sh d))
    by_cases e : w = i
    · subst e; rw [List.set_set]
    · rcases List.mem_cons.mp h with z | z
      · exact absurd z e
      · rw [List.set_comm _ _ e, setL_set z (Nat.succ.inj hl)]
theorem setL_wiped {is : List Nat} {ds : List D} {δ : List S} (hl : ds.length = is.length) : ∀ ws : List Nat, (∀ w ∈ ws, w ∈ is) → setL is ds (ws.foldr (fun w δ => δ.set w .no) δ) = setL is ds δ
  | [], _ => rfl
  | w :: ws, h => by
    show setL is ds ((ws.foldr (fun w δ => δ.set w .no) δ).set w .no) = _
    rw [setL_set (h w List.mem_cons_self) hl, setL_wiped hl ws fun v hv => h v (List.mem_cons_of_mem _ hv)]
section
variable {X : Cx} {H0 : Hp} {δ : List S} {elt it : Expr} {es : List Expr} {sc : Scope} {pos p : Pos} {ko : Ow → Prop}
/-- (a, b, ..) = a tuple or a list of that length -/
def gBoth (K : PySem.W.Frag) (n : Nat) (t : TGs) : TG := fun v σ H Q => gTup K n t v σ H Q ∨ gUnl K n t v σ H Q
theorem pg_both {es : List Expr} {k : Nat} {t : TGs} {n : Nat} (hc : X.calm = true) (h : PGs X es t) (hn : (assignEach es X.env).length = n) (hst : (assignEach es X.env).findIdx? (·.1) = none) : PG X (.Tuple es k pos) (gBoth X.K n t) :=
  ⟨fun pins s σ H v u Q I r q => q.elim ((pg_tup hc h hn hst).run pins s σ H v u Q I r) ((pg_unl hc h hn hst).run pins s σ H v u Q I r)⟩
theorem both_of {K : PySem.W.Frag} {G H' : Hp} {x : V} {l : Bool} {ds : List D} {n : Nat} (ix : Is K G x (.sq l ds)) (e : Ex G H') (hl : ds.length = n) : ∃ xs, IsL K G xs ds ∧ ∀ (t : TGs) (σ : L2.St) (Q : L2.St → Hp → Prop), t xs σ H' Q → gBoth K n t x σ H' Q := by
  cases l with
  | true =>
    obtain ⟨a, xs, rfl, hq, il⟩ := ix.lst_inv
    exact ⟨xs, il, fun t σ Q q => .inr ⟨a, xs, rfl, .inl (Ex.rd e hq), by rw [il.1, hl], q⟩⟩
  | false =>
    obtain ⟨a, xs, rfl, hq, il⟩ := ix.tup_inv
    exact ⟨xs, il, fun t σ Q q => .inl ⟨a, xs, rfl, Ex.sqT e hq, by rw [il.1, hl], q⟩⟩
/-- a list's items under their names, at a statement -/
theorem wg_both {ts : List Expr} {x1 : Nat} {l : Bool} {ds : List D} {kn : List S → Prop} (hc : X.calm = true) (h : Wgs X H0 ts ds δ kn) (hn : (assignEach ts X.env).length = ds.length) (hst : (assignEach ts X.env).findIdx? (·.1) = none) : Wg X H0 (.Tuple ts x1 pos) (.sq l ds) δ kn := fun B σ H own v hB R iv => by
  obtain ⟨xs, il, q⟩ := both_of (H' := H) (n := ds.length) iv cut_ex rfl
  exact toG (pg_both hc pgs_sem hn hst) (q _ _ _ (h B σ H own xs hB R il))
/-- what the turns do -/
def LCt (X : Cx) (sc : Scope) (H0 : Hp) (elt : Expr) (δ : List S) (is : List Nat) (ko : List D → Prop) (n : Nat) (item : Nat → D) : Prop := ∃ R : Nat → D → Prop, n ≤ 100000 ∧ (∀ i, i < n → ∃ l ds, item i = .sq l ds ∧ ds.length = is.length ∧ BWe X sc H0 elt (setL is ds δ) (R i)) ∧ ∀ es, EachN R n es → ko es
def dsOf : D → List D
  | .sq _ ds => ds
  | _ => []
theorem wo_lct {is : List Nat} {x1 : Nat} (hN : X.N.Nodup) (h : Wi X H0 it δ (LCt X sc H0 elt δ is fun es => ko (.lst es))) (hc : X.calm = true) (ok : blkBs X.N X.env.scope sc ((nms es).zip is) = true) (hz : ((nms es).zip is).map (·.2) = is) (hi : nmsB X.N (relS sc X.env.scope) is es = true)
    (hs : ∀ x, foldedSetIterable it X.env x = pure x) : Wo X H0 (.ListComp elt [⟨.Tuple es x1 p, it, [], 0⟩] sc pos) δ ko := fun σ G R0 => by
  obtain ⟨wi, hpi, fri, hw⟩ := h
  have hg : ∀ (s : Shared) (H : Hp) (C : Addr) (cl : List (Str × Addr)) (fp : List Addr), PG (X.blk s H sc (compEnvC sc cl C X.env) fp) (.Tuple es x1 p) (gBoth X.K is.length (gNames is)) := fun s H C cl fp => by
    obtain ⟨a, b, c⟩ := pgs_names (X := X.blk s H sc (compEnvC sc cl C X.env) fp) (N := X.N) (sc := relS sc X.env.scope) hN rfl rfl hi
    exact pg_both hc a b c
  refine toE (pe_lc hc hN (hpi _) (blkBs_ok ok) hg (fun _ _ _ _ _ => pts_nil) pe_b hs) ?_
  rw [hz]
  refine fri_mono fri (hw σ G R0) fun J G1 ⟨e1, n, item, ⟨R, hl, hw, q⟩, g⟩ => ?_
  refine lcg_sem (X := X) (H0 := H0) (ps := []) (n := n) (ws := is) (g := gBoth X.K is.length (gNames is)) (item := item) (δi := fun i => setL is (dsOf (item i)) δ) (P := EachN R) (Q := fun v' G' => ∃ o, NewIs X.K G v' G' o ∧ ko o) fr_bE fr_yes (fun a ha => by cases ha) (fun i x H' hi e ix => ?_) (by rw [cut_nil]; exact g) EachN.nil (fun i es hi p G' σ' _ R' => ?_) fun A G' as es N _ p => ?_
  · obtain ⟨l0, ds, ei, hl, _⟩ := hw i hi
    rw [cut_nil] at e ix ⊢
    rw [ei] at ix ⊢
    obtain ⟨xs, il, qq⟩ := both_of ix e hl
    obtain ⟨σ2, a1, b1, c1⟩ := gNames_ok (X := X) (H0 := H0) (H' := H') (is := is) il hl (RelS.wipe (R0.mono e1) is)
    refine ⟨σ2, fun Qg q => qq _ _ _ (a1 Qg q), by rw [b1 is fun v hv => hv, wipe_wipe fun v hv => hv], ?_⟩
    rw [setL_wiped hl is fun v hv => hv] at c1
    exact c1
  · obtain ⟨l0, ds, ei, hl', hb⟩ := hw i hi
    have R' : RelS X.K H0 σ' G' (setL is ds δ) := by
      have e : dsOf (item i) = ds := by rw [ei]; rfl
      rw [← e]; exact R'
    exact ⟨Same.refl _, fun _ s h' C cl fp => (hb s h' C cl fp σ' G' R').mono fun y G2 ⟨e2, d, id, hd⟩ => ⟨e2, d, id, by rw [p.1]; omega, p.snoc hd⟩, fun z => nomatch z⟩
  · rw [lcH_nil]
    rw [cut_nil] at N
    exact ⟨_, N.back e1, q es p⟩
theorem ws_setLctO (i : Nat) {is : List Nat} {x1 : Nat} {y : Str} {py spos : Pos} {E : En} (hN : X.N.Nodup) (h : Wi X H0 it δ (LCt X sc H0 elt δ is fun es => E.nx (δ.set i (.ow (.lst es))))) (hc : X.calm = true) (ok : blkBs X.N X.env.scope sc ((nms es).zip is) = true) (hz : ((nms es).zip is).map (·.2) = is) (hi : nmsB X.N (relS sc X.env.scope) is es = true)
    (hy : X.N[i]? = some y) (hyl : X.env.scope.names.lookup y = some .local) (hsw : swapsWith (.ListComp elt [⟨.Tuple es x1 p, it, [], 0⟩] sc pos) (some (.Name y py)) spos.line X.env = pure true) (hs : ∀ x, foldedSetIterable it X.env x = pure x) :
    Ws X H0 (.Assign [.Name y py] (.ListComp elt [⟨.Tuple es x1 p, it, [], 0⟩] sc pos) spos) δ E := fun B σ H own hB R => by
  obtain ⟨wi, hpi, fri, hw⟩ := h
  have hg : ∀ (s : Shared) (H : Hp) (C : Addr) (cl : List (Str × Addr)) (fp : List Addr), PG (X.blk s H sc (compEnvC sc cl C X.env) fp) (.Tuple es x1 p) (gBoth X.K is.length (gNames is)) := fun s H C cl fp => by
    obtain ⟨a, b, c⟩ := pgs_names (X := X.blk s H sc (compEnvC sc cl C X.env) fp) (N := X.N) (sc := relS sc X.env.scope) hN rfl rfl hi
    exact pg_both hc a b c
  refine toS (ps_setLc hc hN hy hyl hsw (hpi _) (blkBs_ok ok) hg (fun _ _ _ _ _ => pts_nil) pe_b hs) ?_
  rw [hz]
  refine fri σ H own.flatten _ _ R.owned (hw σ _ (R.toS.weak hB)) fun J G1 n1 ⟨e1, n, item, ⟨R2, hl, hw, q⟩, g⟩ => ?_
  have R1 : Rel X.K B σ (mrg H own.flatten G1) δ own := R.step e1 n1
  have ec : cut (mrg H own.flatten G1) own.flatten = G1 := cut_mrg n1
  refine lcg_sem (X := X) (H0 := H0) (ps := own.flatten) (n := n) (ws := is) (g := gBoth X.K is.length (gNames is)) (item := item) (δi := fun i => setL is (dsOf (item i)) δ) (P := EachN R2) (Q := fun x H1 => gName i x σ H1 (toEnds X.K B E).nx) fr_bE fr_yes R1.owned (fun i x H' hi e ix => ?_) (by rw [ec]; exact g) EachN.nil (fun i es hi p G' σ' _ R' => ?_) fun A G as es N np p => ?_
  · obtain ⟨l0, ds, ei, hl, _⟩ := hw i hi
    rw [ec] at e ix ⊢
    rw [ei] at ix ⊢
    obtain ⟨xs, il, qq⟩ := both_of ix e hl
    have R0 : RelS X.K H0 σ G1 δ := by have := R1.toS.weak hB; rwa [ec] at this
    obtain ⟨σ2, a1, b1, c1⟩ := gNames_ok (X := X) (H0 := H0) (H' := H') (is := is) il hl (RelS.wipe R0 is)
    refine ⟨σ2, fun Qg q => qq _ _ _ (a1 Qg q), by rw [b1 is fun v hv => hv, wipe_wipe fun v hv => hv], ?_⟩
    rw [setL_wiped hl is fun v hv => hv] at c1
    exact c1
  · obtain ⟨l0, ds, ei, hl', hb⟩ := hw i hi
    have R' : RelS X.K H0 σ' G' (setL is ds δ) := by
      have e : dsOf (item i) = ds := by rw [ei]; rfl
      rw [← e]; exact R'
    exact ⟨Same.refl _, fun _ s h' C cl fp => (hb s h' C cl fp σ' G' R').mono fun y G2 ⟨e2, d, id, hd⟩ => ⟨e2, d, id, by rw [p.1]; omega, p.snoc hd⟩, fun z => nomatch z⟩
  · obtain ⟨l, hl, fr, ee, nd⟩ := N
    exact ⟨_, _, R1.setOw ee np nd hl, q es p⟩
end
end DL
set_option Elab.async false
set_option linter.all false
set_option maxRecDepth 100000
set_option maxHeartbeats 4000000
/-! The deep machine, part c: a text and what it resolves to; expressions are sound. -/
namespace DL
open PySem PySem.Spec PyProof.Rows L2
/-- the built-in names that the top leaves alone -/
structure Bm (mg : Str → Option Value) : Prop where
  len : mg "len" = none
  range : mg "range" = none
  int : mg "int" = none
  abs : mg "abs" = none
  tuple : mg "tuple" = none
  list : mg "list" = none
  isinstance : mg "isinstance" = none
  bool : mg "bool" = none
  sum : mg "sum" = none
  min : mg "min" = none
  max : mg "max" = none
  str : mg "str" = none
/-- where a text stands: slots, scope, the names of defs that it calls -/
structure Ct where
  N : List Str
  sc : Scope
  fs : List Str
  math : Bool
def visB (C : Ct) (i : Nat) (x : Str) : Bool := decide (C.N[i]? = some x) && ((match C.sc.names.lookup x with
  | some .local => true
  | some .cell => true
  | some .free => true
  | _ => false) && (decide ((x == ("__debug__" : Str)) = false) && decide ((x == ("__classdict__" : Str)) = false)))
def gloB (C : Ct) (x : Str) : Bool := decide (C.sc.names.lookup x = some .globalImplicit) && decide ((x == ("__debug__" : Str)) = false)
def bfName : Bf → Str
  | .len => "len" | .int => "int" | .abs => "abs" | .tuple => "tuple" | .list => "list" | .sum => "sum" | .max => "max" | .min => "min" | .gcd => "gcd" | .lcm => "lcm"
def bfAr : Bf → Nat
  | .max => 2 | .min => 2 | .gcd => 2 | .lcm => 2 | _ => 1
def bfMath : Bf → Bool
  | .gcd => true | .lcm => true | _ => false
def tyName : Ty → Str
  | .int => "int" | .bool => "bool" | .str => "str" | .list => "list" | .tuple => "tuple"
def bopB : Bop → Operator → Bool
  | .add, .Add => true | .sub, .Sub => true | .mul, .Mult => true | .div, .FloorDiv => true | .mod, .Mod => true | .pow, .Pow => true
  | _, _ => false
mutual
def chE (C : Ct) : Xe → Expr → Bool
  | .var i, e => match e with
    | .Name x _ => visB C i x
    | _ => false
  | .int i, e => match e with
    | .Constant (.int j) _ _ => decide (i = j)
    | _ => false
  | .bl i, e => match e with
    | .Constant (.bool j) _ _ => decide (i = j)
    | _ => false
  | .non, e => match e with
    | .Constant .none _ _ => true
    | _ => false
  | .str i, e => match e with
    | .Constant (.str j) _ _ => decide (i = j)
    | _ => false
  | .bin o a b, e => match e with
    | .BinOp l op r _ => bopB o op && (chE C a l && chE C b r)
    | _ => false
  | .rep a b, e => match e with
    | .BinOp l .Mult r _ => chE C a l && chE C b r
    | _ => false
  | .neg a, e => match e with
    | .UnaryOp .USub l _ => chE C a l
    | _ => false
  | .not a, e => match e with
    | .UnaryOp .Not l _ => chE C a l
    | _ => false
  | .cmp o a b, e => match e with
    | .Compare l [op] [r] _ => copB o op && (chE C a l && chE C b r)
    | _ => false
  | .and as, e => match e with
    | .BoolOp .And es _ => !es.isEmpty && chL C as es
    | _ => false
  | .or as, e => match e with
    | .BoolOp .Or es _ => !es.isEmpty && chL C as es
    | _ => false
  | .ite c a b, e => match e with
    | .IfExp t l r _ => chE C c t && (chE C a l && chE C b r)
    | _ => false
  | .itu c a b, e => match e with
    | .IfExp t l r _ => chE C c t && (chE C a l && chE C b r)
    | _ => false
  | .ix a b, e => match e with
    | .Subscript l r _ => chE C a l && chE C b r
    | _ => false
  | .ixn a n, e => match e with
    | .Subscript l (.Constant (.int j) _ _) _ => chE C a l && decide (j = (n : Int))
    | _ => false
  | .fld a f, e => match e with
    | .Attribute l x _ => decide (x = f) && (notCall l && chE C a l)
    | _ => false
  | .slc a lo hi, e => match e with
    | .Subscript l (.Slice p q none _) _ => chE C a l && ((match p with
      | none => isNonX lo
      | some p => !isNonX lo && chE C lo p) && (match q with
      | none => isNonX hi
      | some q => !isNonX hi && chE C hi q))
    | _ => false
  | .tup as, e => match e with
    | .Tuple es _ _ => Nat.ble es.length 100000 && chL C as es
    | _ => false
  | .lst as, e => match e with
    | .List es _ => Nat.ble es.length 100000 && chL C as es
    | _ => false
  | .call i as, e => match e with
    | .Call (.Name x _) es [] _ => decide (C.fs[i]? = some x) && (gloB C x && (!es.isEmpty && chL C as es))
    | _ => false
  | .bi f as, e => match e with
    | .Call (.Name x _) es [] _ => decide (x = bfName f) && (gloB C x && ((C.math || !bfMath f) && (decide (es.length = bfAr f) && chL C as es)))
    | _ => false
  | .isi a t, e => match e with
    | .Call (.Name x _) [l, .Name y _] [] _ => decide (x = ("isinstance" : Str)) && (decide (y = tyName t) && (gloB C x && (gloB C y && chE C a l)))
    | _ => false
  | .lc v elt it, e => match e with
    | .ListComp l [⟨.Name x _, itr, [], 0⟩] sc _ => blkB C.N C.sc sc x v && (decide (C.N[v]? = some x) && (decide ((relS sc C.sc).names.lookup x = some .local) && (chI C it itr && chE { C with sc := relS sc C.sc } elt l)))
    | _ => false
  | .lcf v elt it c, e => match e with
    | .ListComp l [⟨.Name x _, itr, [t], 0⟩] sc _ => blkB C.N C.sc sc x v && (decide (C.N[v]? = some x) && (decide ((relS sc C.sc).names.lookup x = some .local) && (chI C it itr && (chE { C with sc := relS sc C.sc } elt l && chE { C with sc := relS sc C.sc } c t))))
    | _ => false
  | .lct is elt it, e => match e with
    | .ListComp l [⟨.Tuple es _ _, itr, [], 0⟩] sc _ => blkBs C.N C.sc sc ((nms es).zip is) && (decide (((nms es).zip is).map (·.2) = is) && (nmsB C.N (relS sc C.sc) is es && (chI C it itr && chE { C with sc := relS sc C.sc } elt l)))
    | _ => false
def chL (C : Ct) : Xl → List Expr → Bool
  | .nil, es => es.isEmpty
  | .cons a as, es => match es with
    | e :: r => chE C a e && chL C as r
    | [] => false
def chI (C : Ct) : Xi → Expr → Bool
  | .rng a, e => match e with
    | .Call (.Name x _) [l] [] _ => decide (x = ("range" : Str)) && (gloB C x && chE C a l)
    | _ => false
  | .rng2 a b, e => match e with
    | .Call (.Name x _) [l, r] [] _ => decide (x = ("range" : Str)) && (gloB C x && (chE C a l && chE C b r))
    | _ => false
  | .sq a, e => chE C a e
end
/-- the context is the one that the text was resolved for -/
structure Ev (X : Cx) (C : Ct) (Γ : List DSp) : Prop where
  N : X.N = C.N
  nd : C.N.Nodup
  sc : X.env.scope = C.sc
  calm : X.calm = true
  bi : Bm X.mg
  math : C.math = true → X.mg "gcd" = some (.builtin "math.gcd") ∧ X.mg "lcm" = some (.builtin "math.lcm")
  units : X.A.units + 64 < cLine
  cov : ∀ (i : Nat) x, C.fs[i]? = some x → ∃ T, Γ[i]? = some T
  fns : ∀ (i : Nat) x T, C.fs[i]? = some x → Γ[i]? = some T → Kn X x T
section
variable {X : Cx} {C : Ct} {Γ : List DSp} {H0 : Hp} {δ : List S} {e : Expr}
theorem Ev.blk (E : Ev X C Γ) {sc : Scope} {s : Shared} {h : Hp} {C' : Addr} {cl : List (Str × Addr)} {fp : List Addr} : Ev (X.blk s h sc (compEnvC sc cl C' X.env) fp) { C with sc := relS sc C.sc } Γ :=
  ⟨E.N, E.nd, by rw [← E.sc]; rfl, E.calm, E.bi, E.math, E.units, E.cov, fun i x T h1 h2 => (E.fns i x T h1 h2).blk⟩
theorem and3 {a b : Bool} (h : (a && b) = true) : a = true ∧ b = true := Bool.and_eq_true_iff.mp h
theorem chE_star {a : Xe} (h : chE C a e = true) : notStar e = true := by
  cases e with
  | Starred v p => cases a <;> (simp only [chE] at h; cases h)
  | _ => rfl
theorem chE_set {a : Xe} (h : chE C a e = true) : ∀ (env : Env) x, foldedSetIterable e env x = pure x := by
  cases e with
  | Set v p q => cases a <;> (simp only [chE] at h; cases h)
  | _ => intro env x; rfl
theorem chE_mark {a : Xe} (h : chE C a e = true) (op : CmpOp) : behindInMarks op e = false := by
  cases e with
  | Set v p q => cases a <;> (simp only [chE] at h; cases h)
  | _ => rfl
theorem chE_ix {a : Xe} (h : chE C a e = true) : PlainIx e := by
  cases e with
  | Slice v p q => cases a <;> (simp only [chE] at h; cases h)
  | _ => exact fun _ _ => rfl
theorem chI_set {a : Xi} (h : chI C a e = true) : ∀ (env : Env) x, foldedSetIterable e env x = pure x := by
  cases a with
  | sq a => rw [chI] at h; exact chE_set h
  | _ =>
    cases e with
    | Set v p q => simp only [chI] at h; cases h
    | _ => intro env x; rfl
theorem chL_star : ∀ {as : Xl} {es : List Expr}, chL C as es = true → es.all notStar = true
  | .nil, es, h => by
    rw [chL, List.isEmpty_iff] at h
    rw [h]; rfl
  | .cons a as, [], h => by rw [chL] at h; cases h
  | .cons a as, e :: es, h => by
    rw [chL] at h
    obtain ⟨h1, h2⟩ := and3 h
    rw [List.all_cons, chE_star h1, chL_star h2]; rfl
theorem Ev.glo (E : Ev X C Γ) {x : Str} (h : gloB C x = true) : Gl X x ∧ (x == ("__debug__" : Str)) = false := by
  obtain ⟨h1, h2⟩ := and3 h
  refine ⟨?_, of_decide_eq_true h2⟩
  show X.env.scope.names.lookup x = _
  rw [E.sc]
  exact of_decide_eq_true h1
theorem Ev.vis (E : Ev X C Γ) {i : Nat} {x : Str} {p : Pos} (h : visB C i x = true) : PE X (.Name x p) (tVar i) := by
  obtain ⟨h1, h⟩ := and3 h
  obtain ⟨h2, h⟩ := and3 h
  obtain ⟨h3, h4⟩ := and3 h
  refine pv i (by rw [E.N]; exact of_decide_eq_true h1) ?_ (of_decide_eq_true h3) (of_decide_eq_true h4)
  show X.env.scope.names.lookup x = _ ∨ X.env.scope.names.lookup x = _ ∨ X.env.scope.names.lookup x = _
  rw [E.sc]
  split at h2
  · rename_i e; exact .inl e
  · rename_i e; exact .inr (.inl e)
  · rename_i e; exact .inr (.inr e)
  · cases h2
structure SoE (a : Xe) : Prop where
  run : ∀ {X : Cx} {C : Ct} {Γ : List DSp} {H0 : Hp} {e : Expr}, Ev X C Γ → chE C a e = true → ∀ {xw : List S → XD} {δ : List S}, Xc X H0 xw →
  (∀ k, wpe Γ a δ (xw δ) (.e k) → Wu X H0 e δ k) ∧ ∀ y n, wpe Γ a δ (xw δ) (.t y n) → Wt X H0 e δ (tk y n)
structure SoL (as : Xl) : Prop where
  run : ∀ {X : Cx} {C : Ct} {Γ : List DSp} {H0 : Hp} {es : List Expr}, Ev X C Γ → chL C as es = true → ∀ {xw : List S → XD} {δ : List S}, Xc X H0 xw →
  (∀ k, wpl Γ as δ (xw δ) (.a k) → Wa X H0 es δ fun ds => ds.length = es.length ∧ k ds) ∧ (es ≠ [] → ∀ pos, (∀ k, wpl Γ as δ (xw δ) (.and (.e k)) → Wu X H0 (.BoolOp .And es pos) δ k) ∧ (∀ k, wpl Γ as δ (xw δ) (.or (.e k)) → Wu X H0 (.BoolOp .Or es pos) δ k) ∧
    (∀ y n, wpl Γ as δ (xw δ) (.and (.t y n)) → Ww X H0 (.BoolOp .And es pos) δ (tk y n)) ∧ (∀ y n, wpl Γ as δ (xw δ) (.or (.t y n)) → Ww X H0 (.BoolOp .Or es pos) δ (tk y n)))
structure SoI (a : Xi) : Prop where
  run : ∀ {X : Cx} {C : Ct} {Γ : List DSp} {H0 : Hp} {e : Expr}, Ev X C Γ → chI C a e = true → ∀ {xw : List S → XD} {δ : List S}, Xc X H0 xw →
  ∀ k, wpi Γ a δ (xw δ) k → Wi X H0 e δ k
theorem so_mk {P : Cn → Prop} (h : ∀ c, P c → Wu X H0 e δ c.fn) (he : ∀ whole, isTrue e X.env whole = (do let v ← whole; standAt e.pos; holding [v] (truthy v))) :
    (∀ k, P (.e k) → Wu X H0 e δ k) ∧ ∀ y n, P (.t y n) → Wt X H0 e δ (tk y n) := ⟨fun k q => h (.e k) q, fun y n q => wtD_tru (h (.t y n) q) he⟩
/-! what is gone through: a list or a tuple -/
def iSeq (K : PySem.W.Frag) (tl : TE) : TI := fun σ H R => tl σ H fun x H1 => ∃ a, x = .ref a ∧ (((∃ xs, SqL K H1 a xs) ∧ R (Itl K a) H1) ∨ ((∃ xs, SqT K H1 a xs) ∧ R (Itt K a) H1))
theorem pi_seq {tg l : Expr} {tl : TE} (hl : PE X l tl) : PI X tg l (iSeq X.K tl) := by
  refine ⟨fun pins s σ H R I h => ?_⟩
  refine thn (hl.run pins s σ H _ I h) fun v s1 ⟨x, H1, I1, r1, q1⟩ => ?_
  obtain ⟨a, e, q⟩ := q1
  subst e
  cases r1
  rcases q with ⟨⟨xs, hq⟩, q⟩ | ⟨⟨xs, hq⟩, q⟩
  · obtain ⟨its, rv, p, hz⟩ := I1.list hq
    refine wpAny_pyIter_list p.isList ?_
    refine ⟨s1.heap.objs.size, [s1.heap.objs.size], _, _, H1, rfl, I1.kept (t' := s1.toks) fun b o e => Heap.get?_push_of_some _ e, turn_list a _, ⟨_, Heap.get?_push_size _ rfl, rfl, rfl⟩, fun b hb => ?_, q⟩
    have e : b = s1.heap.objs.size := by simpa using hb
    subst e
    exact I1.fpOk (Nat.le_refl _) (I1.hok.fresh (Nat.le_refl _))
  · obtain ⟨its, rv, p, hz⟩ := I1.tuple hq
    refine wpAny_pyIter_tuple (show s1.heap.IsTuple a its.toArray from p) ?_
    refine ⟨s1.heap.objs.size, [s1.heap.objs.size], _, _, H1, rfl, I1.kept (t' := s1.toks) fun b o e => Heap.get?_push_of_some _ e, turn_tuple a _, ⟨_, Heap.get?_push_size _ rfl, rfl, rfl⟩, fun b hb => ?_, q⟩
    have e : b = s1.heap.objs.size := by simpa using hb
    subst e
    exact I1.fpOk (Nat.le_refl _) (I1.hok.fresh (Nat.le_refl _))
theorem scr_is {K : PySem.W.Frag} {G : Hp} (ns : List Int) : IsL K G (ns.map V.int) (ns.map D.int) := IsL.ints ns
theorem wi_seq {it : Expr} {k : Nat → (Nat → D) → Prop} (h : We X H0 it δ (fun d => seqD d k)) : Wi X H0 it δ k := by
  refine ⟨_, fun tg => pi_seq pe_sem, fun σ H ps R R' hp hw m => ?_, fun σ G R0 => (h σ G R0).mono fun y G1 ⟨e1, d, iv, q⟩ => ?_⟩
  · refine (semE.frame hp hw).mono fun v H' ⟨G, e, n, a, ea, q⟩ => ⟨a, ea, ?_⟩
    rcases q with ⟨⟨xs, hq⟩, q⟩ | ⟨⟨xs, hq⟩, q⟩
    · exact .inl ⟨⟨xs, by rw [e]; exact Ex.sqL (mrg_exG n) hq⟩, by rw [e]; exact m _ G n q⟩
    · exact .inr ⟨⟨xs, by rw [e]; exact Ex.sqT (mrg_exG n) hq⟩, by rw [e]; exact m _ G n q⟩
  · cases d with
    | sq l ds =>
      cases l with
      | true =>
        obtain ⟨a, xs, rfl, hq, il⟩ := iv.lst_inv
        exact ⟨a, rfl, .inl ⟨⟨xs, .inl hq⟩, e1, _, _, q, jl (.inl hq) il⟩⟩
      | false =>
        obtain ⟨a, xs, rfl, hq, il⟩ := iv.tup_inv
        exact ⟨a, rfl, .inr ⟨⟨xs, hq⟩, e1, _, _, q, jt hq il⟩⟩
    | scr ns =>
      obtain ⟨a, rfl, hq⟩ := iv.scr_inv
      refine ⟨a, rfl, .inl ⟨⟨_, hq⟩, e1, _, _, q, ?_⟩⟩
      have g := jl (K := X.K) (ds := ns.map D.int) hq (IsL.ints ns)
      intro i H eH
      obtain ⟨g1, g2⟩ := g i H eH
      rw [List.length_map] at g1 g2
      refine ⟨fun hi => ⟨(g1 hi).1, fun x H' y => ?_⟩, g2⟩
      obtain ⟨z1, z2⟩ := (g1 hi).2 x H' y
      refine ⟨z1, ?_⟩
      have e2 : (ns.map D.int).getD i .non = .int (ns.getD i 0) := by
        rw [List.getD_eq_getElem?_getD, List.getD_eq_getElem?_getD, List.getElem?_map, List.getElem?_eq_getElem hi]; rfl
      rw [e2] at z2
      exact z2
    | _ => exact q.elim
/-! built-in functions -/
theorem wu_bi (E : Ev X C Γ) {f : Bf} {x : Str} {es : List Expr} {pos p : Pos} {k : S → Prop} (hx : x = bfName f) (hg : gloB C x = true) (hm : (C.math || !bfMath f) = true) (hn : es.length = bfAr f) (hs : es.all notStar = true)
    (h : Wa X H0 es δ (fun ds => bfD f ds k)) : Wu X H0 (.Call (.Name x p) es [] pos) δ k := by
  subst hx
  have g := (E.glo hg).1
  cases f with
  | len =>
    obtain ⟨e, rfl⟩ := List.length_eq_one_iff.mp hn
    have s1 : notStar e = true := by simpa using hs
    refine wu_we (we_callB (r := fun vs H Q => ∃ a xs, vs = [V.ref a] ∧ (SqL X.K H a xs ∨ SqT X.K H a xs) ∧ Q (.int xs.length) H) (fun pins s σ H vs us Q I r q => ?_) boot_len (by decide) (by decide) (fun G vs ds is hk Q q => ?_) E.bi.len h g s1 rfl)
    · obtain ⟨a, xs, e1, e2, e3⟩ := q
      exact call_len_seq pins s σ H vs us Q I r ⟨a, xs, e1, e2, e3⟩
    · unfold bfD at hk
      split at hk
      any_goals (first | exact hk.elim | contradiction)
      · obtain ⟨v, rfl, i⟩ := is.one
        rename_i l xs _
        cases l with
        | true =>
          obtain ⟨a, ys, rfl, hq, hl⟩ := i.lst_inv
          exact ⟨a, ys, rfl, .inl (.inl hq), q _ G _ (Same.refl _) (by rw [hl.1]; exact .int _) hk⟩
        | false =>
          obtain ⟨a, ys, rfl, hq, hl⟩ := i.tup_inv
          exact ⟨a, ys, rfl, .inr hq, q _ G _ (Same.refl _) (by rw [hl.1]; exact .int _) hk⟩
      · obtain ⟨v, rfl, i⟩ := is.one
        obtain ⟨a, rfl, hq⟩ := i.scr_inv
        exact ⟨a, _, rfl, .inl hq, q _ G _ (Same.refl _) (by rw [List.length_map]; exact .int _) hk⟩
  | int =>
    obtain ⟨e, rfl⟩ := List.length_eq_one_iff.mp hn
    have s1 : notStar e = true := by simpa using hs
    refine wu_we (we_cint E.bi.int (fun σ G R => (h σ G R).mono fun vs G' ⟨a, ds, is, hk⟩ => ⟨a, ds, is, ?_⟩) g s1)
    have hk : bfD .int ds k := hk
    unfold bfD at hk
    split at hk
    any_goals (first | exact hk.elim | contradiction)
    · exact a1 (ci hk)
    · exact a1 (cb hk)
  | abs =>
    obtain ⟨e, rfl⟩ := List.length_eq_one_iff.mp hn
    have s1 : notStar e = true := by simpa using hs
    refine wu_we (we_abs E.bi.abs (fun σ G R => (h σ G R).mono fun vs G' ⟨a, ds, is, hk⟩ => ⟨a, ds, is, ?_⟩) g s1)
    have hk : bfD .abs ds k := hk
    unfold bfD at hk
    split at hk
    any_goals (first | exact hk.elim | contradiction)
    exact a1 (i1 hk)
  | tuple =>
    obtain ⟨e, rfl⟩ := List.length_eq_one_iff.mp hn
    have s1 : notStar e = true := by simpa using hs
    refine wu_we (we_tuple E.bi.tuple (fun σ G R => (h σ G R).mono fun vs G' ⟨a, ds, is, hk⟩ => ⟨a, ds, is, ?_⟩) g s1)
    have hk : bfD .tuple ds k := hk
    unfold bfD at hk
    split at hk
    any_goals (first | exact hk.elim | contradiction)
    exact a1 (sqk hk)
  | list =>
    obtain ⟨e, rfl⟩ := List.length_eq_one_iff.mp hn
    have s1 : notStar e = true := by simpa using hs
    refine wu_wo (wo_list E.bi.list (fun σ G R => (h σ G R).mono fun vs G' ⟨a, ds, is, hk⟩ => ⟨a, ds, is, ?_⟩) g s1)
    have hk : bfD .list ds k := hk
    unfold bfD at hk
    split at hk
    any_goals (first | exact hk.elim | contradiction)
    exact a1 (sqk hk)
  | sum =>
    obtain ⟨e, rfl⟩ := List.length_eq_one_iff.mp hn
    have s1 : notStar e = true := by simpa using hs
    refine wu_we (we_sum E.bi.sum (fun σ G R => (h σ G R).mono fun vs G' ⟨a, ds, is, hk⟩ => ⟨a, ds, is, ?_⟩) E.calm g s1)
    have hk : bfD .sum ds k := hk
    unfold bfD at hk
    split at hk
    any_goals (first | exact hk.elim | contradiction)
    obtain ⟨ns, e, q⟩ := hk
    exact a1 (ilE e q)
  | max =>
    match es, hn with
    | [e, e2], _ =>
      have s1 : notStar e = true ∧ notStar e2 = true := by simpa using hs
      refine wu_we (we_max2 E.bi.max (fun σ G R => (h σ G R).mono fun vs G' ⟨a, ds, is, hk⟩ => ⟨a, ds, is, ?_⟩) E.calm g s1.1 s1.2)
      have hk : bfD .max ds k := hk
      unfold bfD at hk
      split at hk
      any_goals (first | exact hk.elim | contradiction)
      exact a2 (i2 hk)
  | min =>
    match es, hn with
    | [e, e2], _ =>
      have s1 : notStar e = true ∧ notStar e2 = true := by simpa using hs
      refine wu_we (we_min2 E.bi.min (fun σ G R => (h σ G R).mono fun vs G' ⟨a, ds, is, hk⟩ => ⟨a, ds, is, ?_⟩) E.calm g s1.1 s1.2)
      have hk : bfD .min ds k := hk
      unfold bfD at hk
      split at hk
      any_goals (first | exact hk.elim | contradiction)
      exact a2 (i2 hk)
  | gcd =>
    have m := E.math (by simpa [bfMath] using hm)
    match es, hn with
    | [e, e2], _ =>
      have s1 : notStar e = true ∧ notStar e2 = true := by simpa using hs
      refine wu_we (we_gcd m.1 (fun σ G R => (h σ G R).mono fun vs G' ⟨a, ds, is, hk⟩ => ⟨a, ds, is, ?_⟩) g s1.1 s1.2)
      have hk : bfD .gcd ds k := hk
      unfold bfD at hk
      split at hk
      any_goals (first | exact hk.elim | contradiction)
      exact a2 (i2 hk)
  | lcm =>
    have m := E.math (by simpa [bfMath] using hm)
    match es, hn with
    | [e, e2], _ =>
      have s1 : notStar e = true ∧ notStar e2 = true := by simpa using hs
      refine wu_we (we_lcm m.2 (fun σ G R => (h σ G R).mono fun vs G' ⟨a, ds, is, hk⟩ => ⟨a, ds, is, ?_⟩) g s1.1 s1.2)
      have hk : bfD .lcm ds k := hk
      unfold bfD at hk
      split at hk
      any_goals (first | exact hk.elim | contradiction)
      exact a2 (i2 hk)
def tyStr : Ty → String
  | .int => "int" | .bool => "bool" | .str => "str" | .list => "list" | .tuple => "tuple"
theorem isiD_II {d : D} {t : Ty} {b : Bool} {k : Bool → Prop} (h : isiD d t = some b) (q : k b) : II d (tyStr t) k := by
  cases d with
  | sq l ds => cases l <;> cases t <;> cases h <;> exact ⟨_, _, rfl, by decide +kernel, q⟩
  | int i => cases t <;> cases h <;> exact ⟨_, _, rfl, by decide +kernel, q⟩
  | bl i => cases t <;> cases h <;> exact ⟨_, _, rfl, by decide +kernel, q⟩
  | str i => cases t <;> cases h <;> exact ⟨_, _, rfl, by decide +kernel, q⟩
  | non => cases t <;> cases h <;> exact ⟨_, _, rfl, by decide +kernel, q⟩
  | _ => cases t <;> cases h
theorem we_isiD (E : Ev X C Γ) {t : Ty} {e : Expr} {x y : Str} {pos p p2 : Pos} {k : D → Prop} (hx : x = "isinstance") (hy : y = tyName t) (hg : gloB C x = true) (hgy : gloB C y = true) (hs : notStar e = true) (h : We X H0 e δ (fun d => ∃ b, isiD d t = some b ∧ k (.bl b))) :
    We X H0 (.Call (.Name x p) [e, .Name y p2] [] pos) δ k := by
  subst hx hy
  have g := (E.glo hg).1
  have g2 := (E.glo hgy).1
  cases t with
  | int => exact we_isi E.bi.isinstance (isi_arg (T := "int") E.bi.int (by decide +kernel) g2 (by decide) (by decide)) (h.mono fun d ⟨b, h1, h2⟩ => isiD_II (k := fun b => k (.bl b)) h1 h2) g hs
  | bool => exact we_isi E.bi.isinstance (isi_arg (T := "bool") E.bi.bool (by decide +kernel) g2 (by decide) (by decide)) (h.mono fun d ⟨b, h1, h2⟩ => isiD_II (k := fun b => k (.bl b)) h1 h2) g hs
  | str => exact we_isi E.bi.isinstance (isi_arg (T := "str") E.bi.str (by decide +kernel) g2 (by decide) (by decide)) (h.mono fun d ⟨b, h1, h2⟩ => isiD_II (k := fun b => k (.bl b)) h1 h2) g hs
  | list => exact we_isi E.bi.isinstance (isi_arg (T := "list") E.bi.list (by decide +kernel) g2 (by decide) (by decide)) (h.mono fun d ⟨b, h1, h2⟩ => isiD_II (k := fun b => k (.bl b)) h1 h2) g hs
  | tuple => exact we_isi E.bi.isinstance (isi_arg (T := "tuple") E.bi.tuple (by decide +kernel) g2 (by decide) (by decide)) (h.mono fun d ⟨b, h1, h2⟩ => isiD_II (k := fun b => k (.bl b)) h1 h2) g hs
end
end DL
set_option Elab.async false
set_option linter.all false
set_option maxRecDepth 100000
set_option maxHeartbeats 4000000
/-! The deep machine, part d: expressions are sound. -/
namespace DL
open PySem PySem.Spec PyProof.Rows L2
section
variable {X : Cx} {C : Ct} {Γ : List DSp} {H0 : Hp} {δ : List S} {e : Expr}
theorem po_mono {o : Option Expr} {k k' : Option Int → Prop} (h : Po X H0 o δ k) (m : ∀ u, k u → k' u) : Po X H0 o δ k' := fun σ G R => tlO_mono (h σ G R) fun u H' ⟨e, q⟩ => ⟨e, m u q⟩
theorem wi_mono2 {it : Expr} {k k' : Nat → (Nat → D) → Prop} (h : Wi X H0 it δ k) (m : ∀ n item, k n item → k' n item) : Wi X H0 it δ k' := Wi.mono h m
theorem wa_mono {es : List Expr} {k k' : List D → Prop} (h : Wa X H0 es δ k) (m : ∀ ds, k ds → k' ds) : Wa X H0 es δ k' := fun σ G R => (h σ G R).mono fun vs G' ⟨a, ds, is, q⟩ => ⟨a, ds, is, m ds q⟩
theorem wu_call (E : Ev X C Γ) {xw : List S → XD} {i : Nat} {x : Str} {es : List Expr} {pos p : Pos} {k : S → Prop} {T : DSp} (hx : Xc X H0 xw) (hf : C.fs[i]? = some x) (hg : gloB C x = true) (hT : Γ[i]? = some T) (hn : es ≠ []) (hs : es.all notStar = true)
    (h : Wa X H0 es δ (fun ds => T ds k (xw δ))) : Wu X H0 (.Call (.Name x p) es [] pos) δ k := by
  obtain ⟨g, hdb⟩ := E.glo hg
  exact kn_call (E.fns i x T hf hT) hx g hdb hn hs h
theorem tgtD_inv {is : List Nat} {d : D} {δ : List S} {k : List S → Prop} (h : tgtD is d δ k) : ∃ l ds, d = .sq l ds ∧ ds.length = is.length ∧ k (setL is ds δ) := by
  unfold tgtD at h
  split at h
  · exact ⟨_, _, rfl, h.1, h.2⟩
  · exact h.elim
theorem wu_bin {o : Bop} {op : Operator} {a b : Expr} {pos : Pos} {k : S → Prop} (h1 : bopB o op = true) (w : We X H0 a δ (fun x => We X H0 b δ (fun y => binD o x y k))) : Wu X H0 (.BinOp a op b pos) δ k := by
  unfold bopB at h1
  split at h1
  · exact wu_add w
  · exact wu_sub w
  · exact wu_mul w
  · exact wu_div w
  · exact wu_mod w
  · exact wu_pow w
  · cases h1
theorem wl_ne {a : Xe} {as : Xl} {es : List Expr} (h : chL C (.cons a as) es = true) : ∃ e r, es = e :: r ∧ chE C a e = true ∧ chL C as r = true := by
  cases es with
  | nil => rw [chL] at h; cases h
  | cons e r =>
    rw [chL] at h
    obtain ⟨h1, h2⟩ := and3 h
    exact ⟨e, r, rfl, h1, h2⟩
end
mutual
theorem so_e : ∀ a : Xe, SoE a
  | .var i => .mk <| by
    intro X C Γ H0 e E h xw δ hx
    cases e with
    | Name x p =>
      rw [chE] at h
      refine so_mk (fun c q => ?_) (fun _ => rfl)
      have q : varD δ[i]? c.fn := q
      cases hd : δ[i]? with
      | none => rw [hd] at q; exact q.elim
      | some s =>
        rw [hd] at q
        cases s with
        | sh d => exact wu_we (we_var i hd q (E.vis h))
        | _ => exact q.elim
    | _ => rw [chE] at h <;> first | cases h | (intro _ _ z; cases z)
  | .int i => .mk <| by
    intro X C Γ H0 e E h xw δ hx
    unfold chE at h
    split at h
    · obtain rfl := of_decide_eq_true h
      exact so_mk (fun c q => wu_we (we_int q)) (fun _ => rfl)
    · cases h
  | .bl i => .mk <| by
    intro X C Γ H0 e E h xw δ hx
    unfold chE at h
    split at h
    · obtain rfl := of_decide_eq_true h
      exact so_mk (fun c q => wu_we (we_bl q)) (fun _ => rfl)
    · cases h
  | .non => .mk <| by
    intro X C Γ H0 e E h xw δ hx
    unfold chE at h
    split at h
    · exact so_mk (fun c q => wu_we (we_non q)) (fun _ => rfl)
    · cases h
  | .str i => .mk <| by
    intro X C Γ H0 e E h xw δ hx
    unfold chE at h
    split at h
    · obtain rfl := of_decide_eq_true h
      exact so_mk (fun c q => wu_we (we_str q)) (fun _ => rfl)
    · cases h
  | .bin o a b => .mk <| by
    intro X C Γ H0 e E h xw δ hx
    unfold chE at h
    split at h
    · obtain ⟨h1, h⟩ := and3 h
      obtain ⟨h2, h3⟩ := and3 h
      have A := ((so_e a).run E h2 hx (xw := xw) (δ := δ)).1
      have B := ((so_e b).run E h3 hx (xw := xw) (δ := δ)).1
      refine so_mk (fun c q => ?_) (fun _ => rfl)
      have w := we_wu (k := fun x => We _ H0 _ δ fun y => binD o x y c.fn) ((A _ q).mono fun r q => we_wu (k := fun y => binD o r.d y c.fn) (B _ q))
      exact wu_bin h1 w
    · cases h
  | .rep a b => .mk <| by
    intro X C Γ H0 e E h xw δ hx
    unfold chE at h
    split at h
    · obtain ⟨h2, h3⟩ := and3 h
      have A := ((so_e a).run E h2 hx (xw := xw) (δ := δ)).1
      have B := ((so_e b).run E h3 hx (xw := xw) (δ := δ)).1
      exact so_mk (fun c q => wu_rep ((A _ q).mono fun r q => we_wu (k := fun y => repD r y c.fn) (B _ q))) (fun _ => rfl)
    · cases h
  | .neg a => .mk <| by
    intro X C Γ H0 e E h xw δ hx
    unfold chE at h
    split at h
    · have A := ((so_e a).run E h hx (xw := xw) (δ := δ)).1
      exact so_mk (fun c q => wu_neg (we_wu (k := fun x => negD x c.fn) (A _ q))) (fun _ => rfl)
    · cases h
  | .not a => .mk <| by
    intro X C Γ H0 e E h xw δ hx
    unfold chE at h
    split at h
    · have A := (so_e a).run E h hx (xw := xw) (δ := δ)
      exact ⟨fun k q => wu_not (we_wu (k := fun x => notD x k) (A.1 _ q)), fun y n q => wt_not ((A.2 _ _ q).mono fun b z => ⟨fun e => z.2 (by simpa using e), fun e => z.1 (by simpa using e)⟩)⟩
    · cases h
  | .cmp o a b => .mk <| by
    intro X C Γ H0 e E h xw δ hx
    unfold chE at h
    split at h
    · obtain ⟨h1, h⟩ := and3 h
      obtain ⟨h2, h3⟩ := and3 h
      have A := ((so_e a).run E h2 hx (xw := xw) (δ := δ)).1
      have B := ((so_e b).run E h3 hx (xw := xw) (δ := δ)).1
      refine ⟨fun k q => ?_, fun y n q => ?_⟩
      · exact wu_cmp E.units h1 (chE_mark h3) (we_wu (k := fun x => We _ H0 _ δ fun y => cmpB o x y fun r => k (.sh (.bl r))) ((A _ q).mono fun r q => we_wu (k := fun y => cmpB o r.d y fun r => k (.sh (.bl r))) (B _ q)))
      · exact wtD_cmp E.units h1 (chE_mark h3) (we_wu (k := fun x => We _ H0 _ δ fun z => cmpB o x z (tk y n)) ((A _ q).mono fun r q => we_wu (k := fun z => cmpB o r.d z (tk y n)) ((B _ q).mono fun r' q' => cmpT_B q')))
    · cases h
  | .and as => .mk <| by
    intro X C Γ H0 e E h xw δ hx
    unfold chE at h
    split at h
    · obtain ⟨h1, h2⟩ := and3 h
      have A := ((so_l as).run E h2 hx (xw := xw) (δ := δ)).2 (by intro z; rw [z] at h1; cases h1)
      exact ⟨(A _).1, fun y n q => wt_w ((A _).2.2.1 y n q)⟩
    · cases h
  | .or as => .mk <| by
    intro X C Γ H0 e E h xw δ hx
    unfold chE at h
    split at h
    · obtain ⟨h1, h2⟩ := and3 h
      have A := ((so_l as).run E h2 hx (xw := xw) (δ := δ)).2 (by intro z; rw [z] at h1; cases h1)
      exact ⟨(A _).2.1, fun y n q => wt_w ((A _).2.2.2 y n q)⟩
    · cases h
  | .ite c a b => .mk <| by
    intro X C Γ H0 e E h xw δ hx
    unfold chE at h
    split at h
    · obtain ⟨h1, h⟩ := and3 h
      obtain ⟨h2, h3⟩ := and3 h
      have T := ((so_e c).run E h1 hx (xw := xw) (δ := δ)).2
      have A := ((so_e a).run E h2 hx (xw := xw) (δ := δ)).1
      have B := ((so_e b).run E h3 hx (xw := xw) (δ := δ)).1
      exact ⟨fun k q => wu_if (T _ _ q) (A k) (B k), fun y n q => q.elim⟩
    · cases h
  | .itu c a b => .mk <| by
    intro X C Γ H0 e E h xw δ hx
    unfold chE at h
    split at h
    · obtain ⟨h1, h⟩ := and3 h
      obtain ⟨h2, h3⟩ := and3 h
      have T := ((so_e c).run E h1 hx (xw := xw) (δ := δ)).2
      have A := ((so_e a).run E h2 hx (xw := xw) (δ := δ)).1
      have B := ((so_e b).run E h3 hx (xw := xw) (δ := δ)).1
      refine ⟨fun k q => ?_, fun y n q => q.elim⟩
      obtain ⟨M, q1, q2⟩ := UpW.ex q
      exact (wu_if (T _ _ q1) (A M) (B M)).mono q2
    · cases h
  | .ix a b => .mk <| by
    intro X C Γ H0 e E h xw δ hx
    unfold chE at h
    split at h
    · obtain ⟨h2, h3⟩ := and3 h
      have A := ((so_e a).run E h2 hx (xw := xw) (δ := δ)).1
      have B := ((so_e b).run E h3 hx (xw := xw) (δ := δ)).1
      exact so_mk (fun c q => wu_we (wu_ix (we_wu (k := fun x => We _ H0 _ δ fun y => ixD x y fun d => c.fn (.sh d)) ((A _ q).mono fun r q => we_wu (k := fun y => ixD r.d y fun d => c.fn (.sh d)) (B _ q))) (chE_ix h3))) (fun _ => rfl)
    · cases h
  | .ixn a n => .mk <| by
    intro X C Γ H0 e E h xw δ hx
    unfold chE at h
    split at h
    · obtain ⟨h2, h3⟩ := and3 h
      have A := ((so_e a).run E h2 hx (xw := xw) (δ := δ)).1
      have e3 := of_decide_eq_true h3
      subst e3
      refine so_mk (fun c q => wu_we (we_ix (we_wu (k := fun x => We _ H0 _ δ fun y => Ix x y fun d => c.fn (.sh d)) ((A _ q).mono fun r q => we_int ?_)) (fun _ _ => rfl))) (fun _ => rfl)
      cases hd : r.d with
      | sq l ds =>
        rw [hd] at q
        have q : (match ds[n]? with | some d => c.fn (.sh d) | none => False) := q
        cases hn : ds[n]? with
        | none => rw [hn] at q; exact q.elim
        | some d => rw [hn] at q; exact ixn n hn q
      | _ => rw [hd] at q; exact q.elim
    · cases h
  | .fld a f => .mk <| by
    intro X C Γ H0 e E h xw δ hx
    unfold chE at h
    split at h
    · obtain ⟨h1, h⟩ := and3 h
      obtain ⟨h2, h3⟩ := and3 h
      obtain rfl := of_decide_eq_true h1
      have A := ((so_e a).run E h3 hx (xw := xw) (δ := δ)).1
      exact so_mk (fun c q => wu_fld (we_wu (k := fun x => fldD x _ fun d => c.fn (.sh d)) (A _ q)) h2) (fun _ => rfl)
    · cases h
  | .slc a lo hi => .mk <| by
    intro X C Γ H0 e E h xw δ hx
    unfold chE at h
    split at h
    · rename_i l p q p2 pos
      obtain ⟨h1, h⟩ := and3 h
      obtain ⟨h2, h3⟩ := and3 h
      have A := ((so_e a).run E h1 hx (xw := xw) (δ := δ)).1
      have P : ∀ (x : Xe) (o : Option Expr), SoE x → (match o with | none => isNonX x | some p => !isNonX x && chE C x p) = true → (isNonX x = true ∧ o = none) ∨ (isNonX x = false ∧ ∀ k : Option Int → Prop, wpe Γ x δ (xw δ) (.e fun p => optI p.d k) → Po X H0 o δ k) := fun x o so ho => by
        cases o with
        | none => exact .inl ⟨ho, rfl⟩
        | some p =>
          obtain ⟨g1, g2⟩ := and3 ho
          refine .inr ⟨by simpa using g1, fun k z => po_e ((we_wu (k := fun d => optI d k) ((so.run E g2 hx (xw := xw) (δ := δ)).1 _ z)).mono fun d z => ?_)⟩
          cases d with
          | int i => exact ⟨i, rfl, z⟩
          | _ => exact z.elim
      refine so_mk (fun c0 z => wu_slc (we_wu (k := fun x => Po X H0 p δ fun l => Po X H0 q δ fun u => slcD x l u c0.fn) ((A _ z).mono fun r z => ?_))) (fun _ => rfl)
      rcases P lo p (so_e lo) h2 with ⟨e1, rfl⟩ | ⟨e1, q1⟩
      · rcases P hi q (so_e hi) h3 with ⟨e2, rfl⟩ | ⟨e2, q2⟩
        · rw [e1, e2] at z; exact po_no (po_no z)
        · rw [e1, e2] at z; exact po_no (q2 _ z)
      · rcases P hi q (so_e hi) h3 with ⟨e2, rfl⟩ | ⟨e2, q2⟩
        · rw [e1, e2] at z
          exact po_mono (q1 (fun l => slcD r.d l none c0.fn) z) fun l y => po_no y
        · rw [e1, e2] at z
          exact po_mono (q1 (fun l => wpe Γ hi δ (xw δ) (.e fun q => optI q.d fun u => slcD r.d l u c0.fn)) z) fun l y => q2 _ y
    · cases h
  | .tup as => .mk <| by
    intro X C Γ H0 e E h xw δ hx
    unfold chE at h
    split at h
    · obtain ⟨h1, h⟩ := and3 h
      have A := ((so_l as).run E h hx (xw := xw) (δ := δ)).1
      exact so_mk (fun c q => wu_we (we_tup (wa_mono (A _ q) fun ds ⟨a, b⟩ => ⟨by rw [a]; exact Nat.le_of_ble_eq_true h1, b⟩))) (fun _ => rfl)
    · cases h
  | .lst as => .mk <| by
    intro X C Γ H0 e E h xw δ hx
    unfold chE at h
    split at h
    · obtain ⟨h1, h⟩ := and3 h
      have A := ((so_l as).run E h hx (xw := xw) (δ := δ)).1
      exact so_mk (fun c q => wu_wo (wo_lst (wa_mono (A _ q) fun ds ⟨a, b⟩ => ⟨by rw [a]; exact Nat.le_of_ble_eq_true h1, b⟩))) (fun _ => rfl)
    · cases h
  | .call i as => .mk <| by
    intro X C Γ H0 e E h xw δ hx
    unfold chE at h
    split at h
    · obtain ⟨h1, h⟩ := and3 h
      obtain ⟨h2, h⟩ := and3 h
      obtain ⟨h3, h4⟩ := and3 h
      have A := ((so_l as).run E h4 hx (xw := xw) (δ := δ)).1
      refine so_mk (fun c q => ?_) (fun _ => rfl)
      obtain ⟨T, hT⟩ := E.cov i _ (of_decide_eq_true h1)
      exact wu_call E hx (of_decide_eq_true h1) h2 hT (by intro z; rw [z] at h3; cases h3) (chL_star h4) (wa_mono (A (fun ds => callD Γ[i]? ds c.fn (xw δ)) q) fun _ z => by
        have z := z.2
        rw [hT] at z
        exact z.ex)
    · cases h
  | .bi f as => .mk <| by
    intro X C Γ H0 e E h xw δ hx
    unfold chE at h
    split at h
    · obtain ⟨h1, h⟩ := and3 h
      obtain ⟨h2, h⟩ := and3 h
      obtain ⟨h3, h⟩ := and3 h
      obtain ⟨h4, h5⟩ := and3 h
      have A := ((so_l as).run E h5 hx (xw := xw) (δ := δ)).1
      exact so_mk (fun c q => wu_bi E (of_decide_eq_true h1) h2 h3 (of_decide_eq_true h4) (chL_star h5) (wa_mono (A _ q) fun _ z => z.2)) (fun _ => rfl)
    · cases h
  | .isi a t => .mk <| by
    intro X C Γ H0 e E h xw δ hx
    unfold chE at h
    split at h
    · obtain ⟨h1, h⟩ := and3 h
      obtain ⟨h2, h⟩ := and3 h
      obtain ⟨h3, h⟩ := and3 h
      obtain ⟨h4, h5⟩ := and3 h
      have A := ((so_e a).run E h5 hx (xw := xw) (δ := δ)).1
      refine ⟨fun k q => ?_, fun y n q => ?_⟩
      · refine wu_we (we_isiD E (of_decide_eq_true h1) (of_decide_eq_true h2) h3 h4 (chE_star h5) ((we_wu (k := fun d => isiT (isiD d t) (.e k)) (A _ q)).mono fun d z => ?_))
        cases hd : isiD d t with
        | none => rw [hd] at z; exact z.elim
        | some b => rw [hd] at z; exact ⟨b, rfl, z⟩
      · refine wt_val (we_isiD E (of_decide_eq_true h1) (of_decide_eq_true h2) h3 h4 (chE_star h5) ((we_wu (k := fun d => isiT (isiD d t) (.t y n)) (A _ q)).mono fun d z => ?_)) (fun _ => rfl)
        cases hd : isiD d t with
        | none => rw [hd] at z; exact z.elim
        | some b =>
          rw [hd] at z
          cases b with
          | true => exact ⟨true, rfl, b1 ⟨fun _ => z, fun e => nomatch e⟩⟩
          | false => exact ⟨false, rfl, b1 ⟨fun e => (nomatch e), fun _ => z⟩⟩
    · cases h
  | .lc v elt it => .mk <| by
    intro X C Γ H0 e E h xw δ hx
    unfold chE at h
    split at h
    · obtain ⟨h1, h⟩ := and3 h
      obtain ⟨h2, h⟩ := and3 h
      obtain ⟨h3, h⟩ := and3 h
      obtain ⟨h4, h5⟩ := and3 h
      refine so_mk (fun c q => wu_wo (wo_lc v (by rw [E.N]; exact E.nd) (((so_i it).run E h4 hx (xw := xw) (δ := δ) _ q).mono fun n item z => ?_) E.calm (by rw [E.N, E.sc]; exact h1) (by rw [E.N]; exact of_decide_eq_true h2) (fun cl C' => by
        show (relS _ _).names.lookup _ = _
        rw [E.sc]
        exact of_decide_eq_true h3) (chI_set h4 _))) (fun _ => rfl)
      obtain ⟨R, a, b, c⟩ := z
      exact ⟨R, a, fun i hi s hh C' cl fp => we_wu (k := R i) (((so_e elt).run (E.blk) h5 (xw := fun _ => noX) (δ := δ.set v (.sh (item i))) xc0).1 _ (b i hi)), c⟩
    · cases h
  | .lcf v elt it c => .mk <| by
    intro X C Γ H0 e E h xw δ hx
    unfold chE at h
    split at h
    · obtain ⟨h1, h⟩ := and3 h
      obtain ⟨h2, h⟩ := and3 h
      obtain ⟨h3, h⟩ := and3 h
      obtain ⟨h4, h⟩ := and3 h
      obtain ⟨h5, h6⟩ := and3 h
      refine so_mk (fun c0 q => wu_wo (wo_lcf v (by rw [E.N]; exact E.nd) (((so_i it).run E h4 hx (xw := xw) (δ := δ) _ q).mono fun n item z => ?_) E.calm (by rw [E.N, E.sc]; exact h1) (by rw [E.N]; exact of_decide_eq_true h2) (fun cl C' => by
        show (relS _ _).names.lookup _ = _
        rw [E.sc]
        exact of_decide_eq_true h3) (chI_set h4 _))) (fun _ => rfl)
      obtain ⟨t, g, a, b, c'⟩ := z
      refine ⟨t, g, a, fun i hi s hh C' cl fp => (((so_e c).run (E.blk) h6 (xw := fun _ => noX) (δ := δ.set v (.sh (item i))) xc0).2 _ _ (b i hi)).mono fun r z => ?_, c'⟩
      have zz : r = t (item i) ∧ (r = true → wpe Γ elt (δ.set v (.sh (item i))) noX (.e fun r => r.d = g (item i))) := by
        cases r with
        | true => exact z.1 rfl
        | false => exact z.2 rfl
      exact ⟨zz.1, fun hr s2 hh2 C2 cl2 fp2 => we_wu (k := fun e => e = g (item i)) (((so_e elt).run (E.blk) h5 (xw := fun _ => noX) (δ := δ.set v (.sh (item i))) xc0).1 _ (zz.2 hr))⟩
    · cases h
  | .lct is elt it => .mk <| by
    intro X C Γ H0 e E h xw δ hx
    unfold chE at h
    split at h
    · obtain ⟨h1, h⟩ := and3 h
      obtain ⟨h2, h⟩ := and3 h
      obtain ⟨h3, h⟩ := and3 h
      obtain ⟨h4, h5⟩ := and3 h
      refine so_mk (fun c q => wu_wo (wo_lct (is := is) (by rw [E.N]; exact E.nd) (((so_i it).run E h4 hx (xw := xw) (δ := δ) _ q).mono fun n item z => ?_) E.calm (by rw [E.N, E.sc]; exact h1) (of_decide_eq_true h2) (by rw [E.N, E.sc]; exact h3) (chI_set h4 _))) (fun _ => rfl)
      obtain ⟨R, a, b, c⟩ := z
      refine ⟨R, a, fun i hi => ?_, c⟩
      obtain ⟨l0, ds, e1, e2, q2⟩ := tgtD_inv (b i hi)
      exact ⟨l0, ds, e1, e2, fun s hh C' cl fp => we_wu (k := R i) (((so_e elt).run (E.blk) h5 (xw := fun _ => noX) (δ := setL is ds δ) xc0).1 _ q2)⟩
    · cases h
theorem so_l : ∀ as : Xl, SoL as
  | .nil => .mk <| by
    intro X C Γ H0 es E h xw δ hx
    rw [chL, List.isEmpty_iff] at h
    subst h
    exact ⟨fun k q => wa_nil ⟨rfl, q⟩, fun z => absurd rfl z⟩
  | .cons a as => .mk <| by
    intro X C Γ H0 es E h xw δ hx
    obtain ⟨e, r, rfl, h1, h2⟩ := wl_ne h
    have A := (so_e a).run E h1 hx (xw := xw) (δ := δ)
    have B := (so_l as).run E h2 hx (xw := xw) (δ := δ)
    refine ⟨fun k q => wa_cons (we_wu (k := fun d => Wa _ H0 r δ fun ds => (d :: ds).length = (e :: r).length ∧ k (d :: ds)) ((A.1 _ q).mono fun x q => wa_mono (B.1 _ q) fun ds z => ⟨by rw [List.length_cons, List.length_cons, z.1], z.2⟩)) (chE_star h1), fun _ pos => ?_⟩
    cases as with
    | nil =>
      rw [chL, List.isEmpty_iff] at h2
      subst h2
      exact ⟨fun k q => wu_one (A.1 k q), fun k q => wu_one (A.1 k q), fun y n q => ww_and1 (A.2 y n q), fun y n q => ww_or1 (A.2 y n q)⟩
    | cons a' as' =>
      obtain ⟨e', r', rfl, h3, h4⟩ := wl_ne h2
      obtain ⟨b1', b2', b3', b4'⟩ := B.2 (by simp) pos
      refine ⟨fun k q => wu_and ((A.1 _ q).mono fun x q => ?_), fun k q => wu_or ((A.1 _ q).mono fun x q => ?_), fun y n q => ww_and ((A.2 _ _ q).mono fun b z => ⟨fun hb => b3' _ _ (z.1 hb), fun hb => ⟨fun e => (nomatch e), fun _ => z.2 hb⟩⟩), fun y n q => ww_or ((A.2 _ _ q).mono fun b z => ⟨fun hb => b4' _ _ (z.2 hb), fun hb => ⟨fun _ => z.1 hb, fun e => nomatch e⟩⟩)⟩
      · cases hd : x.d with
        | bl r => rw [hd] at q; exact ⟨fun hr => b1' k (q.1 hr), q.2⟩
        | _ => rw [hd] at q; exact q.elim
      · cases hd : x.d with
        | bl r => rw [hd] at q; exact ⟨q.1, fun hr => b2' k (q.2 hr)⟩
        | _ => rw [hd] at q; exact q.elim
theorem so_i : ∀ a : Xi, SoI a
  | .rng a => .mk <| by
    intro X C Γ H0 e E h xw δ hx k q
    unfold chI at h
    split at h
    · obtain ⟨h1, h⟩ := and3 h
      obtain ⟨h2, h3⟩ := and3 h
      obtain rfl := of_decide_eq_true h1
      have A := ((so_e a).run E h3 hx (xw := xw) (δ := δ)).1
      refine wi_rng E.bi.range (wa_cons (we_wu (k := fun d => Wa _ H0 [] δ fun ds => A1 (d :: ds) _) ((A _ q).mono fun r z => wa_nil (a1 ?_))) (chE_star h3)) (E.glo h2).1 (chE_star h3)
      cases hd : r.d with
      | int n => rw [hd] at z; exact i1 z
      | _ => rw [hd] at z; exact z.elim
    · cases h
  | .rng2 a b => .mk <| by
    intro X C Γ H0 e E h xw δ hx k q
    unfold chI at h
    split at h
    · obtain ⟨h1, h⟩ := and3 h
      obtain ⟨h2, h⟩ := and3 h
      obtain ⟨h3, h4⟩ := and3 h
      obtain rfl := of_decide_eq_true h1
      have A := ((so_e a).run E h3 hx (xw := xw) (δ := δ)).1
      have B := ((so_e b).run E h4 hx (xw := xw) (δ := δ)).1
      refine wi_rng2 E.bi.range (wa_cons (we_wu (k := fun d => Wa _ H0 _ δ fun ds => A2 (d :: ds) _) ((A _ q).mono fun r z => wa_cons (we_wu (k := fun d => Wa _ H0 [] δ fun ds => A2 (r.d :: d :: ds) _) ((B _ z).mono fun r' z' => wa_nil (a2 ?_))) (chE_star h4))) (chE_star h3)) (E.glo h2).1 (chE_star h3) (chE_star h4)
      cases hd : r.d with
      | int n =>
        rw [hd] at z'
        cases hd' : r'.d with
        | int m => rw [hd'] at z'; exact i2 z'
        | _ => rw [hd'] at z'; exact z'.elim
      | _ => rw [hd] at z'; exact z'.elim
    · cases h
  | .sq a => .mk <| by
    intro X C Γ H0 e E h xw δ hx k q
    rw [chI] at h
    exact wi_seq (we_wu (((so_e a).run E h hx (xw := xw) (δ := δ)).1 _ q))
end
end DL
set_option Elab.async false
set_option linter.all false
set_option maxRecDepth 100000
set_option maxHeartbeats 4000000
/-! The deep machine, part e: statements. -/
namespace DL
open PySem PySem.Spec PyProof.Rows L2
theorem Vw.trans {a b : List S} (h : Vw a b) : ∀ {c : List S}, Vw b c → Vw a c := by
  induction h with
  | nil => intro c h2; exact h2
  | keep _ ih => intro c h2; cases h2 with
    | keep h3 => exact .keep (ih h3)
    | drop h3 => exact .drop (ih h3)
    | bor h3 => exact .bor (ih h3)
  | drop _ ih => intro c h2; cases h2 with
    | keep h3 => exact .drop (ih h3)
    | drop h3 => exact .drop (ih h3)
  | bor _ ih => intro c h2; cases h2 with
    | keep h3 => exact .bor (ih h3)
    | drop h3 => exact .drop (ih h3)
theorem vw_bor1 {i : Nat} {δ : List S} : Vw δ (bor1 i δ) := by
  unfold bor1
  split
  · rename_i o e; exact Vw.borAt e
  · exact Vw.refl _
theorem vw_bor : ∀ {bs : List Nat} {δ : List S}, Vw δ (bor bs δ)
  | [], δ => Vw.refl _
  | i :: is, δ => vw_bor1.trans (vw_bor (bs := is))
theorem vw_no : ∀ {δ : List S} {i : Nat}, Vw δ (δ.set i .no)
  | [], _ => .nil
  | s :: r, 0 => .drop (Vw.refl r)
  | s :: r, i + 1 => .keep (vw_no (i := i))
theorem vw_drp : ∀ {dd : List Nat} {δ : List S}, Vw δ (drp dd δ)
  | [], δ => Vw.refl _
  | i :: is, δ => vw_no.trans (vw_drp (dd := is))
theorem FlatN.isP {K : PySem.W.Frag} {H : Hp} {ps : List Addr} {d : D} (no : ∀ p ∈ ps, ∀ ys, ¬ Rd H p (.tup ys)) (f : FlatN d) : ∀ {v : V}, Is K H v d → Is K (cut H ps) v d := by
  induction f with
  | flat f => intro v h; exact h.flat f
  | tup _ ih =>
    intro v h
    obtain ⟨a, xs, rfl, h1, il⟩ := h.tup_inv
    refine .mkT ?_ (IsL.of_get il.1 fun i x d hx hd => ih i d hd (il.2 i x d hx hd))
    rcases h1 with z | z
    · refine .inl ?_
      have na : a ∉ ps := fun hp => no a hp xs z
      rcases z with z | ⟨ob, z⟩
      · exact .inl (by rw [cut_out na]; exact z)
      · exact .inr ⟨ob, by rw [cut_out na]; exact z⟩
    · exact .inr z
section
variable {K : PySem.W.Frag} {X : Cx} {H0 B H G : Hp} {σ : L2.St} {δ δ' : List S} {own : List (List Addr)} {v : V} {r : S} {e c : Expr} {pos p : Pos}
theorem Rel.notup (R : Rel K B σ H δ own) : ∀ p ∈ own.flatten, ∀ ys, ¬ Rd H p (.tup ys) := fun p hp ys z => by
  rcases R.owned p hp with ⟨_, e⟩ | ⟨_, e⟩ | ⟨_, _, _, e, _⟩ | ⟨_, _, _, e, _⟩
  all_goals (rcases z with z | ⟨_, z⟩ <;> rw [e] at z <;> cases z)
/-- a value has come: it may be put into any slot -/
def PutOk (K : PySem.W.Frag) (B : Hp) (σ : L2.St) (H : Hp) (δ : List S) (v : V) (r : S) : Prop := ∀ i b, ∃ own', Rel K B (σ.set i (some v)) H (δ.set i (putS b r)) own'
theorem put_sh {d : D} (R : Rel K B σ H δ own) (h : Is K (cut H own.flatten) v d) : PutOk K B σ H δ v (.sh d) := fun i b => by
  cases b with
  | true => exact ⟨_, R.setSh h⟩
  | false => exact ⟨_, R.setSh h⟩
theorem put_ow {o : Ow} {G1 : Hp} {l0 : List Addr} (R : Rel K B σ H δ own) (e : Ex (cut H own.flatten) (cut G1 l0)) (n : ∀ a ∈ own.flatten, G1 a = none) (nd : l0.Nodup) (h : OwIs K G1 (cut G1 l0) v l0 o) : PutOk K B σ (mrg H own.flatten G1) δ v (.ow o) := fun i b => by
  cases b with
  | true => exact ⟨_, R.setOw e n nd h⟩
  | false =>
    have R' := R.step (e.trans cut_ex) n
    exact ⟨_, R'.setSh (by rw [cut_mrg n]; exact h.is cut_ex)⟩
theorem put_ok (R : Rel K B σ H δ own) (n : ∀ a ∈ own.flatten, G a = none) (i : RetIs K (cut H own.flatten) v G r) :
    Rel K B σ (mrg H own.flatten G) δ own ∧ PutOk K B σ (mrg H own.flatten G) δ v r ∧ RetIs K B v (mrg H own.flatten G) r ∧ Is K (cut (mrg H own.flatten G) own.flatten) v r.d := by
  have R' := R.step i.ex.1 n
  cases r with
  | no => exact i.elim
  | sh d => exact ⟨R', put_sh R' (by rw [cut_mrg n]; exact i.2), ⟨R'.toEx, i.2.mono fun a o ha => by
      rw [mrg_out fun z => by rw [n a z] at ha; cases ha]; exact ha⟩, by rw [cut_mrg n]; exact i.2⟩
  | ow o =>
    obtain ⟨l, hl, fr, ee, nd⟩ := i
    have eG : Ex G (mrg H own.flatten G) := fun a u ha => by
      rw [mrg_out fun z => by rw [n a z] at ha; cases ha]
      exact ha
    refine ⟨R', put_ow R ee n nd hl, ?_, by rw [cut_mrg n]; exact hl.is cut_ex⟩
    have dis : ∀ a ∈ l, mrg H own.flatten G a = G a := fun a ha => by
      obtain ⟨u, hu⟩ := (hl.at (fun a h => h) a ha).some
      rw [hu]
      exact eG a u hu
    have e2 : Ex (cut G l) (cut (mrg H own.flatten G) l) := cut_mono eG
    exact ⟨l, hl.mono e2 dis, fun a ha => R.ex.free (fr a ha), (R.ex.trans ee).trans e2, nd⟩
theorem Wu.at {k : S → Prop} (h : Wu X H0 e δ k) (hB : Ex H0 B) (R : Rel X.K B σ H δ own) : semE X e σ H (fun v H' => ∃ r, Rel X.K B σ H' δ own ∧ PutOk X.K B σ H' δ v r ∧ RetIs X.K B v H' r ∧ Is X.K (cut H' own.flatten) v r.d ∧ k r) :=
  (semE.frame R.owned (h σ _ (R.toS.weak hB))).mono fun v H' ⟨G, eq, n, r, i, q⟩ => by
    subst eq
    obtain ⟨a, b, c, d⟩ := put_ok R n i
    exact ⟨r, a, b, c, d, q⟩
/-- while slots were lent -/
theorem Wu.keep {bs : List Nat} {k : S → List S → Prop} (h : Wu X H0 e (bor bs δ) (fun r => keepW bs r δ (k r))) (hB : Ex H0 B) (R : Rel X.K B σ H δ own) :
    semE X e σ H (fun v H' => ∃ r δ1 own1, Rel X.K B σ H' δ1 own1 ∧ Is X.K (cut H' own1.flatten) v r.d ∧ PutOk X.K B σ H' δ1 v r ∧ k r δ1) := by
  cases bs with
  | nil => exact (Wu.at (k := fun r => k r δ) h hB R).mono fun v H' ⟨r, a, b, c, d, q⟩ => ⟨r, δ, own, a, d, b, q⟩
  | cons j js =>
    obtain ⟨R', sub⟩ := R.view (vw_bor (bs := j :: js))
    refine (semE.frame R'.owned (h σ _ (R'.toS.weak hB))).mono fun v H' ⟨G, eq, n, r, i, q⟩ => ?_
    obtain ⟨a, b, c, d⟩ := put_ok R' n i
    rw [← eq] at a b c d
    rcases q.ex with ⟨sf, q⟩ | q
    · refine ⟨r, δ, own, ?_⟩
      have gr : Ex H H' := by rw [eq]; exact mrg_ex i.ex.1
      have RH : Rel X.K B σ H' δ own := R.grow gr
      cases r with
      | no => exact sf.elim
      | sh dd =>
        have iv : Is X.K (cut H' own.flatten) v dd := FlatN.is RH sf (d.mono cut_ex)
        exact ⟨RH, iv, put_sh RH iv, q⟩
      | ow o =>
        cases o with
        | lst ds =>
          obtain ⟨l, ⟨p, xs, rfl, rfl, hp, il⟩, fr, ee, nd⟩ := i
          have hpG : H' p = some (.lst xs) := by
            rw [eq, mrg_out (fun z => by rw [n p z] at hp; cases hp)]
            exact hp
          have hpo : p ∉ own.flatten := fun z => by
            obtain ⟨u, hu⟩ := (R.owned p z).some
            have := fr p (by simp)
            by_cases hz : p ∈ (keepOw own (bor (j :: js) δ)).flatten
            · rw [n p hz] at hp; cases hp
            · rw [cut_out hz, hu] at this; cases this
          have same : ∀ a ∈ own.flatten, H' a = H a := fun a ha => by
            obtain ⟨u, hu⟩ := (R.owned a ha).some
            rw [hu]
            exact gr a u hu
          have eqm : mrg H own.flatten (cut H' own.flatten) = H' := by
            funext a
            by_cases z : a ∈ own.flatten
            · rw [mrg_in z, same a z]
            · rw [mrg_out z, cut_out z]
          have noT : ∀ q ∈ p :: own.flatten, ∀ ys, ¬ Rd H' q (.tup ys) := fun q hq ys z => by
            rcases List.mem_cons.mp hq with rfl | hq
            · rcases z with z | ⟨_, z⟩ <;> rw [hpG] at z <;> cases z
            · exact RH.notup q hq ys z
          have cc : cut (cut H' own.flatten) [p] = cut H' (p :: own.flatten) := by
            funext a
            by_cases z : a = p
            · subst z; rw [cut_in (by simp), cut_in (by simp)]
            · by_cases y : a ∈ own.flatten
              · rw [cut_out (by simpa using z), cut_in y, cut_in (by simp [y])]
              · rw [cut_out (by simpa using z), cut_out y, cut_out (by simp [z, y])]
          have items : IsL X.K (cut (cut H' own.flatten) [p]) xs ds := by
            rw [cc]
            refine IsL.of_get il.1 fun i x d hx hd => FlatN.isP noT (sf d (List.mem_of_getElem? hd)) ?_
            refine (il.2 i x d hx hd).mono ((cut_ex).trans ?_)
            rw [eq]
            intro a u ha
            rw [mrg_out fun z => by rw [n a z] at ha; cases ha]
            exact ha
          have ow : OwIs X.K (cut H' own.flatten) (cut (cut H' own.flatten) [p]) (.ref p) [p] (.lst ds) := ⟨p, xs, rfl, rfl, by rw [cut_out hpo]; exact hpG, items⟩
          have e1 : Ex (cut H own.flatten) (cut (cut H' own.flatten) [p]) := fun a u ha => by
            obtain ⟨n1, n2⟩ := cut_some ha
            have : a ≠ p := by
              rintro rfl
              have hz := fr a (by simp)
              by_cases hk : a ∈ (keepOw own (bor (j :: js) δ)).flatten
              · exact n1 (sub a hk)
              · rw [cut_out hk, n2] at hz; cases hz
            rw [cut_out (by simpa using this), cut_out n1]
            exact gr a u n2
          have P := put_ow R e1 (fun a ha => cut_in ha) nd ow
          rw [eqm] at P
          exact ⟨RH, ow.is cut_ex, P, q⟩
        | dic _ => exact sf.elim
        | ins _ _ => exact sf.elim
        | tr _ => exact sf.elim
        | self _ _ _ _ => exact sf.elim
    · exact ⟨r, bor (j :: js) δ, _, a, d, b, q⟩
end
/-- the ends, as the lower judgements read them -/
def toEn (E : Ed) : En := { nx := E.nx, rt := fun _ r => E.rt r, bk := E.bk, ct := E.ct }
section
variable {X : Cx} {C : Ct} {Γ : List DSp} {H0 : Hp} {δ δ' : List S} {e c it : Expr} {pos p : Pos} {E : En} {sts : List Stmt}
theorem ws_setU (i : Nat) {x : Str} {pos' : Pos} {own : Bool} {bs : List Nat} (hN : X.N.Nodup) (h : Wu X H0 e (bor bs δ) (fun r => keepW bs r δ fun δ' => E.nx (δ'.set i (putS own r)))) (hi : X.N[i]? = some x) (hx : Loc X.env.scope x) (hs : swapsWith e (some (.Name x pos')) pos.line X.env = pure false) (hf : X.fn x = true ∨ X.env.scope.names.lookup x = some .local) :
    Ws X H0 (.Assign [.Name x pos'] e pos) δ E := fun B σ H ow hB R => toS (ps_set hN hi hx pe_sem hs hf) ((Wu.keep (k := fun r δ' => E.nx (δ'.set i (putS own r))) h hB R).mono fun v H' ⟨r, δ1, own1, R1, iv, P, q⟩ => by
  obtain ⟨own', R'⟩ := P i own
  exact ⟨_, own', R', q⟩)
theorem IsF.put {K : PySem.W.Frag} {G : Hp} {f : Str} {v : V} {d : D} (i : Is K G v d) : ∀ {fs : List (Str × V)} {gs : List (Str × D)}, IsF K G fs gs → IsF K G (putF f v fs) (putFD f d gs)
  | [], [], h => ⟨rfl, fun j x y a b => by
    cases j with
    | zero => cases a; cases b; exact i
    | succ j => cases a⟩
  | [], _ :: _, h => by cases h.1
  | _ :: _, [], h => by cases h.1
  | (g, x) :: fs, (g', y) :: gs, h => by
    have h1 := h.1
    simp only [List.map_cons, List.cons.injEq] at h1
    obtain ⟨rfl, h2⟩ := h1
    have i0 : Is K G x y := h.2 0 (g, x) (g, y) rfl rfl
    have ir : IsF K G fs gs := ⟨h2, fun j x d q1 q2 => h.2 (j + 1) x d q1 q2⟩
    unfold putF putFD
    by_cases e : g = f
    · rw [if_pos e, show (g == f) = true from by rw [e]; exact beq_self_eq_true f]
      refine ⟨by simp only [List.map_cons, h2], fun j x' d' q1 q2 => ?_⟩
      cases j with
      | zero => cases q1; cases q2; exact i
      | succ j => exact ir.2 j x' d' q1 q2
    · rw [if_neg e, show (g == f) = false from beq_eq_false_iff_ne.mpr e]
      obtain ⟨p1, p2⟩ := IsF.put (f := f) i ir
      refine ⟨by simp only [List.map_cons, p1], fun j x' d' q1 q2 => ?_⟩
      cases j with
      | zero => cases q1; cases q2; exact i0
      | succ j => exact p2 j x' d' q1 q2
theorem putFD_keys {f g : Str} {d : D} : ∀ {gs : List (Str × D)}, g ∈ (putFD f d gs).map (·.1) → g = f ∨ g ∈ gs.map (·.1)
  | [], h => by simpa [putFD] using h
  | (x, y) :: r, h => by
    unfold putFD at h
    split at h
    · right; exact h
    · rw [List.map_cons] at h
      rcases List.mem_cons.mp h with z | z
      · right; rw [z]; simp
      · rcases putFD_keys z with w | w
        · exact .inl w
        · right; exact List.mem_cons_of_mem _ w
theorem fstD_inv {s : Option S} {f : Str} {d : D} {k : Ow → Prop} (h : fstD s f d k) : ∃ a C ks gs, s = some (.ow (.self a C ks gs)) ∧ ks.elem f = true ∧ Nat.blt gs.length 1000 = true ∧ k (.self a C ks (putFD f d gs)) := by
  unfold fstD at h
  split at h
  · exact ⟨_, _, _, _, rfl, h.1.1, h.1.2, h.2⟩
  · exact h.elim
theorem ws_fstU (i : Nat) {x f : Str} {p1 p2 : Pos} {bs : List Nat} (h : Wu X H0 e (bor bs δ) (fun r => keepW bs r δ fun δ' => fstD δ'[i]? f r.d fun o => E.nx (δ'.set i (.ow o)))) (hp : PE X (.Name x p1) (tVar i))
    (hs : swapsWith e (some (.Attribute (.Name x p1) f p2)) pos.line X.env = pure false) : Ws X H0 (.Assign [.Attribute (.Name x p1) f p2] e pos) δ E := fun B σ H own hB R =>
  toS (ps_fld hp pe_sem hs) ((Wu.keep (k := fun r δ' => fstD δ'[i]? f r.d fun o => E.nx (δ'.set i (.ow o))) h hB R).mono fun v H' ⟨r, δ1, own1, R1, iv, P, q⟩ => by
    have q : fstD δ1[i]? f r.d fun o => E.nx (δ1.set i (.ow o)) := q
    obtain ⟨a, C, ks, gs, hd, q1, q2, q3⟩ := fstD_inv q
    · obtain ⟨x0, l, h1, h2, v0, rfl, ⟨c1, c2⟩, dx, fs, rfl, rfl, hH, hdx, hf⟩ := R1.idx hd
      have hm : f ∈ ks := List.elem_iff.mp q1
      have hl : fs.length = gs.length := by have := congrArg List.length hf.1; simpa using this
      refine ⟨_, h1, a, C, dx, fs, rfl, hH, c1.cls, c1.no f hm, ?_, ?_⟩
      · rw [hl]; exact Nat.le_of_ble_eq_true q2
      · have hne : a ≠ dx := fun z => by rw [z, hdx] at hH; cases hH
        exact ⟨_, _, R1.write (o' := .self a C ks (putFD f r.d gs)) h2 (by simp) h1 ⟨⟨c1, fun g hg => (putFD_keys hg).elim (fun z => by rw [z]; exact hm) (c2 g)⟩, dx, _, rfl, rfl, upd_same, by rw [upd_ne hne.symm]; exact hdx, hf.put iv⟩, q3⟩)
theorem ws_asgU {tg : Expr} {bs : List Nat} (h : Wu X H0 e (bor bs δ) (fun r => keepW bs r δ fun δ' => Wg X H0 tg r.d δ' E.nx)) (hs : swapsWithSole [tg] e pos.line X.env = pure false) (hw : swappedStores [tg] e X.env = pure none)
    (h1 : (assignEach [tg] X.env).map (·.2) = [assign tg X.env]) : Ws X H0 (.Assign [tg] e pos) δ E := fun B σ H own hB R => toS (ps_asg pe_sem pg_sem hs hw h1) ((Wu.keep (k := fun r δ' => Wg X H0 tg r.d δ' E.nx) h hB R).mono fun v H1 ⟨r, δ1, own1, R1, iv, P, q⟩ => q B σ H1 own1 v hB R1 iv)
theorem ws_retU {bs : List Nat} (h : Wu X H0 e (bor bs δ) (fun r => retD bs r (E.rt δ))) : Ws X H0 (.Return (some e) pos) δ E := fun B σ H own hB R => by
  cases bs with
  | nil => exact toS (ps_ret pe_sem) ((Wu.at (k := fun r => E.rt δ r) h hB R).mono fun v H' ⟨r, R', P, ir, id, q⟩ => ⟨σ, δ, own, r, R', ir, q⟩)
  | cons j js =>
    obtain ⟨R', sub⟩ := R.view (vw_bor (bs := j :: js))
    refine toS (ps_ret pe_sem) ((semE.frame R'.owned (h σ _ (R'.toS.weak hB))).mono fun v H' ⟨G, eq, n, r, i, q⟩ => ?_)
    subst eq
    have q : E.rt δ r.un := q
    have gr : Ex H (mrg H (keepOw own (bor (j :: js) δ)).flatten G) := mrg_ex i.ex.1
    have eG : Ex G (mrg H (keepOw own (bor (j :: js) δ)).flatten G) := fun a u ha => by
      rw [mrg_out fun z => by rw [n a z] at ha; cases ha]
      exact ha
    have RH := R.grow gr
    cases r with
    | no => exact i.elim
    | sh d => exact ⟨σ, δ, own, .sh d, RH, ⟨RH.toEx, i.2.mono eG⟩, q⟩
    | ow o => exact ⟨σ, δ, own, .sh o.d, RH, ⟨RH.toEx, i.ex.2.mono eG⟩, q⟩
theorem ws_appU (i : Nat) {x : Str} {px apos cpos : Pos} {bs : List Nat} (h : Wu X H0 e (bor bs δ) (fun r => keepW bs r δ fun δ' => appD i r.d δ' E.nx)) (hd : ∃ ds, δ[i]? = some (.ow (.lst ds))) (hp : PE X (.Name x px) (tVar i))
    (hline : (apos.endLine == cpos.line) = true) (hs : notStar e = true) : Ws X H0 (.Expr (.Call (.Attribute (.Name x px) "append" apos) [e] [] cpos) pos) δ E := fun B σ H own hB R =>
  toS (ps_expr (pe_bm PySem.F.plainAttrs_list PySem.F.slot_list_append PySem.F.type_list_append mt_append hp (pa_cons pe_sem pa_nil (star_of hs)) rfl (few_of hs) hline (star_of hs) rfl) rfl) (by
    obtain ⟨ds0, hi⟩ := hd
    obtain ⟨x0, l, h1, h2, v, rfl, p, xs, rfl, rfl, h3, h4⟩ := R.idx hi
    refine ⟨_, h1, .inl ⟨rfl, xs, SqL.of h3⟩, (Wu.keep (k := fun r δ' => appD i r.d δ' E.nx) h hB R).mono fun w H' ⟨r, δ1, own1, R', id, P, q⟩ => ?_⟩
    unfold appD at q
    split at q
    · rename_i ds hj
      obtain ⟨q1, q2⟩ := q
      obtain ⟨x0, l, g1, g2, v', rfl, p', xs', ev, rfl, g3, g4⟩ := R'.idx hj
      rw [h1] at g1; cases g1
      have e1 : xs'.length = ds.length := g4.1
      cases ev
      refine ⟨p, xs', w, rfl, rfl, g3, Nat.lt_trans (by rw [e1]; exact q1) (by decide), _, _, R'.write (o' := .lst _) g2 (by simp) h1 ⟨p, xs' ++ [w], rfl, rfl, upd_same, g4.snoc id⟩, q2⟩
    · exact q.elim)
theorem ws_stiU (i : Nat) {x : Str} {px spos : Pos} {ix : Expr} {bs : List Nat} {k : S → List S → Prop} (h : Wu X H0 e (bor bs δ) (fun r => keepW bs r δ (k r))) (hk : ∀ r δ', k r δ' → ∃ ds, δ'[i]? = some (.ow (.lst ds)) ∧ We X H0 ix (bor bs δ') fun q => stiD i ds r.d q δ' E.nx)
    (hg : PG X (.Subscript (.Name x px) ix spos) (gSub (tVar i) (semE X ix) rSetL))
    (hs : swapsWithSole [.Subscript (.Name x px) ix spos] e pos.line X.env = pure false) (hw : swappedStores [.Subscript (.Name x px) ix spos] e X.env = pure none) : Ws X H0 (.Assign [.Subscript (.Name x px) ix spos] e pos) δ E := fun B σ H own hB R =>
  toS (ps_asg pe_sem hg hs hw rfl) ((Wu.keep (k := k) h hB R).mono fun w H1 ⟨r, δ1, own1, R1, id, P, q⟩ => by
    obtain ⟨ds, hj, q⟩ := hk r δ1 q
    obtain ⟨x0, l, h1, h2, v, rfl, p, xs, rfl, rfl, h3, h4⟩ := R1.idx hj
    obtain ⟨R', sub⟩ := R1.view (vw_bor (bs := bs))
    refine ⟨_, h1, (semE.frame R'.owned (q σ _ (R'.toS.weak hB))).mono fun n H2 ⟨G, eq, nn, e2, dn, inn, q⟩ => ?_⟩
    have q : stiD i ds r.d dn δ1 E.nx := q
    cases dn with
    | int m =>
      obtain ⟨j, ej, hjl, q2⟩ := q
      have gr : Ex H1 H2 := by rw [eq]; exact mrg_ex e2
      have R2 : Rel X.K B σ H2 δ1 own1 := R1.grow gr
      have id2 : Is X.K (cut H2 own1.flatten) w r.d := id.mono (cut_mono gr)
      obtain ⟨x0, l, g1, g2, v', rfl, p', xs', ev, rfl, g3, g4⟩ := R2.idx hj
      rw [h1] at g1; cases g1
      subst ej
      cases inn
      refine ⟨p', xs', (j : Int), j, ev, rfl, g3, ?_, _, _, R2.write (o' := .lst _) g2 (by simp) h1 ⟨p', xs'.set j w, ev, rfl, upd_same, g4.set id2⟩, q2⟩
      unfold ixN
      have e1 : xs'.length = ds.length := g4.1
      rw [if_pos (by omega), if_pos (by omega)]
      simp
    | _ => exact q.elim)
/-! loops over a list or a tuple -/
theorem ws_forQ (hp : PassesOwn (model X.prog X.w) X.A X.env X.xe) (hc : X.calm = true) {tg it : Expr} (h : Wi X H0 it δ fun n item => ∃ Iv : Nat → List S → Prop, Upto (Iv 0) δ ∧ (∀ (i : Nat) δ1, i < n → Iv i δ1 → Wg X H0 tg (item i) δ1 fun δ2 => Wb X H0 sts δ2 (turnE E (Iv (i + 1)))) ∧ (∀ δ1, Iv n δ1 → E.nx δ1))
    (hs : ∀ x, foldedSetIterable it X.env x = pure x) : Ws X H0 (.For tg it sts [] pos) δ E := fun B σ H own hB R => by
  obtain ⟨wi, hpi, fri, hw⟩ := h
  refine toS (ps_for hp hc (hpi _) pg_sem pb_sem hs) (fri σ H own.flatten _ _ R.owned (hw σ _ (R.toS.weak hB)) fun J G nn ⟨e1, n, item, ⟨Iv, h0, ht, he⟩, g⟩ => ?_)
  have ec : cut (mrg H own.flatten G) own.flatten = G := cut_mrg nn
  have hB1 : Ex B G := R.ex.trans e1
  have R0 : Rel X.K G σ (mrg H own.flatten G) δ own := by
    have := R.step e1 nn
    exact ⟨by rw [ec]; exact Same.refl _, this.len1, this.len2, this.sl, this.nd⟩
  refine ⟨fun i m σ' H' => m = n - i ∧ i ≤ n ∧ ∃ δ own', Rel X.K G σ' H' δ own' ∧ Upto (Iv i) δ, ⟨n, by simp, Nat.zero_le _, δ, own, R0, h0⟩, ?_⟩
  rintro i m σ' H' ⟨rfl, hi, δ1, own1, Ra, δ2, hv2, q⟩
  obtain ⟨j1, j2⟩ := g i H' Ra.toEx
  have Rw := (Ra.view hv2).1
  by_cases hlt : i < n
  · obtain ⟨g1, g2⟩ := j1 hlt
    refine .inr ⟨g1, fun σ' H' => ∃ δ own', Rel X.K G σ' H' δ own' ∧ Upto (Iv (i + 1)) δ, fun σ' H' z => ⟨n - (i + 1), by omega, rfl, hlt, z⟩, fun x H2 y => ?_⟩
    obtain ⟨rfl, ix⟩ := g2 x H2 y
    refine (ht i δ2 hlt q G σ' _ _ x (hB.trans hB1) Rw (ix.mono Rw.ex)).mono fun σ3 H3 ⟨δ3, own3, R3, q3⟩ => ?_
    exact (q3 _ σ3 H3 own3 (hB.trans hB1) R3).mono (fun _ _ z => z) (fun v H ⟨σ, δ, own, r, Rr, ri, qq⟩ => ⟨σ, δ, own, r, Rr.weak hB1, ri.back hB1, qq⟩) (fun σ H ⟨δ, own, Rr, qq⟩ => ⟨δ, own, Rr.weak hB1, qq⟩) (fun _ _ z => z)
  · have e : i = n := by omega
    subst e
    exact .inl ⟨j2 (Nat.le_refl _), δ2, _, Rw.weak hB1, he δ2 q⟩
end
end DL
set_option Elab.async false
set_option linter.all false
set_option maxRecDepth 100000
set_option maxHeartbeats 4000000
/-! The deep machine, part t: statements with trees. -/
namespace DL
open PySem PySem.Spec PyProof.Rows L2
section
variable {K : PySem.W.Frag} {H H' G G' H0 B : Hp} {v w : V} {t : Tr} {l : List Addr} {σ : L2.St} {δ δ' : List S} {own : List (List Addr)}
theorem RT.child {i j : Nat} {ts0 us vs' : List Tr} {π : List Nat} {root : V} {q : Addr} {vs : List V} {ts : List Tr} {ls0 : List (List Addr)} (R : RT K B σ H δ own vs ts ls0) (hi : δ[i]? = some (.ow (.tr ts0))) (hr : σ[i]? = some (some root)) (hs : subAt ts0 π = some us) (hp : AtP H root π q) (hj : us[j]? = some (.lst vs')) :
    ∃ xs q', H q = some (.lst xs) ∧ xs.length = us.length ∧ xs[j]? = some (.ref q') := by
  obtain ⟨x0, L, g1, g2, root', e3, tx⟩ := R.idx hi
  rw [hr] at g1; cases g1
  cases e3
  obtain ⟨hq, xs, ls, f1, f2, -⟩ := tr_edit (xs' := []) (us' := []) (ls' := []) π tx (nd_part (List.nodup_append.mp R.nd).1 g2) hs hp
  obtain ⟨x, l, k1, k2, p, ys, ms, e, _⟩ := trs_get f2 hj
  exact ⟨xs, p, f1, (trs_len f2).1, by rw [k1, e]⟩
end
section
variable {X : Cx} {H0 B H : Hp} {σ : L2.St} {δ δ' : List S} {own : List (List Addr)} {e o ix : Expr} {pos p : Pos} {E : En} {vs : List V} {ts : List Tr} {ls : List (List Addr)}
/-- evaluated while slots are lent; nothing is kept of it -/
theorem RT.view (R : RT X.K B σ H δ own vs ts ls) (hv : Vw δ δ') {k : D → Prop} (h : We X H0 e δ' k) (hB : Ex H0 B) : semE X e σ H (fun v H' => ∃ d, RT X.K B σ H' δ own vs ts ls ∧ Ex H H' ∧ Is X.K H' v d ∧ k d) := by
  obtain ⟨R', sub⟩ := R.rel.view hv
  refine (semE.frame R'.owned (h σ _ (R'.toS.weak hB))).mono fun v H' ⟨G, eq, n, e, d, i, q⟩ => ?_
  subst eq
  refine ⟨d, R.grow (mrg_ex e), mrg_ex e, i.mono fun a o ha => ?_, q⟩
  rw [mrg_out fun z => by rw [n a z] at ha; cases ha]
  exact ha
structure PthS (K : PySem.W.Frag) (B : Hp) (σ : L2.St) (H : Hp) (δ : List S) (own : List (List Addr)) (vs : List V) (ts : List Tr) (ls : List (List Addr)) (i : Nat) (v : V) (k : List Nat → List Tr → Prop) : Prop where
  rt : RT K B σ H δ own vs ts ls
  ex : ∃ ts0 root π q us, δ[i]? = some (.ow (.tr ts0)) ∧ σ[i]? = some (some root) ∧ v = .ref q ∧ AtP H root π q ∧ subAt ts0 π = some us ∧ k π us
/-- o is a list within the tree of slot i -/
def PthW (X : Cx) (H0 : Hp) (o : Expr) (δ : List S) (i : Nat) (k : List Nat → List Tr → Prop) : Prop := ∀ B σ H own vs ts ls, Ex H0 B → RT X.K B σ H δ own vs ts ls → semE X o σ H (fun v H' => PthS X.K B σ H' δ own vs ts ls i v k)
theorem pth_var {k : List Nat → List Tr → Prop} {x : Str} (i : Nat) {ts0 : List Tr} (hi : δ[i]? = some (.ow (.tr ts0))) (h : k [] ts0) (hp : PE X (.Name x pos) (tVar i)) : PthW X H0 (.Name x pos) δ i k := fun B σ H own vs ts ls hB R => by
  obtain ⟨x0, l, h1, h2, v, rfl, q, xs, ms, rfl, _, hq, _⟩ := R.idx hi
  exact toE hp ⟨_, h1, R, ts0, _, [], q, ts0, hi, h1, rfl, rfl, rfl, h⟩
theorem pth_sub {k : List Nat → List Tr → Prop} {i : Nat} (hv : Vw δ δ') (h : PthW X H0 o δ i fun π us => We X H0 ix δ' fun y => ∃ j : Nat, y = .int j ∧ ∃ ws, us[j]? = some (.lst ws) ∧ k (π ++ [j]) ws) (hs : PlainIx ix) : PthW X H0 (.Subscript o ix pos) δ i k := fun B σ H own vs ts ls hB R =>
  toE (pe_ix ix_list pe_sem pe_sem hs) ((h B σ H own vs ts ls hB R).mono fun v H1 ⟨R1, ts0, root, π, q, us, a1, a2, a3, a4, a5, w⟩ => (R1.view hv w hB).mono fun y H2 ⟨d, R2, e2, iy, j, ej, ws, hj, q2⟩ => by
    subst a3 ej
    cases iy
    have a4 := a4.mono e2
    obtain ⟨xs, q', g1, g2, g3⟩ := R2.child a1 a2 a5 a4 hj
    exact ⟨q, xs, j, .ref q', rfl, rfl, .inl (.inl g1), atI_nat g3, R2, ts0, root, π ++ [j], q', ws, a1, a2, rfl, a4.snoc g1 g3, subAt_snoc a5 hj, q2⟩)
theorem app1 {α : Type} (x : α) : ([] : List α) ++ [x] = [x] := rfl
theorem ws_setW (i : Nat) {x : Str} {pos' : Pos} (hN : X.N.Nodup) (h : WT X H0 e δ fun t δ' => ∃ us, t = .lst us ∧ E.nx (δ'.set i (.ow (.tr us)))) (hi : X.N[i]? = some x) (hx : L2.Loc X.env.scope x) (hs : swapsWith e (some (.Name x pos')) pos.line X.env = pure false) (hf : X.fn x = true ∨ X.env.scope.names.lookup x = some .local) :
    Ws X H0 (.Assign [.Name x pos'] e pos) δ E := fun B σ H own hB R => toS (ps_set hN hi hx pe_sem hs hf) ((h B σ H own [] [] [] hB R.rt).mono fun v H' ⟨t, δ', own', l, R', _, us, et, q⟩ => ⟨_, _, R'.set et, q⟩)
theorem ws_retW (h : WT X H0 e δ fun t δ' => ∃ us, t = .lst us ∧ E.rt δ' (.ow (.tr us))) : Ws X H0 (.Return (some e) pos) δ E := fun B σ H own hB R => toS (ps_ret pe_sem) ((h B σ H own [] [] [] hB R.rt).mono fun v H' ⟨t, δ', own', l, R', _, us, et, q⟩ => ⟨σ, δ', own', .ow (.tr us), R'.rel, RT.ret R' et, q⟩)
/-- o.append(e), o within the tree of slot i -/
theorem ws_appW (i : Nat) {apos cpos : Pos} (h : PthW X H0 o δ i fun π us => us.length < 100000 ∧ WT X H0 e δ fun t δ' => ∃ ts0, δ'[i]? = some (.ow (.tr ts0)) ∧ subAt ts0 π = some us ∧ E.nx (δ'.set i (.ow (.tr (updAt ts0 π (us ++ [t]))))))
    (hbase : attributeBase o "append" X.env (eval o X.env) = eval o X.env) (hline : (apos.endLine == cpos.line) = true) (hs : notStar e = true) : Ws X H0 (.Expr (.Call (.Attribute o "append" apos) [e] [] cpos) pos) δ E := fun B σ H own hB R =>
  toS (ps_expr (pe_bm PySem.F.plainAttrs_list PySem.F.slot_list_append PySem.F.type_list_append mt_append pe_sem (pa_cons pe_sem pa_nil (star_of hs)) hbase (few_of hs) hline (star_of hs) rfl) rfl) ((h B σ H own [] [] [] hB R.rt).mono fun v H1 ⟨R1, ts0, root, π, q, us, a1, a2, a3, a4, a5, hl, w⟩ => by
    subst a3
    obtain ⟨xs, hq, hlen⟩ := R1.node a1 a2 a5 a4
    refine ⟨.inl ⟨rfl, xs, .inl (.inl hq)⟩, (w B σ H1 own [] [] [] hB R1).mono fun y H2 ⟨t, δ', own', l, R2, e2, ts1, b1, b2, q2⟩ => ?_⟩
    obtain ⟨xs2, c1, c2, own3, R3⟩ := RT.editApp R2 b1 a2 b2 (a4.mono e2)
    exact ⟨q, xs2, y, rfl, rfl, c1, Nat.lt_of_lt_of_le (by rw [c2]; exact hl) (by decide), _, own3, R3, q2⟩)
/-- o[ix] = e, o within the tree of slot i -/
theorem ws_stiW (i : Nat) {spos : Pos} {vw : List S → List S} (hv : ∀ δ, Vw δ (vw δ)) (h : WT X H0 e δ fun t δ' => PthW X H0 o δ' i fun π us => We X H0 ix (vw δ') fun y => ∃ j : Nat, y = .int j ∧ j < us.length ∧ ∃ ts0, δ'[i]? = some (.ow (.tr ts0)) ∧ E.nx (δ'.set i (.ow (.tr (updAt ts0 π (us.set j t))))))
    (hg : PG X (.Subscript o ix spos) (gSub (semE X o) (semE X ix) rSetL)) (hs : swapsWithSole [.Subscript o ix spos] e pos.line X.env = pure false) (hw : swappedStores [.Subscript o ix spos] e X.env = pure none) : Ws X H0 (.Assign [.Subscript o ix spos] e pos) δ E := fun B σ H own hB R =>
  toS (ps_asg pe_sem hg hs hw rfl) ((h B σ H own [] [] [] hB R.rt).mono fun w H1 ⟨t, δ', own', l, R1, e1, P⟩ => (P B σ H1 own' _ _ _ hB R1).mono fun v H2 ⟨R2, ts0, root, π, q, us, a1, a2, a3, a4, a5, I⟩ => (R2.view (hv δ') I hB).mono fun y H3 ⟨d, R3, e3, iy, j, ej, hj, ts1, b1, q2⟩ => by
    subst a3 ej
    cases iy
    rw [a1] at b1; cases b1
    obtain ⟨xs2, c1, c2, own3, R4⟩ := RT.editSet (j := j) R3 a1 a2 a5 (a4.mono e3)
    refine ⟨q, xs2, (j : Int), j, rfl, rfl, c1, ?_, _, own3, R4, q2⟩
    unfold ixN
    rw [if_pos (by omega), if_pos (by omega)]
    simp)
/-! x = [..] on one line, a tree -/
theorem ws_setLcT (i v : Nat) {elt it : Expr} {sc : Scope} {x y : Str} {py spos : Pos} (hN : X.N.Nodup) (h : Wi X H0 it δ (LCT X sc H0 elt δ v fun ts => E.nx (δ.set i (.ow (.tr ts))))) (hc : X.calm = true) (ok : blkB X.N X.env.scope sc x v = true) (hi : X.N[v]? = some x) (hl : ∀ cl C, (compEnvC sc cl C X.env).scope.names.lookup x = some .local)
    (hy : X.N[i]? = some y) (hyl : X.env.scope.names.lookup y = some .local) (hsw : swapsWith (.ListComp elt [⟨.Name x p, it, [], 0⟩] sc pos) (some (.Name y py)) spos.line X.env = pure true) (hs : ∀ x, foldedSetIterable it X.env x = pure x) :
    Ws X H0 (.Assign [.Name y py] (.ListComp elt [⟨.Name x p, it, [], 0⟩] sc pos) spos) δ E := fun B σ H own hB R => by
  obtain ⟨wi, hpi, fri, hw⟩ := h
  refine toS (ps_setLc hc hN hy hyl hsw (hpi _) (blkB_ok ok) (pgb hN hi hl) (fun _ _ _ _ _ => pts_nil) pe_b hs) ?_
  refine fri σ H own.flatten _ _ R.owned (hw σ _ (R.toS.weak hB)) fun J G1 n1 ⟨e1, n, item, ⟨R3, hl, hw, q⟩, g⟩ => ?_
  have R1 : Rel X.K B σ (mrg H own.flatten G1) δ own := R.step e1 n1
  have ec : cut (mrg H own.flatten G1) own.flatten = G1 := cut_mrg n1
  refine lct_sem (X := X) (H0 := H0) (δ := δ) (ps := own.flatten) (n := n) (wv := v) (item := item) (P := fun i ts => ∀ (j : Nat) t, ts[j]? = some t → R3 j t) (Q := fun x H1 => gName i x σ H1 (toEnds X.K B E).nx) fr_bE R1.owned (R1.toS.weak hB) (by rw [ec]; exact g) (fun j t z => by cases z) hl (fun i ts hi p hlen G2 σ' e2 R' s h' C cl fp => ?_) fun A G ts N np hlen p => ?_
  · refine (hw i hi s h' C cl fp σ' G2 R').mono fun y G3 ⟨t, nt, rt⟩ => ⟨t, nt, fun j u z => ?_⟩
    by_cases hj : j < ts.length
    · rw [List.getElem?_append_left hj] at z
      exact p j u z
    · rw [List.getElem?_append_right (by omega)] at z
      have e0 : j - ts.length = 0 := by
        cases w : j - ts.length with
        | zero => rfl
        | succ m => rw [w] at z; cases z
      rw [e0] at z
      cases z
      have : j = i := by omega
      rw [this]; exact rt
  · obtain ⟨l, hl, fr, ee, nd⟩ := N
    exact ⟨_, _, R1.setOw (o := .tr ts) ee np nd hl, q ts hlen p⟩
end
end DL
set_option Elab.async false
set_option linter.all false
set_option maxRecDepth 100000
set_option maxHeartbeats 4000000
/-! The deep machine, part r: trees are sound. -/
namespace DL
open PySem PySem.Spec PyProof.Rows L2
mutual
def chN (C : Ct) : Xn → Expr → Bool
  | .e bs a, e => chE C a e
  | .lst as, e => match e with
    | .List es _ => Nat.ble es.length 100000 && chNL C as es
    | _ => false
  | .lc v elt it, e => match e with
    | .ListComp l [⟨.Name x _, itr, [], 0⟩] sc _ => blkB C.N C.sc sc x v && (decide (C.N[v]? = some x) && (decide ((relS sc C.sc).names.lookup x = some .local) && (chI C it itr && chN { C with sc := relS sc C.sc } elt l)))
    | _ => false
  | .mv i, e => match e with
    | .Name x _ => visB C i x
    | _ => false
def chNL (C : Ct) : Xnl → List Expr → Bool
  | .nil, es => es.isEmpty
  | .cons a as, es => match es with
    | e :: r => chN C a e && chNL C as r
    | [] => false
end
def chP (C : Ct) : Xp → Nat → Expr → Bool
  | .nm, i, e => match e with
    | .Name x _ => visB C i x
    | _ => false
  | .sub p bs ix, i, e => match e with
    | .Subscript l r _ => chP C p i l && chE C ix r
    | _ => false
section
variable {X : Cx} {C : Ct} {Γ : List DSp} {H0 B H : Hp} {σ : L2.St} {δ : List S} {own : List (List Addr)} {e : Expr} {pos : Pos}
theorem RT.leaf {K : PySem.W.Frag} {vs : List V} {ts : List Tr} {ls : List (List Addr)} {v : V} {d : D} (R : RT K B σ H δ own vs ts ls) (h : Is K (cut H (own.flatten ++ ls.flatten)) v d) : RT K B σ H δ own (vs ++ [v]) (ts ++ [.sh d]) (ls ++ [[]]) := by
  have e : (ls ++ [[]]).flatten = ls.flatten := by simp
  exact ⟨by rw [e]; exact R.ex, R.len1, R.len2, by rw [e]; exact R.sl, by rw [e]; exact trs_snoc R.tr ⟨rfl, h⟩, by rw [e]; exact R.nd⟩
theorem wt_view {bs : List Nat} {k : Tr → List S → Prop} (h : We X H0 e (bor bs δ) fun d => FlatN d ∧ k (.sh d) δ) : WT X H0 e δ k := fun B σ H own vs ts ls hB R =>
  (R.view (vw_bor (bs := bs)) h hB).mono fun v H' ⟨d, R', e1, iv, f, q⟩ => by
    refine ⟨.sh d, δ, own, [], R'.leaf (FlatN.isP (fun p hp ys r => ?_) f iv), e1, q⟩
    rcases R'.owned p hp with ⟨_, z⟩ | ⟨_, z⟩ | ⟨_, _, _, z, _⟩ | ⟨_, _, _, z, _⟩
    all_goals (rcases r with r | ⟨_, r⟩ <;> rw [z] at r <;> cases r)
theorem chN_star {a : Xn} (h : chN C a e = true) : notStar e = true := by
  cases a with
  | e bs a => exact chE_star h
  | _ =>
    cases e with
    | Starred v p => simp only [chN] at h; cases h
    | _ => rfl
structure SoN (a : Xn) : Prop where
  run : ∀ {X : Cx} {C : Ct} {Γ : List DSp} {H0 : Hp} {e : Expr}, Ev X C Γ → chN C a e = true → ∀ {xw : List S → XD} {δ : List S}, Xc X H0 xw →
  (∀ k, wpn Γ a δ (xw δ) k → WN X H0 e δ k) ∧ ∀ k, wpT Γ a δ xw k → WT X H0 e δ k
structure SoNL (as : Xnl) : Prop where
  run : ∀ {X : Cx} {C : Ct} {Γ : List DSp} {H0 : Hp} {es : List Expr}, Ev X C Γ → chNL C as es = true → ∀ {xw : List S → XD} {δ : List S}, Xc X H0 xw →
  (∀ k, wpns Γ as δ (xw δ) k → WNs X H0 es δ fun ts => ts.length = es.length ∧ k ts) ∧ ∀ k, wpTs Γ as δ xw k → WTs X H0 es δ k
theorem wn_mono {k k' : Tr → Prop} (h : WN X H0 e δ k) (m : ∀ t, k t → k' t) : WN X H0 e δ k' := fun σ G R => (h σ G R).mono fun v G' ⟨t, n, q⟩ => ⟨t, n, m t q⟩
theorem wns_mono {es : List Expr} {k k' : List Tr → Prop} (h : WNs X H0 es δ k) (m : ∀ t, k t → k' t) : WNs X H0 es δ k' := fun σ G H vs ts ls R0 R => (h σ G H vs ts ls R0 R).mono fun v G' ⟨us, ls', R', q⟩ => ⟨us, ls', R', m us q⟩
theorem wt_mono {k k' : Tr → List S → Prop} (h : WT X H0 e δ k) (m : ∀ t δ, k t δ → k' t δ) : WT X H0 e δ k' := fun B σ H own vs ts ls hB R => (h B σ H own vs ts ls hB R).mono fun v H' ⟨t, δ', own', l, R', e1, q⟩ => ⟨t, δ', own', l, R', e1, m t δ' q⟩
end
mutual
theorem so_n : ∀ a : Xn, SoN a
  | .e bs a => .mk <| by
    intro X C Γ H0 e E h xw δ hx
    have A : ∀ {δ}, (∀ k, wpe Γ a δ (xw δ) (.e k) → Wu X H0 e δ k) := fun {δ} => ((so_e a).run E h hx (xw := xw) (δ := δ)).1
    cases bs with
    | nil => exact ⟨fun k q => wn_wu fun {σ G} R => A _ q σ G R, fun k q => wt_wn (wn_wu fun {σ G} R => A _ q σ G R)⟩
    | cons b bs =>
      exact ⟨fun k q => q.elim, fun k q => wt_view (bs := b :: bs) (we_wu (k := fun d => FlatN d ∧ k (.sh d) δ) (((so_e a).run E h hx (xw := xw) (δ := bor (b :: bs) δ)).1 _ q))⟩
  | .lst as => .mk <| by
    intro X C Γ H0 e E h xw δ hx
    unfold chN at h
    split at h
    · obtain ⟨h1, h2⟩ := and3 h
      have A := (so_nl as).run E h2 hx (xw := xw) (δ := δ)
      exact ⟨fun k q => wn_lst (A.1 _ q) h1, fun k q => wt_lst (A.2 _ q) h1⟩
    · cases h
  | .lc v elt it => .mk <| by
    intro X C Γ H0 e E h xw δ hx
    unfold chN at h
    split at h
    · rename_i l x p itr sc pos
      obtain ⟨h1, h⟩ := and3 h
      obtain ⟨h2, h⟩ := and3 h
      obtain ⟨h3, h⟩ := and3 h
      obtain ⟨h4, h5⟩ := and3 h
      have W : ∀ k : Tr → Prop, wpi Γ it δ (xw δ) (fun n item => LctW n item (fun d q => wpn Γ elt (δ.set v (.sh d)) noX q) fun ts => k (.lst ts)) → WN X H0 (.ListComp l [⟨.Name x p, itr, [], 0⟩] sc pos) δ k := fun k q => wn_lc v (by rw [E.N]; exact E.nd) (((so_i it).run E h4 hx (xw := xw) (δ := δ) _ q).mono fun n item z => by
        obtain ⟨R, a, b, c⟩ := z
        exact ⟨R, a, fun i hi s hh C' cl fp => ((so_n elt).run (E.blk) h5 (xw := fun _ => noX) (δ := δ.set v (.sh (item i))) xc0).1 _ (b i hi), c⟩) E.calm (by rw [E.N, E.sc]; exact h1) (by rw [E.N]; exact of_decide_eq_true h2) (fun cl C' => by
        show (relS _ _).names.lookup _ = _
        rw [E.sc]
        exact of_decide_eq_true h3) (chI_set h4 _)
      exact ⟨fun k q => W k q, fun k q => wt_wn (W _ q)⟩
    · cases h
  | .mv i => .mk <| by
    intro X C Γ H0 e E h xw δ hx
    unfold chN at h
    split at h
    · refine ⟨fun k q => q.elim, fun k q => ?_⟩
      have q : moD δ[i]? fun t => k t (δ.set i .no) := q
      unfold moD at q
      split at q
      · rename_i ds hd
        exact wt_mv i hd rfl q (E.vis h)
      · rename_i ts hd
        exact wt_mv i hd rfl q (E.vis h)
      · exact q.elim
    · cases h
theorem so_nl : ∀ as : Xnl, SoNL as
  | .nil => .mk <| by
    intro X C Γ H0 es E h xw δ hx
    rw [chNL, List.isEmpty_iff] at h
    subst h
    exact ⟨fun k q => wns_nil ⟨rfl, q⟩, fun k q => wts_nil q⟩
  | .cons a as => .mk <| by
    intro X C Γ H0 es E h xw δ hx
    unfold chNL at h
    split at h
    · obtain ⟨h1, h2⟩ := and3 h
      have A := (so_n a).run E h1 hx (xw := xw) (δ := δ)
      refine ⟨fun k q => wns_cons (wn_mono (A.1 _ q) fun t z => wns_mono (((so_nl as).run E h2 hx (xw := xw) (δ := δ)).1 _ z) fun ts y => ⟨by rw [List.length_cons, List.length_cons, y.1], y.2⟩) (chN_star h1), fun k q => wts_cons (wt_mono (A.2 _ q) fun t δ' z => ((so_nl as).run E h2 hx (xw := xw) (δ := δ')).2 _ z) (chN_star h1)⟩
    · cases h
end
theorem pth_mono {X : Cx} {H0 : Hp} {o : Expr} {δ : List S} {i : Nat} {k k' : List Nat → List Tr → Prop} (h : PthW X H0 o δ i k) (m : ∀ π us, k π us → k' π us) : PthW X H0 o δ i k' := fun B σ H own vs ts ls hB R =>
  (h B σ H own vs ts ls hB R).mono fun v H' ⟨R', ts0, root, π, q, us, a, b, c, d, e, f⟩ => ⟨R', ts0, root, π, q, us, a, b, c, d, e, m _ _ f⟩
theorem natD_inv {d : D} {k : Nat → Prop} (h : natD d k) : ∃ j : Nat, d = .int j ∧ k j := by
  unfold natD at h
  split at h
  · obtain ⟨j, e, q⟩ := h.ex
    exact ⟨j, by rw [e], q⟩
  · exact h.elim
theorem so_p {X : Cx} {C : Ct} {Γ : List DSp} {H0 : Hp} : ∀ (p : Xp) {i : Nat} {e : Expr}, Ev X C Γ → chP C p i e = true → ∀ {xw : List S → XD} {δ : List S}, Xc X H0 xw → ∀ {k : List Nat → List Tr → Prop}, wpp Γ p i δ xw k → PthW X H0 e δ i k
  | .nm, i, e, E, h, xw, δ, hx, k, q => by
    unfold chP at h
    split at h
    · have q : trO δ[i]? fun ts => k [] ts := q
      unfold trO at q
      split at q
      · rename_i ts hd
        exact pth_var i hd q (E.vis h)
      · exact q.elim
    · cases h
  | .sub p bs ix, i, e, E, h, xw, δ, hx, k, q => by
    unfold chP at h
    split at h
    · obtain ⟨h1, h2⟩ := and3 h
      refine pth_sub (δ' := bor bs δ) vw_bor ?_ (chE_ix h2)
      have P := so_p p E h1 hx (xw := xw) (δ := δ) (k := fun π us => wpe Γ ix (bor bs δ) (xw (bor bs δ)) (.e fun q => natD q.d fun j => SubW us j fun ws => k (π ++ [j]) ws)) q
      refine pth_mono P fun π us z => ((we_wu (k := fun d => natD d fun j => SubW us j fun ws => k (π ++ [j]) ws) (((so_e ix).run E h2 hx (xw := xw) (δ := bor bs δ)).1 _ z)).mono fun d y => ?_)
      obtain ⟨j, rfl, ⟨ws, a, b⟩⟩ := natD_inv y
      exact ⟨j, rfl, ws, a, b⟩
    · cases h
end DL
set_option Elab.async false
set_option linter.all false
set_option maxRecDepth 100000
set_option maxHeartbeats 4000000
/-! The deep machine, part f: statements are sound; a def. -/
namespace DL
open PySem PySem.Spec PyProof.Rows L2
def locB (C : Ct) (i : Nat) (x : Str) : Bool := decide (C.N[i]? = some x) && (decide (C.sc.names.lookup x = some .local) || decide (C.sc.names.lookup x = some .cell))
def locsB (C : Ct) : List Nat → List Expr → Bool
  | [], es => es.isEmpty
  | i :: is, es => match es with
    | .Name x _ :: r => locB C i x && locsB C is r
    | _ => false
def chT (C : Ct) : Xt → Expr → Bool
  | .nm i, e => match e with
    | .Name x _ => locB C i x
    | _ => false
  | .tup is, e => match e with
    | .Tuple es _ _ => locsB C is es
    | _ => false
def swB (C : Ct) (x : Str) (p : Pos) (e : Expr) : Bool := match e with
  | .ListComp _ _ s pos => (C.sc.kind == .function && C.sc.names.lookup x == some .local && p.line == pos.line && !(s.names.any fun (n, k) => n == x && (k == .local || k == .cell)))
  | _ => false
def notName : Expr → Bool
  | .Name .. => false
  | _ => true
def notTup : Expr → Bool
  | .Tuple .. => false
  | _ => true
def compN : Xn → Expr → Bool
  | .e _ a, _ => !isComp a
  | .lc .., _ => true
  | _, e => match e with
    | .ListComp .. => false
    | .SetComp .. => false
    | .DictComp .. => false
    | _ => true
mutual
def chS (C : Ct) : Xs → Stmt → Bool
  | .set i own bs e, st => match st with
    | .Assign [.Name x p] ex pos => locB C i x && chE C e ex
    | _ => false
  | .setIx i j e, st => match st with
    | .Assign [.Name x p] (.Subscript (.Name y p1) ix ps) pos => locB C i x && (visB C j y && chE C e ix)
    | _ => false
  | .asg t bs e, st => match st with
    | .Assign [tg] ex pos => chT C t tg && (!notTup tg && (notTup ex && chE C e ex))
    | _ => false
  | .ite bs c t e, st => match st with
    | .If cx a b _ => chE C c cx && (chB C t a && chB C e b)
    | _ => false
  | .itj dd bs c t e, st => match st with
    | .If cx a b _ => chE C c cx && (chB C t a && chB C e b)
    | _ => false
  | .ret bs e, st => match st with
    | .Return (some ex) _ => chE C e ex
    | _ => false
  | .retO i, st => match st with
    | .Return (some (.Name x _)) _ => visB C i x
    | _ => false
  | .retN, st => match st with
    | .Return none _ => true
    | _ => false
  | .app i bs e, st => match st with
    | .Expr (.Call (.Attribute (.Name x px) at_ apos) [ex] [] cpos) _ => visB C i x && (decide (at_ = ("append" : Str)) && ((apos.endLine == cpos.line) && chE C e ex))
    | _ => false
  | .sti i bs e ix, st => match st with
    | .Assign [.Subscript (.Name x px) ixe spos] ex pos => visB C i x && (chE C e ex && chE C ix ixe)
    | _ => false
  | .expr bs e, st => match st with
    | .Expr ex _ => !isComp e && chE C e ex
    | _ => false
  | .for_ dd bs t it body, st => match st with
    | .For tg itx sts [] _ => chT C t tg && (chI C it itx && chB C body sts)
    | _ => false
  | .whl dd bs c body, st => match st with
    | .While cx sts [] _ => chE C c cx && chB C body sts
    | _ => false
  | .fst i f bs e, st => match st with
    | .Assign [.Attribute (.Name x p) f' p2] ex pos => visB C i x && (decide (f' = f) && chE C e ex)
    | _ => false
  | .setT i e, st => match st with
    | .Assign [.Name x p] ex pos => locB C i x && (chN C e ex && compN e ex)
    | _ => false
  | .retT e, st => match st with
    | .Return (some ex) _ => chN C e ex
    | _ => false
  | .appT i p e, st => match st with
    | .Expr (.Call (.Attribute o at_ apos) [ex] [] cpos) _ => chP C p i o && (decide (at_ = ("append" : Str)) && ((apos.endLine == cpos.line) && chN C e ex))
    | _ => false
  | .stiT i p bs ix e, st => match st with
    | .Assign [.Subscript o ixe spos] ex pos => chP C p i o && (chE C ix ixe && chN C e ex)
    | _ => false
  | .brk, st => match st with
    | .Break _ => true
    | _ => false
  | .cnt, st => match st with
    | .Continue _ => true
    | _ => false
  | .pass, st => match st with
    | .Pass _ => true
    | _ => false
def chB (C : Ct) : Xb → List Stmt → Bool
  | .nil, sts => sts.isEmpty
  | .cons s r, sts => match sts with
    | st :: rest => chS C s st && chB C r rest
    | [] => false
end
/-- a def's body runs -/
structure Es (X : Cx) (C : Ct) (Γ : List DSp) : Prop where
  ev : Ev X C Γ
  fn : ∀ x, X.fn x = true
  hp : PassesOwn (model X.prog X.w) X.A X.env X.xe
  kind : C.sc.kind = .function
section
variable {X : Cx} {C : Ct} {Γ : List DSp} {H0 : Hp} {δ δ' : List S} {e c it : Expr} {pos p : Pos} {E : Ed}
theorem owL_inv {o : Option S} {k : List D → Prop} (h : owL o k) : ∃ ds, o = some (.ow (.lst ds)) ∧ k ds := by
  unfold owL at h
  split at h
  · exact ⟨_, rfl, h⟩
  · exact h.elim
theorem keepW_mono {bs : List Nat} {r : S} {k k' : List S → Prop} (h : keepW bs r δ k) (m : ∀ δ, k δ → k' δ) : keepW bs r δ k' := by
  cases bs with
  | nil => exact m _ h
  | cons j js =>
    rcases h.ex with ⟨a, b⟩ | b
    · exact ⟨.inl ⟨a, m _ b⟩⟩
    · exact ⟨.inr (m _ b)⟩
theorem tup_name (h : notTup e = false) (h2 : notName e = false) : False := by cases e <;> first | (cases h; done) | cases h2
theorem nn_tup (h : notTup e = false) : notName e = true := by cases e <;> first | (cases h; done) | rfl
theorem sub_asg {a : Xe} {o ix : Expr} {p : Pos} {env : Env} {v : Value} (h : chE C a ix = true) : assign (.Subscript o ix p) env v = (do
    let ov ← holding [v] (eval o env)
    let iv ← holding [v, ov] (eval ix env)
    standAt p
    holding [v, ov, iv] (setItem ov iv v)
    release [v, ov, iv] []) := by
  cases ix with
  | Slice v p q => cases a <;> (simp only [chE] at h; cases h)
  | _ => rfl
theorem wg_mono {tg : Expr} {d : D} {k k' : List S → Prop} (h : Wg X H0 tg d δ k) (m : ∀ δ, k δ → k' δ) : Wg X H0 tg d δ k' := fun B σ H own v hB R iv => (h B σ H own v hB R iv).mono fun σ' H' ⟨δ', own', R', q⟩ => ⟨δ', own', R', m _ q⟩
theorem ws_forRx {e : Expr} {sts : List Stmt} {E : En} (hm : X.mg "range" = none) (hp : PassesOwn (model X.prog X.w) X.A X.env X.xe) (hc : X.calm = true) {tg : Expr} {pr pc : Pos} (hv : Vw δ δ')
    (h : Wa X H0 [e] δ' (fun ds => A1 ds fun x => I1 x fun n => (-(2 ^ 62) ≤ n ∧ n < 2 ^ 62) ∧ ∃ Iv : Nat → List S → Prop, Upto (Iv 0) δ ∧ (∀ (i : Nat) δ1, i < n.toNat → Iv i δ1 → Wg X H0 tg (.int (i : Int)) δ1 fun δ2 => Wb X H0 sts δ2 (turnE E (Iv (i + 1)))) ∧ (∀ δ1, Iv n.toNat δ1 → E.nx δ1)))
    (hg : Gl X "range") (hs1 : notStar e = true) : Ws X H0 (.For tg (.Call (.Name "range" pr) [e] [] pc) sts [] pos) δ E := fun B σ H own hB R =>
  toS (ps_for hp hc (pi_range1 hg hm pa_sem (star_of hs1)) pg_sem pb_sem (fun _ => rfl)) ((h.atV hv hB R).mono fun vs H1 ⟨ds, R1, is, x, ed, n, ex, ⟨b1, b2⟩, Iv, h0, ht, he⟩ => by
    subst ed ex
    obtain ⟨v, rfl, i⟩ := is.one
    cases i
    refine ⟨n, rfl, b1, b2, for_range (lo := 0) (n := n.toNat) (fun i σ H => ∃ δ own, Rel X.K B σ H δ own ∧ Upto (Iv i) δ) ⟨δ, own, R1, h0⟩ (fun i σ' H' hi ⟨δ1, own1, R', δ2, hv2, q⟩ => ?_) (fun σ' H' ⟨δ1, own1, R', δ2, hv2, q⟩ => ⟨_, _, (R'.view hv2).1, he _ q⟩)⟩
    rw [Int.zero_add]
    exact (ht i δ2 hi q B σ' H' _ _ hB (R'.view hv2).1 (.int _)).mono fun σ3 H3 ⟨δ3, own3, R3, q3⟩ => q3 B σ3 H3 own3 hB R3)
theorem ws_forRx2 {e e2 : Expr} {sts : List Stmt} {E : En} (hm : X.mg "range" = none) (hp : PassesOwn (model X.prog X.w) X.A X.env X.xe) (hc : X.calm = true) {tg : Expr} {pr pc : Pos} (hv : Vw δ δ')
    (h : Wa X H0 [e, e2] δ' (fun ds => A2 ds fun x y => I2 x y fun m n => (-(2 ^ 62) ≤ m ∧ m < 2 ^ 62 ∧ -(2 ^ 62) ≤ n ∧ n < 2 ^ 62) ∧ ∃ Iv : Nat → List S → Prop, Upto (Iv 0) δ ∧ (∀ (i : Nat) δ1, i < (n - m).toNat → Iv i δ1 → Wg X H0 tg (.int (m + (i : Int))) δ1 fun δ2 => Wb X H0 sts δ2 (turnE E (Iv (i + 1)))) ∧ (∀ δ1, Iv (n - m).toNat δ1 → E.nx δ1)))
    (hg : Gl X "range") (hs1 : notStar e = true) (hs2 : notStar e2 = true) : Ws X H0 (.For tg (.Call (.Name "range" pr) [e, e2] [] pc) sts [] pos) δ E := fun B σ H own hB R =>
  toS (ps_for hp hc (pi_range2 hg hm pa_sem ((star_of hs1).trans (congrArg _ (star_of hs2))) (star_of hs2)) pg_sem pb_sem (fun _ => rfl)) ((h.atV hv hB R).mono fun vs H1 ⟨ds, R1, is, x, y, ed, m, n, ex, ey, bb, Iv, h0, ht, he⟩ => by
    subst ed ex ey
    obtain ⟨v, w, rfl, i, j⟩ := is.two
    cases i
    cases j
    refine ⟨m, n, rfl, bb, for_range (lo := m) (n := (n - m).toNat) (fun i σ H => ∃ δ own, Rel X.K B σ H δ own ∧ Upto (Iv i) δ) ⟨δ, own, R1, h0⟩ (fun i σ' H' hi ⟨δ1, own1, R', δ2, hv2, q⟩ => ?_) (fun σ' H' ⟨δ1, own1, R', δ2, hv2, q⟩ => ⟨_, _, (R'.view hv2).1, he _ q⟩)⟩
    exact (ht i δ2 hi q B σ' H' _ _ hB (R'.view hv2).1 (.int _)).mono fun σ3 H3 ⟨δ3, own3, R3, q3⟩ => q3 B σ3 H3 own3 hB R3)
theorem Es.loc (SS : Es X C Γ) {i : Nat} {x : Str} (h : locB C i x = true) : X.N[i]? = some x ∧ L2.Loc X.env.scope x := by
  obtain ⟨h1, h2⟩ := and3 h
  refine ⟨by rw [SS.ev.N]; exact of_decide_eq_true h1, ?_⟩
  show X.env.scope.names.lookup x = _ ∨ X.env.scope.names.lookup x = _
  rw [SS.ev.sc]
  rcases Bool.or_eq_true_iff.mp h2 with z | z
  · exact .inl (of_decide_eq_true z)
  · exact .inr (of_decide_eq_true z)
theorem Es.nd (SS : Es X C Γ) : X.N.Nodup := by rw [SS.ev.N]; exact SS.ev.nd
theorem sw_no {a : Xe} (h : chE C a e = true) (hc : isComp a = false) (t : Option Expr) (l : Nat) (env : Env) : swapsWith e t l env = pure false := by
  cases e with
  | ListComp v p q => cases a <;> first | (cases hc; done) | (simp only [chE] at h; cases h)
  | SetComp v p q => cases a <;> (simp only [chE] at h; cases h)
  | DictComp v p q => cases a <;> (simp only [chE] at h; cases h)
  | _ => rfl
theorem lstT_inv {t : Tr} {k : List Tr → Prop} (h : lstT t k) : ∃ us, t = .lst us ∧ k us := by
  unfold lstT at h
  split at h
  · exact ⟨_, rfl, h⟩
  · exact h.elim
theorem trO_inv {o : Option S} {k : List Tr → Prop} (h : trO o k) : ∃ ts, o = some (.ow (.tr ts)) ∧ k ts := by
  unfold trO at h
  split at h
  · exact ⟨_, rfl, h⟩
  · exact h.elim
theorem sw_att {o : Expr} {f : Str} {p2 : Pos} (l : Nat) (env : Env) : swapsWith e (some (.Attribute o f p2)) l env = pure false := by
  cases e with
  | ListComp v p q => rfl
  | SetComp v p q => rfl
  | DictComp v p q => rfl
  | _ => rfl
theorem chP_nc {C : Ct} {p : Xp} {i : Nat} {e : Expr} (h : chP C p i e = true) : notCall e = true := by
  cases e with
  | Call v q r s => cases p <;> (simp only [chP] at h; cases h)
  | _ => rfl
theorem sw_sole {tg : Expr} (h : notName tg = true) (l : Nat) (env : Env) : swapsWithSole [tg] e l env = pure false := by
  show swapsWith e (some tg) l env = pure false
  cases e with
  | ListComp v p q => cases tg <;> first | rfl | cases h
  | SetComp v p q => cases tg <;> first | rfl | cases h
  | DictComp v p q => cases tg <;> first | rfl | cases h
  | _ => rfl
theorem locs_ok (SS : Es X C Γ) : ∀ {is : List Nat} {es : List Expr}, locsB C is es = true → ((assignEach es X.env).length = es.length ∧ (assignEach es X.env).findIdx? (·.1) = none) ∧ ∀ {ds : List D} {δ : List DL.S} {k : List DL.S → Prop}, setAll is ds δ k → ds.length = es.length ∧ Wgs X H0 es ds δ k
  | [], es, h => by
    rw [locsB, List.isEmpty_iff] at h
    subst h
    refine ⟨⟨rfl, rfl⟩, fun {ds δ k} q => ?_⟩
    cases ds with
    | nil => exact ⟨rfl, wgs_nil q⟩
    | cons d ds => exact q.elim
  | i :: is, es, h => by
    unfold locsB at h
    split at h
    · obtain ⟨h1, h2⟩ := and3 h
      obtain ⟨⟨a1, a2⟩, a3⟩ := locs_ok SS h2
      refine ⟨⟨?_, ?_⟩, fun {ds δ k} q => ?_⟩
      · show (assignEach _ X.env).length + 1 = _
        rw [a1]; rfl
      · show List.findIdx? _ ((false, _) :: assignEach _ X.env) = none
        rw [List.findIdx?_cons, a2]; rfl
      · cases ds with
        | nil => exact q.elim
        | cons d ds =>
          obtain ⟨l, w⟩ := a3 q
          obtain ⟨n1, n2⟩ := SS.loc h1
          exact ⟨by rw [List.length_cons, List.length_cons, l], wgs_cons (wg_name i SS.nd w n1 n2 (.inl (SS.fn _))) fun a b => pgs_cons a b rfl⟩
    · cases h
theorem wg_t (SS : Es X C Γ) {t : Xt} {tg : Expr} (h : chT C t tg = true) {d : D} {k : List S → Prop} (q : wpt t d δ k) : Wg X H0 tg d δ k := by
  cases t with
  | nm i =>
    simp only [chT] at h
    split at h
    · obtain ⟨n1, n2⟩ := SS.loc h
      exact wg_name i SS.nd q n1 n2 (.inl (SS.fn _))
    · cases h
  | tup is =>
    simp only [chT] at h
    split at h
    · obtain ⟨⟨a1, a2⟩, a3⟩ := locs_ok (H0 := H0) SS h
      cases d with
      | sq l ds =>
        obtain ⟨n, w⟩ := a3 q
        exact wg_both SS.ev.calm w (by rw [a1, n]) a2
      | _ => exact q.elim
    · cases h
theorem swappedN {tg : Expr} (h : notTup e = true) (env : Env) : swappedStores [tg] e env = pure none := by
  cases e <;> first | (cases h; done) | (cases tg <;> rfl)
theorem asg_one {tg : Expr} (h : notTup tg = false) (env : Env) : (assignEach [tg] env).map (·.2) = [assign tg env] := by
  cases tg <;> first | rfl | cases h
theorem sw_eq {el : Expr} {gs : List Comprehension} {sc : Scope} {x : Str} {p' : Pos} (SS : Es X C Γ) (l : Nat) :
    swapsWith (.ListComp el gs sc pos) (some (.Name x p')) l X.env = pure (swB C x p' (.ListComp el gs sc pos)) := by
  have e0 : X.env.blockKind = .function := by
    unfold Env.blockKind
    rw [SS.ev.sc, SS.kind]; rfl
  show pure (X.env.blockKind == .function && X.env.kindOf x == some .local && p'.line == pos.line && !(sc.names.any fun (n, k) => n == x && (k == .local || k == .cell))) = _
  rw [e0]
  show pure (_ && X.env.scope.names.lookup x == some .local && _ && _) = _
  rw [SS.ev.sc]
  show _ = pure (C.sc.kind == .function && _ && _ && _)
  rw [SS.kind]
theorem sw_loc {C : Ct} {x : Str} {p : Pos} {e : Expr} (h : swB C x p e = true) : C.sc.names.lookup x = some .local := by
  unfold swB at h
  split at h
  · obtain ⟨h, _⟩ := and3 h
    obtain ⟨h, _⟩ := and3 h
    obtain ⟨_, h⟩ := and3 h
    exact eq_of_beq h
  · cases h
theorem so_setlc {i v : Nat} {x : Str} {p pos : Pos} {ex : Expr} {own : Bool} {elt : Xe} {it : Xi} {xw : List S → XD} {E : En} (SS : Es X C Γ) (h : chE C (.lc v elt it) ex = true) (n1 : X.N[i]? = some x) (n2 : L2.Loc X.env.scope x) (hx : Xc X H0 xw)
    (q : wpe Γ (.lc v elt it) δ (xw δ) (.e fun r => E.nx (δ.set i (putS own r)))) : Ws X H0 (.Assign [.Name x p] ex pos) δ E := by
  have A := ((so_e (.lc v elt it)).run SS.ev h hx (δ := δ)).1 _ q
  unfold chE at h
  split at h
  · rename_i l y py itr sc pos'
    cases hb : swB C x p (.ListComp l [⟨.Name y py, itr, [], 0⟩] sc pos') with
    | false => exact ws_setU i (bs := []) SS.nd A n1 n2 (by rw [sw_eq SS, hb]) (.inl (SS.fn _))
    | true =>
      have hl : X.env.scope.names.lookup x = some .local := by rw [SS.ev.sc]; exact sw_loc hb
      obtain ⟨h1, h⟩ := and3 h
      obtain ⟨h2, h⟩ := and3 h
      obtain ⟨h3, h⟩ := and3 h
      obtain ⟨h4, h5⟩ := and3 h
      have hsw : swapsWith (.ListComp l [⟨.Name y py, itr, [], 0⟩] sc pos') (some (.Name x p)) pos.line X.env = pure true := by rw [sw_eq SS, hb]
      have hbk : blkB X.N X.env.scope sc y v = true := by rw [SS.ev.N, SS.ev.sc]; exact h1
      have hv : X.N[v]? = some y := by rw [SS.ev.N]; exact of_decide_eq_true h2
      have hlk : ∀ cl C', (compEnvC sc cl C' X.env).scope.names.lookup y = some .local := fun cl C' => by
        show (relS _ _).names.lookup _ = _
        rw [SS.ev.sc]
        exact of_decide_eq_true h3
      have W := (so_i it).run SS.ev h4 hx (δ := δ) _ q
      cases own with
      | true => exact ws_setLcO i v SS.nd (W.mono fun n item ⟨R, a, b, c⟩ => ⟨R, a, fun i hi s hh C' cl fp => we_wu (k := R i) (((so_e elt).run (SS.ev.blk) h5 (xw := fun _ => noX) (δ := δ.set v (.sh (item i))) xc0).1 _ (b i hi)), c⟩) SS.ev.calm hbk hv hlk n1 hl hsw (chI_set h4 _)
      | false => exact ws_setLc i v SS.nd (W.mono fun n item ⟨R, a, b, c⟩ => ⟨R, a, fun i hi s hh C' cl fp => we_wu (k := R i) (((so_e elt).run (SS.ev.blk) h5 (xw := fun _ => noX) (δ := δ.set v (.sh (item i))) xc0).1 _ (b i hi)), c⟩) SS.ev.calm hbk hv hlk n1 hl hsw (chI_set h4 _)
  · cases h
theorem so_setlcf {i v : Nat} {x : Str} {p pos : Pos} {ex : Expr} {own : Bool} {elt c : Xe} {it : Xi} {xw : List S → XD} {E : En} (SS : Es X C Γ) (h : chE C (.lcf v elt it c) ex = true) (n1 : X.N[i]? = some x) (n2 : L2.Loc X.env.scope x) (hx : Xc X H0 xw)
    (q : wpe Γ (.lcf v elt it c) δ (xw δ) (.e fun r => E.nx (δ.set i (putS own r)))) : Ws X H0 (.Assign [.Name x p] ex pos) δ E := by
  have A := ((so_e (.lcf v elt it c)).run SS.ev h hx (δ := δ)).1 _ q
  unfold chE at h
  split at h
  · rename_i l y py itr t sc pos'
    cases hb : swB C x p (.ListComp l [⟨.Name y py, itr, [t], 0⟩] sc pos') with
    | false => exact ws_setU i (bs := []) SS.nd A n1 n2 (by rw [sw_eq SS, hb]) (.inl (SS.fn _))
    | true =>
      have hl : X.env.scope.names.lookup x = some .local := by rw [SS.ev.sc]; exact sw_loc hb
      obtain ⟨h1, h⟩ := and3 h
      obtain ⟨h2, h⟩ := and3 h
      obtain ⟨h3, h⟩ := and3 h
      obtain ⟨h4, h⟩ := and3 h
      obtain ⟨h5, h6⟩ := and3 h
      have hsw : swapsWith (.ListComp l [⟨.Name y py, itr, [t], 0⟩] sc pos') (some (.Name x p)) pos.line X.env = pure true := by rw [sw_eq SS, hb]
      have hbk : blkB X.N X.env.scope sc y v = true := by rw [SS.ev.N, SS.ev.sc]; exact h1
      have hv : X.N[v]? = some y := by rw [SS.ev.N]; exact of_decide_eq_true h2
      have hlk : ∀ cl C', (compEnvC sc cl C' X.env).scope.names.lookup y = some .local := fun cl C' => by
        show (relS _ _).names.lookup _ = _
        rw [SS.ev.sc]
        exact of_decide_eq_true h3
      have W := (so_i it).run SS.ev h4 hx (δ := δ) _ q
      have conv : ∀ {n item} {ko : List D → Prop}, LcfW n item (fun d q => wpe Γ c (δ.set v (.sh d)) noX (.t (q true) (q false))) (fun d q => wpe Γ elt (δ.set v (.sh d)) noX (.e fun r => q r.d)) ko → LCF X sc H0 t l δ v ko n item := fun {n item ko} z => by
        obtain ⟨tt, g, a, b, c'⟩ := z
        refine ⟨tt, g, a, fun i hi s hh C' cl fp => (((so_e c).run (SS.ev.blk) h6 (xw := fun _ => noX) (δ := δ.set v (.sh (item i))) xc0).2 _ _ (b i hi)).mono fun r z => ?_, c'⟩
        have zz : r = tt (item i) ∧ (r = true → wpe Γ elt (δ.set v (.sh (item i))) noX (.e fun r => r.d = g (item i))) := by
          cases r with
          | true => exact z.1 rfl
          | false => exact z.2 rfl
        exact ⟨zz.1, fun hr s2 hh2 C2 cl2 fp2 => we_wu (k := fun e => e = g (item i)) (((so_e elt).run (SS.ev.blk) h5 (xw := fun _ => noX) (δ := δ.set v (.sh (item i))) xc0).1 _ (zz.2 hr))⟩
      cases own with
      | true => exact ws_setLcfO i v SS.nd (W.mono fun n item z => conv z) SS.ev.calm hbk hv hlk n1 hl hsw (chI_set h4 _)
      | false => exact ws_setLcf i v SS.nd (W.mono fun n item z => conv z) SS.ev.calm hbk hv hlk n1 hl hsw (chI_set h4 _)
  · cases h
theorem so_setlct {i : Nat} {is : List Nat} {x : Str} {p pos : Pos} {ex : Expr} {own : Bool} {elt : Xe} {it : Xi} {xw : List S → XD} {E : En} (SS : Es X C Γ) (h : chE C (.lct is elt it) ex = true) (n1 : X.N[i]? = some x) (n2 : L2.Loc X.env.scope x) (hx : Xc X H0 xw)
    (q : wpe Γ (.lct is elt it) δ (xw δ) (.e fun r => E.nx (δ.set i (putS own r)))) : Ws X H0 (.Assign [.Name x p] ex pos) δ E := by
  have A := ((so_e (.lct is elt it)).run SS.ev h hx (δ := δ)).1 _ q
  unfold chE at h
  split at h
  · rename_i l es y1 py itr sc pos'
    cases hb : swB C x p (.ListComp l [⟨.Tuple es y1 py, itr, [], 0⟩] sc pos') with
    | false => exact ws_setU i (bs := []) SS.nd A n1 n2 (by rw [sw_eq SS, hb]) (.inl (SS.fn _))
    | true =>
      have hl : X.env.scope.names.lookup x = some .local := by rw [SS.ev.sc]; exact sw_loc hb
      obtain ⟨h1, h⟩ := and3 h
      obtain ⟨h2, h⟩ := and3 h
      obtain ⟨h3, h⟩ := and3 h
      obtain ⟨h4, h5⟩ := and3 h
      have hsw : swapsWith (.ListComp l [⟨.Tuple es y1 py, itr, [], 0⟩] sc pos') (some (.Name x p)) pos.line X.env = pure true := by rw [sw_eq SS, hb]
      have W := (so_i it).run SS.ev h4 hx (δ := δ) _ q
      have O : ∀ {E : En}, (∀ es, E.nx (δ.set i (.ow (.lst es))) = E.nx (δ.set i (.ow (.lst es)))) → Wi X H0 itr δ (LCt X sc H0 l δ is fun es => E.nx (δ.set i (.ow (.lst es)))) → Ws X H0 (.Assign [.Name x p] (.ListComp l [⟨.Tuple es y1 py, itr, [], 0⟩] sc pos') pos) δ E := fun {E} _ w =>
        ws_setLctO i SS.nd w SS.ev.calm (by rw [SS.ev.N, SS.ev.sc]; exact h1) (of_decide_eq_true h2) (by rw [SS.ev.N, SS.ev.sc]; exact h3) n1 hl hsw (chI_set h4 _)
      have conv : ∀ {n : Nat} {item : Nat → D} {k k' : List D → Prop}, LcW n item (fun d q => tgtD is d δ fun δ' => wpe Γ elt δ' noX (.e fun r => q r.d)) k → (∀ es, k es → k' es) → LCt X sc H0 l δ is k' n item := fun z m => by
        obtain ⟨R, a, b, c⟩ := z
        refine ⟨R, a, fun i hi => ?_, fun es p => m es (c es p)⟩
        obtain ⟨l0, ds, e1, e2, q2⟩ := tgtD_inv (b i hi)
        exact ⟨l0, ds, e1, e2, fun s hh C' cl fp => we_wu (k := R i) (((so_e elt).run (SS.ev.blk) h5 (xw := fun _ => noX) (δ := setL is ds δ) xc0).1 _ q2)⟩
      cases own with
      | true => exact O (fun _ => rfl) (W.mono fun n item z => conv z fun es p => p)
      | false => exact ws_post (O (E := { E with nx := fun δ' => ∃ δ'', Vw δ' δ'' ∧ E.nx δ'' }) (fun _ => rfl) (W.mono fun n item z => conv z fun es p => ⟨_, vw_set, p⟩))
  · cases h
theorem so_rng {P : Nat → (Nat → D) → Prop} {tg : Expr} {sts : List Stmt} {bs : List Nat} {a : Xe} {xw : List S → XD} {E : En} (SS : Es X C Γ) (h : chI C (.rng a) it = true) (hx : Xc X H0 xw) (q : wpi Γ (.rng a) (bor bs δ) (xw (bor bs δ)) P)
    (m : ∀ n, P n (fun i => .int (i : Int)) → ∃ Iv : Nat → List S → Prop, Upto (Iv 0) δ ∧ (∀ (i : Nat) δ1, i < n → Iv i δ1 → Wg X H0 tg (.int (i : Int)) δ1 fun δ2 => Wb X H0 sts δ2 (turnE E (Iv (i + 1)))) ∧ (∀ δ1, Iv n δ1 → E.nx δ1)) : Ws X H0 (.For tg it sts [] pos) δ E := by
  unfold chI at h
  split at h
  · obtain ⟨h1, h⟩ := and3 h
    obtain ⟨h2, h3⟩ := and3 h
    obtain rfl := of_decide_eq_true h1
    have A := ((so_e a).run SS.ev h3 hx (δ := bor bs δ)).1
    refine ws_forRx SS.ev.bi.range SS.hp SS.ev.calm (vw_bor (bs := bs)) (wa_cons (we_wu (k := fun d => Wa _ H0 [] (bor bs δ) fun ds => A1 (d :: ds) _) ((A _ q).mono fun r z => wa_nil (a1 ?_))) (chE_star h3)) (SS.ev.glo h2).1 (chE_star h3)
    cases hd : r.d with
    | int n => rw [hd] at z; exact i1 ⟨z.1, m _ z.2⟩
    | _ => rw [hd] at z; exact z.elim
  · cases h
theorem so_rng2 {P : Nat → (Nat → D) → Prop} {tg : Expr} {sts : List Stmt} {bs : List Nat} {a b : Xe} {xw : List S → XD} {E : En} (SS : Es X C Γ) (h : chI C (.rng2 a b) it = true) (hx : Xc X H0 xw) (q : wpi Γ (.rng2 a b) (bor bs δ) (xw (bor bs δ)) P)
    (m : ∀ (m : Int) n, P n (fun i => .int (m + (i : Int))) → ∃ Iv : Nat → List S → Prop, Upto (Iv 0) δ ∧ (∀ (i : Nat) δ1, i < n → Iv i δ1 → Wg X H0 tg (.int (m + (i : Int))) δ1 fun δ2 => Wb X H0 sts δ2 (turnE E (Iv (i + 1)))) ∧ (∀ δ1, Iv n δ1 → E.nx δ1)) : Ws X H0 (.For tg it sts [] pos) δ E := by
  unfold chI at h
  split at h
  · obtain ⟨h1, h⟩ := and3 h
    obtain ⟨h2, h⟩ := and3 h
    obtain ⟨h3, h4⟩ := and3 h
    obtain rfl := of_decide_eq_true h1
    have A := ((so_e a).run SS.ev h3 hx (δ := bor bs δ)).1
    have B := ((so_e b).run SS.ev h4 hx (δ := bor bs δ)).1
    refine ws_forRx2 SS.ev.bi.range SS.hp SS.ev.calm (vw_bor (bs := bs)) (wa_cons (we_wu (k := fun d => Wa _ H0 _ (bor bs δ) fun ds => A2 (d :: ds) _) ((A _ q).mono fun r z => wa_cons (we_wu (k := fun d => Wa _ H0 [] (bor bs δ) fun ds => A2 (r.d :: d :: ds) _) ((B _ z).mono fun r' z' => wa_nil (a2 ?_))) (chE_star h4))) (chE_star h3)) (SS.ev.glo h2).1 (chE_star h3) (chE_star h4)
    cases hd : r.d with
    | int n =>
      rw [hd] at z'
      cases hd' : r'.d with
      | int n' => rw [hd'] at z'; exact i2 ⟨z'.1, m _ _ z'.2⟩
      | _ => rw [hd'] at z'; exact z'.elim
    | _ => rw [hd] at z'; exact z'.elim
  · cases h
structure SoS (s : Xs) : Prop where
  run : ∀ {X : Cx} {C : Ct} {Γ : List DSp} {H0 : Hp} {st : Stmt}, Es X C Γ → chS C s st = true → ∀ {δ : List S} {E : Ed}, Xc X H0 E.xw → wps Γ s δ E → Ws X H0 st δ (toEn E)
structure SoB (s : Xb) : Prop where
  run : ∀ {X : Cx} {C : Ct} {Γ : List DSp} {H0 : Hp} {sts : List Stmt}, Es X C Γ → chB C s sts = true → ∀ {δ : List S} {E : Ed}, Xc X H0 E.xw → wpb Γ s δ E → Wb X H0 sts δ (toEn E)
end
mutual
theorem so_s : ∀ s : Xs, SoS s
  | .set i own bs e => .mk <| by
    intro X C Γ H0 st SS h δ E hx q
    unfold chS at h
    split at h
    · rename_i x p ex pos
      obtain ⟨h1, h2⟩ := and3 h
      obtain ⟨n1, n2⟩ := SS.loc h1
      have A := ((so_e e).run SS.ev h2 hx (δ := bor bs δ)).1
      cases hc : isComp e with
      | false =>
        simp only [wps, hc] at q
        exact ws_setU i SS.nd (A _ q) n1 n2 (sw_no h2 hc _ _ _) (.inl (SS.fn _))
      | true =>
        simp only [wps, hc] at q
        have w := A _ q
        refine ws_view (vw_bor (bs := bs)) ?_
        cases e with
        | lc v elt it => exact so_setlc SS h2 n1 n2 hx q
        | lcf v elt it c => exact so_setlcf SS h2 n1 n2 hx q
        | lct is elt it => exact so_setlct SS h2 n1 n2 hx q
        | _ => cases hc
    · cases h
  | .setIx i j e => .mk <| by
    intro X C Γ H0 st SS h δ E hx q
    unfold chS at h
    split at h
    · obtain ⟨h1, h⟩ := and3 h
      obtain ⟨h2, h3⟩ := and3 h
      obtain ⟨n1, n2⟩ := SS.loc h1
      have A := ((so_e e).run SS.ev h3 hx (δ := bor [j] δ)).1
      unfold wps at q
      obtain ⟨ds, hj, q⟩ := owL_inv q
      · refine ws_setIx i j SS.nd hj (vw_bor (bs := [j])) ((we_wu (k := fun d => ixD (.sq true ds) d fun d => E.nx (δ.set i (.sh d))) (A _ q)).mono fun d z => ?_) n1 n2 (SS.ev.vis h2) (chE_ix h3) rfl (.inl (SS.fn _))
        cases d with
        | int m => obtain ⟨d', e1, e2⟩ := z; exact ⟨m, d', rfl, e1, e2⟩
        | _ => exact z.elim
    · cases h
  | .asg t bs e => .mk <| by
    intro X C Γ H0 st SS h δ E hx q
    unfold chS at h
    split at h
    · obtain ⟨h1, h⟩ := and3 h
      obtain ⟨h2, h⟩ := and3 h
      obtain ⟨h3, h4⟩ := and3 h
      have A := ((so_e e).run SS.ev h4 hx (δ := bor bs δ)).1
      rw [Bool.not_eq_true'] at h2
      have t2 := h2
      refine ws_asgU (bs := bs) ((A _ q).mono fun r z => keepW_mono z fun δ' z => wg_t SS h1 z) (sw_sole (nn_tup t2) _ _) (swappedN h3 _) (asg_one t2 _)
    · cases h
  | .ite bs c t e => .mk <| by
    intro X C Γ H0 st SS h δ E hx q
    unfold chS at h
    split at h
    · obtain ⟨h1, h⟩ := and3 h
      obtain ⟨h2, h3⟩ := and3 h
      exact ws_if (vw_bor (bs := bs)) ((((so_e c).run SS.ev h1 hx (δ := bor bs δ)).2 _ _ q).mono fun r z => ⟨fun hr => (so_b t).run SS h2 hx (z.1 hr), fun hr => (so_b e).run SS h3 hx (z.2 hr)⟩)
    · cases h
  | .itj dd bs c t e => .mk <| by
    intro X C Γ H0 st SS h δ E hx q
    unfold chS at h
    split at h
    · obtain ⟨h1, h⟩ := and3 h
      obtain ⟨h2, h3⟩ := and3 h
      obtain ⟨M, q, hM⟩ := q.ex
      have back : ∀ δ1, M (drp dd δ1) → ∃ δ2, Vw δ1 δ2 ∧ E.nx δ2 := fun δ1 z => ⟨_, vw_drp, hM _ z⟩
      refine ws_post (ws_if (vw_bor (bs := bs)) ((((so_e c).run SS.ev h1 (xw := E.xw) hx (δ := bor bs δ)).2 _ _ q).mono fun r z => ⟨fun hr => ?_, fun hr => ?_⟩))
      · exact ((so_b t).run SS h2 (E := { E with nx := fun δ => M (drp dd δ) }) hx (z.1 hr)).mono (fun δ1 z => back δ1 z) (fun _ _ z => z) (fun _ z => z) (fun _ z => z)
      · exact ((so_b e).run SS h3 (E := { E with nx := fun δ => M (drp dd δ) }) hx (z.2 hr)).mono (fun δ1 z => back δ1 z) (fun _ _ z => z) (fun _ z => z) (fun _ z => z)
    · cases h
  | .ret bs e => .mk <| by
    intro X C Γ H0 st SS h δ E hx q
    unfold chS at h
    split at h
    · exact ws_retU (bs := bs) (((so_e e).run SS.ev h hx (δ := bor bs δ)).1 _ q)
    · cases h
  | .retO i => .mk <| by
    intro X C Γ H0 st SS h δ E hx q
    unfold chS at h
    split at h
    · unfold wps retV at q
      split at q
      · rename_i o ho
        exact ws_retOwn i ho q (SS.ev.vis h)
      · rename_i d hd
        exact ws_ret (Vw.refl _) (we_var i hd q (SS.ev.vis h))
      · exact q.elim
    · cases h
  | .retN => .mk <| by
    intro X C Γ H0 st SS h δ E hx q
    unfold chS at h
    split at h
    · exact ws_retN q
    · cases h
  | .app i bs e => .mk <| by
    intro X C Γ H0 st SS h δ E hx q
    unfold chS at h
    split at h
    · obtain ⟨h1, h⟩ := and3 h
      obtain ⟨h2, h⟩ := and3 h
      obtain ⟨h3, h4⟩ := and3 h
      obtain rfl := of_decide_eq_true h2
      unfold wps at q
      obtain ⟨ds, hj, q⟩ := owL_inv q
      exact ws_appU i (((so_e e).run SS.ev h4 hx (δ := bor bs δ)).1 _ q) ⟨ds, hj⟩ (SS.ev.vis h1) h3 (chE_star h4)
    · cases h
  | .sti i bs e ix => .mk <| by
    intro X C Γ H0 st SS h δ E hx q
    unfold chS at h
    split at h
    · obtain ⟨h1, h⟩ := and3 h
      obtain ⟨h2, h3⟩ := and3 h
      refine ws_stiU i (bs := bs) (((so_e e).run SS.ev h2 hx (δ := bor bs δ)).1 _ q) (fun r δ' z => ?_) (pg_sub (SS.ev.vis h1) pe_sem set_list (fun v => ?_)) (sw_sole rfl _ _) rfl
      · obtain ⟨ds, hj, z⟩ := owL_inv z
        · exact ⟨ds, hj, we_wu (k := fun d => stiD i ds r.d d δ' E.nx) (((so_e ix).run SS.ev h3 hx (δ := bor bs δ')).1 _ z)⟩
      · exact sub_asg h3
    · cases h
  | .expr bs e => .mk <| by
    intro X C Γ H0 st SS h δ E hx q
    unfold chS at h
    split at h
    · obtain ⟨h1, h2⟩ := and3 h
      exact ws_expr (vw_bor (bs := bs)) (we_wu (k := fun _ => E.nx δ) (((so_e e).run SS.ev h2 hx (δ := bor bs δ)).1 _ q)) (sw_no h2 (by simpa using h1) _ _ _)
    · cases h
  | .for_ dd bs t it body => .mk <| by
    intro X C Γ H0 st SS h δ E hx q
    unfold chS at h
    split at h
    · obtain ⟨h1, h⟩ := and3 h
      obtain ⟨h2, h3⟩ := and3 h
      have turn : ∀ {n : Nat} {item : Nat → D} (Iv : Nat → List S → Prop), (∀ i δ1, i < n → Iv i δ1 → wpt t (item i) δ1 fun δ2 => wpb Γ body δ2 ⟨fun δ => Iv (i + 1) (drp dd δ), E.rt, E.nx, fun δ => Iv (i + 1) (drp dd δ), E.xw⟩) →
          ∀ (i : Nat) δ1, i < n → Iv i δ1 → Wg X H0 _ (item i) δ1 fun δ2 => Wb X H0 _ δ2 (turnE (toEn E) (Iv (i + 1))) := fun Iv ht i δ1 hi hI =>
        wg_mono (wg_t SS h1 (ht i δ1 hi hI)) fun δ2 z => ((so_b body).run SS h3 (E := ⟨fun δ => Iv (i + 1) (drp dd δ), E.rt, E.nx, fun δ => Iv (i + 1) (drp dd δ), E.xw⟩) hx z).mono (fun δ3 z => ⟨_, vw_drp, z⟩) (fun _ _ z => z) (fun _ z => z) (fun δ3 z => ⟨_, vw_drp, z⟩)
      cases it with
      | sq a =>
        have q : wpi Γ (.sq a) (bor bs δ) (E.xw (bor bs δ)) (fun n item => ForW n item dd (wpt t) (wpb Γ body) (bor bs δ) E) := q
        refine ws_view (vw_bor (bs := bs)) (ws_forQ SS.hp SS.ev.calm (((so_i (.sq a)).run SS.ev h2 hx (δ := bor bs δ) _ q).mono fun n item z => ?_) (chI_set h2 _))
        obtain ⟨Iv, i0, ht, he⟩ := z.ex
        exact ⟨Iv, ⟨_, vw_drp, i0⟩, turn Iv ht, he⟩
      | rng a =>
        have q : wpi Γ (.rng a) (bor bs δ) (E.xw (bor bs δ)) (fun n item => ForW n item dd (wpt t) (wpb Γ body) δ E) := q
        exact so_rng SS h2 hx q fun n z => by
          obtain ⟨Iv, i0, ht, he⟩ := z.ex
          exact ⟨Iv, ⟨_, vw_drp, i0⟩, turn Iv ht, he⟩
      | rng2 a b =>
        have q : wpi Γ (.rng2 a b) (bor bs δ) (E.xw (bor bs δ)) (fun n item => ForW n item dd (wpt t) (wpb Γ body) δ E) := q
        exact so_rng2 SS h2 hx q fun m n z => by
          obtain ⟨Iv, i0, ht, he⟩ := z.ex
          exact ⟨Iv, ⟨_, vw_drp, i0⟩, turn Iv ht, he⟩
    · cases h
  | .whl dd bs c body => .mk <| by
    intro X C Γ H0 st SS h δ E hx q
    unfold chS at h
    split at h
    · obtain ⟨h1, h2⟩ := and3 h
      obtain ⟨Iv, m0, i0, ht⟩ := q.ex
      refine ws_while SS.hp Iv m0 ⟨_, vw_drp, i0⟩ fun m δ1 hI => ⟨bor bs δ1, vw_bor, (((so_e c).run SS.ev h1 (xw := E.xw) hx (δ := bor bs δ1)).2 _ _ (ht m δ1 hI)).mono fun r z => ⟨fun hr => ?_, z.2⟩⟩
      exact ((so_b body).run SS h2 (E := ⟨fun δ => ∃ m', m' < m ∧ Iv m' (drp dd δ), E.rt, E.nx, fun δ => ∃ m', m' < m ∧ Iv m' (drp dd δ), E.xw⟩) hx (z.1 hr)).mono (fun δ3 ⟨m', l, z⟩ => ⟨m', l, _, vw_drp, z⟩) (fun _ _ z => z) (fun _ z => z) (fun δ3 ⟨m', l, z⟩ => ⟨m', l, _, vw_drp, z⟩)
    · cases h
  | .fst i f bs e => .mk <| by
    intro X C Γ H0 st SS h δ E hx q
    unfold chS at h
    split at h
    · obtain ⟨h1, h⟩ := and3 h
      obtain ⟨h2, h3⟩ := and3 h
      obtain rfl := of_decide_eq_true h2
      exact ws_fstU i (bs := bs) (((so_e e).run SS.ev h3 hx (δ := bor bs δ)).1 _ q) (SS.ev.vis h1) (sw_att _ _)
    · cases h
  | .setT i e => .mk <| by
    intro X C Γ H0 st SS h δ E hx q
    unfold chS at h
    split at h
    · rename_i x p ex pos
      obtain ⟨h1, h⟩ := and3 h
      obtain ⟨h2, h3⟩ := and3 h
      obtain ⟨n1, n2⟩ := SS.loc h1
      have A : ∀ k, wpT Γ e δ E.xw k → WT X H0 ex δ k := ((so_n e).run SS.ev h2 hx (δ := δ)).2
      have A := wt_mono (k' := fun t δ' => ∃ us, t = .lst us ∧ E.nx (δ'.set i (.ow (.tr us)))) (A _ q) fun t δ' z => lstT_inv z
      have plain : swapsWith ex (some (.Name x p)) pos.line X.env = pure false → Ws X H0 (.Assign [.Name x p] ex pos) δ (toEn E) := fun hs => ws_setW i SS.nd A n1 n2 hs (.inl (SS.fn _))
      cases e with
      | e bs a =>
        have h3 : isComp a = false := by simpa [compN] using h3
        exact plain (sw_no h2 h3 _ _ _)
      | lst as =>
        unfold chN at h2
        split at h2
        · exact plain rfl
        · cases h2
      | mv j =>
        unfold chN at h2
        split at h2
        · exact plain rfl
        · cases h2
      | lc v elt it =>
        unfold chN at h2
        split at h2
        · rename_i l y py itr sc pos' _ _
          cases hb : swB C x p (.ListComp l [⟨.Name y py, itr, [], 0⟩] sc pos') with
          | false => exact plain (by rw [sw_eq SS, hb])
          | true =>
            have hl : X.env.scope.names.lookup x = some .local := by rw [SS.ev.sc]; exact sw_loc hb
            obtain ⟨g1, h⟩ := and3 h2
            obtain ⟨g2, h⟩ := and3 h
            obtain ⟨g3, h⟩ := and3 h
            obtain ⟨g4, g5⟩ := and3 h
            have hsw : swapsWith (.ListComp l [⟨.Name y py, itr, [], 0⟩] sc pos') (some (.Name x p)) pos.line X.env = pure true := by rw [sw_eq SS, hb]
            exact ws_setLcT i v SS.nd (((so_i it).run SS.ev g4 hx (xw := E.xw) (δ := δ) _ q).mono fun n item z => by
              obtain ⟨R, a, b, c⟩ := z
              exact ⟨R, a, fun i hi s hh C' cl fp => ((so_n elt).run (SS.ev.blk) g5 (xw := fun _ => noX) (δ := δ.set v (.sh (item i))) xc0).1 _ (b i hi), fun ts e1 e2 => c ts e1 e2⟩) SS.ev.calm (by rw [SS.ev.N, SS.ev.sc]; exact g1) (by rw [SS.ev.N]; exact of_decide_eq_true g2) (fun cl C' => by
              show (relS _ _).names.lookup _ = _
              rw [SS.ev.sc]
              exact of_decide_eq_true g3) n1 hl hsw (chI_set g4 _)
        · cases h2
    · cases h
  | .retT e => .mk <| by
    intro X C Γ H0 st SS h δ E hx q
    unfold chS at h
    split at h
    · exact ws_retW (wt_mono (((so_n e).run SS.ev h hx (δ := δ)).2 _ q) fun t δ' z => lstT_inv z)
    · cases h
  | .appT i p e => .mk <| by
    intro X C Γ H0 st SS h δ E hx q
    unfold chS at h
    split at h
    · obtain ⟨h1, h⟩ := and3 h
      obtain ⟨h2, h⟩ := and3 h
      obtain ⟨h3, h4⟩ := and3 h
      obtain rfl := of_decide_eq_true h2
      refine ws_appW i (pth_mono (so_p p SS.ev h1 hx (δ := δ) (k := fun π us => us.length < 100000 ∧ wpT Γ e δ E.xw fun t δ' => trO δ'[i]? fun ts => subAt ts π = some us ∧ E.nx (δ'.set i (.ow (.tr (updAt ts π (us ++ [t])))))) q) fun π us z => ⟨z.1, wt_mono (((so_n e).run SS.ev h4 hx (δ := δ)).2 _ z.2) fun t δ' y => ?_⟩) (attr_plain (chP_nc h1)) h3 (chN_star h4)
      obtain ⟨ts, a, b⟩ := trO_inv y
      exact ⟨ts, a, b⟩
    · cases h
  | .stiT i p bs ix e => .mk <| by
    intro X C Γ H0 st SS h δ E hx q
    unfold chS at h
    split at h
    · obtain ⟨h1, h⟩ := and3 h
      obtain ⟨h2, h3⟩ := and3 h
      refine ws_stiW i (vw := bor bs) (fun δ => vw_bor) (wt_mono (((so_n e).run SS.ev h3 hx (δ := δ)).2 _ q) fun t δ' z => pth_mono (so_p p SS.ev h1 hx (δ := δ') z) fun π us y => ((we_wu (k := fun d => natD d fun j => j < us.length ∧ trO δ'[i]? fun ts => E.nx (δ'.set i (.ow (.tr (updAt ts π (us.set j t)))))) (((so_e ix).run SS.ev h2 hx (δ := bor bs δ')).1 _ y)).mono fun d w => ?_)) (pg_sub pe_sem pe_sem set_list (fun v => sub_asg h2)) (sw_sole rfl _ _) rfl
      obtain ⟨j, rfl, a, b⟩ := natD_inv w
      obtain ⟨ts, a2, b2⟩ := trO_inv b
      exact ⟨j, rfl, a, ts, a2, b2⟩
    · cases h
  | .brk => .mk <| by
    intro X C Γ H0 st SS h δ E hx q
    unfold chS at h
    split at h
    · exact ws_break q
    · cases h
  | .cnt => .mk <| by
    intro X C Γ H0 st SS h δ E hx q
    unfold chS at h
    split at h
    · exact ws_cont q
    · cases h
  | .pass => .mk <| by
    intro X C Γ H0 st SS h δ E hx q
    unfold chS at h
    split at h
    · exact ws_pass q
    · cases h
theorem so_b : ∀ s : Xb, SoB s
  | .nil => .mk <| by
    intro X C Γ H0 sts SS h δ E hx q
    rw [chB, List.isEmpty_iff] at h
    subst h
    exact wb_nil q
  | .cons s r => .mk <| by
    intro X C Γ H0 sts SS h δ E hx q
    unfold chB at h
    split at h
    · obtain ⟨h1, h2⟩ := and3 h
      exact wb_cons (((so_s s).run SS h1 (E := { E with nx := fun δ' => wpb Γ r δ' E }) hx q).mono (fun δ1 z => (so_b r).run SS h2 hx z) (fun _ _ z => z) (fun _ z => z) (fun _ z => z))
    · cases h
end
end DL
set_option Elab.async false
set_option linter.all false
set_option maxRecDepth 100000
set_option maxHeartbeats 4000000
/-! The deep machine, part g: a def; helps for the proofs over it. -/
namespace DL
open PySem PySem.Spec PyProof.Rows L2
/-- defs that are known, by their names -/
inductive FnL (P : Program) (w : World) (K : PySem.W.Frag) (mg : Str → Option Value) (base : Heap) (k : Nat) : List Str → List DSp → Prop
  | nil : FnL P w K mg base k [] []
  | cons {lvl : Nat} {x : Str} {ps : List Str} {T : DSp} {dds : List D} {fs : List Str} {Γ : List DSp} : Fn P w K mg base lvl x ps T dds → lvl ≤ k → FnL P w K mg base k fs Γ → FnL P w K mg base k (x :: fs) ((fun as => T (as ++ dds)) :: Γ)
  | cons0 {lvl : Nat} {x : Str} {ps : List Str} {T : DSp} {fs : List Str} {Γ : List DSp} : Fn P w K mg base lvl x ps T [] → lvl ≤ k → FnL P w K mg base k fs Γ → FnL P w K mg base k (x :: fs) (T :: Γ)
  | mk {lvl : Nat} {x : Str} {T : DSp} {fs : List Str} {Γ : List DSp} : Mf P w K mg base lvl x T → lvl + 1 ≤ k → FnL P w K mg base k fs Γ → FnL P w K mg base k (x :: fs) (T :: Γ)
theorem FnL.get {P : Program} {w : World} {K : PySem.W.Frag} {mg : Str → Option Value} {base : Heap} {k : Nat} {fs : List Str} {Γ : List DSp} (h : FnL P w K mg base k fs Γ) : ∀ (i : Nat) x T, fs[i]? = some x → Γ[i]? = some T → (∃ lvl ps T0 dds, Fn P w K mg base lvl x ps T0 dds ∧ lvl ≤ k ∧ ∀ as k x, T as k x → T0 (as ++ dds) k x) ∨ ∃ lvl, Mf P w K mg base lvl x T ∧ lvl + 1 ≤ k := by
  induction h with
  | nil => intro i x T h; cases h
  | cons F l _ ih =>
    intro i x T h1 h2
    cases i with
    | zero => cases h1; cases h2; exact .inl ⟨_, _, _, _, F, l, fun _ _ _ z => z⟩
    | succ i => exact ih i x T h1 h2
  | cons0 F l _ ih =>
    intro i x T h1 h2
    cases i with
    | zero => cases h1; cases h2; exact .inl ⟨_, _, _, _, F, l, fun as k x z => by rw [List.append_nil]; exact z⟩
    | succ i => exact ih i x T h1 h2
  | mk M l _ ih =>
    intro i x T h1 h2
    cases i with
    | zero => cases h1; cases h2; exact .inr ⟨_, M, l⟩
    | succ i => exact ih i x T h1 h2
theorem FnL.cov {P : Program} {w : World} {K : PySem.W.Frag} {mg : Str → Option Value} {base : Heap} {k : Nat} {fs : List Str} {Γ : List DSp} (h : FnL P w K mg base k fs Γ) : ∀ (i : Nat) x, fs[i]? = some x → ∃ T, Γ[i]? = some T := by
  induction h with
  | nil => intro i x h; cases h
  | cons F l _ ih =>
    intro i x h1
    cases i with
    | zero => exact ⟨_, rfl⟩
    | succ i => exact ih i x h1
  | cons0 F l _ ih =>
    intro i x h1
    cases i with
    | zero => exact ⟨_, rfl⟩
    | succ i => exact ih i x h1
  | mk M l _ ih =>
    intro i x h1
    cases i with
    | zero => exact ⟨_, rfl⟩
    | succ i => exact ih i x h1
def edOf (kk : S → Prop) (xx : XD) : Ed := ⟨fun _ => kk (.sh .non), kk, fun _ => False, fun _ => False, fun _ => xx⟩
/-- what is shown of a def's text: it keeps its promise -/
def Deep (Γ : List DSp) (N : List Str) (b : Xb) (T : DSp) : Prop := ∀ ds kk xx, T ds kk xx → wpb Γ b (startD N ds) (edOf kk xx)
section
variable {P : Program} {w : World} {K : PySem.W.Frag} {mg : Str → Option Value} {base : Heap} {x qual : Str} {params : Arguments} {body : List Stmt} {scope : Scope} {dvs : List V} {kws : List (Str × V)} {f : Addr} {fd : FuncData}
theorem fn_deep {N ps fs : List Str} {k : Nat} {T : DSp} {b : Xb} {math : Bool} {Γ : List DSp} (F : FunD K x qual params body scope dvs kws f fd) (S : FnScope N ps scope) (hN : ps.length ≤ N.length) (hlen : ∀ ds k x, T ds k x → ds.length = ps.length)
    (hch : chB ⟨N, scope, fs, math⟩ b body = true) (M : Bm mg) (hm : math = true → mg "gcd" = some (.builtin "math.gcd") ∧ mg "lcm" = some (.builtin "math.lcm")) (L : FnL P w K mg base k fs Γ) (hw : Deep Γ N b T) : FnOk P w K mg base (L2.CX P w) (k + 1) f fd ps (spD K T) :=
  fn_ok F S hN hlen fun cdv A outer s H E ds kk xx hr hT hx => by
    refine (so_b b).run (C := ⟨N, scope, fs, math⟩) (Γ := Γ) (E := edOf kk xx) ⟨⟨rfl, S.nd, rfl, rfl, M, hm, hr.units, L.cov, fun i x T h1 h2 => ?_⟩, fun _ => rfl, passes_of rfl, S.kind⟩ hch hx (hw ds kk xx hT)
    rcases L.get i x T h1 h2 with ⟨lvl, ps', T0, dds, F', l, c⟩ | ⟨lvl, M', l⟩
    · exact .fn F' (hr.mono l) c
    · exact .mk M' (hr.mono l)
end
/-! ### helps -/
section
variable {body : D → (D → Prop) → Prop} {k : List D → Prop}
theorem lcw_d {ds : List D} (R : D → D → Prop) (hl : ds.length ≤ 100000) (h : ∀ d ∈ ds, body d (R d)) (q : ∀ es, Each R ds es → k es) : LcW ds.length (fun i => ds.getD i .non) body k :=
  ⟨fun i e => R (ds.getD i .non) e, hl, fun i hi => h _ (getD_lt hi).2, fun es p => q es (each_of p)⟩
/-- each item becomes g of it -/
theorem lcw {α : Type} (emb : α → D) (g : α → D) {xs : List α} (hl : xs.length ≤ 100000) (h : ∀ x ∈ xs, body (emb x) (fun e => e = g x)) (q : k (xs.map g)) : LcW (xs.map emb).length (fun i => (xs.map emb).getD i .non) body k :=
  ⟨fun i e => ∀ x, xs[i]? = some x → e = g x, by rw [List.length_map]; exact hl, fun i hi => by
    rw [List.length_map] at hi
    have e1 : (xs.map emb).getD i .non = emb xs[i] := by rw [List.getD_eq_getElem?_getD, List.getElem?_map, List.getElem?_eq_getElem hi]; rfl
    show body ((xs.map emb).getD i .non) _
    rw [e1]
    show body (emb xs[i]) (fun e => ∀ x, xs[i]? = some x → e = g x)
    rw [show (fun e => ∀ x, xs[i]? = some x → e = g x) = (fun e => e = g xs[i]) from by
      funext e
      rw [List.getElem?_eq_getElem hi]
      exact propext ⟨fun z => z _ rfl, fun z x hx => by cases hx; exact z⟩]
    exact h _ (List.getElem_mem hi), fun es p => by
    have e : es = xs.map g := by
      refine List.ext_getElem? fun i => ?_
      have hl := p.1
      rw [List.length_map] at hl
      by_cases hi : i < xs.length
      · rw [List.getElem?_map, List.getElem?_eq_getElem hi, List.getElem?_eq_getElem (show i < es.length by omega)]
        exact congrArg some (p.2 i _ (List.getElem?_eq_getElem (by omega)) _ (List.getElem?_eq_getElem hi))
      · rw [List.getElem?_eq_none (by omega), List.getElem?_eq_none (by rw [List.length_map]; omega)]
    rw [e]; exact q⟩
theorem lcw_rng {n : Nat} (g : Nat → D) (hl : n ≤ 100000) (h : ∀ i, i < n → body (.int (i : Int)) (fun e => e = g i)) (q : k ((List.range n).map g)) : LcW n (fun i => .int (i : Int)) body k :=
  ⟨_, hl, h, fun es p => by rw [EachN.map p]; exact q⟩
theorem lcfw {test : D → (Bool → Prop) → Prop} {α : Type} (emb : α → D) (t : α → Bool) (g : α → D) (inj : ∀ x y, emb x = emb y → x = y) {xs : List α} (hl : xs.length ≤ 100000)
    (h : ∀ x ∈ xs, test (emb x) fun b => b = t x ∧ (b = true → body (emb x) fun e => e = g x)) (q : k ((xs.filter t).map g)) : LcfW (xs.map emb).length (fun i => (xs.map emb).getD i .non) test body k := by
  classical
  let un : D → Option α := fun d => if z : ∃ x, emb x = d then some z.choose else none
  have hun : ∀ x, un (emb x) = some x := fun x => by
    have z : ∃ y, emb y = emb x := ⟨x, rfl⟩
    show (if z : ∃ y, emb y = emb x then some z.choose else none) = some x
    rw [dif_pos z]
    exact congrArg some (inj _ _ z.choose_spec)
  let t' : D → Bool := fun d => ((un d).map t).getD false
  let g' : D → D := fun d => ((un d).map g).getD .non
  have ht : ∀ x, t' (emb x) = t x := fun x => by show (((un (emb x)).map t).getD false) = _; rw [hun]; rfl
  have hg : ∀ x, g' (emb x) = g x := fun x => by show (((un (emb x)).map g).getD .non) = _; rw [hun]; rfl
  refine ⟨t', g', by rw [List.length_map]; exact hl, fun i hi => ?_, ?_⟩
  · rw [List.length_map] at hi
    have e1 : (xs.map emb).getD i .non = emb xs[i] := by rw [List.getD_eq_getElem?_getD, List.getElem?_map, List.getElem?_eq_getElem hi]; rfl
    show test ((xs.map emb).getD i .non) (fun b => b = t' ((xs.map emb).getD i .non) ∧ (b = true → body ((xs.map emb).getD i .non) fun e => e = g' ((xs.map emb).getD i .non)))
    rw [e1, ht, hg]
    exact h _ (List.getElem_mem hi)
  · rw [range_getD]
    have e : ((xs.map emb).filter t').map g' = (xs.filter t).map g := by
      rw [List.filter_map, List.map_map]
      have e1 : (t' ∘ emb) = t := funext ht
      have e2 : (g' ∘ emb) = g := funext hg
      rw [e1, e2]
    rw [e]; exact q
end
/-- a loop that ends the def with False at the first item that is not right -/
theorem for_all {n m : Nat} (hm : n = m) {item : Nat → D} {dd : List Nat} {tg : D → List S → (List S → Prop) → Prop} {body : List S → Ed → Prop} {δ : List S} {E : Ed} (p : Nat → Bool) (δ0 : List S) (h0 : drp dd δ = δ0)
    (turn : ∀ i, i < m → ∀ nx : List S → Prop, (p i = true → ∀ δ', drp dd δ' = δ0 → nx δ') → (p i = false → E.rt (.sh (.bl false))) → tg (item i) δ0 fun δ2 => body δ2 ⟨nx, E.rt, E.nx, nx, E.xw⟩)
    (bad : (List.range m).all p = false → E.rt (.sh (.bl false))) (good : (List.range m).all p = true → E.nx δ0) : ForW n item dd tg body δ E := by
  subst hm
  refine ⟨fun i δ => δ = δ0 ∧ ∀ j, j < i → p j = true, ⟨h0, fun j hj => absurd hj (Nat.not_lt_zero j)⟩, fun i δ1 hi hI => ?_, fun δ1 hI => ?_⟩
  · obtain ⟨rfl, ha⟩ := hI
    refine turn i hi _ (fun hp δ' e => ⟨e, fun j hj => ?_⟩) fun hp => bad (Bool.eq_false_iff.mpr fun z => ?_)
    · rcases Nat.lt_succ_iff_lt_or_eq.mp hj with w | w
      · exact ha j w
      · rw [w]; exact hp
    · rw [List.all_eq_true.mp z i (List.mem_range.mpr hi)] at hp; cases hp
  · obtain ⟨rfl, ha⟩ := hI
    exact good (List.all_eq_true.mpr fun j hj => ha j (List.mem_range.mp hj))
/-- join two ways -/
theorem join {p : (List S → Prop) → Prop} {q : List S → Prop} (M : List S → Prop) (h : p M) (h2 : ∀ δ, M δ → q δ) : JoinW p q := ⟨M, h, h2⟩
/-- a comprehension of trees, item by item -/
theorem lctw {n : Nat} {item : Nat → D} {body : D → (Tr → Prop) → Prop} {k : List Tr → Prop} (g : Nat → Tr) (hn : n ≤ 100000) (h : ∀ i, i < n → body (item i) (fun t => t = g i)) (q : k ((List.range n).map g)) : LctW n item body k :=
  ⟨fun i t => t = g i, hn, h, fun ts hl ht => by
    have e : ts = (List.range n).map g := List.ext_getElem? fun i => by
      by_cases hi : i < n
      · have e1 := List.getElem?_eq_getElem (show i < ts.length by omega)
        rw [e1, ht i _ e1, List.getElem?_map, List.getElem?_range hi]; rfl
      · rw [List.getElem?_eq_none (by omega), List.getElem?_eq_none (by rw [List.length_map, List.length_range]; omega)]
    rw [e]; exact q⟩
theorem keep_safe {bs : List Nat} {r : S} {δ : List S} {k : List S → Prop} (h : SafeR r) (q : k δ) : KeepW bs r δ k := ⟨.inl ⟨h, q⟩⟩
theorem keep_lend {bs : List Nat} {r : S} {δ : List S} {k : List S → Prop} (q : k (bor bs δ)) : KeepW bs r δ k := ⟨.inr q⟩
end DL
set_option Elab.async false
set_option linter.all false
set_option maxRecDepth 100000
set_option maxHeartbeats 4000000
/-! The deep machine, part i: __init__. -/
namespace DL
open PySem PySem.Spec PyProof.Rows L2
/-- the frame's new object is made: what holds of its fields -/
structure SelfW (s : Option S) (a C : Addr) (ks : List Str) (k : List (Str × D) → Prop) : Prop where
  ex : ∃ fs, s = some (.ow (.self a C ks fs)) ∧ k fs
def startI (N : List Str) (a C : Addr) (ks : List Str) (ds : List D) : List S := .ow (.self a C ks []) :: (ds.map .sh ++ List.replicate (N.length - ds.length) .no)
def edI (a C : Addr) (ks : List Str) (kk : S → Prop) (xx : XD) : Ed := ⟨fun δ => SelfW δ[0]? a C ks fun fs => kk (.sh (.ins C fs)), fun _ => False, fun _ => False, fun _ => False, fun _ => xx⟩
/-- an __init__ keeps its class's promise; N: the names behind self -/
def DeepI (Γ : List DSp) (N : List Str) (b : Xb) (C : Addr) (ks : List Str) (T : DSp) : Prop := ∀ a ds kk xx, T ds kk xx → wpb Γ b (startI N a C ks ds) (edI a C ks kk xx)
def spI (K : PySem.W.Frag) (C : Addr) (ks : List Str) (T : DSp) : Sp := fun vs H Q E => ∃ a dx rest ds kk xx, vs = .ref a :: rest ∧ H a = some (.ins C dx []) ∧ H dx = some (.own a) ∧ IsL K (cut H [a, dx]) rest ds ∧ T ds kk xx ∧
  (∀ H' dx' fs, OwIs K H' (cut H' [a, dx']) (.ref a) [a, dx'] (.self a C ks fs) → Ex (cut H [a, dx]) (cut H' [a, dx']) → kk (.sh (.ins C fs)) → Q .non H') ∧ (∀ c d H' fs, Ex (cut H [a, dx]) H' → ExcIs K H' d fs → xx c fs → E c d H')
theorem rel_startI {K : PySem.W.Frag} {H : Hp} {N : List Str} {n : Str} {vs : List V} {ds : List D} {a dx C : Addr} {ks : List Str} (hc : ClsF K C ks) (ha : H a = some (.ins C dx [])) (hd : H dx = some (.own a)) (h : IsL K (cut H [a, dx]) vs ds) (hl : ds.length ≤ N.length) :
    Rel K (cut H [a, dx]) (L2.start (n :: N) (.ref a :: vs)) H (startI N a C ks ds) ([a, dx] :: List.replicate N.length []) := by
  have R := rel_start (N := N) h hl
  have e0 : (List.replicate N.length ([] : List Addr)).flatten = [] := flat_rep _
  have eF : ([a, dx] :: List.replicate N.length ([] : List Addr)).flatten = [a, dx] := by rw [List.flatten_cons, e0, List.append_nil]
  have es : L2.start (n :: N) (.ref a :: vs) = some (.ref a) :: L2.start N vs := by
    show (some (V.ref a) :: vs.map some) ++ List.replicate (N.length + 1 - (vs.length + 1)) none = _
    rw [Nat.add_sub_add_right]; rfl
  have ne : a ≠ dx := fun z => by rw [z, hd] at ha; cases ha
  rw [es]
  refine ⟨by rw [eF]; exact Same.refl _, congrArg (· + 1) R.len1, congrArg (· + 1) R.len2, fun i s x l h1 h2 h3 => ?_, by rw [eF]; simp [ne]⟩
  rw [eF]
  cases i with
  | zero =>
    cases h1; cases h2; cases h3
    exact ⟨_, rfl, ⟨hc, fun f hf => by cases hf⟩, dx, [], rfl, rfl, ha, hd, ⟨rfl, fun i x d q => by cases q⟩⟩
  | succ i =>
    have q := R.sl i s x l h1 h2 h3
    rw [e0, cut_nil] at q
    have el : l = [] := by
      have h3 : (List.replicate N.length ([] : List Addr))[i]? = some l := h3
      rw [List.getElem?_replicate] at h3
      split at h3 <;> cases h3
      rfl
    subst el
    exact q.mono (Same.refl _) fun b hb => by cases hb
section
variable {P : Program} {w : World} {K : PySem.W.Frag} {mg : Str → Option Value} {base : Heap} {x qual : Str} {params : Arguments} {body : List Stmt} {scope : Scope} {dvs : List V} {kws : List (Str × V)} {f : Addr} {fd : FuncData}
theorem init_deep {N ps fs : List Str} {n : Str} {k : Nat} {T : DSp} {b : Xb} {math : Bool} {Γ : List DSp} {C : Addr} {ks : List Str} (F : FunD K x qual params body scope dvs kws f fd) (S : FnScope (n :: N) (n :: ps) scope) (hN : ps.length ≤ N.length) (hlen : ∀ ds k x, T ds k x → ds.length = ps.length)
    (hc : ClsF K C ks) (hch : chB ⟨n :: N, scope, fs, math⟩ b body = true) (M : Bm mg) (hm : math = true → mg "gcd" = some (.builtin "math.gcd") ∧ mg "lcm" = some (.builtin "math.lcm")) (L : FnL P w K mg base k fs Γ) (hw : DeepI Γ N b C ks T) : FnOk P w K mg base (L2.CX P w) (k + 1) f fd (n :: ps) (spI K C ks T) := by
  refine F.ok S (fun vs H Q E ⟨a, dx, rest, ds, kk, xx, ev, _, _, is, hT, _⟩ => by rw [ev, List.length_cons, is.1, hlen _ _ _ hT]; rfl) (fun cdv A outer s H vs Q E hr h => ?_)
  obtain ⟨a, dx, rest, ds, kk, xx, rfl, ha, hd, is, hT, hQ, hE⟩ := h
  have tk : Takes (cxOf (L2.CX P w) P w K mg base (n :: N) qual scope f cdv A outer s H E) (fun cls d _ H' => E cls d H') := takes_of rfl rfl rfl rfl
  have xc : Xc (cxOf (L2.CX P w) P w K mg base (n :: N) qual scope f cdv A outer s H E) (cut H [a, dx]) (fun _ => xx) := ⟨⟨_, tk, fun σ G δ c d fs R i q => hE c d G fs R.ex i q⟩⟩
  have W : Wb (cxOf (L2.CX P w) P w K mg base (n :: N) qual scope f cdv A outer s H E) (cut H [a, dx]) body (startI N a C ks ds) (toEn (edI a C ks kk xx)) := by
    refine (so_b b).run (C := ⟨n :: N, scope, fs, math⟩) (Γ := Γ) (E := edI a C ks kk xx) ⟨⟨rfl, S.nd, rfl, rfl, M, hm, hr.units, L.cov, fun i x T h1 h2 => ?_⟩, fun _ => rfl, passes_of rfl, S.kind⟩ hch xc (hw a ds kk xx hT)
    rcases L.get i x T h1 h2 with ⟨lvl, ps', T0, dds, F', l, c⟩ | ⟨lvl, M', l⟩
    · exact .fn F' (hr.mono l) c
    · exact .mk M' (hr.mono l)
  refine ⟨_, pb_sem, (W _ _ H _ (Same.refl _) (rel_startI (n := n) hc ha hd is (by rw [hlen _ _ _ hT]; exact hN))).mono (fun σ' H' ⟨δ, own, R, q⟩ => ?_) (fun v H' ⟨σ', δ, own, r, R, i, q⟩ => q.elim) (fun _ _ ⟨_, _, _, z⟩ => z) (fun _ _ ⟨_, _, _, z⟩ => z)⟩
  obtain ⟨gs, e0, hk⟩ := SelfW.ex q
  obtain ⟨x0, l, h1, h2, v, rfl, hc2, dx', fs', rfl, rfl, g1, g2, g3⟩ := R.idx e0
  have sub : ∀ b ∈ [a, dx'], b ∈ own.flatten := fun b hb => mem_flat h2 hb
  have ee : Ex (cut H' own.flatten) (cut H' [a, dx']) := cut_sub sub
  exact hQ H' dx' gs ⟨hc2, dx', fs', rfl, rfl, g1, g2, g3.mono ee⟩ (R.ex.trans ee) hk
/-- a class, from its __init__ -/
theorem mk_mf {lvl : Nat} {ps : List Str} {n y : Str} {T : DSp} {C : Addr} {ks : List Str} (M : Mk K C f) (ok : FnOk P w K mg base (L2.CX P w) lvl f fd (n :: ps) (spI K C ks T)) (g : mg y = some (.ref C)) (hb : Binds K fd (n :: ps) []) : Mf P w K mg base lvl y T := by
  refine ⟨C, f, fd, n :: ps, _, [], [], M, ok, g, hb, .nil, fun H vs as kk xx is hT Q E hQ hE a dx na nd ne => ?_⟩
  rw [List.append_nil]
  have ec : Ex H (cut (upd (upd H dx (.own a)) a (.ins C dx [])) [a, dx]) := fun b u hb => by
    have n1 := ne_of_none hb na
    have n2 := ne_of_none hb nd
    rw [cut_out (by simp [n1, n2]), upd_ne n1, upd_ne n2]
    exact hb
  refine ⟨a, dx, vs, as, kk, xx, rfl, upd_same, by rw [upd_ne ne]; exact upd_same, is.mono ec, hT, fun H' dx' gs ow e hk => ⟨rfl, hQ a H' (.sh (.ins C gs)) ⟨(ec.trans e).trans cut_ex, ow.is cut_ex⟩ hk⟩, fun c d H' fs e i q => hE c d H' fs (ec.trans e) i q⟩
end
end DL
set_option Elab.async false
set_option linter.all false
set_option maxRecDepth 100000
set_option maxHeartbeats 4000000
set_option pp.maxSteps 600
set_option exponentiation.threshold 50000
/-! The laws' own small defs, no law in sight: cells, digits, Euclid, one forms. -/
namespace K00
open PySem PySem.Spec PyProof.Rows L2 DL
/-! _law_whole(value): slots value=0; calls  -/
def N__law_whole : List Str := ["value"]
def fs__law_whole : List Str := []
def b__law_whole : Xb := (.cons (.ret [] (.and (.cons (.isi (.var 0) .int) (.cons (.not (.isi (.var 0) .bool)) .nil))))
 .nil)
/-! _law_cell(script, k): slots script=0 k=1 seed=2 cell=3; calls  -/
def N__law_cell : List Str := ["script", "k", "seed", "cell"]
def fs__law_cell : List Str := []
def b__law_cell : Xb := (.cons (.ite [] (.cmp .lt (.var 1) (.bi .len (.cons (.var 0) .nil))) (.cons (.ret [] (.ix (.var 0) (.var 1)))
 .nil) .nil)
 (.cons (.set 2 false [] (.int 17))
 (.cons (.for_ [0, 3] [] (.nm 3) (.sq (.var 0)) (.cons (.set 2 false [] (.bin .mod (.bi .int (.cons (.bin .add (.bin .mul (.var 2) (.int 31)) (.bin .mod (.bi .int (.cons (.var 3) .nil)) (.int 1000003))) .nil)) (.int 1000003)))
 .nil))
 (.cons (.ret [] (.bin .mod (.bi .int (.cons (.bin .mul (.bin .mul (.bin .add (.var 2) (.int 7)) (.bin .add (.var 1) (.int 3))) (.int 69621)) .nil)) (.int 2147483647)))
 .nil))))
/-! _law_digits(cell, sizes): slots cell=0 sizes=1 found=2 rest=3 size=4 seed=5 k=6 twice=7; calls  -/
def N__law_digits : List Str := ["cell", "sizes", "found", "rest", "size", "seed", "k", "twice"]
def fs__law_digits : List Str := []
def b__law_digits : Xb := (.cons (.set 2 true [] (.lst .nil))
 (.cons (.set 3 false [] (.bi .int (.cons (.var 0) .nil)))
 (.cons (.ite [] (.cmp .ge (.var 3) (.bin .pow (.int 10) (.int 18))) (.cons (.set 3 false [] (.bin .sub (.var 3) (.bin .pow (.int 10) (.int 18))))
 (.cons (.for_ [0, 1, 4, 5, 6, 7] [] (.nm 4) (.sq (.var 1)) (.cons (.app 2 [] (.bin .mod (.bi .int (.cons (.var 3) .nil)) (.var 4)))
 (.cons (.set 3 false [] (.bin .div (.bi .int (.cons (.var 3) .nil)) (.var 4)))
 .nil)))
 (.cons (.retO 2)
 .nil))) .nil)
 (.cons (.set 5 false [] (.bin .mod (.bi .int (.cons (.var 3) .nil)) (.int 2147483629)))
 (.cons (.for_ [0, 3, 4, 6, 7] [] (.nm 6) (.rng (.bi .len (.cons (.var 1) .nil))) (.cons (.set 5 false [] (.bin .mod (.bi .int (.cons (.bin .add (.bin .add (.bin .mul (.var 5) (.int 48271)) (.bin .mul (.int 974711) (.var 6))) (.int 12345)) .nil)) (.int 2147483647)))
 (.cons (.set 7 false [] (.bin .mod (.bi .int (.cons (.bin .mul (.var 5) (.bin .add (.bin .div (.var 5) (.int 65537)) (.int 3))) .nil)) (.int 2147483629)))
 (.cons (.app 2 [] (.bin .mod (.bin .div (.var 7) (.int 19)) (.ix (.var 1) (.var 6))))
 .nil))))
 (.cons (.retO 2)
 .nil))))))
/-! _law_gcd(one, two): slots one=0 two=1 left=2 right=3 turn=4 held=5; calls  -/
def N__law_gcd : List Str := ["one", "two", "left", "right", "turn", "held"]
def fs__law_gcd : List Str := []
def b__law_gcd : Xb := (.cons (.set 2 false [] (.bi .abs (.cons (.var 0) .nil)))
 (.cons (.set 3 false [] (.bi .abs (.cons (.var 1) .nil)))
 (.cons (.for_ [0, 1, 4, 5] [] (.nm 4) (.rng (.int 100000)) (.cons (.ite [] (.cmp .eq (.var 3) (.int 0)) (.cons .brk
 .nil) .nil)
 (.cons (.set 5 false [] (.bin .mod (.bi .int (.cons (.var 2) .nil)) (.var 3)))
 (.cons (.set 2 false [] (.var 3))
 (.cons (.set 3 false [] (.var 5))
 .nil)))))
 (.cons (.ret [] (.var 2))
 .nil))))
/-! _law_is_ratio(value): slots value=0; calls _law_whole/1 _law_gcd/2 -/
def N__law_is_ratio : List Str := ["value"]
def fs__law_is_ratio : List Str := ["_law_whole", "_law_gcd"]
def b__law_is_ratio : Xb := (.cons (.ite [] (.or (.cons (.not (.isi (.var 0) .tuple)) (.cons (.cmp .ne (.bi .len (.cons (.var 0) .nil)) (.int 2)) (.cons (.not (.call 0 (.cons (.ixn (.var 0) 0) .nil))) (.cons (.not (.call 0 (.cons (.ixn (.var 0) 1) .nil))) .nil))))) (.cons (.ret [] (.bl false))
 .nil) .nil)
 (.cons (.ret [] (.and (.cons (.cmp .ge (.ixn (.var 0) 1) (.int 1)) (.cons (.cmp .eq (.call 1 (.cons (.ixn (.var 0) 0) (.cons (.ixn (.var 0) 1) .nil))) (.int 1)) .nil))))
 .nil))
/-! _law_is_row(value, size): slots value=0 size=1 common=2 top=3; calls _law_whole/1 _law_gcd/2 -/
def N__law_is_row : List Str := ["value", "size", "common", "top"]
def fs__law_is_row : List Str := ["_law_whole", "_law_gcd"]
def b__law_is_row : Xb := (.cons (.ite [] (.or (.cons (.not (.isi (.var 0) .tuple)) (.cons (.cmp .ne (.bi .len (.cons (.var 0) .nil)) (.int 2)) (.cons (.not (.isi (.ixn (.var 0) 0) .tuple)) (.cons (.cmp .ne (.bi .len (.cons (.ixn (.var 0) 0) .nil)) (.var 1)) .nil))))) (.cons (.ret [] (.bl false))
 .nil) .nil)
 (.cons (.ite [] (.or (.cons (.not (.call 0 (.cons (.ixn (.var 0) 1) .nil))) (.cons (.cmp .lt (.ixn (.var 0) 1) (.int 1)) .nil))) (.cons (.ret [] (.bl false))
 .nil) .nil)
 (.cons (.set 2 false [] (.ixn (.var 0) 1))
 (.cons (.for_ [0, 1, 3] [] (.nm 3) (.sq (.ixn (.var 0) 0)) (.cons (.ite [] (.not (.call 0 (.cons (.var 3) .nil))) (.cons (.ret [] (.bl false))
 .nil) .nil)
 (.cons (.set 2 false [] (.call 1 (.cons (.var 2) (.cons (.var 3) .nil))))
 .nil)))
 (.cons (.ret [] (.cmp .eq (.var 2) (.int 1)))
 .nil)))))
theorem getInt {ns : List Int} {i : Nat} (h : i < ns.length) : (ns.map D.int).getD i .non = .int ns[i] := by rw [List.getD_eq_getElem?_getD, List.getElem?_map, List.getElem?_eq_getElem h]; rfl
theorem atInt {ns : List Int} {i : Nat} (h : i < ns.length) : atI (ns.map D.int) (i : Int) = some (.int ns[i]) := atI_nat (by rw [List.getElem?_map, List.getElem?_eq_getElem h]; rfl)
theorem deq {P : D → Prop} {d e : D} (h : d = e) (q : P e) : P d := by rw [h]; exact q
def T_whole : DSp := fun ds kk _ => ∃ i : Int, ds = [.int i] ∧ kk (.sh (.bl true))
theorem w_whole : Deep [] N__law_whole b__law_whole T_whole := by
  rintro _ kk xx ⟨i, rfl, hk⟩
  exact ⟨fun _ => hk, fun h => nomatch h⟩
def T_cell : DSp := fun ds kk _ => ∃ (ns : List Int) (k : Int), ds = [.scr ns, .int k] ∧ 0 ≤ k ∧ k ≤ 1000000 ∧ ∀ v : Int, kk (.sh (.int v))
theorem w_cell : Deep [] N__law_cell b__law_cell T_cell := by
  rintro _ kk xx ⟨ns, k, rfl, h0, h1, hk⟩
  refine ⟨fun hb => ?_, fun hb => ?_⟩
  · obtain ⟨j, rfl⟩ : ∃ j : Nat, k = j := ⟨k.toNat, by omega⟩
    have hj : j < ns.length := by omega
    exact ⟨_, atI_nat (List.getElem?_eq_getElem hj), hk _⟩
  refine ⟨fun i δ => ∃ q : Int, 0 ≤ q ∧ q < 1000003 ∧ δ = [.no, .sh (.int k), .sh (.int q), .no], ⟨17, by decide, by decide, rfl⟩, fun i δ1 hi hI => ?_, fun δ1 hI => ?_⟩
  · obtain ⟨q, q0, q1, rfl⟩ := hI
    refine ⟨mul64 (by omega) (by omega), by decide, by decide, _, ?_, ?_, rfl⟩ <;> omega
  obtain ⟨q, q0, q1, rfl⟩ := hI
  have e1 : (q + 7) * (k + 3) < 1000010 * 1000004 := Int.mul_lt_mul (by omega) (by omega) (by omega) (by omega)
  have e2 : 0 ≤ (q + 7) * (k + 3) := Int.mul_nonneg (by omega) (by omega)
  exact ⟨mul64 (by omega) (by omega), mul64 (by omega) (by omega), by decide, hk _⟩
/-- digits below their sizes -/
def Digs (r sizes : List Int) : Prop := r.length = sizes.length ∧ ∀ (i : Nat) x s, r[i]? = some x → sizes[i]? = some s → 0 ≤ x ∧ x < s
theorem Digs.nil {sizes : List Int} : Digs [] (sizes.take 0) := ⟨by simp, fun i x s h => by cases h⟩
theorem Digs.snoc {r sizes : List Int} {i : Nat} {s x : Int} (h : Digs r (sizes.take i)) (hs : sizes[i]? = some s) (h0 : 0 ≤ x) (h1 : x < s) : Digs (r ++ [x]) (sizes.take (i + 1)) := by
  have hi : i < sizes.length := (List.getElem?_eq_some_iff.mp hs).1
  have hl : r.length = i := by rw [h.1, List.length_take]; omega
  refine ⟨by simp [hl]; omega, fun j y t h2 h3 => ?_⟩
  by_cases hj : j < i
  · rw [List.getElem?_append_left (by omega)] at h2
    rw [List.getElem?_take_of_lt (by omega)] at h3
    exact h.2 j y t h2 (by rw [List.getElem?_take_of_lt hj]; exact h3)
  · have hj2 : j < i + 1 := by
      have := (List.getElem?_eq_some_iff.mp h2).1
      simp [hl] at this
      omega
    have e : j = i := by omega
    subst e
    rw [List.getElem?_take_of_lt (by omega), hs] at h3
    rw [List.getElem?_append_right (by omega), hl, Nat.sub_self] at h2
    cases h2; cases h3
    exact ⟨h0, h1⟩
theorem Digs.all {r sizes : List Int} {i : Nat} (h : Digs r (sizes.take i)) (hi : sizes.length ≤ i) : Digs r sizes := by rwa [List.take_of_length_le hi] at h
theorem snocI {r : List Int} {x : Int} : (r.map D.int) ++ [.int x] = (r ++ [x]).map .int := by rw [List.map_append]; rfl
def T_digits : DSp := fun ds kk _ => ∃ (c : Int) (l : Bool) (sizes : List Int), ds = [.int c, .sq l (sizes.map .int)] ∧ sizes.length ≤ 10000 ∧ (∀ s ∈ sizes, 0 < s ∧ s < 18446744073709551616) ∧ ∀ r, Digs r sizes → kk (.ow (.lst (r.map .int)))
theorem w_digits : Deep [] N__law_digits b__law_digits T_digits := by
  rintro _ kk xx ⟨c, l, sizes, rfl, hl, hs, hk⟩
  refine ⟨⟨by decide, by decide, by decide⟩, fun hb => ?_, fun hb => ?_⟩
  · refine ⟨⟨by decide, by decide, by decide⟩, ?_⟩
    refine ⟨fun i δ => ∃ (r : List Int) (q : Int), Digs r (sizes.take i) ∧ δ = [.no, .no, .ow (.lst (r.map .int)), .sh (.int q), .no, .no, .no, .no], ⟨[], _, .nil, rfl⟩, fun i δ1 hi hI => ?_, fun δ1 hI => ?_⟩
    · rw [List.length_map] at hi
      refine deq (P := fun d => wpt (.nm 4) d _ _) (getInt hi) ?_
      obtain ⟨r, q, hr, rfl⟩ := hI
      have hn := List.getElem?_eq_getElem hi
      have hn' := hs _ (List.getElem_mem hi)
      refine ⟨hn'.1, ?_, .inl ⟨div64 hn'.1 hn'.2, r ++ [q % sizes[i]], q / sizes[i], hr.snoc hn (Int.emod_nonneg _ (by omega)) (Int.emod_lt_of_pos _ hn'.1), ?_⟩⟩
      · rw [List.length_map, hr.1, List.length_take]; omega
      · rw [← snocI]; rfl
    · obtain ⟨r, q, hr, rfl⟩ := hI
      exact hk _ (hr.all (by rw [List.length_map]; exact Nat.le_refl _))
  refine ⟨by decide, ?_⟩
  refine ⟨by rw [List.length_map]; omega, fun i δ => ∃ (r : List Int) (q : Int), 0 ≤ q ∧ q < 2147483647 ∧ Digs r (sizes.take i) ∧ δ = [.no, .sh (.sq l (sizes.map .int)), .ow (.lst (r.map .int)), .no, .no, .sh (.int q), .no, .no], ⟨[], c % 2147483629, by omega, by omega, .nil, rfl⟩, fun i δ1 hi hI => ?_, fun δ1 hI => ?_⟩
  · obtain ⟨r, q, q0, q1, hr, rfl⟩ := hI
    rw [Int.toNat_natCast, List.length_map] at hi
    have hn := List.getElem?_eq_getElem hi
    have hn' := hs _ (List.getElem_mem hi)
    refine ⟨mul64 (by omega) (by omega), mul64 (by omega) (by omega), by decide, ?_⟩
    generalize hq2 : (q * 48271 + 974711 * (i : Int) + 12345) % 2147483647 = q2
    have b2 : 0 ≤ q2 ∧ q2 < 2147483647 := by omega
    refine .inl ⟨div64 (by decide) (by decide), mul64 (by omega) (by omega), by decide, .inl ⟨div64 (by decide) (by decide), _, atInt hi, hn'.1, ?_, r ++ [q2 * (q2 / 65537 + 3) % 2147483629 / 19 % sizes[i]], q2, b2.1, b2.2, hr.snoc hn (Int.emod_nonneg _ (by omega)) (Int.emod_lt_of_pos _ hn'.1), ?_⟩⟩
    · rw [List.length_map, hr.1, List.length_take]; omega
    · rw [← snocI]; rfl
  · obtain ⟨r, q, q0, q1, hr, rfl⟩ := hI
    exact hk _ (hr.all (by rw [Int.toNat_natCast, List.length_map]; exact Nat.le_refl _))
def T_gcd : DSp := fun ds kk _ => ∃ (a b : Int), ds = [.int a, .int b] ∧ Bd 40000 a ∧ Bd 40000 b ∧ kk (.sh (.int ((Nat.gcd a.natAbs b.natAbs : Nat) : Int)))
theorem w_gcd : Deep [] N__law_gcd b__law_gcd T_gcd := by
  rintro _ kk xx ⟨a, b, rfl, ha, hb, hk⟩
  obtain ⟨n, hn, hab⟩ : ∃ n, n < 100000 ∧ 2 * (a.natAbs * b.natAbs) ≤ 2 ^ n := ⟨80001, by decide, by
    have e1 : a.natAbs * b.natAbs ≤ 2 ^ 40000 * 2 ^ 40000 := Nat.mul_le_mul (Nat.le_of_lt ha) (Nat.le_of_lt hb)
    have e2 : ∀ m k : Nat, k = m + m + 1 → (2 : Nat) ^ k = 2 * (2 ^ m * 2 ^ m) := fun m k e => by rw [e, ← Nat.pow_add, Nat.mul_comm, ← Nat.pow_succ]
    rw [e2 40000 80001 rfl]
    exact Nat.mul_le_mul_left 2 e1⟩
  have fin : ∀ l : Nat, l = Nat.gcd a.natAbs b.natAbs → kk (.sh (.int (l : Int))) := fun l e => by rw [e]; exact hk
  refine ⟨⟨by decide, by decide⟩, fun i δ => ∃ l r : Nat, l * r * 2 ^ i ≤ 2 ^ n ∧ (i = 0 → 2 * (l * r) ≤ 2 ^ n) ∧ (0 < i → r < l) ∧ Nat.gcd l r = Nat.gcd a.natAbs b.natAbs ∧ δ = [.no, .no, .sh (.int (l : Int)), .sh (.int (r : Int)), .no, .no], ⟨a.natAbs, b.natAbs, by rw [Nat.pow_zero, Nat.mul_one]; omega, fun _ => hab, fun z => absurd z (by decide), rfl, rfl⟩, fun i δ1 hi hI => ?_, fun δ1 hI => ?_⟩
  · obtain ⟨l, r, h1, h0, hl, hg, rfl⟩ := hI
    refine ⟨fun hb => ?_, fun hb => ?_⟩
    · refine fin l ?_
      rw [← hg, show r = 0 by omega, Nat.gcd_zero_right]
    obtain ⟨g1, g2⟩ := euclid_step (show 0 < r by omega) h1 h0 hl
    refine ⟨show (0 : Int) < (r : Int) by omega, r, l % r, g1, fun z => absurd z (Nat.succ_ne_zero i), fun _ => g2, ?_, rfl⟩
    rw [Nat.gcd_comm, ← Nat.gcd_rec, Nat.gcd_comm]
    exact hg
  obtain ⟨l, r, h1, h0, hl, hg, rfl⟩ := hI
  have hz := euclid_end h1 hn (hl (by decide))
  subst hz
  refine fin l ?_
  rw [← hg, Nat.gcd_zero_right]
abbrev pr (l : Bool) (a b : Int) : D := .sq l [.int a, .int b]
def T_isr : DSp := fun ds kk _ => ∃ p q : Int, ds = [pr false p q] ∧ 1 ≤ q ∧ Nat.gcd p.natAbs q.natAbs = 1 ∧ Bd 40000 p ∧ Bd 40000 q ∧ kk (.sh (.bl true))
theorem w_isr : Deep [T_whole, T_gcd] N__law_is_ratio b__law_is_ratio T_isr := by
  rintro _ kk xx ⟨p, q, rfl, hq, hg, bp, bq, hk⟩
  refine ⟨fun _ => ⟨_, rfl, fun _ => ⟨_, rfl, fun _ => ?_, fun h => nomatch h⟩, fun h => nomatch h⟩, fun h => absurd rfl h⟩
  refine ⟨fun _ => ?_, fun h => absurd (decide_eq_true hq) (by rw [h]; exact Bool.false_ne_true)⟩
  refine ⟨p, q, rfl, bp, bq, ?_⟩
  rw [hg]
  exact hk
abbrev rw_ (l l' : Bool) (ps : List Int) (q : Int) : D := .sq l [.sq l' (ps.map .int), .int q]
def T_isrow : DSp := fun ds kk _ => ∃ (ps : List Int) (q : Int), ds = [rw_ false false ps q, .int (ps.length : Int)] ∧ 1 ≤ q ∧ gcdL q.natAbs ps = 1 ∧ (∀ p ∈ ps, Bd 40000 p) ∧ Bd 40000 q ∧ kk (.sh (.bl true))
theorem w_isrow : Deep [T_whole, T_gcd] N__law_is_row b__law_is_row T_isrow := by
  rintro _ kk xx ⟨ps, q, rfl, hq, hg, bp, bq, hk⟩
  refine ⟨fun _ => ⟨fun _ => ?_, fun h => absurd (by rw [List.length_map]) h⟩, fun h => absurd rfl h⟩
  refine ⟨_, rfl, fun _ => ⟨fun h => absurd h (by omega), fun _ => ?_⟩, fun h => nomatch h⟩
  have bg : ∀ i, Bd 40000 ((gcdL q.natAbs (ps.take i) : Nat) : Int) := fun i => Bd.of_le bq (by
    have := (dvd_gcdL (d := gcdL q.natAbs (ps.take i)) (ns := ps.take i) (a := q.natAbs)).mp (Nat.dvd_refl _)
    rw [Int.natAbs_natCast]
    exact Nat.le_of_dvd (by omega) this.1)
  refine ⟨fun i δ => δ = [.no, .no, .sh (.int ((gcdL q.natAbs (ps.take i) : Nat) : Int)), .no], ?_, fun i δ1 hi hI => ?_, fun δ1 hI => ?_⟩
  · show [S.no, S.no, .sh (.int q), S.no] = _
    rw [List.take_zero]
    show _ = [S.no, S.no, .sh (.int ((q.natAbs : Nat) : Int)), S.no]
    rw [show ((q.natAbs : Nat) : Int) = q from by omega]
  · subst hI
    rw [List.length_map] at hi
    refine deq (P := fun d => wpt (.nm 3) d _ _) (getInt hi) ?_
    refine ⟨_, rfl, fun _ => ⟨_, _, rfl, bg i, bp _ (List.getElem_mem hi), ?_⟩, fun h => nomatch h⟩
    show _ = [S.no, S.no, S.sh (.int ((gcdL q.natAbs (ps.take (i + 1)) : Nat) : Int)), S.no]
    rw [List.take_succ_eq_append_getElem hi, gcdL_snoc, Int.natAbs_natCast]
    rfl
  · subst hI
    rw [List.length_map, List.take_length, hg]
    exact hk
end K00
set_option Elab.async false
set_option linter.all false
set_option maxRecDepth 100000
set_option maxHeartbeats 4000000
set_option pp.maxSteps 600
set_option exponentiation.threshold 50000
/-! The judge of outcomes (ledbymarks.judges, programs), no law in sight. -/
namespace K00
open PySem PySem.Spec PyProof.Rows L2 DL
theorem gd {ps : List Int} {i : Nat} (h : i < ps.length) : ps[i]? = some (ps.getD i 0) := by rw [List.getD_eq_getElem?_getD, List.getElem?_eq_getElem h]; rfl
theorem gdm {ps : List Int} {i : Nat} (h : i < ps.length) : ps.getD i 0 ∈ ps := List.mem_of_getElem? (gd h)
theorem atG {ps : List Int} {i : Nat} (h : i < ps.length) : atI (ps.map D.int) (i : Int) = some (.int (ps.getD i 0)) := atI_nat (get_ints (gd h))
/-- the sum of the products -/
def dotL (ps ts : List Int) : Int := ((List.range ps.length).map fun j => ps.getD j 0 * ts.getD j 0).sum
theorem sumB {n k : Nat} {m : Nat} {f : Nat → Int} (h : ∀ i, i < n → Bd m (f i)) (hn : n ≤ 2 ^ k) : Bd (m + k) ((List.range n).map f).sum := sum_bd (fun x hx => by
  obtain ⟨i, hi, rfl⟩ := List.mem_map.mp hx
  exact h i (List.mem_range.mp hi)) (by rw [List.length_map, List.length_range]; exact hn)
theorem dotL_bd {N M : Nat} {ps ts : List Int} (hp : ∀ p ∈ ps, Bd N p) (ht : ∀ t ∈ ts, Bd M t) (hl : ps.length ≤ ts.length) (h1 : ps.length ≤ 128) : Bd (N + M + 7) (dotL ps ts) := sumB (fun i hi => (hp _ (gdm hi)).mul (ht _ (gdm (by omega)))) h1
/-- sums by comprehension -/
theorem sumLc {n : Nat} {f : Nat → Int} {body : D → (D → Prop) → Prop} {K : Int → Prop} (hl : n ≤ 100000) (h : ∀ i, i < n → body (.int (i : Int)) (fun e => e = .int (f i))) (q : K ((List.range n).map f).sum) : LcW n (fun i => .int (i : Int)) body (fun es => SumW es K) :=
  lcw_rng (fun i => .int (f i)) hl h ⟨(List.range n).map f, by rw [List.map_map]; rfl, q⟩
abbrev Dem : Type := List Int × Str × Int
def demG (l l' : Bool) (d : Dem) : D := .sq l [.sq l' (d.1.map .int), .str d.2.1, .int d.2.2]
abbrev progD (C : Addr) (costs : List Int) (dms : List Dem) : D := .ins C [("costs", .sq false (costs.map .int)), ("demands", .sq false (dms.map (demG false false)))]
abbrev outD (C : Addr) (kind : Str) (point value prices way : D) : D := .ins C [("kind", .str kind), ("point", point), ("value", value), ("prices", prices), ("way", way)]
def keepsP (kind : Str) (l r : Int) : Bool := if kind = ("same" : Str) then decide (l = r) else if kind = ("most" : Str) then decide (l ≤ r) else decide (r ≤ l)
/-! along(parts, tops): slots parts=0 tops=1 j=2; calls  -/
def N_along : List Str := ["parts", "tops", "j"]
def fs_along : List Str := []
def b_along : Xb := (.cons (.ret [] (.bi .sum (.cons (.lc 2 (.bin .mul (.ix (.var 0) (.var 2)) (.ix (.var 1) (.var 2))) (.rng (.bi .len (.cons (.var 0) .nil)))) .nil)))
 .nil)
/-! keeps(kind, left, right): slots kind=0 left=1 right=2; calls  -/
def N_keeps : List Str := ["kind", "left", "right"]
def fs_keeps : List Str := []
def b_keeps : Xb := (.cons (.ite [] (.cmp .eq (.var 0) (.str "same")) (.cons (.ret [] (.cmp .eq (.var 1) (.var 2)))
 .nil) .nil)
 (.cons (.ite [] (.cmp .eq (.var 0) (.str "most")) (.cons (.ret [] (.cmp .le (.var 1) (.var 2)))
 .nil) .nil)
 (.cons (.ret [] (.cmp .ge (.var 1) (.var 2)))
 .nil)))
/-! is_amount(program, amounts): slots program=0 amounts=1 top=2; calls  -/
def N_is_amount : List Str := ["program", "amounts", "top"]
def fs_is_amount : List Str := []
def b_is_amount : Xb := (.cons (.ite [] (.cmp .ne (.bi .len (.cons (.ixn (.var 1) 0) .nil)) (.bi .len (.cons (.fld (.var 0) "costs") .nil))) (.cons (.ret [] (.bl false))
 .nil) .nil)
 (.cons (.for_ [0, 1, 2] [] (.nm 2) (.sq (.ixn (.var 1) 0)) (.cons (.ite [] (.cmp .lt (.var 2) (.int 0)) (.cons (.ret [] (.bl false))
 .nil) .nil)
 .nil))
 (.cons (.ret [] (.bl true))
 .nil)))
/-! is_point(program, point): slots program=0 point=1 parts=2 kind=3 bound=4; calls is_amount/2 along/2 keeps/3 -/
def N_is_point : List Str := ["program", "point", "parts", "kind", "bound"]
def fs_is_point : List Str := ["is_amount", "along", "keeps"]
def b_is_point : Xb := (.cons (.ite [] (.not (.call 0 (.cons (.var 0) (.cons (.var 1) .nil)))) (.cons (.ret [] (.bl false))
 .nil) .nil)
 (.cons (.for_ [0, 2, 3, 4] [] (.tup [2, 3, 4]) (.sq (.fld (.var 0) "demands")) (.cons (.ite [] (.not (.call 2 (.cons (.var 3) (.cons (.call 1 (.cons (.var 2) (.cons (.ixn (.var 1) 0) .nil))) (.cons (.bin .mul (.var 4) (.ixn (.var 1) 1)) .nil))))) (.cons (.ret [] (.bl false))
 .nil) .nil)
 .nil))
 (.cons (.ret [] (.bl true))
 .nil)))
/-! are_fair(program, prices): slots program=0 prices=1 k=2 kind=3; calls  -/
def N_are_fair : List Str := ["program", "prices", "k", "kind"]
def fs_are_fair : List Str := []
def b_are_fair : Xb := (.cons (.ite [] (.cmp .ne (.bi .len (.cons (.ixn (.var 1) 0) .nil)) (.bi .len (.cons (.fld (.var 0) "demands") .nil))) (.cons (.ret [] (.bl false))
 .nil) .nil)
 (.cons (.for_ [2, 3] [] (.nm 2) (.rng (.bi .len (.cons (.fld (.var 0) "demands") .nil))) (.cons (.set 3 false [] (.ixn (.ix (.fld (.var 0) "demands") (.var 2)) 1))
 (.cons (.ite [] (.and (.cons (.cmp .eq (.var 3) (.str "most")) (.cons (.cmp .lt (.ix (.ixn (.var 1) 0) (.var 2)) (.int 0)) .nil))) (.cons (.ret [] (.bl false))
 .nil) .nil)
 (.cons (.ite [] (.and (.cons (.cmp .eq (.var 3) (.str "least")) (.cons (.cmp .gt (.ix (.ixn (.var 1) 0) (.var 2)) (.int 0)) .nil))) (.cons (.ret [] (.bl false))
 .nil) .nil)
 .nil))))
 (.cons (.ret [] (.bl true))
 .nil)))
/-! column_price(program, prices, j): slots program=0 prices=1 j=2 k=3; calls  -/
def N_column_price : List Str := ["program", "prices", "j", "k"]
def fs_column_price : List Str := []
def b_column_price : Xb := (.cons (.ret [] (.bi .sum (.cons (.lc 3 (.bin .mul (.ix (.ixn (.ix (.fld (.var 0) "demands") (.var 3)) 0) (.var 2)) (.ix (.ixn (.var 1) 0) (.var 3))) (.rng (.bi .len (.cons (.fld (.var 0) "demands") .nil)))) .nil)))
 .nil)
/-! bound_price(program, prices): slots program=0 prices=1 k=2; calls  -/
def N_bound_price : List Str := ["program", "prices", "k"]
def fs_bound_price : List Str := []
def b_bound_price : Xb := (.cons (.ret [] (.bi .sum (.cons (.lc 2 (.bin .mul (.ixn (.ix (.fld (.var 0) "demands") (.var 2)) 2) (.ix (.ixn (.var 1) 0) (.var 2))) (.rng (.bi .len (.cons (.fld (.var 0) "demands") .nil)))) .nil)))
 .nil)
/-! covers(program, prices, floor): slots program=0 prices=1 floor=2 j=3; calls column_price/3 -/
def N_covers : List Str := ["program", "prices", "floor", "j"]
def fs_covers : List Str := ["column_price"]
def b_covers : Xb := (.cons (.for_ [3] [] (.nm 3) (.rng (.bi .len (.cons (.fld (.var 0) "costs") .nil))) (.cons (.ite [] (.cmp .lt (.call 0 (.cons (.var 0) (.cons (.var 1) (.cons (.var 3) .nil)))) (.bin .mul (.ix (.var 2) (.var 3)) (.ixn (.var 1) 1))) (.cons (.ret [] (.bl false))
 .nil) .nil)
 .nil))
 (.cons (.ret [] (.bl true))
 .nil))
/-! shows_best(program, outcome): slots program=0 outcome=1 top=2 bottom=3; calls is_point/2 are_fair/2 along/2 covers/3 bound_price/2 -/
def N_shows_best : List Str := ["program", "outcome", "top", "bottom"]
def fs_shows_best : List Str := ["is_point", "are_fair", "along", "covers", "bound_price"]
def b_shows_best : Xb := (.cons (.ite [] (.or (.cons (.not (.call 0 (.cons (.var 0) (.cons (.fld (.var 1) "point") .nil)))) (.cons (.not (.call 1 (.cons (.var 0) (.cons (.fld (.var 1) "prices") .nil)))) .nil))) (.cons (.ret [] (.bl false))
 .nil) .nil)
 (.cons (.asg (.tup [2, 3]) [] (.fld (.var 1) "value"))
 (.cons (.ite [] (.cmp .ne (.bin .mul (.call 2 (.cons (.fld (.var 0) "costs") (.cons (.ixn (.fld (.var 1) "point") 0) .nil))) (.var 3)) (.bin .mul (.var 2) (.ixn (.fld (.var 1) "point") 1))) (.cons (.ret [] (.bl false))
 .nil) .nil)
 (.cons (.ite [] (.not (.call 3 (.cons (.var 0) (.cons (.fld (.var 1) "prices") (.cons (.fld (.var 0) "costs") .nil))))) (.cons (.ret [] (.bl false))
 .nil) .nil)
 (.cons (.ret [] (.cmp .eq (.bin .mul (.call 4 (.cons (.var 0) (.cons (.fld (.var 1) "prices") .nil))) (.var 3)) (.bin .mul (.var 2) (.ixn (.fld (.var 1) "prices") 1))))
 .nil)))))
/-! shows_none(program, outcome): slots program=0 outcome=1; calls are_fair/2 covers/3 bound_price/2 -/
def N_shows_none : List Str := ["program", "outcome"]
def fs_shows_none : List Str := ["are_fair", "covers", "bound_price"]
def b_shows_none : Xb := (.cons (.ite [] (.not (.call 0 (.cons (.var 0) (.cons (.fld (.var 1) "prices") .nil)))) (.cons (.ret [] (.bl false))
 .nil) .nil)
 (.cons (.ite [] (.not (.call 1 (.cons (.var 0) (.cons (.fld (.var 1) "prices") (.cons (.rep (.lst (.cons (.int 0) .nil)) (.bi .len (.cons (.fld (.var 0) "costs") .nil))) .nil))))) (.cons (.ret [] (.bl false))
 .nil) .nil)
 (.cons (.ret [] (.cmp .lt (.call 2 (.cons (.var 0) (.cons (.fld (.var 1) "prices") .nil))) (.int 0)))
 .nil)))
/-! shows_endless(program, outcome): slots program=0 outcome=1 parts=2 kind=3 _=4; calls is_point/2 is_amount/2 along/2 keeps/3 -/
def N_shows_endless : List Str := ["program", "outcome", "parts", "kind", "_"]
def fs_shows_endless : List Str := ["is_point", "is_amount", "along", "keeps"]
def b_shows_endless : Xb := (.cons (.ite [] (.or (.cons (.not (.call 0 (.cons (.var 0) (.cons (.fld (.var 1) "point") .nil)))) (.cons (.not (.call 1 (.cons (.var 0) (.cons (.fld (.var 1) "way") .nil)))) .nil))) (.cons (.ret [] (.bl false))
 .nil) .nil)
 (.cons (.for_ [2, 3, 4] [] (.tup [2, 3, 4]) (.sq (.fld (.var 0) "demands")) (.cons (.ite [] (.not (.call 3 (.cons (.var 3) (.cons (.call 2 (.cons (.var 2) (.cons (.ixn (.fld (.var 1) "way") 0) .nil))) (.cons (.int 0) .nil))))) (.cons (.ret [] (.bl false))
 .nil) .nil)
 .nil))
 (.cons (.ret [] (.cmp .gt (.call 2 (.cons (.fld (.var 0) "costs") (.cons (.ixn (.fld (.var 1) "way") 0) .nil))) (.int 0)))
 .nil)))
/-! shows(program, outcome): slots program=0 outcome=1; calls shows_best/2 shows_none/2 shows_endless/2 -/
def N_shows : List Str := ["program", "outcome"]
def fs_shows : List Str := ["shows_best", "shows_none", "shows_endless"]
def b_shows : Xb := (.cons (.ite [] (.cmp .eq (.fld (.var 1) "kind") (.str "best")) (.cons (.ret [] (.call 0 (.cons (.var 0) (.cons (.var 1) .nil))))
 .nil) .nil)
 (.cons (.ite [] (.cmp .eq (.fld (.var 1) "kind") (.str "none")) (.cons (.ret [] (.call 1 (.cons (.var 0) (.cons (.var 1) .nil))))
 .nil) .nil)
 (.cons (.ret [] (.call 2 (.cons (.var 0) (.cons (.var 1) .nil))))
 .nil)))
/-! Program.__init__(self, costs, demands): slots self=0 costs=1 demands=2 parts=3 kind=4 bound=5; calls  -/
def N_Program___init__ : List Str := ["costs", "demands", "parts", "kind", "bound"]
def fs_Program___init__ : List Str := []
def b_Program___init__ : Xb := (.cons (.fst 0 "costs" [] (.bi .tuple (.cons (.var 1) .nil)))
 (.cons (.fst 0 "demands" [] (.bi .tuple (.cons (.lct [3, 4, 5] (.tup (.cons (.bi .tuple (.cons (.var 3) .nil)) (.cons (.var 4) (.cons (.var 5) .nil)))) (.sq (.var 2))) .nil)))
 .nil))
/-! Outcome.__init__(self, kind, point, value, prices, way): slots self=0 kind=1 point=2 value=3 prices=4 way=5; calls  -/
def N_Outcome___init__ : List Str := ["kind", "point", "value", "prices", "way"]
def fs_Outcome___init__ : List Str := []
def b_Outcome___init__ : Xb := (.cons (.fst 0 "kind" [] (.var 1))
 (.cons (.fst 0 "point" [] (.var 2))
 (.cons (.fst 0 "value" [] (.var 3))
 (.cons (.fst 0 "prices" [] (.var 4))
 (.cons (.fst 0 "way" [] (.var 5))
 .nil)))))
def T_along : DSp := fun ds kk _ => ∃ (l l' : Bool) (ps ts : List Int) (N : Nat), ds = [.sq l (ps.map .int), .sq l' (ts.map .int)] ∧ ps.length ≤ ts.length ∧ ps.length ≤ 128 ∧ (∀ p ∈ ps, Bd N p) ∧ (∀ t ∈ ts, Bd N t) ∧ N ≤ 20000 ∧ kk (.sh (.int (dotL ps ts)))
theorem w_along : Deep [] N_along b_along T_along := by
  rintro _ kk xx ⟨l, l', ps, ts, N, rfl, hl, h1, hp, ht, hN, hk⟩
  refine ⟨by rw [List.length_map]; omega, ?_⟩
  rw [List.length_map, Int.toNat_natCast]
  exact sumLc (f := fun j => ps.getD j 0 * ts.getD j 0) (by omega) (fun i hi => ⟨_, atG hi, _, atG (by omega), (hp _ (gdm hi)).mulW (ht _ (gdm (by omega))) (by omega), rfl⟩) hk
def T_keeps : DSp := fun ds kk _ => ∃ (k : Str) (l r : Int), ds = [.str k, .int l, .int r] ∧ kk (.sh (.bl (keepsP k l r)))
theorem w_keeps : Deep [] N_keeps b_keeps T_keeps := by
  rintro _ kk xx ⟨k, l, r, rfl, hk⟩
  refine ⟨fun h => ?_, fun h => ⟨fun h2 => ?_, fun h2 => ?_⟩⟩
  · unfold keepsP at hk; rw [if_pos h] at hk; exact hk
  · unfold keepsP at hk; rw [if_neg h, if_pos h2] at hk; exact hk
  · unfold keepsP at hk; rw [if_neg h, if_neg h2] at hk; exact hk
/-- a program of these sizes -/
structure PgOk (N : Nat) (costs : List Int) (dms : List Dem) : Prop where
  n : N ≤ 3000
  lc : costs.length ≤ 100
  ld : dms.length ≤ 100
  bc : ∀ c ∈ costs, Bd N c
  wd : ∀ d ∈ dms, d.1.length = costs.length
  bp : ∀ d ∈ dms, ∀ p ∈ d.1, Bd N p
  bb : ∀ d ∈ dms, Bd N d.2.2
def amountP (w : Nat) (ps : List Int) : Bool := decide (ps.length = w) && (List.range ps.length).all fun i => decide (0 ≤ ps.getD i 0)
def T_is_amount (C : Addr) : DSp := fun ds kk _ => ∃ (costs ps : List Int) (dms : List Dem) (q : Int), ds = [progD C costs dms, rw_ false false ps q] ∧ kk (.sh (.bl (amountP costs.length ps)))
theorem bl_false {a b : Bool} {k : S → Prop} (h : k (.sh (.bl a))) (e : a = b) : k (.sh (.bl b)) := e ▸ h
theorem and_f1 {a b : Bool} (h : a = false) : (a && b) = false := by rw [h]; rfl
theorem and_f2 {a b : Bool} (h : b = false) : (a && b) = false := by rw [h, Bool.and_false]
theorem and_tt {a b : Bool} (h : a = true) (h' : b = true) : (a && b) = true := by rw [h, h']; rfl
theorem itemI {l : Bool} {ns : List Int} {i : Nat} (h : i < ns.length) : (ns.map D.int).getD i .non = .int (ns.getD i 0) := by rw [getInt h, List.getD_eq_getElem?_getD, List.getElem?_eq_getElem h]; rfl
theorem w_is_amount (C : Addr) : Deep [] N_is_amount b_is_amount (T_is_amount C) := by
  rintro _ kk xx ⟨costs, ps, dms, q, rfl, hk⟩
  refine ⟨fun h => ?_, fun h => ?_⟩
  · have h : ps.length = costs.length := by rw [List.length_map, List.length_map] at h; omega
    refine for_all (List.length_map _) (fun i => decide (0 ≤ ps.getD i 0)) [.no, .no, .no] rfl (fun i hi nx ok no => ?_) (fun z => ?_) (fun z => ?_)
    · refine deq (P := fun d => wpt (.nm 2) d _ _) (itemI (l := true) hi) ?_
      exact ⟨fun hn => no (decide_eq_false (by omega)), fun hn => ok (decide_eq_true (by omega)) _ rfl⟩
    · exact bl_false hk (and_f2 z)
    · exact bl_false hk (and_tt (decide_eq_true h) z)
  · exact bl_false hk (and_f1 (decide_eq_false fun z => h (by rw [List.length_map, List.length_map, z])))
def demAt (dms : List Dem) (k : Nat) : Dem := dms.getD k ([], "", 0)
def meetsP (dms : List Dem) (ps : List Int) (f : Int) : Bool := (List.range dms.length).all fun i => keepsP (demAt dms i).2.1 (dotL (demAt dms i).1 ps) ((demAt dms i).2.2 * f)
theorem dem_mem {dms : List Dem} {i : Nat} (h : i < dms.length) : demAt dms i ∈ dms := by
  unfold demAt
  rw [List.getD_eq_getElem?_getD, List.getElem?_eq_getElem h]
  exact List.getElem_mem h
theorem itemD {l l' : Bool} {dms : List Dem} {i : Nat} (h : i < dms.length) : (dms.map (demG l l')).getD i .non = demG l l' (demAt dms i) := by
  unfold demAt
  rw [List.getD_eq_getElem?_getD, List.getElem?_map, List.getD_eq_getElem?_getD, List.getElem?_eq_getElem h]; rfl
theorem atDem {l l' : Bool} {dms : List Dem} {i : Nat} (h : i < dms.length) : atI (dms.map (demG l l')) (i : Int) = some (demG l l' (demAt dms i)) := atI_nat (by
  unfold demAt
  rw [List.getElem?_map, List.getD_eq_getElem?_getD, List.getElem?_eq_getElem h]; rfl)
def T_is_point (C : Addr) : DSp := fun ds kk _ => ∃ (N : Nat) (costs ps : List Int) (dms : List Dem) (q : Int), ds = [progD C costs dms, rw_ false false ps q] ∧ PgOk N costs dms ∧ (∀ p ∈ ps, Bd N p) ∧ Bd N q ∧ kk (.sh (.bl (amountP costs.length ps && meetsP dms ps q)))
theorem w_is_point (C : Addr) : Deep [T_is_amount C, T_along, T_keeps] N_is_point b_is_point (T_is_point C) := by
  rintro _ kk xx ⟨N, costs, ps, dms, q, rfl, ok, bp, bq, hk⟩
  have hn := ok.n
  refine ⟨costs, ps, dms, q, rfl, fun ha => ?_, fun ha => ?_⟩
  · have el : ps.length = costs.length := by unfold amountP at ha; exact of_decide_eq_true (Bool.and_eq_true_iff.mp ha).1
    refine for_all (List.length_map _) (fun i => keepsP (demAt dms i).2.1 (dotL (demAt dms i).1 ps) ((demAt dms i).2.2 * q)) [.no, .sh (rw_ false false ps q), .no, .no, .no] rfl (fun i hi nx ok' no => ?_) (fun z => ?_) (fun z => ?_)
    · refine deq (P := fun d => wpt (.tup [2, 3, 4]) d _ _) (itemD hi) ?_
      have hm := dem_mem hi
      generalize demAt dms i = d at *
      have hw := ok.wd d hm
      have hc := ok.lc
      refine ⟨false, false, d.1, ps, N, rfl, by omega, by omega, ok.bp d hm, bp, by omega, (ok.bb d hm).mulW bq (by omega), _, _, _, rfl, fun h => ok' h _ rfl, no⟩
    · exact bl_false hk (and_f2 z)
    · exact bl_false hk (and_tt ha z)
  · exact bl_false hk (and_f1 ha)
def fairAt (d : Dem) (f : Int) : Bool := !(decide (d.2.1 = ("most" : Str)) && decide (f < 0)) && !(decide (d.2.1 = ("least" : Str)) && decide (0 < f))
def fairP (dms : List Dem) (fs : List Int) : Bool := decide (fs.length = dms.length) && (List.range dms.length).all fun k => fairAt (demAt dms k) (fs.getD k 0)
def T_are_fair (C : Addr) : DSp := fun ds kk _ => ∃ (costs fs : List Int) (dms : List Dem) (q : Int), ds = [progD C costs dms, rw_ false false fs q] ∧ dms.length ≤ 1000 ∧ kk (.sh (.bl (fairP dms fs)))
theorem w_are_fair (C : Addr) : Deep [] N_are_fair b_are_fair (T_are_fair C) := by
  rintro _ kk xx ⟨costs, fs, dms, q, rfl, hd, hk⟩
  refine ⟨fun h => ?_, fun h => ?_⟩
  · have h : fs.length = dms.length := by rw [List.length_map, List.length_map] at h; omega
    refine ⟨by rw [List.length_map]; omega, for_all (m := dms.length) (by rw [Int.toNat_natCast, List.length_map]) (fun k => fairAt (demAt dms k) (fs.getD k 0)) [.sh (progD C costs dms), .sh (rw_ false false fs q), .no, .no] rfl (fun i hi nx ok no => ?_) (fun z => ?_) (fun z => ?_)⟩
    · have af := atG (ps := fs) (i := i) (by omega)
      refine ⟨_, atDem hi, ?_⟩
      generalize demAt dms i = d at *
      generalize fs.getD i 0 = f at *
      have L : ∀ {A : Prop}, fairAt d f = true → ((d.2.1 = ("least" : Str) → 0 < f → False) → A) → A := fun hf hA => hA fun a b => by
        unfold fairAt at hf
        rw [decide_eq_true a, decide_eq_true b] at hf
        simp at hf
      refine ⟨fun hm => ⟨_, af, fun hn => no ?_, fun hn => ?_⟩, fun hm => ?_⟩
      · unfold fairAt; rw [decide_eq_true hm, decide_eq_true hn]; rfl
      · refine ⟨fun hl => ⟨_, af, fun hp => no ?_, fun hp => ok ?_ _ rfl⟩, fun hl => ok ?_ _ rfl⟩
        · unfold fairAt; rw [decide_eq_true hl, decide_eq_true hp]; simp
        · unfold fairAt; rw [decide_eq_false hn, decide_eq_false hp]; simp
        · unfold fairAt; rw [decide_eq_false hn, decide_eq_false hl]; simp
      · refine ⟨fun hl => ⟨_, af, fun hp => no ?_, fun hp => ok ?_ _ rfl⟩, fun hl => ok ?_ _ rfl⟩
        · unfold fairAt; rw [decide_eq_true hl, decide_eq_true hp]; simp
        · unfold fairAt; rw [decide_eq_false hm, decide_eq_false hp]; simp
        · unfold fairAt; rw [decide_eq_false hm, decide_eq_false hl]; simp
    · exact bl_false hk (and_f2 z)
    · exact bl_false hk (and_tt (decide_eq_true h) z)
  · exact bl_false hk (and_f1 (decide_eq_false fun z => h (by rw [List.length_map, List.length_map, z])))
def colP (dms : List Dem) (fs : List Int) (j : Nat) : Int := ((List.range dms.length).map fun k => (demAt dms k).1.getD j 0 * fs.getD k 0).sum
def bndP (dms : List Dem) (fs : List Int) : Int := ((List.range dms.length).map fun k => (demAt dms k).2.2 * fs.getD k 0).sum
theorem colP_bd {N M : Nat} {costs : List Int} {dms : List Dem} {fs : List Int} {j : Nat} (ok : PgOk N costs dms) (hf : ∀ f ∈ fs, Bd M f) (hl : fs.length = dms.length) (hj : j < costs.length) : Bd (N + M + 7) (colP dms fs j) := sumB (fun i hi => by
  have hm := dem_mem hi
  exact (ok.bp _ hm _ (gdm (by rw [ok.wd _ hm]; exact hj))).mul (hf _ (gdm (by omega)))) (by have := ok.ld; omega)
theorem bndP_bd {N M : Nat} {costs : List Int} {dms : List Dem} {fs : List Int} (ok : PgOk N costs dms) (hf : ∀ f ∈ fs, Bd M f) (hl : fs.length = dms.length) : Bd (N + M + 7) (bndP dms fs) := sumB (fun i hi => (ok.bb _ (dem_mem hi)).mul (hf _ (gdm (by omega)))) (by have := ok.ld; omega)
def T_column_price (C : Addr) : DSp := fun ds kk _ => ∃ (N : Nat) (costs fs : List Int) (dms : List Dem) (q : Int) (j : Nat), ds = [progD C costs dms, rw_ false false fs q, .int (j : Int)] ∧ PgOk N costs dms ∧ fs.length = dms.length ∧ (∀ f ∈ fs, Bd N f) ∧ j < costs.length ∧ kk (.sh (.int (colP dms fs j)))
theorem w_column_price (C : Addr) : Deep [] N_column_price b_column_price (T_column_price C) := by
  rintro _ kk xx ⟨N, costs, fs, dms, q, j, rfl, ok, hl, bf, hj, hk⟩
  have hd := ok.ld
  have hn := ok.n
  refine ⟨by rw [List.length_map]; omega, ?_⟩
  rw [List.length_map, Int.toNat_natCast]
  refine sumLc (f := fun k => (demAt dms k).1.getD j 0 * fs.getD k 0) (by omega) (fun i hi => ?_) hk
  have hm := dem_mem hi
  have h2 : j < (demAt dms i).1.length := by rw [ok.wd _ hm]; exact hj
  exact ⟨_, atDem hi, _, atG h2, _, atG (by omega), (ok.bp _ hm _ (gdm h2)).mulW (bf _ (gdm (by omega))) (by omega), rfl⟩
def T_bound_price (C : Addr) : DSp := fun ds kk _ => ∃ (N : Nat) (costs fs : List Int) (dms : List Dem) (q : Int), ds = [progD C costs dms, rw_ false false fs q] ∧ PgOk N costs dms ∧ fs.length = dms.length ∧ (∀ f ∈ fs, Bd N f) ∧ kk (.sh (.int (bndP dms fs)))
theorem w_bound_price (C : Addr) : Deep [] N_bound_price b_bound_price (T_bound_price C) := by
  rintro _ kk xx ⟨N, costs, fs, dms, q, rfl, ok, hl, bf, hk⟩
  have hd := ok.ld
  have hn := ok.n
  refine ⟨by rw [List.length_map]; omega, ?_⟩
  rw [List.length_map, Int.toNat_natCast]
  refine sumLc (f := fun k => (demAt dms k).2.2 * fs.getD k 0) (by omega) (fun i hi => ?_) hk
  exact ⟨_, atDem hi, _, atG (by omega), (ok.bb _ (dem_mem hi)).mulW (bf _ (gdm (by omega))) (by omega), rfl⟩
def coversP (w : Nat) (dms : List Dem) (fs : List Int) (q : Int) (fl : List Int) : Bool := (List.range w).all fun j => !decide (colP dms fs j < fl.getD j 0 * q)
def T_covers (C : Addr) : DSp := fun ds kk _ => ∃ (N : Nat) (l : Bool) (costs fs fl : List Int) (dms : List Dem) (q : Int), ds = [progD C costs dms, rw_ false false fs q, .sq l (fl.map .int)] ∧ PgOk N costs dms ∧ fs.length = dms.length ∧ (∀ f ∈ fs, Bd N f) ∧ Bd N q ∧ fl.length = costs.length ∧ (∀ f ∈ fl, Bd N f) ∧ kk (.sh (.bl (coversP costs.length dms fs q fl)))
theorem w_covers (C : Addr) : Deep [T_column_price C] N_covers b_covers (T_covers C) := by
  rintro _ kk xx ⟨N, l, costs, fs, fl, dms, q, rfl, ok, hl, bf, bq, hfl, bfl, hk⟩
  have hc := ok.lc
  have hn := ok.n
  refine ⟨by rw [List.length_map]; omega, for_all (m := costs.length) (by rw [Int.toNat_natCast, List.length_map]) (fun j => !decide (colP dms fs j < fl.getD j 0 * q)) [.sh (progD C costs dms), .sh (rw_ false false fs q), .sh (.sq l (fl.map .int)), .no] rfl (fun i hi nx ok' no => ?_) (fun z => ?_) (fun z => ?_)⟩
  · refine ⟨N, costs, fs, dms, q, i, rfl, ok, hl, bf, hi, ?_⟩
    refine ⟨_, atG (by omega), (bfl _ (gdm (by omega))).mulW bq (by omega), fun h => no ?_, fun h => ok' ?_ _ rfl⟩
    · rw [decide_eq_true h]; rfl
    · rw [decide_eq_false h]; rfl
  · exact bl_false hk z
  · exact bl_false hk z
/-- what an outcome's fields say -/
inductive OutK where
  | best (ps : List Int) (q : Int) (u v : Int) (fs : List Int) (r : Int)
  | none (fs : List Int) (r : Int)
  | endless (ps : List Int) (q : Int) (ws : List Int) (r : Int)
def OutK.ds : OutK → List D
  | .best ps q u v fs r => [.str "best", rw_ false false ps q, .sq false [.int u, .int v], rw_ false false fs r, .non]
  | .none fs r => [.str "none", .non, .non, rw_ false false fs r, .non]
  | .endless ps q ws r => [.str "endless", rw_ false false ps q, .non, .non, rw_ false false ws r]
def OutK.bd (N : Nat) : OutK → Prop
  | .best ps q u v fs r => (∀ p ∈ ps, Bd N p) ∧ Bd N q ∧ Bd N u ∧ Bd N v ∧ (∀ f ∈ fs, Bd N f) ∧ Bd N r
  | .none fs r => (∀ f ∈ fs, Bd N f) ∧ Bd N r
  | .endless ps q ws r => (∀ p ∈ ps, Bd N p) ∧ Bd N q ∧ (∀ f ∈ ws, Bd N f) ∧ Bd N r
abbrev outO (C : Addr) (o : OutK) : D := .ins C [("kind", o.ds.getD 0 .non), ("point", o.ds.getD 1 .non), ("value", o.ds.getD 2 .non), ("prices", o.ds.getD 3 .non), ("way", o.ds.getD 4 .non)]
def zerosL (n : Nat) : List Int := List.replicate n 0
/-- the judge's answer -/
def showsP (costs : List Int) (dms : List Dem) : OutK → Bool
  | .best ps q u v fs r => (amountP costs.length ps && meetsP dms ps q) && (fairP dms fs && (decide (dotL costs ps * v = u * q) && (coversP costs.length dms fs r costs && decide (bndP dms fs * v = u * r))))
  | .none fs r => fairP dms fs && (coversP costs.length dms fs r (zerosL costs.length) && decide (bndP dms fs < 0))
  | .endless ps q ws r => (amountP costs.length ps && meetsP dms ps q) && (amountP costs.length ws && (meetsP dms ws 0 && decide (0 < dotL costs ws)))

theorem amount_len {w : Nat} {ps : List Int} (h : amountP w ps = true) : ps.length = w := by unfold amountP at h; exact of_decide_eq_true (Bool.and_eq_true_iff.mp h).1
theorem fair_len {dms : List Dem} {fs : List Int} (h : fairP dms fs = true) : fs.length = dms.length := by unfold fairP at h; exact of_decide_eq_true (Bool.and_eq_true_iff.mp h).1
def T_shows_best (C CO : Addr) : DSp := fun ds kk _ => ∃ (N : Nat) (costs : List Int) (dms : List Dem) (ps : List Int) (q u v : Int) (fs : List Int) (r : Int), ds = [progD C costs dms, outO CO (.best ps q u v fs r)] ∧ PgOk N costs dms ∧ (OutK.best ps q u v fs r).bd N ∧ kk (.sh (.bl (showsP costs dms (.best ps q u v fs r))))
theorem w_shows_best (C CO : Addr) : Deep [T_is_point C, T_are_fair C, T_along, T_covers C, T_bound_price C] N_shows_best b_shows_best (T_shows_best C CO) := by
  rintro _ kk xx ⟨N, costs, dms, ps, q, u, v, fs, r, rfl, ok, ⟨bp, bq, bu, bv, bf, br⟩, hk⟩
  have hn := ok.n
  have hc := ok.lc
  refine ⟨N, costs, ps, dms, q, rfl, ok, bp, bq, fun h1 => ?_, fun h1 => bl_false hk (and_f1 h1)⟩
  refine ⟨costs, fs, dms, r, rfl, by have := ok.ld; omega, fun h2 => ?_, fun h2 => bl_false hk (and_f2 (and_f1 h2))⟩
  have la := amount_len (Bool.and_eq_true_iff.mp h1).1
  have lf := fair_len h2
  refine ⟨false, false, costs, ps, N, rfl, by omega, by omega, ok.bc, bp, by omega, ?_⟩
  refine ⟨(dotL_bd ok.bc bp (by omega) (by omega)).mulW bv (by omega), bu.mulW bq (by omega), fun h3 => ?_, fun h3 => bl_false hk (and_f2 (and_f2 (and_f1 (decide_eq_false h3))))⟩
  refine ⟨N, false, costs, fs, costs, dms, r, rfl, ok, lf, bf, br, rfl, ok.bc, fun h4 => ?_, fun h4 => bl_false hk (and_f2 (and_f2 (and_f2 (and_f1 h4))))⟩
  refine ⟨N, costs, fs, dms, r, rfl, ok, lf, bf, ?_⟩
  refine ⟨(bndP_bd ok bf lf).mulW bv (by omega), bu.mulW br (by omega), ?_⟩
  refine bl_false hk ?_
  show (_ && (_ && (_ && (_ && _)))) = _
  rw [h1, h2, h4, decide_eq_true h3]
  rfl
theorem rep0 (n : Nat) : (List.replicate n [D.int 0]).flatten = (zerosL n).map D.int := by
  unfold zerosL
  induction n with
  | zero => rfl
  | succ n ih => rw [List.replicate_succ, List.flatten_cons, ih]; rfl
def T_shows_none (C CO : Addr) : DSp := fun ds kk _ => ∃ (N : Nat) (costs : List Int) (dms : List Dem) (fs : List Int) (r : Int), ds = [progD C costs dms, outO CO (.none fs r)] ∧ PgOk N costs dms ∧ (OutK.none fs r).bd N ∧ kk (.sh (.bl (showsP costs dms (.none fs r))))
theorem w_shows_none (C CO : Addr) : Deep [T_are_fair C, T_covers C, T_bound_price C] N_shows_none b_shows_none (T_shows_none C CO) := by
  rintro _ kk xx ⟨N, costs, dms, fs, r, rfl, ok, ⟨bf, br⟩, hk⟩
  have hn := ok.n
  have hc := ok.lc
  refine ⟨costs, fs, dms, r, rfl, by have := ok.ld; omega, fun h2 => ?_, fun h2 => bl_false hk (and_f1 h2)⟩
  have lf := fair_len h2
  refine ⟨⟨by rw [List.length_map]; omega, by rw [List.length_map]; omega, ?_⟩, ?_⟩
  · rw [List.length_map, Int.toNat_natCast]
    show 1 * _ ≤ _
    omega
  refine ⟨N, true, costs, fs, zerosL costs.length, dms, r, ?_, ok, lf, bf, br, by unfold zerosL; rw [List.length_replicate], fun f hf => ?_, fun h4 => ?_, fun h4 => bl_false hk (and_f2 (and_f1 h4))⟩
  · rw [← rep0, ← Int.toNat_natCast costs.length]
    show [_, _, D.sq true _] = _
    rw [List.length_map]
    rfl
  · unfold zerosL at hf
    rw [(List.mem_replicate.mp hf).2]; exact Nat.two_pow_pos N
  refine ⟨N, costs, fs, dms, r, rfl, ok, lf, bf, ?_⟩
  refine bl_false hk ?_
  show (_ && (_ && _)) = _
  rw [h2, h4]
  rfl
def T_shows_endless (C CO : Addr) : DSp := fun ds kk _ => ∃ (N : Nat) (costs : List Int) (dms : List Dem) (ps : List Int) (q : Int) (ws : List Int) (r : Int), ds = [progD C costs dms, outO CO (.endless ps q ws r)] ∧ PgOk N costs dms ∧ (OutK.endless ps q ws r).bd N ∧ kk (.sh (.bl (showsP costs dms (.endless ps q ws r))))
theorem w_shows_endless (C CO : Addr) : Deep [T_is_point C, T_is_amount C, T_along, T_keeps] N_shows_endless b_shows_endless (T_shows_endless C CO) := by
  rintro _ kk xx ⟨N, costs, dms, ps, q, ws, r, rfl, ok, ⟨bp, bq, bw, br⟩, hk⟩
  have hn := ok.n
  have hc := ok.lc
  refine ⟨N, costs, ps, dms, q, rfl, ok, bp, bq, fun h1 => ?_, fun h1 => bl_false hk (and_f1 h1)⟩
  refine ⟨costs, ws, dms, r, rfl, fun h2 => ?_, fun h2 => bl_false hk (and_f2 (and_f1 h2))⟩
  have lw := amount_len h2
  refine for_all (List.length_map _) (fun i => keepsP (demAt dms i).2.1 (dotL (demAt dms i).1 ws) ((demAt dms i).2.2 * 0)) [.sh (progD C costs dms), .sh (outO CO (.endless ps q ws r)), .no, .no, .no] rfl (fun i hi nx ok' no => ?_) (fun z => bl_false hk (and_f2 (and_f2 (and_f1 z)))) (fun z => ?_)
  · refine deq (P := fun d => wpt (.tup [2, 3, 4]) d _ _) (itemD hi) ?_
    have hm := dem_mem hi
    rw [Int.mul_zero] at *
    generalize demAt dms i = d at *
    have hw := ok.wd d hm
    refine ⟨false, false, d.1, ws, N, rfl, by omega, by omega, ok.bp d hm, bw, by omega, _, _, _, rfl, fun h => ok' h _ rfl, no⟩
  · refine ⟨false, false, costs, ws, N, rfl, by omega, by omega, ok.bc, bw, by omega, ?_⟩
    refine bl_false hk ?_
    show (_ && (_ && (_ && _))) = _
    rw [h1, h2, show meetsP dms ws 0 = true from z]
    rfl
def T_shows (C CO : Addr) : DSp := fun ds kk _ => ∃ (N : Nat) (costs : List Int) (dms : List Dem) (o : OutK), ds = [progD C costs dms, outO CO o] ∧ PgOk N costs dms ∧ o.bd N ∧ kk (.sh (.bl (showsP costs dms o)))
theorem w_shows (C CO : Addr) : Deep [T_shows_best C CO, T_shows_none C CO, T_shows_endless C CO] N_shows b_shows (T_shows C CO) := by
  rintro _ kk xx ⟨N, costs, dms, o, rfl, ok, bo, hk⟩
  cases o with
  | best ps q u v fs r => exact ⟨fun _ => ⟨N, costs, dms, ps, q, u, v, fs, r, rfl, ok, bo, hk⟩, fun h => absurd rfl h⟩
  | none fs r => exact ⟨fun h => absurd h (by decide +kernel), fun _ => ⟨fun _ => ⟨N, costs, dms, fs, r, rfl, ok, bo, hk⟩, fun h => absurd rfl h⟩⟩
  | endless ps q ws r => exact ⟨fun h => absurd h (by decide +kernel), fun _ => ⟨fun h => absurd h (by decide +kernel), fun _ => ⟨N, costs, dms, ps, q, ws, r, rfl, ok, bo, hk⟩⟩⟩
/-! the classes -/
abbrev ksProgram : List Str := ["costs", "demands"]
abbrev ksOutcome : List Str := ["kind", "point", "value", "prices", "way"]
def T_Program (C : Addr) : DSp := fun ds kk _ => ∃ (l l1 l2 l3 : Bool) (costs : List Int) (dms : List Dem), ds = [.sq l (costs.map .int), .sq l1 (dms.map (demG l2 l3))] ∧ costs.length ≤ 1000 ∧ dms.length ≤ 1000 ∧ kk (.sh (progD C costs dms))
theorem w_Program (C : Addr) : DeepI [] N_Program___init__ b_Program___init__ C ksProgram (T_Program C) := by
  rintro a _ kk xx ⟨l, l1, l2, l3, costs, dms, rfl, hc, hd, hk⟩
  refine ⟨⟨rfl, rfl⟩, ?_⟩
  refine lcw (demG l2 l3) (demG false false) (by omega) (fun d hd => ⟨rfl, rfl⟩) ?_
  exact ⟨⟨rfl, rfl⟩, _, rfl, hk⟩
def T_Outcome (CO : Addr) : DSp := fun ds kk _ => ∃ o : OutK, ds = o.ds ∧ kk (.sh (outO CO o))
theorem w_Outcome (CO : Addr) : DeepI [] N_Outcome___init__ b_Outcome___init__ CO ksOutcome (T_Outcome CO) := by
  rintro a _ kk xx ⟨o, rfl, hk⟩
  cases o <;> exact ⟨⟨rfl, rfl⟩, ⟨rfl, rfl⟩, ⟨rfl, rfl⟩, ⟨rfl, rfl⟩, ⟨rfl, rfl⟩, _, rfl, hk⟩
end K00
set_option Elab.async false
set_option linter.all false
set_option maxRecDepth 100000
set_option maxHeartbeats 4000000
set_option pp.maxSteps 600
set_option exponentiation.threshold 50000
/-! k05: the law's own judge. -/
namespace K00
open PySem PySem.Spec PyProof.Rows L2 DL
/-! _law_sum(parts, tops): slots parts=0 tops=1 j=2; calls  -/
def N__law_sum : List Str := ["parts", "tops", "j"]
def fs__law_sum : List Str := []
def b__law_sum : Xb := (.cons (.ret [] (.bi .sum (.cons (.lc 2 (.bin .mul (.ix (.var 0) (.var 2)) (.ix (.var 1) (.var 2))) (.rng (.bi .len (.cons (.var 0) .nil)))) .nil)))
 .nil)
/-! _law_column(parts, fees, j): slots parts=0 fees=1 j=2 k=3; calls  -/
def N__law_column : List Str := ["parts", "fees", "j", "k"]
def fs__law_column : List Str := []
def b__law_column : Xb := (.cons (.ret [] (.bi .sum (.cons (.lc 3 (.bin .mul (.ix (.ix (.var 0) (.var 3)) (.var 2)) (.ix (.var 1) (.var 3))) (.rng (.bi .len (.cons (.var 0) .nil)))) .nil)))
 .nil)
/-! _law_keeps(kind, left, right): slots kind=0 left=1 right=2; calls  -/
def N__law_keeps : List Str := ["kind", "left", "right"]
def fs__law_keeps : List Str := []
def b__law_keeps : Xb := (.cons (.ite [] (.cmp .eq (.var 0) (.str "same")) (.cons (.ret [] (.cmp .eq (.var 1) (.var 2)))
 .nil) .nil)
 (.cons (.ite [] (.cmp .eq (.var 0) (.str "most")) (.cons (.ret [] (.cmp .le (.var 1) (.var 2)))
 .nil) .nil)
 (.cons (.ret [] (.cmp .ge (.var 1) (.var 2)))
 .nil)))
/-! _law_meets(laid, amounts, factor): slots laid=0 amounts=1 factor=2 top=3 demand=4; calls _law_sum/2 _law_keeps/3 -/
def N__law_meets : List Str := ["laid", "amounts", "factor", "top", "demand"]
def fs__law_meets : List Str := ["_law_sum", "_law_keeps"]
def b__law_meets : Xb := (.cons (.ite [] (.cmp .ne (.bi .len (.cons (.ixn (.var 1) 0) .nil)) (.bi .len (.cons (.ixn (.var 0) 0) .nil))) (.cons (.ret [] (.bl false))
 .nil) .nil)
 (.cons (.for_ [3, 4] [] (.nm 3) (.sq (.ixn (.var 1) 0)) (.cons (.ite [] (.cmp .lt (.var 3) (.int 0)) (.cons (.ret [] (.bl false))
 .nil) .nil)
 .nil))
 (.cons (.for_ [0, 3, 4] [] (.nm 4) (.sq (.ixn (.var 0) 1)) (.cons (.ite [] (.not (.call 1 (.cons (.ixn (.var 4) 1) (.cons (.call 0 (.cons (.ixn (.var 4) 0) (.cons (.ixn (.var 1) 0) .nil))) (.cons (.bin .mul (.bin .mul (.ixn (.var 4) 2) (.ixn (.var 1) 1)) (.var 2)) .nil))))) (.cons (.ret [] (.bl false))
 .nil) .nil)
 .nil))
 (.cons (.ret [] (.bl true))
 .nil))))
/-! _law_priced(laid, fees, factor): slots laid=0 fees=1 factor=2 demand=3 parts=4 k=5 j=6; calls _law_column/3 -/
def N__law_priced : List Str := ["laid", "fees", "factor", "demand", "parts", "k", "j"]
def fs__law_priced : List Str := ["_law_column"]
def b__law_priced : Xb := (.cons (.ite [] (.cmp .ne (.bi .len (.cons (.ixn (.var 1) 0) .nil)) (.bi .len (.cons (.ixn (.var 0) 1) .nil))) (.cons (.ret [] (.bl false))
 .nil) .nil)
 (.cons (.set 4 false [] (.lc 3 (.ixn (.var 3) 0) (.sq (.ixn (.var 0) 1))))
 (.cons (.for_ [3, 5, 6] [] (.nm 5) (.rng (.bi .len (.cons (.ixn (.var 0) 1) .nil))) (.cons (.ite [] (.or (.cons (.and (.cons (.cmp .eq (.ixn (.ix (.ixn (.var 0) 1) (.var 5)) 1) (.str "most")) (.cons (.cmp .lt (.ix (.ixn (.var 1) 0) (.var 5)) (.int 0)) .nil))) (.cons (.and (.cons (.cmp .eq (.ixn (.ix (.ixn (.var 0) 1) (.var 5)) 1) (.str "least")) (.cons (.cmp .gt (.ix (.ixn (.var 1) 0) (.var 5)) (.int 0)) .nil))) .nil))) (.cons (.ret [] (.bl false))
 .nil) .nil)
 .nil))
 (.cons (.for_ [3, 5, 6] [] (.nm 6) (.rng (.bi .len (.cons (.ixn (.var 0) 0) .nil))) (.cons (.ite [] (.cmp .lt (.call 0 (.cons (.var 4) (.cons (.ixn (.var 1) 0) (.cons (.var 6) .nil)))) (.bin .mul (.bin .mul (.ix (.ixn (.var 0) 0) (.var 6)) (.ixn (.var 1) 1)) (.var 2))) (.cons (.ret [] (.bl false))
 .nil) .nil)
 .nil))
 (.cons (.ret [] (.bl true))
 .nil)))))
/-! _law_truth(laid, fields): slots laid=0 fields=1 demand=2 bounds=3 value=4; calls _law_priced/3 _law_sum/2 _law_meets/3 -/
def N__law_truth : List Str := ["laid", "fields", "demand", "bounds", "value"]
def fs__law_truth : List Str := ["_law_priced", "_law_sum", "_law_meets"]
def b__law_truth : Xb := (.cons (.set 3 false [] (.lc 2 (.ixn (.var 2) 2) (.sq (.ixn (.var 0) 1))))
 (.cons (.ite [] (.cmp .eq (.ixn (.var 1) 0) (.str "none")) (.cons (.ret [] (.and (.cons (.call 0 (.cons (.var 0) (.cons (.ixn (.var 1) 3) (.cons (.int 0) .nil)))) (.cons (.cmp .lt (.call 1 (.cons (.var 3) (.cons (.ixn (.ixn (.var 1) 3) 0) .nil))) (.int 0)) .nil))))
 .nil) .nil)
 (.cons (.ite [] (.not (.call 2 (.cons (.var 0) (.cons (.ixn (.var 1) 1) (.cons (.int 1) .nil))))) (.cons (.ret [] (.bl false))
 .nil) .nil)
 (.cons (.ite [] (.cmp .eq (.ixn (.var 1) 0) (.str "endless")) (.cons (.ret [] (.and (.cons (.call 2 (.cons (.var 0) (.cons (.ixn (.var 1) 4) (.cons (.int 0) .nil)))) (.cons (.cmp .gt (.call 1 (.cons (.ixn (.var 0) 0) (.cons (.ixn (.ixn (.var 1) 4) 0) .nil))) (.int 0)) .nil))))
 .nil) .nil)
 (.cons (.set 4 false [] (.ixn (.var 1) 2))
 (.cons (.ite [] (.or (.cons (.cmp .ne (.bin .mul (.call 1 (.cons (.ixn (.var 0) 0) (.cons (.ixn (.ixn (.var 1) 1) 0) .nil))) (.ixn (.var 4) 1)) (.bin .mul (.ixn (.var 4) 0) (.ixn (.ixn (.var 1) 1) 1))) (.cons (.not (.call 0 (.cons (.var 0) (.cons (.ixn (.var 1) 3) (.cons (.int 1) .nil))))) .nil))) (.cons (.ret [] (.bl false))
 .nil) .nil)
 (.cons (.ret [] (.cmp .eq (.bin .mul (.call 1 (.cons (.var 3) (.cons (.ixn (.ixn (.var 1) 3) 0) .nil))) (.ixn (.var 4) 1)) (.bin .mul (.ixn (.var 4) 0) (.ixn (.ixn (.var 1) 3) 1))))
 .nil)))))))
/-! _law_told(program, outcome, due): slots program=0 outcome=1 due=2; calls shows/2 -/
def N__law_told : List Str := ["program", "outcome", "due"]
def fs__law_told : List Str := ["shows"]
def b__law_told : Xb := (.cons (.ite [] (.var 2) (.cons (.ret [] (.cmp .is (.call 0 (.cons (.var 0) (.cons (.var 1) .nil))) (.bl true)))
 .nil) .nil)
 (.cons (.ret [] (.cmp .is (.call 0 (.cons (.var 0) (.cons (.var 1) .nil))) (.bl false)))
 .nil))
/-! _law_program(laid, style): slots laid=0 style=1 demand=2; calls Program/2 -/
def N__law_program : List Str := ["laid", "style", "demand"]
def fs__law_program : List Str := ["Program"]
def b__law_program : Xb := (.cons (.ite [] (.cmp .eq (.var 1) (.int 1)) (.cons (.ret [] (.call 0 (.cons (.bi .tuple (.cons (.ixn (.var 0) 0) .nil)) (.cons (.bi .tuple (.cons (.lc 2 (.tup (.cons (.bi .tuple (.cons (.ixn (.var 2) 0) .nil)) (.cons (.ixn (.var 2) 1) (.cons (.ixn (.var 2) 2) .nil)))) (.sq (.ixn (.var 0) 1))) .nil)) .nil))))
 .nil) .nil)
 (.cons (.ret [] (.call 0 (.cons (.bi .list (.cons (.ixn (.var 0) 0) .nil)) (.cons (.lc 2 (.lst (.cons (.bi .list (.cons (.ixn (.var 2) 0) .nil)) (.cons (.ixn (.var 2) 1) (.cons (.ixn (.var 2) 2) .nil)))) (.sq (.ixn (.var 0) 1))) .nil))))
 .nil))
theorem w_sum : Deep [] N__law_sum b__law_sum T_along := w_along
theorem w_lkeeps : Deep [] N__law_keeps b__law_keeps T_keeps := w_keeps
def colL (ls : List (List Int)) (fs : List Int) (j : Nat) : Int := ((List.range ls.length).map fun k => (ls.getD k []).getD j 0 * fs.getD k 0).sum
abbrev lsD (l : Bool) (ls : List (List Int)) : List D := ls.map fun ps => .sq l (ps.map .int)
theorem atLs {l : Bool} {ls : List (List Int)} {i : Nat} (h : i < ls.length) : atI (lsD l ls) (i : Int) = some (.sq l ((ls.getD i []).map .int)) := atI_nat (by rw [List.getElem?_map, List.getD_eq_getElem?_getD, List.getElem?_eq_getElem h]; rfl)
theorem ls_mem {ls : List (List Int)} {i : Nat} (h : i < ls.length) : ls.getD i [] ∈ ls := by rw [List.getD_eq_getElem?_getD, List.getElem?_eq_getElem h]; exact List.getElem_mem h
theorem colL_bd {N M : Nat} {ls : List (List Int)} {fs : List Int} {j : Nat} (hp : ∀ ps ∈ ls, ∀ p ∈ ps, Bd N p) (hf : ∀ f ∈ fs, Bd M f) (hl : ls.length ≤ fs.length) (hj : ∀ ps ∈ ls, j < ps.length) (hd : ls.length ≤ 128) : Bd (N + M + 7) (colL ls fs j) := sumB (fun i hi => (hp _ (ls_mem hi) _ (gdm (hj _ (ls_mem hi)))).mul (hf _ (gdm (by omega)))) hd
def T_column : DSp := fun ds kk _ => ∃ (N : Nat) (l l' l2 : Bool) (ls : List (List Int)) (fs : List Int) (j : Nat), ds = [.sq l (lsD l2 ls), .sq l' (fs.map .int), .int (j : Int)] ∧ ls.length ≤ fs.length ∧ ls.length ≤ 1000 ∧ (∀ ps ∈ ls, j < ps.length ∧ ∀ p ∈ ps, Bd N p) ∧ (∀ f ∈ fs, Bd N f) ∧ N ≤ 20000 ∧ kk (.sh (.int (colL ls fs j)))
theorem w_column : Deep [] N__law_column b__law_column T_column := by
  rintro _ kk xx ⟨N, l, l', l2, ls, fs, j, rfl, hl, hd, hp, hf, hN, hk⟩
  refine ⟨by rw [List.length_map]; omega, ?_⟩
  rw [List.length_map, Int.toNat_natCast]
  refine sumLc (f := fun k => (ls.getD k []).getD j 0 * fs.getD k 0) (by omega) (fun i hi => ?_) hk
  have hm := hp _ (ls_mem hi)
  exact ⟨_, atLs hi, _, atG hm.1, _, atG (by omega), (hm.2 _ (gdm hm.1)).mulW (hf _ (gdm (by omega))) (by omega), rfl⟩
theorem gdMap {α : Type} {f : Dem → α} {dms : List Dem} {k : Nat} {d0 : α} (h : k < dms.length) : (dms.map f).getD k d0 = f (demAt dms k) := by
  unfold demAt
  rw [List.getD_eq_getElem?_getD, List.getElem?_map, List.getElem?_eq_getElem h, List.getD_eq_getElem?_getD, List.getElem?_eq_getElem h]
  rfl
theorem colP_L {dms : List Dem} {fs : List Int} {j : Nat} : colL (dms.map (·.1)) fs j = colP dms fs j := by
  unfold colL colP
  rw [List.length_map]
  exact congrArg List.sum (List.map_congr_left fun k hk => by rw [gdMap (List.mem_range.mp hk)])
theorem bndP_L {dms : List Dem} {fs : List Int} : dotL (dms.map (·.2.2)) fs = bndP dms fs := by
  unfold dotL bndP
  rw [List.length_map]
  exact congrArg List.sum (List.map_congr_left fun k hk => by rw [gdMap (List.mem_range.mp hk)])
abbrev laidD (costs : List Int) (dms : List Dem) : D := .sq true [.sq true (costs.map .int), .sq true (dms.map (demG true true))]
def T_meets : DSp := fun ds kk _ => ∃ (N : Nat) (costs ps : List Int) (dms : List Dem) (q f : Int), ds = [laidD costs dms, rw_ false false ps q, .int f] ∧ PgOk N costs dms ∧ (∀ p ∈ ps, Bd N p) ∧ Bd N q ∧ Bd 2 f ∧ kk (.sh (.bl (amountP costs.length ps && meetsP dms ps (q * f))))
theorem w_meets : Deep [T_along, T_keeps] N__law_meets b__law_meets T_meets := by
  rintro _ kk xx ⟨N, costs, ps, dms, q, f, rfl, ok, bp, bq, bf, hk⟩
  have hn := ok.n
  have hc := ok.lc
  refine ⟨fun h => ?_, fun h => bl_false hk (and_f1 (and_f1 (decide_eq_false fun z => h (by rw [List.length_map, List.length_map, z]))))⟩
  have h : ps.length = costs.length := by rw [List.length_map, List.length_map] at h; omega
  refine for_all (List.length_map _) (fun i => decide (0 ≤ ps.getD i 0)) [.sh (laidD costs dms), .sh (rw_ false false ps q), .sh (.int f), .no, .no] rfl (fun i hi nx ok no => ?_) (fun z => bl_false hk (and_f1 (and_f2 z))) (fun z1 => ?_)
  · refine deq (P := fun d => wpt (.nm 3) d _ _) (itemI (l := true) hi) ?_
    exact ⟨fun hn => no (decide_eq_false (by omega)), fun hn => ok (decide_eq_true (by omega)) _ rfl⟩
  refine for_all (List.length_map _) (fun i => keepsP (demAt dms i).2.1 (dotL (demAt dms i).1 ps) ((demAt dms i).2.2 * (q * f))) [.no, .sh (rw_ false false ps q), .sh (.int f), .no, .no] rfl (fun i hi nx ok' no => ?_) (fun z => bl_false hk (and_f2 z)) (fun z => bl_false hk (and_tt (and_tt (decide_eq_true h) z1) z))
  refine deq (P := fun d => wpt (.nm 4) d _ _) (itemD hi) ?_
  have hm := dem_mem hi
  generalize demAt dms i = d at *
  have hw := ok.wd d hm
  rw [← Int.mul_assoc] at ok' no
  exact ⟨true, false, d.1, ps, N, rfl, by omega, by omega, ok.bp d hm, bp, by omega, (ok.bb d hm).mulW bq (by omega), ((ok.bb d hm).mul bq).mulW bf (by omega), _, _, _, rfl, fun h => ok' h _ rfl, no⟩
def pricedP (costs : List Int) (dms : List Dem) (fs : List Int) (r f : Int) : Bool := fairP dms fs && (List.range costs.length).all fun j => !decide (colP dms fs j < costs.getD j 0 * r * f)
def T_priced : DSp := fun ds kk _ => ∃ (N : Nat) (costs fs : List Int) (dms : List Dem) (r f : Int), ds = [laidD costs dms, rw_ false false fs r, .int f] ∧ PgOk N costs dms ∧ (∀ p ∈ fs, Bd N p) ∧ Bd N r ∧ Bd 2 f ∧ kk (.sh (.bl (pricedP costs dms fs r f)))
theorem w_priced : Deep [T_column] N__law_priced b__law_priced T_priced := by
  rintro _ kk xx ⟨N, costs, fs, dms, r, f, rfl, ok, bf, br, b2, hk⟩
  have hn := ok.n
  have hc := ok.lc
  have hd := ok.ld
  refine ⟨fun h => ?_, fun h => bl_false hk (and_f1 (and_f1 (decide_eq_false fun z => h (by rw [List.length_map, List.length_map, z]))))⟩
  have h : fs.length = dms.length := by rw [List.length_map, List.length_map] at h; omega
  refine lcw (demG true true) (fun d => .sq true (d.1.map .int)) (by omega) (fun d _ => rfl) ?_
  refine ⟨by rw [List.length_map]; omega, for_all (m := dms.length) (by rw [Int.toNat_natCast, List.length_map]) (fun k => fairAt (demAt dms k) (fs.getD k 0)) [.sh (laidD costs dms), .sh (rw_ false false fs r), .sh (.int f), .no, .sh (.sq true (dms.map fun d => .sq true (d.1.map .int))), .no, .no] rfl (fun i hi nx ok' no => ?_) (fun z => bl_false hk (and_f1 (and_f2 z))) (fun z1 => ?_)⟩
  · have af := atG (ps := fs) (i := i) (by omega)
    have ad := atDem (l := true) (l' := true) hi
    generalize demAt dms i = d at *
    generalize fs.getD i 0 = g at *
    have second : (d.2.1 = ("most" : Str) ∧ g < 0 → False) → (∃ x, atI (dms.map (demG true true)) (i : Int) = some x ∧ ixN' x 1 fun y => eqT y (.str "least") (∃ z, atI (fs.map D.int) (i : Int) = some z ∧ cmpT .gt z (.int 0) (kk (.sh (.bl false))) (nx [.sh (laidD costs dms), .sh (rw_ false false fs r), .sh (.int f), .no, .sh (.sq true (dms.map fun d => .sq true (d.1.map .int))), .sh (.int (i : Int)), .no])) (nx [.sh (laidD costs dms), .sh (rw_ false false fs r), .sh (.int f), .no, .sh (.sq true (dms.map fun d => .sq true (d.1.map .int))), .sh (.int (i : Int)), .no])) := fun hmm => by
      refine ⟨_, ad, fun hl => ⟨_, af, fun hp => no ?_, fun hp => ok' ?_ _ rfl⟩, fun hl => ok' ?_ _ rfl⟩
      · unfold fairAt; rw [decide_eq_true hl, decide_eq_true hp]; simp
      · unfold fairAt; rw [decide_eq_false hp]
        rcases Decidable.em (d.2.1 = ("most" : Str)) with a | a
        · rw [decide_eq_false fun b => hmm ⟨a, b⟩]; simp
        · rw [decide_eq_false a]; simp
      · unfold fairAt; rw [decide_eq_false hl]
        rcases Decidable.em (d.2.1 = ("most" : Str)) with a | a
        · rw [decide_eq_false fun b => hmm ⟨a, b⟩]; simp
        · rw [decide_eq_false a]; simp
    refine ⟨_, ad, fun hm => ⟨_, af, fun hn => no ?_, fun hn => second fun z => hn z.2⟩, fun hm => second fun z => hm z.1⟩
    unfold fairAt; rw [decide_eq_true hm, decide_eq_true hn]; rfl
  refine ⟨by rw [List.length_map]; omega, for_all (m := costs.length) (by rw [Int.toNat_natCast, List.length_map]) (fun j => !decide (colP dms fs j < costs.getD j 0 * r * f)) [.sh (laidD costs dms), .sh (rw_ false false fs r), .sh (.int f), .no, .sh (.sq true (dms.map fun d => .sq true (d.1.map .int))), .no, .no] rfl (fun i hi nx ok' no => ?_) (fun z => bl_false hk (and_f2 z)) (fun z => bl_false hk (and_tt (and_tt (decide_eq_true h) z1) z))⟩
  refine ⟨N, true, false, true, dms.map (·.1), fs, i, ?_, by rw [List.length_map]; omega, by rw [List.length_map]; omega, fun ps hps => ?_, bf, by omega, ?_⟩
  · show [_, _, _] = [D.sq true ((dms.map (·.1)).map _), _, _]
    rw [List.map_map]; rfl
  · obtain ⟨d, hd', rfl⟩ := List.mem_map.mp hps
    exact ⟨by rw [ok.wd d hd']; exact hi, ok.bp d hd'⟩
  rw [colP_L]
  have bc := ok.bc _ (gdm hi)
  refine ⟨_, atG hi, bc.mulW br (by omega), (bc.mul br).mulW b2 (by omega), fun h => no ?_, fun h => ok' ?_ _ rfl⟩
  · rw [decide_eq_true h]; rfl
  · rw [decide_eq_false h]; rfl
theorem priced1 {costs : List Int} {dms : List Dem} {fs : List Int} {r : Int} : pricedP costs dms fs r 1 = (fairP dms fs && coversP costs.length dms fs r costs) := by
  unfold pricedP coversP
  simp only [Int.mul_one]
theorem getD_zeros (n j : Nat) : (zerosL n).getD j 0 = 0 := by
  unfold zerosL
  rw [List.getD_eq_getElem?_getD, List.getElem?_replicate]
  split <;> rfl
theorem priced0 {costs : List Int} {dms : List Dem} {fs : List Int} {r : Int} : pricedP costs dms fs r 0 = (fairP dms fs && coversP costs.length dms fs r (zerosL costs.length)) := by
  unfold pricedP coversP
  simp only [Int.mul_zero, getD_zeros, Int.zero_mul]

abbrev fieldsD (o : OutK) : D := .sq true o.ds
def T_truth : DSp := fun ds kk _ => ∃ (N : Nat) (costs : List Int) (dms : List Dem) (o : OutK), ds = [laidD costs dms, fieldsD o] ∧ PgOk N costs dms ∧ o.bd N ∧ kk (.sh (.bl (showsP costs dms o)))
theorem bd2 {f : Int} (h : f = 0 ∨ f = 1) : Bd 2 f := show f.natAbs < 2 ^ 2 by rcases h with rfl | rfl <;> decide
theorem w_truth : Deep [T_priced, T_along, T_meets] N__law_truth b__law_truth T_truth := by
  rintro _ kk xx ⟨N, costs, dms, o, rfl, ok, bo, hk⟩
  have hn := ok.n
  have hc := ok.lc
  have hd := ok.ld
  refine lcw (demG true true) (fun d => .int d.2.2) (by omega) (fun d _ => rfl) ?_
  have eb : (dms.map fun d => D.int d.2.2) = (dms.map (·.2.2)).map .int := by rw [List.map_map]; rfl
  have bb : ∀ p ∈ dms.map (·.2.2), Bd N p := fun p hp => by
    obtain ⟨d, hd', rfl⟩ := List.mem_map.mp hp
    exact ok.bb d hd'
  have bsum : ∀ {fs : List Int} {K : S → Prop} {X' : XD}, fs.length = dms.length → (∀ f ∈ fs, Bd N f) → K (.sh (.int (bndP dms fs))) → CallW T_along [.sq true (dms.map fun d => D.int d.2.2), .sq false (fs.map .int)] K X' := fun {fs K X'} hl hf h => by
    rw [eb]
    exact ⟨true, false, dms.map (·.2.2), fs, N, rfl, by rw [List.length_map]; omega, by rw [List.length_map]; omega, bb, hf, by omega, by rw [bndP_L]; exact h⟩
  cases o with
  | none fs r =>
    obtain ⟨bf, br⟩ := bo
    refine ⟨fun _ => ?_, fun h => absurd rfl h⟩
    refine ⟨N, costs, fs, dms, r, 0, rfl, ok, bf, br, bd2 (.inl rfl), fun h => ?_, fun h => ?_⟩
    · rw [priced0] at h
      obtain ⟨h1, h2⟩ := Bool.and_eq_true_iff.mp h
      refine bsum (fair_len h1) bf (bl_false hk ?_)
      show (_ && (_ && _)) = _
      rw [h1, h2]; rfl
    · rw [priced0] at h
      refine bl_false hk ?_
      show (_ && (_ && _)) = _
      rw [← Bool.and_assoc, h]; rfl
  | endless ps q ws r =>
    obtain ⟨bp, bq, bw, br⟩ := bo
    refine ⟨fun h => absurd h (by decide +kernel), fun _ => ?_⟩
    refine ⟨N, costs, ps, dms, q, 1, rfl, ok, bp, bq, bd2 (.inr rfl), fun h1 => ?_, fun h1 => ?_⟩
    · rw [Int.mul_one] at h1
      refine ⟨fun _ => ?_, fun h => absurd rfl h⟩
      refine ⟨N, costs, ws, dms, r, 0, rfl, ok, bw, br, bd2 (.inl rfl), fun h2 => ?_, fun h2 => ?_⟩
      · rw [Int.mul_zero] at h2
        obtain ⟨g1, g2⟩ := Bool.and_eq_true_iff.mp h2
        have lw := amount_len g1
        refine ⟨true, false, costs, ws, N, rfl, by omega, by omega, ok.bc, bw, by omega, bl_false hk ?_⟩
        show (_ && (_ && (_ && _))) = _
        rw [h1, g1, g2]; rfl
      · rw [Int.mul_zero] at h2
        refine bl_false hk ?_
        show (_ && (_ && (_ && _))) = _
        rw [← Bool.and_assoc (amountP costs.length ws), h2, Bool.false_and, Bool.and_false]
    · rw [Int.mul_one] at h1
      exact bl_false hk (and_f1 h1)
  | best ps q u v fs r =>
    obtain ⟨bp, bq, bu, bv, bf, br⟩ := bo
    refine ⟨fun h => absurd h (by decide +kernel), fun _ => ?_⟩
    refine ⟨N, costs, ps, dms, q, 1, rfl, ok, bp, bq, bd2 (.inr rfl), fun h1 => ?_, fun h1 => ?_⟩
    · rw [Int.mul_one] at h1
      refine ⟨fun h => absurd h (by decide +kernel), fun _ => ?_⟩
      have la := amount_len (Bool.and_eq_true_iff.mp h1).1
      refine ⟨true, false, costs, ps, N, rfl, by omega, by omega, ok.bc, bp, by omega, ?_⟩
      refine ⟨(dotL_bd ok.bc bp (by omega) (by omega)).mulW bv (by omega), bu.mulW bq (by omega), fun h3 => ?_, fun h3 => bl_false hk (and_f2 (and_f2 (and_f1 (decide_eq_false h3))))⟩
      refine ⟨N, costs, fs, dms, r, 1, rfl, ok, bf, br, bd2 (.inr rfl), fun h4 => ?_, fun h4 => ?_⟩
      · rw [priced1] at h4
        obtain ⟨g1, g2⟩ := Bool.and_eq_true_iff.mp h4
        refine bsum (fair_len g1) bf ?_
        refine ⟨(bndP_bd ok bf (fair_len g1)).mulW bv (by omega), bu.mulW br (by omega), bl_false hk ?_⟩
        show (_ && (_ && (_ && (_ && _)))) = _
        rw [h1, g1, g2, decide_eq_true h3]; rfl
      · rw [priced1] at h4
        refine bl_false hk (and_f2 ?_)
        rw [decide_eq_true h3, Bool.true_and, ← Bool.and_assoc, h4]; rfl
    · rw [Int.mul_one] at h1
      exact bl_false hk (and_f1 h1)
def T_told (C CO : Addr) : DSp := fun ds kk _ => ∃ (N : Nat) (costs : List Int) (dms : List Dem) (o : OutK), ds = [progD C costs dms, outO CO o, .bl (showsP costs dms o)] ∧ PgOk N costs dms ∧ o.bd N ∧ kk (.sh (.bl true))
theorem w_told (C CO : Addr) : Deep [T_shows C CO] N__law_told b__law_told (T_told C CO) := by
  rintro _ kk xx ⟨N, costs, dms, o, rfl, ok, bo, hk⟩
  refine ⟨fun h => ⟨N, costs, dms, o, rfl, ok, bo, ?_⟩, fun h => ⟨N, costs, dms, o, rfl, ok, bo, ?_⟩⟩
  · show kk (.sh (.bl (decide (showsP costs dms o = true))))
    rw [decide_eq_true h]; exact hk
  · show kk (.sh (.bl (decide (showsP costs dms o = false))))
    rw [decide_eq_true h]; exact hk
def T_lprogram (C : Addr) : DSp := fun ds kk _ => ∃ (costs : List Int) (dms : List Dem) (s : Int), ds = [laidD costs dms, .int s] ∧ costs.length ≤ 1000 ∧ dms.length ≤ 1000 ∧ kk (.sh (progD C costs dms))
theorem w_lprogram (C : Addr) : Deep [T_Program C] N__law_program b__law_program (T_lprogram C) := by
  rintro _ kk xx ⟨costs, dms, s, rfl, hc, hd, hk⟩
  refine ⟨fun _ => ?_, fun _ => ?_⟩
  · refine lcw (demG true true) (demG false false) (by omega) (fun d _ => rfl) ?_
    exact ⟨false, false, false, false, costs, dms, rfl, hc, hd, hk⟩
  · refine lcw (demG true true) (demG true true) (by omega) (fun d _ => rfl) ?_
    exact ⟨true, true, true, true, costs, dms, rfl, hc, hd, hk⟩
end K00
set_option Elab.async false
set_option linter.all false
set_option maxRecDepth 100000
set_option maxHeartbeats 4000000
set_option pp.maxSteps 600
set_option exponentiation.threshold 50000
/-! k05: draws, least lines, rows and means; fees and sides. -/
namespace K00
open PySem PySem.Spec PyProof.Rows L2 DL
/-! _law_draws(cell, size, many): slots cell=0 size=1 many=2 row=3 k=4; calls _law_digits/2 -/
def N__law_draws : List Str := ["cell", "size", "many", "row", "k"]
def fs__law_draws : List Str := ["_law_digits"]
def b__law_draws : Xb := (.cons (.set 3 false [] (.call 0 (.cons (.var 0) (.cons (.rep (.lst (.cons (.var 1) .nil)) (.bi .min (.cons (.var 2) (.cons (.int 48) .nil)))) .nil))))
 (.cons (.ret [] (.lc 4 (.ix (.var 3) (.bin .mod (.bi .int (.cons (.var 4) .nil)) (.int 48))) (.rng (.var 2))))
 .nil))
/-! _law_lcm(numbers): slots numbers=0 line=1 number=2; calls _law_gcd/2 -/
def N__law_lcm : List Str := ["numbers", "line", "number"]
def fs__law_lcm : List Str := ["_law_gcd"]
def b__law_lcm : Xb := (.cons (.set 1 false [] (.int 1))
 (.cons (.for_ [0, 2] [] (.nm 2) (.sq (.var 0)) (.cons (.set 1 false [] (.bin .div (.bin .mul (.var 1) (.var 2)) (.call 0 (.cons (.var 1) (.cons (.var 2) .nil)))))
 .nil))
 (.cons (.ret [] (.var 1))
 .nil)))
/-! _law_row_of(tops, bottoms): slots tops=0 bottoms=1 line=2 k=3 numbers=4 common=5 number=6; calls _law_lcm/1 _law_gcd/2 -/
def N__law_row_of : List Str := ["tops", "bottoms", "line", "k", "numbers", "common", "number"]
def fs__law_row_of : List Str := ["_law_lcm", "_law_gcd"]
def b__law_row_of : Xb := (.cons (.set 2 false [] (.call 0 (.cons (.var 1) .nil)))
 (.cons (.set 4 false [] (.lc 3 (.bin .mul (.ix (.var 0) (.var 3)) (.bin .div (.var 2) (.ix (.var 1) (.var 3)))) (.rng (.bi .len (.cons (.var 0) .nil)))))
 (.cons (.set 5 false [] (.var 2))
 (.cons (.for_ [0, 1, 3, 6] [] (.nm 6) (.sq (.var 4)) (.cons (.set 5 false [] (.call 1 (.cons (.var 5) (.cons (.var 6) .nil))))
 .nil))
 (.cons (.ret [] (.tup (.cons (.bi .tuple (.cons (.lc 6 (.bin .div (.var 6) (.var 5)) (.sq (.var 4))) .nil)) (.cons (.bin .div (.var 2) (.var 5)) .nil))))
 .nil)))))
/-! _law_mean(parts, tops, bottoms): slots parts=0 tops=1 bottoms=2 line=3 k=4 top=5 common=6; calls _law_lcm/1 _law_gcd/2 -/
def N__law_mean : List Str := ["parts", "tops", "bottoms", "line", "k", "top", "common"]
def fs__law_mean : List Str := ["_law_lcm", "_law_gcd"]
def b__law_mean : Xb := (.cons (.set 3 false [] (.call 0 (.cons (.var 2) .nil)))
 (.cons (.set 5 false [] (.bi .sum (.cons (.lc 4 (.bin .mul (.bin .mul (.ix (.var 0) (.var 4)) (.ix (.var 1) (.var 4))) (.bin .div (.var 3) (.ix (.var 2) (.var 4)))) (.rng (.bi .len (.cons (.var 0) .nil)))) .nil)))
 (.cons (.set 6 false [] (.call 1 (.cons (.var 5) (.cons (.var 3) .nil))))
 (.cons (.ret [] (.tup (.cons (.bin .div (.var 5) (.var 6)) (.cons (.bin .div (.var 3) (.var 6)) .nil))))
 .nil))))
/-! _law_fair(kinds, row): slots kinds=0 row=1 fees=2 k=3 price=4; calls  -/
def N__law_fair : List Str := ["kinds", "row", "fees", "k", "price"]
def fs__law_fair : List Str := []
def b__law_fair : Xb := (.cons (.set 2 true [] (.lst .nil))
 (.cons (.for_ [3, 4] [] (.nm 3) (.rng (.bi .len (.cons (.var 0) .nil))) (.cons (.set 4 false [] (.ix (.lst (.cons (.int 0) (.cons (.int 1) (.cons (.int 0) (.cons (.int 2) (.cons (.neg (.int 1)) (.cons (.int 3) (.cons (.int 0) (.cons (.neg (.int 2)) .nil))))))))) (.ix (.var 1) (.var 3))))
 (.cons (.itj [] [] (.cmp .eq (.ix (.var 0) (.var 3)) (.str "most")) (.cons (.set 4 false [] (.bi .abs (.cons (.var 4) .nil)))
 .nil) .nil)
 (.cons (.itj [3] [] (.cmp .eq (.ix (.var 0) (.var 3)) (.str "least")) (.cons (.set 4 false [] (.neg (.bi .abs (.cons (.var 4) .nil))))
 .nil) .nil)
 (.cons (.app 2 [] (.var 4))
 .nil)))))
 (.cons (.retO 2)
 .nil)))
/-! _law_side(kind, free): slots kind=0 free=1; calls  -/
def N__law_side : List Str := ["kind", "free"]
def fs__law_side : List Str := []
def b__law_side : Xb := (.cons (.ite [] (.cmp .eq (.var 0) (.str "most")) (.cons (.ret [] (.int 1))
 .nil) .nil)
 (.cons (.ite [] (.cmp .eq (.var 0) (.str "least")) (.cons (.ret [] (.neg (.int 1)))
 .nil) .nil)
 (.cons (.ret [] (.ix (.lst (.cons (.int 1) (.cons (.neg (.int 1)) .nil))) (.var 1)))
 .nil)))
/-! _law_bounds(parts, kinds, point, fees, loose): slots parts=0 kinds=1 point=2 fees=3 loose=4 bounds=5 k=6 level=7; calls _law_sum/2 _law_side/2 -/
def N__law_bounds : List Str := ["parts", "kinds", "point", "fees", "loose", "bounds", "k", "level"]
def fs__law_bounds : List Str := ["_law_sum", "_law_side"]
def b__law_bounds : Xb := (.cons (.set 5 true [] (.lst .nil))
 (.cons (.for_ [6, 7] [] (.nm 6) (.rng (.bi .len (.cons (.var 1) .nil))) (.cons (.set 7 false [] (.call 0 (.cons (.ix (.var 0) (.var 6)) (.cons (.var 2) .nil))))
 (.cons (.itj [6] [] (.and (.cons (.cmp .eq (.ix (.var 3) (.var 6)) (.int 0)) (.cons (.cmp .ne (.ix (.var 1) (.var 6)) (.str "same")) .nil))) (.cons (.set 7 false [] (.bin .add (.var 7) (.bin .mul (.ix (.var 4) (.var 6)) (.call 1 (.cons (.ix (.var 1) (.var 6)) (.cons (.int 0) .nil))))))
 .nil) .nil)
 (.cons (.app 5 [] (.var 7))
 .nil))))
 (.cons (.retO 5)
 .nil)))
theorem repN (n : Nat) (x : Int) : (List.replicate n [D.int x]).flatten = (List.replicate n x).map D.int := by
  induction n with
  | zero => rfl
  | succ n ih => rw [List.replicate_succ, List.flatten_cons, ih]; rfl
def Drawn (r : List Int) (n : Nat) (s : Int) : Prop := r.length = n ∧ ∀ x ∈ r, 0 ≤ x ∧ x < s
def T_draws : DSp := fun ds kk _ => ∃ (c s : Int) (n : Nat), ds = [.int c, .int s, .int (n : Int)] ∧ 0 < s ∧ s < 18446744073709551616 ∧ n ≤ 1000 ∧ ∀ r, Drawn r n s → kk (.ow (.lst (r.map .int)))
theorem Digs.drawn {r : List Int} {n : Nat} {s : Int} (h : Digs r (List.replicate n s)) : Drawn r n s := by
  have hl : r.length = n := by rw [h.1, List.length_replicate]
  refine ⟨hl, fun x hx => ?_⟩
  obtain ⟨i, hi⟩ := List.mem_iff_getElem?.mp hx
  have h1 : i < n := by rw [← hl]; exact (List.getElem?_eq_some_iff.mp hi).1
  exact h.2 i x s hi (by rw [List.getElem?_replicate, if_pos h1])
theorem w_draws : Deep [T_digits] N__law_draws b__law_draws T_draws := by
  rintro _ kk xx ⟨c, s, n, rfl, h0, h1, hn, hk⟩
  obtain ⟨m, em, hm⟩ : ∃ m : Nat, (if (48 : Int) < (n : Int) then 48 else (n : Int)) = (m : Int) ∧ m = min n 48 := by
    by_cases h : (48 : Int) < (n : Int)
    · exact ⟨48, by rw [if_pos h]; rfl, by omega⟩
    · exact ⟨n, by rw [if_neg h], by omega⟩
  refine ⟨?_, ?_⟩
  · show -1000000 ≤ (if (48 : Int) < (n : Int) then 48 else (n : Int)) ∧ (if (48 : Int) < (n : Int) then 48 else (n : Int)) ≤ 1000000 ∧ 1 * (if (48 : Int) < (n : Int) then 48 else (n : Int)).toNat ≤ 100000
    rw [em]; omega
  refine ⟨c, true, List.replicate m s, ?_, by rw [List.length_replicate]; omega, fun x hx => by rw [(List.mem_replicate.mp hx).2]; exact ⟨h0, h1⟩, fun r hr => ?_⟩
  · rw [← repN]
    show [_, D.sq true (List.replicate (if (48 : Int) < (n : Int) then 48 else (n : Int)).toNat [D.int s]).flatten] = _
    rw [em, Int.toNat_natCast]
    rfl
  obtain ⟨hl, hr⟩ := hr.drawn
  refine ⟨⟨by omega, by omega⟩, lcw_rng (fun k => .int (r.getD (k % 48) 0)) (by omega) (fun i hi => ?_) ?_⟩
  · have h2 : i % 48 < r.length := by omega
    refine ⟨by decide, _, ?_, rfl⟩
    have e : ((i : Int) % 48) = ((i % 48 : Nat) : Int) := by omega
    rw [e]; exact atG h2
  · rw [Int.toNat_natCast]
    have e : ((List.range n).map fun k => D.int (r.getD (k % 48) 0)) = ((List.range n).map fun k => r.getD (k % 48) 0).map .int := by rw [List.map_map]; rfl
    rw [e]
    refine hk _ ⟨by rw [List.length_map, List.length_range], fun x hx => ?_⟩
    obtain ⟨i, hi, rfl⟩ := List.mem_map.mp hx
    have hi := List.mem_range.mp hi
    exact hr _ (gdm (by omega))
/-! least lines: every bottom divides one number -/
def facM : Nat := 2 * 3 * 5 * 7 * 1000 * 1000003 * (10 ^ 12 + 39) * (10 ^ 40 + 121)
structure Fac (f : Int) : Prop where
  p : 1 ≤ f
  d : f.natAbs ∣ facM
theorem facM_bd : facM < 2 ^ 220 := by decide +kernel
theorem facM_pos : 0 < facM := by decide +kernel
theorem dvd_bd {f : Int} (h : f.natAbs ∣ facM) : Bd 220 f := Nat.lt_of_le_of_lt (Nat.le_of_dvd facM_pos h) facM_bd
def lcmF (ns : List Int) : Nat := ns.foldl (fun g n => Nat.lcm g n.natAbs) 1
theorem lcmF_snoc {ns : List Int} {n : Int} : lcmF (ns ++ [n]) = Nat.lcm (lcmF ns) n.natAbs := by unfold lcmF; rw [List.foldl_append]; rfl
theorem lcmF_dvd {m : Nat} : ∀ {ns : List Int}, (∀ n ∈ ns, n.natAbs ∣ m) → lcmF ns ∣ m := by
  have key : ∀ (ns : List Int) (g : Nat), g ∣ m → (∀ n ∈ ns, n.natAbs ∣ m) → ns.foldl (fun g n => Nat.lcm g n.natAbs) g ∣ m := by
    intro ns
    induction ns with
    | nil => intro g h _; exact h
    | cons n ns ih => intro g h ha; exact ih _ (Nat.lcm_dvd h (ha n List.mem_cons_self)) fun x hx => ha x (List.mem_cons_of_mem _ hx)
  exact fun {ns} h => key ns 1 (Nat.one_dvd _) h
theorem dvd_lcmF {ns : List Int} {n : Int} (h : n ∈ ns) : n.natAbs ∣ lcmF ns := by
  have key : ∀ (ns : List Int) (g : Nat), g ∣ ns.foldl (fun g n => Nat.lcm g n.natAbs) g := by
    intro ns
    induction ns with
    | nil => intro g; exact Nat.dvd_refl _
    | cons n ns ih => intro g; exact Nat.dvd_trans (Nat.dvd_lcm_left _ _) (ih _)
  have key2 : ∀ (ns : List Int) (g : Nat), n ∈ ns → n.natAbs ∣ ns.foldl (fun g n => Nat.lcm g n.natAbs) g := by
    intro ns
    induction ns with
    | nil => intro g h; cases h
    | cons x ns ih =>
      intro g h
      rcases List.mem_cons.mp h with rfl | h
      · exact Nat.dvd_trans (Nat.dvd_lcm_right _ _) (key ns _)
      · exact ih _ h
  exact key2 ns 1 h
theorem lcmF_pos {ns : List Int} (h : ∀ n ∈ ns, Fac n) : 0 < lcmF ns := Nat.pos_of_ne_zero fun z => by
  have := lcmF_dvd (m := facM) fun n hn => (h n hn).d
  rw [z] at this
  have := Nat.eq_zero_of_zero_dvd this
  have := facM_pos
  omega
def T_lcm : DSp := fun ds kk _ => ∃ (l : Bool) (ns : List Int), ds = [.sq l (ns.map .int)] ∧ (∀ n ∈ ns, Fac n) ∧ kk (.sh (.int ((lcmF ns : Nat) : Int)))
theorem w_lcm : Deep [T_gcd] N__law_lcm b__law_lcm T_lcm := by
  rintro _ kk xx ⟨l, ns, rfl, hf, hk⟩
  have ht : ∀ i, ∀ n ∈ ns.take i, Fac n := fun i n hn => hf n (List.mem_of_mem_take hn)
  have bd : ∀ i, Bd 220 ((lcmF (ns.take i) : Nat) : Int) := fun i => dvd_bd (by rw [Int.natAbs_natCast]; exact lcmF_dvd fun n hn => (ht i n hn).d)
  refine ⟨fun i δ => δ = [.no, .sh (.int ((lcmF (ns.take i) : Nat) : Int)), .no], ?_, fun i δ1 hi hI => ?_, fun δ1 hI => ?_⟩
  · show [S.no, S.sh (.int 1), S.no] = [S.no, S.sh (.int ((lcmF (ns.take 0) : Nat) : Int)), S.no]
    rw [List.take_zero]; rfl
  · subst hI
    rw [List.length_map] at hi
    refine deq (P := fun d => wpt (.nm 2) d _ _) (getInt hi) ?_
    have fi := hf _ (List.getElem_mem hi)
    have lp := lcmF_pos (ht i)
    have b2 := dvd_bd fi.d
    refine ⟨(bd i).mulW b2 (by decide), _, _, rfl, (bd i).le (by decide), b2.le (by decide), .inl ⟨?_, ?_⟩⟩
    · have gp : 0 < Nat.gcd ((lcmF (ns.take i) : Nat) : Int).natAbs ns[i].natAbs := Nat.gcd_pos_of_pos_left _ (by rw [Int.natAbs_natCast]; exact lp)
      refine Bd.div (b := 220) (by omega) ?_ (by decide)
      exact Bd.of_le (bd i) (by
        rw [Int.natAbs_natCast]
        exact Nat.gcd_le_left _ (by rw [Int.natAbs_natCast]; exact lp))
    · show _ = [S.no, S.sh (.int ((lcmF (ns.take (i + 1)) : Nat) : Int)), S.no]
      rw [List.take_succ_eq_append_getElem hi, lcmF_snoc]
      have e : ((lcmF (ns.take i) : Nat) : Int) * ns[i] / ((Nat.gcd ((lcmF (ns.take i) : Nat) : Int).natAbs ns[i].natAbs : Nat) : Int) = ((Nat.lcm (lcmF (ns.take i)) ns[i].natAbs : Nat) : Int) := by
        have := fi.p
        have e1 : ns[i] = ((ns[i].natAbs : Nat) : Int) := by omega
        rw [Int.natAbs_natCast]
        conv => lhs; arg 1; arg 2; rw [e1]
        rw [← Int.natCast_mul, ← Int.natCast_ediv]
        rfl
      show [S.no, S.sh (.int (_ / _)), S.no] = _
      rw [e]
  · subst hI
    rw [List.length_map, List.take_length]
    exact hk
/-- a row in its one form -/
structure RowG (ps : List Int) (q : Int) : Prop where
  p : 1 ≤ q
  g : gcdL q.natAbs ps = 1
theorem gcd_bd {n : Nat} {g : Nat} {q : Int} {ps : List Int} (hq : 1 ≤ q) (h : Bd n q) : Bd n ((gcdL q.natAbs ps : Nat) : Int) := Bd.of_le h (by
  rw [Int.natAbs_natCast]
  exact Nat.le_of_dvd (by omega) (dvd_gcdL.mp (Nat.dvd_refl _)).1)
def T_lrow_of : DSp := fun ds kk _ => ∃ (l l' : Bool) (tops bots : List Int), ds = [.sq l (tops.map .int), .sq l' (bots.map .int)] ∧ tops.length = bots.length ∧ tops.length ≤ 1000 ∧ (∀ t ∈ tops, Bd 200 t) ∧ (∀ b ∈ bots, Fac b) ∧
  ∀ ps q, RowG ps q → ps.length = tops.length → (∀ p ∈ ps, Bd 500 p) → Bd 500 q → (∀ i, tops.getD i 0 = 0 → ps.getD i 0 = 0) → kk (.sh (rw_ false false ps q))
theorem w_lrow_of : Deep [T_lcm, T_gcd] N__law_row_of b__law_row_of T_lrow_of := by
  rintro _ kk xx ⟨l, l', tops, bots, rfl, hl, hn, bt, hb, hk⟩
  refine ⟨l', bots, rfl, hb, ?_⟩
  have lp := lcmF_pos hb
  have ld := lcmF_dvd (m := facM) fun n hn => (hb n hn).d
  have lb : Bd 220 ((lcmF bots : Nat) : Int) := dvd_bd (by rw [Int.natAbs_natCast]; exact ld)
  generalize hL : ((lcmF bots : Nat) : Int) = L at *
  have hLp : 1 ≤ L := by omega
  have qb : ∀ i, i < bots.length → Bd 221 (L / bots.getD i 0) := fun i hi => Bd.le (Bd.of_le lb (by
    rw [Int.natAbs_ediv_of_nonneg (by omega)]
    exact Nat.div_le_self _ _)) (by decide)
  have fb : ∀ i, i < bots.length → Fac (bots.getD i 0) := fun i hi => hb _ (gdm hi)
  refine ⟨by rw [List.length_map]; omega, lcw_rng (fun k => .int (tops.getD k 0 * (L / bots.getD k 0))) (by rw [Int.toNat_natCast, List.length_map]; omega) (fun i hi => ?_) ?_⟩
  · rw [Int.toNat_natCast, List.length_map] at hi
    have f := fb i (by omega)
    refine ⟨_, atG hi, _, atG (by omega), .inl ⟨Bd.div (b := 220) (by have := f.p; omega) (dvd_bd f.d) (by decide), (bt _ (gdm hi)).mulW (qb i (by omega)) (by decide), rfl⟩⟩
  rw [Int.toNat_natCast, List.length_map]
  generalize hns : ((List.range tops.length).map fun k => tops.getD k 0 * (L / bots.getD k 0)) = ns
  have ens : ((List.range tops.length).map fun k => D.int (tops.getD k 0 * (L / bots.getD k 0))) = ns.map .int := by rw [← hns, List.map_map]; rfl
  rw [ens]
  have nl : ns.length = tops.length := by rw [← hns, List.length_map, List.length_range]
  have nb : ∀ n ∈ ns, Bd 421 n := fun n hn => by
    rw [← hns] at hn
    obtain ⟨i, hi, rfl⟩ := List.mem_map.mp hn
    have hi := List.mem_range.mp hi
    exact (bt _ (gdm hi)).mul (qb i (by omega))
  have nz : ∀ i, tops.getD i 0 = 0 → ns.getD i 0 = 0 := fun i hz => by
    rw [← hns, List.getD_eq_getElem?_getD, List.getElem?_map]
    by_cases hi : i < tops.length
    · rw [List.getElem?_range hi]
      show tops.getD i 0 * _ = 0
      rw [hz, Int.zero_mul]
    · rw [List.getElem?_eq_none (by rw [List.length_range]; omega)]; rfl
  refine ⟨fun i δ => δ = [.no, .no, .sh (.int L), .no, .sh (.sq true (ns.map .int)), .sh (.int ((gcdL L.natAbs (ns.take i) : Nat) : Int)), .no], ?_, fun i δ1 hi hI => ?_, fun δ1 hI => ?_⟩
  · show [S.no, S.no, S.sh (.int L), S.no, S.sh (.sq true (ns.map .int)), S.sh (.int L), S.no] = [S.no, S.no, S.sh (.int L), S.no, S.sh (.sq true (ns.map .int)), S.sh (.int ((gcdL L.natAbs (ns.take 0) : Nat) : Int)), S.no]
    rw [List.take_zero]
    show [S.no, S.no, S.sh (.int L), S.no, S.sh (.sq true (ns.map .int)), S.sh (.int L), S.no] = [S.no, S.no, S.sh (.int L), S.no, S.sh (.sq true (ns.map .int)), S.sh (.int ((L.natAbs : Nat) : Int)), S.no]
    rw [show ((L.natAbs : Nat) : Int) = L from by omega]
  · subst hI
    rw [List.length_map] at hi
    refine deq (P := fun d => wpt (.nm 6) d _ _) (getInt hi) ?_
    refine ⟨_, _, rfl, (gcd_bd (g := 0) hLp lb).le (by decide), (nb _ (List.getElem_mem hi)).le (by decide), ?_⟩
    show _ = [S.no, S.no, S.sh (.int L), S.no, S.sh (.sq true (ns.map .int)), S.sh (.int ((gcdL L.natAbs (ns.take (i + 1)) : Nat) : Int)), S.no]
    rw [List.take_succ_eq_append_getElem hi, gcdL_snoc, Int.natAbs_natCast]
    rfl
  subst hI
  rw [List.length_map, List.take_length]
  have m := row_math (ns := ns) hLp
  have gp := gcdL_pos (a := L.natAbs) (by omega) ns
  have gb := gcd_bd (g := 0) (ps := ns) hLp lb
  generalize hg : ((gcdL L.natAbs ns : Nat) : Int) = g at *
  have dg : CDivW L g := Bd.div (by omega) gb (by decide)
  refine lcw .int (fun n => .int (n / g)) (by omega) (fun n hn => .inl ⟨Bd.div (by omega) gb (by decide), rfl⟩) ?_
  refine .inl ⟨dg, ?_⟩
  have e : (ns.map fun n => D.int (n / g)) = (ns.map (· / g)).map .int := by rw [List.map_map]; rfl
  show kk (.sh (.sq false [.sq false (ns.map fun n => D.int (n / g)), .int (L / g)]))
  rw [e]
  refine hk _ _ ⟨m.pos, m.gcd⟩ (by rw [List.length_map, nl]) (fun p hp => ?_) ((Bd.of_le lb m.lq).le (by decide)) fun i hz => ?_
  · obtain ⟨i, hi⟩ := List.mem_iff_getElem?.mp hp
    have h1 : i < ns.length := by have := (List.getElem?_eq_some_iff.mp hi).1; rwa [List.length_map] at this
    exact (Bd.of_le (nb _ (List.getElem_mem h1)) (m.lp i p _ hi (List.getElem?_eq_getElem h1))).le (by decide)
  · have := nz i hz
    rw [List.getD_eq_getElem?_getD] at this ⊢
    rw [List.getElem?_map]
    cases e2 : ns[i]? with
    | none => rfl
    | some x =>
      rw [e2] at this
      have hx : x = 0 := this
      subst hx
      show 0 / g = 0
      exact Int.zero_ediv g
end K00
set_option Elab.async false
set_option linter.all false
set_option maxRecDepth 100000
set_option maxHeartbeats 4000000
set_option pp.maxSteps 600
set_option exponentiation.threshold 50000
/-! k05: means, fees, sides, bounds, laid programs, cut rows. -/
namespace K00
open PySem PySem.Spec PyProof.Rows L2 DL
/-! _law_laid(costs, bounds, table): slots costs=0 bounds=1 table=2 demands=3 k=4 j=5 mine=6; calls  -/
def N__law_laid : List Str := ["costs", "bounds", "table", "demands", "k", "j", "mine"]
def fs__law_laid : List Str := []
def b__law_laid : Xb := (.cons (.setT 3 (.e [] (.lst .nil)))
 (.cons (.for_ [4, 5, 6] [] (.nm 4) (.rng (.bi .len (.cons (.var 1) .nil))) (.cons (.setT 6 (.lc 5 (.e [] (.bin .mul (.bin .mul (.ix (.ix (.ixn (.var 2) 0) (.var 4)) (.var 5)) (.ix (.ixn (.var 2) 2) (.var 4))) (.ix (.ixn (.var 2) 3) (.var 5)))) (.rng (.bi .len (.cons (.var 0) .nil)))))
 (.cons (.appT 3 .nm (.lst (.cons (.mv 6) (.cons (.e [] (.ix (.ixn (.var 2) 1) (.var 4))) (.cons (.e [] (.bin .mul (.ix (.var 1) (.var 4)) (.ix (.ixn (.var 2) 2) (.var 4)))) .nil)))))
 .nil)))
 (.cons (.retT (.lst (.cons (.e [] (.lc 5 (.bin .mul (.ix (.var 0) (.var 5)) (.ix (.ixn (.var 2) 3) (.var 5))) (.rng (.bi .len (.cons (.var 0) .nil))))) (.cons (.mv 3) .nil))))
 .nil)))
/-! _law_cut(fields, at, way): slots fields=0 at=1 way=2 told=3; calls  -/
def N__law_cut : List Str := ["fields", "at", "way", "told"]
def fs__law_cut : List Str := []
def b__law_cut : Xb := (.cons (.set 3 true [] (.bi .list (.cons (.var 0) .nil)))
 (.cons (.itj [0] [] (.cmp .eq (.var 2) (.int 1)) (.cons (.sti 3 [3] (.tup (.cons (.bin .add (.ixn (.ix (.var 3) (.var 1)) 0) (.tup (.cons (.int 0) .nil))) (.cons (.ixn (.ix (.var 3) (.var 1)) 1) .nil))) (.var 1))
 .nil) .nil)
 (.cons (.itj [0, 1, 2] [] (.cmp .eq (.var 2) (.int 2)) (.cons (.sti 3 [3] (.tup (.cons (.slc (.ixn (.ix (.var 3) (.var 1)) 0) .non (.bin .sub (.bi .len (.cons (.ixn (.ix (.var 3) (.var 1)) 0) .nil)) (.int 1))) (.cons (.ixn (.ix (.var 3) (.var 1)) 1) .nil))) (.var 1))
 .nil) .nil)
 (.cons (.retO 3)
 .nil))))
theorem atZ {ns : List Int} {r : Int} (h0 : 0 ≤ r) (h1 : r < ns.length) : atI (ns.map D.int) r = some (.int (ns.getD r.toNat 0)) := by
  obtain ⟨j, rfl⟩ : ∃ j : Nat, r = j := ⟨r.toNat, by omega⟩
  rw [Int.toNat_natCast]
  exact atG (by omega)
theorem menu {ns : List Int} {r : Int} {P : Int → Prop} (h : ∀ x ∈ ns, P x) (h0 : 0 ≤ r) (h1 : r < ns.length) : P (ns.getD r.toNat 0) := h _ (gdm (by omega))
theorem Drawn.at {r : List Int} {n i : Nat} {s : Int} (h : Drawn r n s) (hi : i < n) : 0 ≤ r.getD i 0 ∧ r.getD i 0 < s := h.2 _ (gdm (by rw [h.1]; exact hi))
structure RatG (u v : Int) : Prop where
  p : 1 ≤ v
  g : Nat.gcd u.natAbs v.natAbs = 1
def T_mean : DSp := fun ds kk _ => ∃ (l l' l2 : Bool) (ps ts bots : List Int), ds = [.sq l (ps.map .int), .sq l' (ts.map .int), .sq l2 (bots.map .int)] ∧ ps.length ≤ ts.length ∧ ps.length ≤ bots.length ∧ ps.length ≤ 128 ∧ (∀ p ∈ ps, Bd 560 p) ∧ (∀ t ∈ ts, Bd 60 t) ∧ (∀ b ∈ bots, Fac b) ∧
  ∀ u v, RatG u v → Bd 900 u → Bd 900 v → kk (.sh (.sq false [.int u, .int v]))
theorem w_mean : Deep [T_lcm, T_gcd] N__law_mean b__law_mean T_mean := by
  rintro _ kk xx ⟨l, l', l2, ps, ts, bots, rfl, h1, h2, h3, bp, bt, hb, hk⟩
  refine ⟨l2, bots, rfl, hb, ?_⟩
  have lp := lcmF_pos hb
  have lb : Bd 220 ((lcmF bots : Nat) : Int) := dvd_bd (by rw [Int.natAbs_natCast]; exact lcmF_dvd fun n hn => (hb n hn).d)
  generalize hL : ((lcmF bots : Nat) : Int) = L at *
  have hLp : 1 ≤ L := by omega
  have qb : ∀ i, i < bots.length → Bd 220 (L / bots.getD i 0) := fun i hi => Bd.of_le lb (by
    rw [Int.natAbs_ediv_of_nonneg (by omega)]
    exact Nat.div_le_self _ _)
  have e1 : ((ps.map D.int).length : Int).toNat = ps.length := by rw [Int.toNat_natCast, List.length_map]
  refine ⟨by rw [List.length_map]; omega, ?_⟩
  rw [e1]
  have tb : ∀ i, i < ps.length → Bd 840 (ps.getD i 0 * ts.getD i 0 * (L / bots.getD i 0)) := fun i hi => ((bp _ (gdm hi)).mul (bt _ (gdm (by omega)))).mul (qb i (by omega))
  refine sumLc (f := fun k => ps.getD k 0 * ts.getD k 0 * (L / bots.getD k 0)) (by omega) (fun i hi => ?_) ?_
  · have f := hb _ (gdm (show i < bots.length by omega))
    exact ⟨_, atG hi, _, atG (by omega), (bp _ (gdm hi)).mulW (bt _ (gdm (by omega))) (by decide), _, atG (by omega), .inl ⟨Bd.div (b := 220) (by have := f.p; omega) (dvd_bd f.d) (by decide), ((bp _ (gdm hi)).mul (bt _ (gdm (by omega)))).mulW (qb i (by omega)) (by decide), rfl⟩⟩
  have sb := sumB tb (k := 7) (by omega)
  generalize ((List.range ps.length).map fun k => ps.getD k 0 * ts.getD k 0 * (L / bots.getD k 0)).sum = top at *
  refine ⟨top, L, rfl, sb.le (by decide), lb.le (by decide), ?_⟩
  have gp : 0 < Nat.gcd top.natAbs L.natAbs := Nat.gcd_pos_of_pos_right _ (by omega)
  have gb : Bd 220 ((Nat.gcd top.natAbs L.natAbs : Nat) : Int) := Bd.of_le lb (by rw [Int.natAbs_natCast]; exact Nat.gcd_le_right _ (by omega))
  have d1 : ((Nat.gcd top.natAbs L.natAbs : Nat) : Int) ∣ top := Int.ofNat_dvd_left.mpr (Nat.gcd_dvd_left _ _)
  have d2 : ((Nat.gcd top.natAbs L.natAbs : Nat) : Int) ∣ L := Int.ofNat_dvd_left.mpr (Nat.gcd_dvd_right _ _)
  have g1 : Nat.gcd (top / ((Nat.gcd top.natAbs L.natAbs : Nat) : Int)).natAbs (L / ((Nat.gcd top.natAbs L.natAbs : Nat) : Int)).natAbs = 1 := by
    rw [Int.natAbs_ediv_of_dvd d1, Int.natAbs_ediv_of_dvd d2, Int.natAbs_natCast]
    rw [Nat.gcd_div (Nat.gcd_dvd_left _ _) (Nat.gcd_dvd_right _ _), Nat.div_self gp]
  generalize hg : ((Nat.gcd top.natAbs L.natAbs : Nat) : Int) = g at *
  have hgp : 0 < g := by omega
  refine .inl ⟨Bd.div hgp gb (by decide), .inl ⟨Bd.div hgp gb (by decide), hk _ _ ⟨?_, g1⟩ ?_ ?_⟩⟩
  · have : 0 < L / g := Int.ediv_pos_of_pos_of_dvd (by omega) (by omega) d2
    omega
  · exact (Bd.of_le sb (by rw [Int.natAbs_ediv_of_dvd d1]; exact Nat.div_le_self _ _)).le (by decide)
  · exact (Bd.of_le lb (by rw [Int.natAbs_ediv_of_dvd d2]; exact Nat.div_le_self _ _)).le (by decide)
def T_side : DSp := fun ds kk _ => ∃ (k : Str) (f : Int), ds = [.str k, .int f] ∧ 0 ≤ f ∧ f < 2 ∧ ∀ s : Int, s = 1 ∨ s = -1 → kk (.sh (.int s))
theorem w_side : Deep [] N__law_side b__law_side T_side := by
  rintro _ kk xx ⟨k, f, rfl, h0, h1, hk⟩
  refine ⟨fun _ => hk _ (.inl rfl), fun _ => ⟨fun _ => hk _ (.inr rfl), fun _ => ⟨_, atZ (ns := [1, -1]) h0 h1, hk _ (menu (ns := [1, -1]) (P := fun s => s = 1 ∨ s = -1) (by decide) h0 h1)⟩⟩⟩
def T_fair : DSp := fun ds kk _ => ∃ (l l' : Bool) (kinds : List Str) (r : List Int), ds = [.sq l (kinds.map .str), .sq l' (r.map .int)] ∧ kinds.length ≤ 1000 ∧ Drawn r kinds.length 8 ∧ ∀ fees : List Int, fees.length = kinds.length → (∀ f ∈ fees, f.natAbs ≤ 3) → kk (.ow (.lst (fees.map .int)))
theorem atStr {ks : List Str} {i : Nat} (h : i < ks.length) : atI (ks.map D.str) (i : Int) = some (.str (ks.getD i "")) := atI_nat (by rw [List.getElem?_map, List.getD_eq_getElem?_getD, List.getElem?_eq_getElem h]; rfl)
theorem snoc_mem {ns : List Int} {x : Int} {P : Int → Prop} (h : ∀ n ∈ ns, P n) (hx : P x) : ∀ n ∈ ns ++ [x], P n := fun n hn => by
  rcases List.mem_append.mp hn with z | z
  · exact h n z
  · rw [List.mem_singleton.mp z]; exact hx
theorem w_fair : Deep [] N__law_fair b__law_fair T_fair := by
  rintro _ kk xx ⟨l, l', kinds, r, rfl, hn, hr, hk⟩
  refine ⟨by rw [List.length_map]; omega, fun i δ => ∃ fees : List Int, fees.length = i ∧ (∀ f ∈ fees, f.natAbs ≤ 3) ∧ δ = [.sh (.sq l (kinds.map .str)), .sh (.sq l' (r.map .int)), .ow (.lst (fees.map .int)), .no, .no], ⟨[], rfl, fun f hf => (by cases hf), rfl⟩, fun i δ1 hi hI => ?_, fun δ1 hI => ?_⟩
  · obtain ⟨fees, hl, hf, rfl⟩ := hI
    rw [Int.toNat_natCast, List.length_map] at hi
    obtain ⟨r0, r1⟩ := hr.at hi
    refine ⟨_, atG (by rw [hr.1]; exact hi), _, atZ (ns := [0, 1, 0, 2, -1, 3, 0, -2]) r0 r1, ?_⟩
    have hp := menu (ns := [0, 1, 0, 2, -1, 3, 0, -2]) (P := fun x => x.natAbs ≤ 3) (by decide) r0 r1
    generalize ([0, 1, 0, 2, -1, 3, 0, -2] : List Int).getD (r.getD i 0).toNat 0 = p at *
    have ks := atStr hi
    refine join (fun δ => ∃ p : Int, p.natAbs ≤ 3 ∧ δ = [.sh (.sq l (kinds.map .str)), .sh (.sq l' (r.map .int)), .ow (.lst (fees.map .int)), .sh (.int (i : Int)), .sh (.int p)]) ⟨_, ks, fun _ => ⟨_, ?_, rfl⟩, fun _ => ⟨_, hp, rfl⟩⟩ ?_
    · rw [Int.natAbs_natCast]; exact hp
    rintro _ ⟨p, hp, rfl⟩
    refine join (fun δ => ∃ p : Int, p.natAbs ≤ 3 ∧ δ = [.sh (.sq l (kinds.map .str)), .sh (.sq l' (r.map .int)), .ow (.lst (fees.map .int)), .no, .sh (.int p)]) ⟨_, ks, fun _ => ⟨_, ?_, rfl⟩, fun _ => ⟨_, hp, rfl⟩⟩ ?_
    · rw [Int.natAbs_neg, Int.natAbs_natCast]; exact hp
    rintro _ ⟨p, hp, rfl⟩
    refine ⟨by rw [List.length_map]; omega, fees ++ [p], by rw [List.length_append, hl]; rfl, snoc_mem hf hp, ?_⟩
    rw [← snocI]; rfl
  · obtain ⟨fees, hl, hf, rfl⟩ := hI
    exact hk fees (by rw [hl, Int.toNat_natCast, List.length_map]) hf
def T_bounds : DSp := fun ds kk _ => ∃ (l l1 l2 l3 l4 lp : Bool) (ls : List (List Int)) (kinds : List Str) (point fees loose : List Int), ds = [.sq l (lsD lp ls), .sq l1 (kinds.map .str), .sq l2 (point.map .int), .sq l3 (fees.map .int), .sq l4 (loose.map .int)] ∧ kinds.length ≤ ls.length ∧ kinds.length ≤ fees.length ∧ kinds.length ≤ loose.length ∧ kinds.length ≤ 1000 ∧
  (∀ ps ∈ ls, ps.length ≤ point.length ∧ ∀ p ∈ ps, Bd 40 p) ∧ point.length ≤ 128 ∧ (∀ p ∈ point, Bd 40 p) ∧ (∀ x ∈ loose, Bd 40 x) ∧ ∀ bs : List Int, bs.length = kinds.length → (∀ b ∈ bs, Bd 90 b) → kk (.ow (.lst (bs.map .int)))
theorem w_bounds : Deep [T_along, T_side] N__law_bounds b__law_bounds T_bounds := by
  rintro _ kk xx ⟨l, l1, l2, l3, l4, lp, ls, kinds, point, fees, loose, rfl, h1, h2, h3, hn, hp, hpl, bp, bl, hk⟩
  refine ⟨by rw [List.length_map]; omega, fun i δ => ∃ bs : List Int, bs.length = i ∧ (∀ f ∈ bs, Bd 90 f) ∧ δ = [.sh (.sq l (lsD lp ls)), .sh (.sq l1 (kinds.map .str)), .sh (.sq l2 (point.map .int)), .sh (.sq l3 (fees.map .int)), .sh (.sq l4 (loose.map .int)), .ow (.lst (bs.map .int)), .no, .no], ⟨[], rfl, fun f hf => (by cases hf), rfl⟩, fun i δ1 hi hI => ?_, fun δ1 hI => ?_⟩
  · obtain ⟨bs, hl, hb, rfl⟩ := hI
    rw [Int.toNat_natCast, List.length_map] at hi
    have hm := hp _ (ls_mem (show i < ls.length by omega))
    refine ⟨_, atLs (show i < ls.length by omega), lp, l2, _, point, 40, rfl, hm.1, by omega, hm.2, bp, by decide, ?_⟩
    have lv := dotL_bd hm.2 bp hm.1 (by omega)
    generalize dotL (ls.getD i []) point = lev at *
    refine join (fun δ => ∃ v : Int, Bd 90 v ∧ δ = [.sh (.sq l (lsD lp ls)), .sh (.sq l1 (kinds.map .str)), .sh (.sq l2 (point.map .int)), .sh (.sq l3 (fees.map .int)), .sh (.sq l4 (loose.map .int)), .ow (.lst (bs.map .int)), .no, .sh (.int v)]) ?_ ?_
    · refine ⟨_, atG (show i < fees.length by omega), fun _ => ⟨_, atStr hi, fun _ => ⟨lev, lv.le (by decide), rfl⟩, fun _ => ?_⟩, fun _ => ⟨lev, lv.le (by decide), rfl⟩⟩
      refine ⟨_, atG (show i < loose.length by omega), _, atStr hi, _, _, rfl, by decide, by decide, fun s hs => ?_⟩
      have bs1 : Bd 1 s := show s.natAbs < 2 ^ 1 by rcases hs with rfl | rfl <;> decide
      have bx := bl _ (gdm (show i < loose.length by omega))
      exact ⟨bx.mulW bs1 (by decide), _, lv.add (bx.mul bs1) (by decide) (by decide), rfl⟩
    rintro _ ⟨v, hv, rfl⟩
    refine ⟨by rw [List.length_map]; omega, bs ++ [v], by rw [List.length_append, hl]; rfl, snoc_mem hb hv, ?_⟩
    rw [← snocI]; rfl
  · obtain ⟨bs, hl, hb, rfl⟩ := hI
    exact hk bs (by rw [hl, Int.toNat_natCast, List.length_map]) hb
end K00
set_option Elab.async false
set_option linter.all false
set_option maxRecDepth 100000
set_option maxHeartbeats 4000000
set_option pp.maxSteps 600
set_option exponentiation.threshold 50000
/-! k05: laid programs, cut rows, what an outcome holds, papers, faults. -/
namespace K00
open PySem PySem.Spec PyProof.Rows L2 DL
/-! _law_holds(outcome, fields): slots outcome=0 fields=1 told=2 due=3 k=4; calls _law_is_row/2 _law_is_ratio/1 -/
def N__law_holds : List Str := ["outcome", "fields", "told", "due", "k"]
def fs__law_holds : List Str := ["_law_is_row", "_law_is_ratio"]
def b__law_holds : Xb := (.cons (.ite [] (.or (.cons (.not (.isi (.fld (.var 0) "kind") .str)) (.cons (.cmp .ne (.fld (.var 0) "kind") (.ixn (.var 1) 0)) .nil))) (.cons (.ret [] (.bl false))
 .nil) .nil)
 (.cons (.set 2 false [] (.lst (.cons (.fld (.var 0) "point") (.cons (.fld (.var 0) "prices") (.cons (.fld (.var 0) "way") .nil)))))
 (.cons (.set 3 false [] (.lst (.cons (.ixn (.var 1) 1) (.cons (.ixn (.var 1) 3) (.cons (.ixn (.var 1) 4) .nil)))))
 (.cons (.for_ [4] [] (.nm 4) (.rng (.int 3)) (.cons (.ite [] (.cmp .is (.ix (.var 3) (.var 4)) .non) (.cons (.ite [] (.cmp .isnot (.ix (.var 2) (.var 4)) .non) (.cons (.ret [] (.bl false))
 .nil) .nil)
 .nil) (.cons (.ite [] (.or (.cons (.not (.call 0 (.cons (.ix (.var 2) (.var 4)) (.cons (.bi .len (.cons (.ixn (.ix (.var 3) (.var 4)) 0) .nil)) .nil)))) (.cons (.cmp .ne (.ix (.var 2) (.var 4)) (.ix (.var 3) (.var 4))) .nil))) (.cons (.ret [] (.bl false))
 .nil) .nil)
 .nil))
 .nil))
 (.cons (.ite [] (.cmp .is (.ixn (.var 1) 2) .non) (.cons (.ret [] (.cmp .is (.fld (.var 0) "value") .non))
 .nil) .nil)
 (.cons (.ret [] (.and (.cons (.call 1 (.cons (.fld (.var 0) "value") .nil)) (.cons (.cmp .eq (.fld (.var 0) "value") (.ixn (.var 1) 2)) .nil))))
 .nil))))))
/-! _law_asked(papers, style): slots papers=0 style=1 paper=2 laid=3 fields=4 one=5 programs=6 outcomes=7 small=8 i=9 j=10; calls _law_program/2 Outcome/5 _law_truth/2 _law_told/3 _law_holds/2 -/
def N__law_asked : List Str := ["papers", "style", "paper", "laid", "fields", "one", "programs", "outcomes", "small", "i", "j"]
def fs__law_asked : List Str := ["_law_program", "Outcome", "_law_truth", "_law_told", "_law_holds"]
def b__law_asked : Xb := (.cons (.set 3 false [] (.lc 2 (.ixn (.var 2) 0) (.sq (.var 0))))
 (.cons (.set 4 false [] (.lc 2 (.ixn (.var 2) 1) (.sq (.var 0))))
 (.cons (.set 6 false [] (.lc 5 (.call 0 (.cons (.var 5) (.cons (.var 1) .nil))) (.sq (.var 3))))
 (.cons (.set 7 false [] (.lc 5 (.call 1 (.cons (.ixn (.var 5) 0) (.cons (.ixn (.var 5) 1) (.cons (.ixn (.var 5) 2) (.cons (.ixn (.var 5) 3) (.cons (.ixn (.var 5) 4) .nil)))))) (.sq (.var 4))))
 (.cons (.set 8 false [] (.cmp .lt (.bi .len (.cons (.ixn (.ixn (.var 3) 0) 0) .nil)) (.int 10)))
 (.cons (.for_ [1, 2, 5, 9, 10] [] (.nm 9) (.rng (.bi .len (.cons (.var 0) .nil))) (.cons (.for_ [1, 2, 5, 10] [] (.nm 10) (.rng (.bi .len (.cons (.var 0) .nil))) (.cons (.ite [] (.or (.cons (.cmp .eq (.var 9) (.var 10)) (.cons (.var 8) .nil))) (.cons (.ite [] (.not (.call 3 (.cons (.ix (.var 6) (.var 9)) (.cons (.ix (.var 7) (.var 10)) (.cons (.call 2 (.cons (.ix (.var 3) (.var 9)) (.cons (.ix (.var 4) (.var 10)) .nil))) .nil))))) (.cons (.ret [] (.bl false))
 .nil) .nil)
 .nil) .nil)
 .nil))
 .nil))
 (.cons (.for_ [0, 1, 2, 5, 8, 9, 10] [] (.nm 10) (.rng (.bi .len (.cons (.var 0) .nil))) (.cons (.ite [] (.not (.call 4 (.cons (.ix (.var 7) (.var 10)) (.cons (.ix (.var 4) (.var 10)) .nil)))) (.cons (.ret [] (.bl false))
 .nil) .nil)
 .nil))
 (.cons (.ret [] (.call 3 (.cons (.ixn (.var 6) 0) (.cons (.ixn (.var 7) 0) (.cons (.call 2 (.cons (.ixn (.var 3) 0) (.cons (.ixn (.var 4) 0) .nil))) .nil)))))
 .nil))))))))
/-! _law_papers(right, wrong): slots right=0 wrong=1 spot=2; calls _law_cut/3 -/
def N__law_papers : List Str := ["right", "wrong", "spot"]
def fs__law_papers : List Str := ["_law_cut"]
def b__law_papers : Xb := (.cons (.set 2 false [] (.ix (.lst (.cons (.int 1) (.cons (.int 3) .nil))) (.bi .int (.cons (.cmp .eq (.ixn (.ixn (.var 1) 1) 0) (.str "none")) .nil))))
 (.cons (.ret [] (.lst (.cons (.var 0) (.cons (.var 1) (.cons (.lst (.cons (.ixn (.var 1) 0) (.cons (.call 0 (.cons (.ixn (.var 1) 1) (.cons (.var 2) (.cons (.int 1) .nil)))) .nil))) .nil)))))
 .nil))
/-! _law_fault(script, at, table, many, needs, two): slots script=0 at=1 table=2 many=3 needs=4 two=5 fault=6; calls _law_cell/2 _law_digits/2 -/
def N__law_fault : List Str := ["script", "at", "table", "many", "needs", "two", "fault"]
def fs__law_fault : List Str := ["_law_cell", "_law_digits"]
def b__law_fault : Xb := (.cons (.set 6 false [] (.bin .add (.int 1) (.bin .mod (.bi .int (.cons (.ixn (.call 1 (.cons (.call 0 (.cons (.var 0) (.cons (.bin .add (.var 1) (.int 9)) .nil))) (.cons (.lst (.cons (.int 64) (.cons (.int 3) (.cons (.int 2) .nil)))) .nil))) 0) .nil)) (.var 3))))
 (.cons (.ite [] (.and (.cons (.cmp .eq (.bi .len (.cons (.ixn (.var 2) 1) .nil)) (.int 0)) (.cons (.cmp .inn (.var 6) (.var 4)) .nil))) (.cons (.ret [] (.int 1))
 .nil) .nil)
 (.cons (.ite [] (.and (.cons (.cmp .eq (.var 6) (.ixn (.var 5) 0)) (.cons (.cmp .lt (.ixn (.var 5) 1) (.int 2)) .nil))) (.cons (.ret [] (.ixn (.var 5) 2))
 .nil) .nil)
 (.cons (.ret [] (.var 6))
 .nil))))
abbrev shI (x : Int) : Tr := .sh (.int x)
def demTr (d : Dem) : Tr := .lst [.lst (d.1.map shI), .sh (.str d.2.1), .sh (.int d.2.2)]
abbrev laidTr (cs : List Int) (dms : List Dem) : List Tr := [.lst (cs.map shI), .lst (dms.map demTr)]
theorem ds_ints (xs : List Int) : Tr.ds (xs.map shI) = xs.map .int := by rw [ds_map, List.map_map]; rfl
theorem demTr_d (d : Dem) : (demTr d).d = demG true true d := by
  show D.sq true [D.sq true (Tr.ds (d.1.map shI)), .str d.2.1, .int d.2.2] = _
  rw [ds_ints]; rfl
theorem ds_dems (dms : List Dem) : Tr.ds (dms.map demTr) = dms.map (demG true true) := by
  rw [ds_map, List.map_map]
  exact List.map_congr_left fun d _ => demTr_d d
theorem laidTr_d (cs : List Int) (dms : List Dem) : Tr.ds (laidTr cs dms) = [.sq true (cs.map .int), .sq true (dms.map (demG true true))] := by
  show [D.sq true (Tr.ds (cs.map shI)), D.sq true (Tr.ds (dms.map demTr))] = _
  rw [ds_ints, ds_dems]
abbrev tabD (ls : List (List Int)) (kinds : List Str) (fs gs : List Int) (rest : List D) : D := .sq true (.sq true (lsD true ls) :: .sq true (kinds.map .str) :: .sq true (fs.map .int) :: .sq true (gs.map .int) :: rest)
def layD (w : Nat) (ls : List (List Int)) (kinds : List Str) (fs gs bounds : List Int) (i : Nat) : Dem := ((List.range w).map fun j => (ls.getD i []).getD j 0 * fs.getD i 0 * gs.getD j 0, kinds.getD i "", bounds.getD i 0 * fs.getD i 0)
def T_laid : DSp := fun ds kk _ => ∃ (l l' : Bool) (costs bounds : List Int) (ls : List (List Int)) (kinds : List Str) (fs gs : List Int) (rest : List D), ds = [.sq l (costs.map .int), .sq l' (bounds.map .int), tabD ls kinds fs gs rest] ∧ costs.length ≤ 100 ∧ bounds.length ≤ 100 ∧
  bounds.length ≤ ls.length ∧ bounds.length ≤ kinds.length ∧ bounds.length ≤ fs.length ∧ costs.length ≤ gs.length ∧ (∀ ps ∈ ls, ps.length = costs.length ∧ ∀ p ∈ ps, Bd 60 p) ∧ (∀ f ∈ fs, Bd 220 f) ∧ (∀ g ∈ gs, Bd 220 g) ∧ (∀ c ∈ costs, Bd 200 c) ∧ (∀ b ∈ bounds, Bd 200 b) ∧
  ∀ cs dms, PgOk 520 cs dms → cs.length = costs.length → dms.length = bounds.length → kk (.ow (.tr (laidTr cs dms)))
theorem w_laid : Deep [] N__law_laid b__law_laid T_laid := by
  rintro _ kk xx ⟨l, l', costs, bounds, ls, kinds, fs, gs, rest, rfl, hc, hb, h1, h2, h3, h4, hp, bf, bg, bc, bb, hk⟩
  have lay1 : ∀ i, (layD costs.length ls kinds fs gs bounds i).1.length = costs.length := fun i => by unfold layD; rw [List.length_map, List.length_range]
  have lay2 : ∀ i, i < bounds.length → (∀ p ∈ (layD costs.length ls kinds fs gs bounds i).1, Bd 520 p) ∧ Bd 520 (layD costs.length ls kinds fs gs bounds i).2.2 := fun i hi => by
    have hm := hp _ (ls_mem (show i < ls.length by omega))
    refine ⟨fun p hpm => ?_, ?_⟩
    · obtain ⟨j, hj, rfl⟩ := List.mem_map.mp hpm
      have hj := List.mem_range.mp hj
      exact (((hm.2 _ (gdm (by rw [hm.1]; exact hj))).mul (bf _ (gdm (by omega)))).mul (bg _ (gdm (by omega)))).le (by decide)
    · exact ((bb _ (gdm hi)).mul (bf _ (gdm (by omega)))).le (by decide)
  refine ⟨by rw [List.length_map]; omega, fun i δ => δ = [.sh (.sq l (costs.map .int)), .sh (.sq l' (bounds.map .int)), .sh (tabD ls kinds fs gs rest), .ow (.tr (((List.range i).map (layD costs.length ls kinds fs gs bounds)).map demTr)), .no, .no, .no], rfl, fun i δ1 hi hI => ?_, fun δ1 hI => ?_⟩
  · subst hI
    rw [Int.toNat_natCast, List.length_map] at hi
    have hm := hp _ (ls_mem (show i < ls.length by omega))
    refine ⟨by rw [List.length_map]; omega, ?_⟩
    rw [Int.toNat_natCast, List.length_map]
    refine lctw (fun j => .sh (.int ((ls.getD i []).getD j 0 * fs.getD i 0 * gs.getD j 0))) (by omega) (fun j hj => ?_) ?_
    · have p1 := hm.2 _ (gdm (show j < (ls.getD i []).length by rw [hm.1]; exact hj))
      exact ⟨_, atLs (by omega), _, atG (by rw [hm.1]; exact hj), _, atG (by omega), p1.mulW (bf _ (gdm (by omega))) (by decide), _, atG (by omega), (p1.mul (bf _ (gdm (by omega)))).mulW (bg _ (gdm (by omega))) (by decide), rfl⟩
    refine ⟨by rw [List.length_map, List.length_map, List.length_range]; omega, _, atStr (show i < kinds.length by omega), _, atG hi, _, atG (show i < fs.length by omega), (bb _ (gdm hi)).mulW (bf _ (gdm (by omega))) (by decide), rfl, ?_⟩
    have e : ((List.range (i + 1)).map (layD costs.length ls kinds fs gs bounds)).map demTr = ((List.range i).map (layD costs.length ls kinds fs gs bounds)).map demTr ++ [demTr (layD costs.length ls kinds fs gs bounds i)] := by
      rw [List.range_succ, List.map_append, List.map_append]; rfl
    have e2 : demTr (layD costs.length ls kinds fs gs bounds i) = .lst [.lst ((List.range costs.length).map fun j => Tr.sh (D.int ((ls.getD i []).getD j 0 * fs.getD i 0 * gs.getD j 0))), .sh (.str (kinds.getD i "")), .sh (.int (bounds.getD i 0 * fs.getD i 0))] := by
      unfold demTr layD
      rw [List.map_map]; rfl
    show _ = [S.sh (.sq l (costs.map .int)), S.sh (.sq l' (bounds.map .int)), S.sh (tabD ls kinds fs gs rest), S.ow (.tr (((List.range (i + 1)).map (layD costs.length ls kinds fs gs bounds)).map demTr)), S.no, S.no, S.no]
    rw [e, e2]
    rfl
  · subst hI
    refine ⟨by rw [List.length_map]; omega, ?_⟩
    have e0 : (((bounds.map D.int).length : Nat) : Int).toNat = bounds.length := by rw [Int.toNat_natCast, List.length_map]
    rw [e0, Int.toNat_natCast, List.length_map]
    refine lcw_rng (fun j => .int (costs.getD j 0 * gs.getD j 0)) (by omega) (fun j hj => ?_) ?_
    · exact ⟨_, atG hj, _, atG (by omega), (bc _ (gdm hj)).mulW (bg _ (gdm (by omega))) (by decide), rfl⟩
    have e : (((List.range costs.length).map fun j => D.int (costs.getD j 0 * gs.getD j 0)).map Tr.sh) = ((List.range costs.length).map fun j => costs.getD j 0 * gs.getD j 0).map shI := by rw [List.map_map, List.map_map]; rfl
    show kk (.ow (.tr [.lst (((List.range costs.length).map fun j => D.int (costs.getD j 0 * gs.getD j 0)).map Tr.sh), .lst _]))
    rw [e]
    refine hk _ _ ⟨by decide, by rw [List.length_map, List.length_range]; exact hc, by rw [List.length_map, List.length_range]; exact hb, fun c hcm => ?_, fun d hd => ?_, fun d hd => ?_, fun d hd => ?_⟩ (by rw [List.length_map, List.length_range]) (by rw [List.length_map, List.length_range])
    · obtain ⟨j, hj, rfl⟩ := List.mem_map.mp hcm
      have hj := List.mem_range.mp hj
      exact ((bc _ (gdm hj)).mul (bg _ (gdm (by omega)))).le (by decide)
    · obtain ⟨i, hi, rfl⟩ := List.mem_map.mp hd
      rw [lay1, List.length_map, List.length_range]
    · obtain ⟨i, hi, rfl⟩ := List.mem_map.mp hd
      exact (lay2 i (List.mem_range.mp hi)).1
    · obtain ⟨i, hi, rfl⟩ := List.mem_map.mp hd
      exact (lay2 i (List.mem_range.mp hi)).2
/-! cut rows -/
def cutRow (way : Int) (ps : List Int) : List Int := if way = 1 then ps ++ [0] else if way = 2 then ps.dropLast else ps
theorem cut_last (ps : List D) : DL.cutD ps none (some ((ps.length : Int) - 1)) = ps.dropLast := by
  unfold DL.cutD
  rw [HT.sIx_none, List.drop_zero, Nat.sub_zero, List.dropLast_eq_take]
  congr 1
  unfold HT.sIx
  show (if ((ps.length : Int) - 1) < 0 then _ else _) = _
  split <;> omega
def T_cut : DSp := fun ds kk _ => ∃ (l : Bool) (fs : List D) (at_ : Nat) (way : Int) (ps : List Int) (q : Int), ds = [.sq l fs, .int (at_ : Int), .int way] ∧ fs[at_]? = some (rw_ false false ps q) ∧ ps.length ≤ 1000 ∧ kk (.ow (.lst (fs.set at_ (rw_ false false (cutRow way ps) q))))
theorem flat_rw {ps : List Int} {q : Int} : FlatN (rw_ false false ps q) := FlatN.two FlatN.ints (.flat trivial)
theorem w_cut : Deep [] N__law_cut b__law_cut T_cut := by
  rintro _ kk xx ⟨l, fs, a, way, ps, q, rfl, hf, hl, hk⟩
  have ha : a < fs.length := (List.getElem?_eq_some_iff.mp hf).1
  have at0 : atI fs (a : Int) = some (rw_ false false ps q) := atI_nat hf
  have self : fs.set a (rw_ false false ps q) = fs := by
    refine List.ext_getElem? fun i => ?_
    rw [List.getElem?_set]
    split
    · rename_i e; subst e; rw [hf]
    · rfl
  refine join (fun δ => ∃ fs', δ = [.no, .sh (.int (a : Int)), .sh (.int way), .ow (.lst fs')] ∧ ((way = 1 ∧ fs' = fs.set a (rw_ false false (ps ++ [0]) q)) ∨ (way ≠ 1 ∧ fs = fs'))) ⟨fun h => ?_, fun h => ⟨_, rfl, .inr ⟨h, rfl⟩⟩⟩ ?_
  · refine ⟨_, at0, ⟨by rw [List.length_map]; show ps.length + 1 ≤ 100000; omega, _, at0, keep_safe (FlatN.two ?_ (.flat trivial)) ⟨a, rfl, ha, _, ?_, .inl ⟨h, rfl⟩⟩⟩⟩
    · show FlatN (.sq false (ps.map D.int ++ [.int 0]))
      rw [snocI]; exact FlatN.ints
    · show [S.no, S.sh (.int (a : Int)), S.sh (.int way), S.ow (.lst (fs.set a (.sq false [.sq false (ps.map D.int ++ [.int 0]), .int q])))] = _
      rw [snocI]
  rintro _ ⟨fs', rfl, hc⟩
  refine join (fun δ => δ = [.no, .no, .no, .ow (.lst (fs.set a (rw_ false false (cutRow way ps) q)))]) ⟨fun h => ?_, fun h => ?_⟩ ?_
  · rcases hc with ⟨h1, _⟩ | ⟨h1, rfl⟩
    · rw [h] at h1; cases h1
    have e1 : (ps.map D.int).dropLast = ps.dropLast.map .int := by rw [List.map_dropLast]
    refine ⟨_, at0, _, at0, _, at0, keep_safe (FlatN.two ?_ (.flat trivial)) ⟨a, rfl, ha, ?_⟩⟩
    · show FlatN (.sq false (DL.cutD (ps.map D.int) none (some (((ps.map D.int).length : Int) - 1))))
      rw [cut_last, e1]; exact FlatN.ints
    · show [S.no, S.no, S.no, S.ow (.lst (fs.set a (.sq false [.sq false (DL.cutD (ps.map D.int) none (some (((ps.map D.int).length : Int) - 1))), .int q])))] = [S.no, S.no, S.no, S.ow (.lst (fs.set a (rw_ false false (cutRow way ps) q)))]
      rw [cut_last, e1]
      unfold cutRow; rw [if_neg h1, if_pos h]
  · rcases hc with ⟨h1, rfl⟩ | ⟨h1, rfl⟩
    · show _ = [S.no, S.no, S.no, S.ow (.lst (fs.set a (rw_ false false (cutRow way ps) q)))]
      unfold cutRow; rw [if_pos h1]; rfl
    · show _ = [S.no, S.no, S.no, S.ow (.lst (fs.set a (rw_ false false (cutRow way ps) q)))]
      unfold cutRow; rw [if_neg h1, if_neg h, self]; rfl
  rintro _ rfl
  exact hk

/-! what an outcome holds -/
def OutK.good : OutK → Prop
  | .best ps q u v fs r => RowG ps q ∧ RatG u v ∧ RowG fs r
  | .none fs r => RowG fs r
  | .endless ps q ws r => RowG ps q ∧ RowG ws r
def T_holds (CO : Addr) : DSp := fun ds kk _ => ∃ (N : Nat) (o : OutK), ds = [outO CO o, fieldsD o] ∧ o.good ∧ o.bd N ∧ N ≤ 40000 ∧ kk (.sh (.bl true))
theorem row_call {N : Nat} {ps : List Int} {q : Int} {K : S → Prop} {X : XD} (g : RowG ps q) (bp : ∀ p ∈ ps, Bd N p) (bq : Bd N q) (hN : N ≤ 40000) (h : K (.sh (.bl true))) : CallW T_isrow [rw_ false false ps q, .int (((ps.map D.int).length : Nat) : Int)] K X := by
  rw [List.length_map]
  exact ⟨ps, q, rfl, g.p, g.g, fun p hp => (bp p hp).le hN, bq.le hN, h⟩
theorem plR {l l' : Bool} {ps : List Int} {q : Int} : plB 60 (rw_ l l' ps q) = true := plB_sq (n := 59) fun d hd => by
  rcases List.mem_cons.mp hd with rfl | hd
  · exact plB_ints (n := 58)
  · rcases List.mem_cons.mp hd with rfl | hd
    · exact plB_int
    · cases hd
theorem plP {l : Bool} {u v : Int} : plB 60 (.sq l [.int u, .int v]) = true := plB_ints (n := 59) (ns := [u, v])
theorem all3 {p : Nat → Bool} (h : ∀ i, p i = true) {n : Nat} {A : Prop} (z : (List.range n).all p = false) : A := by
  rw [List.all_eq_true.mpr fun i _ => h i] at z; cases z
theorem w_holds (CO : Addr) : Deep [T_isrow, T_isr] N__law_holds b__law_holds (T_holds CO) := by
  rintro _ kk xx ⟨N, o, rfl, hg, hb, hN, hk⟩
  cases o with
  | best ps q u v fs r =>
    obtain ⟨g1, g2, g3⟩ := hg
    obtain ⟨bp, bq, bu, bv, bf, br⟩ := hb
    refine ⟨fun _ => ?_, fun h => absurd rfl h⟩
    refine ⟨⟨by decide, by decide⟩, for_all (m := 3) rfl (fun _ => true) [.sh (outO CO (.best ps q u v fs r)), .sh (fieldsD (.best ps q u v fs r)), .sh (.sq true [rw_ false false ps q, rw_ false false fs r, .non]), .sh (.sq true [rw_ false false ps q, rw_ false false fs r, .non]), .no] rfl (fun i hi nx ok no => ?_) (all3 fun _ => rfl) (fun _ => ?_)⟩
    · match i, hi with
      | 0, _ => exact ⟨_, rfl, _, rfl, _, rfl, row_call g1 bp bq hN ⟨fun _ => ⟨_, rfl, _, rfl, ⟨plR, plR⟩, fun _ => ok rfl _ rfl, fun h => absurd rfl h⟩, fun h => nomatch h⟩⟩
      | 1, _ => exact ⟨_, rfl, _, rfl, _, rfl, row_call g3 bf br hN ⟨fun _ => ⟨_, rfl, _, rfl, ⟨plR, plR⟩, fun _ => ok rfl _ rfl, fun h => absurd rfl h⟩, fun h => nomatch h⟩⟩
      | 2, _ => exact ⟨_, rfl, _, rfl, ok rfl _ rfl⟩
    · refine ⟨u, v, rfl, g2.p, g2.g, bu.le hN, bv.le hN, fun _ => ⟨⟨plP, plP⟩, fun b hb => ?_⟩, fun h => nomatch h⟩
      exact bl_false hk (hb.mpr rfl).symm
  | none fs r =>
    obtain ⟨bf, br⟩ := hb
    refine ⟨fun _ => ?_, fun h => absurd rfl h⟩
    refine ⟨⟨by decide, by decide⟩, for_all (m := 3) rfl (fun _ => true) [.sh (outO CO (.none fs r)), .sh (fieldsD (.none fs r)), .sh (.sq true [.non, rw_ false false fs r, .non]), .sh (.sq true [.non, rw_ false false fs r, .non]), .no] rfl (fun i hi nx ok no => ?_) (all3 fun _ => rfl) (fun _ => ?_)⟩
    · match i, hi with
      | 0, _ => exact ⟨_, rfl, _, rfl, ok rfl _ rfl⟩
      | 1, _ => exact ⟨_, rfl, _, rfl, _, rfl, row_call hg bf br hN ⟨fun _ => ⟨_, rfl, _, rfl, ⟨plR, plR⟩, fun _ => ok rfl _ rfl, fun h => absurd rfl h⟩, fun h => nomatch h⟩⟩
      | 2, _ => exact ⟨_, rfl, _, rfl, ok rfl _ rfl⟩
    · exact hk
  | endless ps q ws r =>
    obtain ⟨g1, g3⟩ := hg
    obtain ⟨bp, bq, bw, br⟩ := hb
    refine ⟨fun _ => ?_, fun h => absurd rfl h⟩
    refine ⟨⟨by decide, by decide⟩, for_all (m := 3) rfl (fun _ => true) [.sh (outO CO (.endless ps q ws r)), .sh (fieldsD (.endless ps q ws r)), .sh (.sq true [rw_ false false ps q, .non, rw_ false false ws r]), .sh (.sq true [rw_ false false ps q, .non, rw_ false false ws r]), .no] rfl (fun i hi nx ok no => ?_) (all3 fun _ => rfl) (fun _ => ?_)⟩
    · match i, hi with
      | 0, _ => exact ⟨_, rfl, _, rfl, _, rfl, row_call g1 bp bq hN ⟨fun _ => ⟨_, rfl, _, rfl, ⟨plR, plR⟩, fun _ => ok rfl _ rfl, fun h => absurd rfl h⟩, fun h => nomatch h⟩⟩
      | 1, _ => exact ⟨_, rfl, _, rfl, ok rfl _ rfl⟩
      | 2, _ => exact ⟨_, rfl, _, rfl, _, rfl, row_call g3 bw br hN ⟨fun _ => ⟨_, rfl, _, rfl, ⟨plR, plR⟩, fun _ => ok rfl _ rfl, fun h => absurd rfl h⟩, fun h => nomatch h⟩⟩
    · exact hk
abbrev Paper : Type := List Int × List Dem × OutK
def paperD (p : Paper) : D := .sq true [laidD p.1 p.2.1, fieldsD p.2.2]
structure Paper.ok (p : Paper) : Prop where
  pg : PgOk 1000 p.1 p.2.1
  bd : p.2.2.bd 1000
  good : p.2.2.good
def T_asked (C CO : Addr) : DSp := fun ds kk _ => ∃ (p0 : Paper) (ps : List Paper) (s : Int), ds = [.sq true ((p0 :: ps).map paperD), .int s] ∧ ps.length ≤ 10 ∧ (∀ p ∈ p0 :: ps, p.ok) ∧ kk (.sh (.bl true))
theorem atMap {α : Type} {f : α → D} {xs : List α} {i : Nat} {x : α} (h : xs[i]? = some x) : atI (xs.map f) (i : Int) = some (f x) := atI_nat (by rw [List.getElem?_map, h]; rfl)
theorem w_asked (C CO : Addr) : Deep [T_lprogram C, T_Outcome CO, T_truth, T_told C CO, T_holds CO] N__law_asked b__law_asked (T_asked C CO) := by
  rintro _ kk xx ⟨p0, ps0, s, rfl, hl, hok, hk⟩
  generalize hps : p0 :: ps0 = ps at *
  have hlen : ps.length ≤ 11 := by rw [← hps, List.length_cons]; omega
  refine lcw paperD (fun p => laidD p.1 p.2.1) (by omega) (fun p _ => rfl) ?_
  refine lcw paperD (fun p => fieldsD p.2.2) (by omega) (fun p _ => rfl) ?_
  refine lcw (fun p : Paper => laidD p.1 p.2.1) (fun p => progD C p.1 p.2.1) (by omega) (fun p hp => ⟨p.1, p.2.1, s, rfl, by have := (hok p hp).pg.lc; omega, by have := (hok p hp).pg.ld; omega, rfl⟩) ?_
  refine lcw (fun p : Paper => fieldsD p.2.2) (fun p => outO CO p.2.2) (by omega) (fun p hp => ?_) ?_
  · obtain ⟨a, b, o⟩ := p
    cases o <;> exact ⟨_, rfl, rfl⟩
  subst hps
  have told : ∀ (i j : Nat) {K : S → Prop} {X' : XD}, i < (p0 :: ps0).length → j < (p0 :: ps0).length → K (.sh (.bl true)) → ∃ d, atI ((p0 :: ps0).map fun p => progD C p.1 p.2.1) (i : Int) = some d ∧ ∃ d2, atI ((p0 :: ps0).map fun p => outO CO p.2.2) (j : Int) = some d2 ∧ ∃ d3, atI ((p0 :: ps0).map fun p => laidD p.1 p.2.1) (i : Int) = some d3 ∧ ∃ d4, atI ((p0 :: ps0).map fun p => fieldsD p.2.2) (j : Int) = some d4 ∧ CallW T_truth [d3, d4] (fun r => CallW (T_told C CO) [d, d2, r.d] K X') X' := fun i j {K X'} hi hj h => by
    have e1 := List.getElem?_eq_getElem hi
    have e2 := List.getElem?_eq_getElem hj
    have o1 := hok _ (List.getElem_mem hi)
    have o2 := hok _ (List.getElem_mem hj)
    exact ⟨_, atMap e1, _, atMap e2, _, atMap e1, _, atMap e2, ⟨1000, _, _, _, rfl, o1.pg, o2.bd, ⟨1000, _, _, _, rfl, o1.pg, o2.bd, h⟩⟩⟩
  have e0 : ∀ {x : Int}, x = ((((p0 :: ps0).map paperD).length : Nat) : Int) → x.toNat = (p0 :: ps0).length := fun h => by rw [h, Int.toNat_natCast, List.length_map]
  refine ⟨by rw [List.length_map]; omega, for_all (m := (p0 :: ps0).length) (e0 rfl) (fun _ => true) [.sh (.sq true ((p0 :: ps0).map paperD)), .no, .no, .sh (.sq true ((p0 :: ps0).map fun p => laidD p.1 p.2.1)), .sh (.sq true ((p0 :: ps0).map fun p => fieldsD p.2.2)), .no, .sh (.sq true ((p0 :: ps0).map fun p => progD C p.1 p.2.1)), .sh (.sq true ((p0 :: ps0).map fun p => outO CO p.2.2)), .sh (.bl (decide ((((p0.1.map D.int).length : Nat) : Int) < 10))), .no, .no] rfl (fun i hi nx ok no => ?_) (all3 fun _ => rfl) (fun _ => ?_)⟩
  · refine ⟨by rw [List.length_map]; omega, for_all (m := (p0 :: ps0).length) (e0 rfl) (fun _ => true) [.sh (.sq true ((p0 :: ps0).map paperD)), .no, .no, .sh (.sq true ((p0 :: ps0).map fun p => laidD p.1 p.2.1)), .sh (.sq true ((p0 :: ps0).map fun p => fieldsD p.2.2)), .no, .sh (.sq true ((p0 :: ps0).map fun p => progD C p.1 p.2.1)), .sh (.sq true ((p0 :: ps0).map fun p => outO CO p.2.2)), .sh (.bl (decide ((((p0.1.map D.int).length : Nat) : Int) < 10))), .sh (.int (i : Int)), .no] rfl (fun j hj nx2 ok2 no2 => ?_) (all3 fun _ => rfl) (fun _ => ok rfl _ rfl)⟩
    refine (fun Y => ⟨fun _ => Y, fun _ => ⟨fun _ => Y, fun _ => ok2 rfl _ rfl⟩⟩) ?_
    exact told i j hi hj ⟨fun _ => ok2 rfl _ rfl, fun h => nomatch h⟩
  refine ⟨by rw [List.length_map]; omega, for_all (m := (p0 :: ps0).length) (e0 rfl) (fun _ => true) [.no, .no, .no, .sh (.sq true ((p0 :: ps0).map fun p => laidD p.1 p.2.1)), .sh (.sq true ((p0 :: ps0).map fun p => fieldsD p.2.2)), .no, .sh (.sq true ((p0 :: ps0).map fun p => progD C p.1 p.2.1)), .sh (.sq true ((p0 :: ps0).map fun p => outO CO p.2.2)), .no, .no, .no] rfl (fun j hj nx2 ok2 no2 => ?_) (all3 fun _ => rfl) (fun _ => ?_)⟩
  · have e2 := List.getElem?_eq_getElem hj
    have o2 := hok _ (List.getElem_mem hj)
    exact ⟨_, atMap e2, _, atMap e2, 1000, _, rfl, o2.good, o2.bd, by decide, fun _ => ok2 rfl _ rfl, fun h => nomatch h⟩
  · have o1 := hok p0 List.mem_cons_self
    exact ⟨1000, _, _, _, rfl, o1.pg, o1.bd, ⟨1000, _, _, _, rfl, o1.pg, o1.bd, hk⟩⟩
/-! papers -/
def OutK.ext : OutK → OutK
  | .best ps q u v fs r => .best (ps ++ [0]) q u v fs r
  | .none fs r => .none (fs ++ [0]) r
  | .endless ps q ws r => .endless (ps ++ [0]) q ws r
def OutK.len : OutK → Nat
  | .best ps _ _ _ _ _ => ps.length
  | .none fs _ => fs.length
  | .endless ps _ _ _ => ps.length
theorem cutRow1 {ps : List Int} : cutRow 1 ps = ps ++ [0] := by unfold cutRow; rw [if_pos rfl]
def T_papers : DSp := fun ds kk _ => ∃ p1 p2 : Paper, ds = [paperD p1, paperD p2] ∧ p2.2.2.len ≤ 1000 ∧ kk (.ow (.lst [paperD p1, paperD p2, paperD (p2.1, p2.2.1, p2.2.2.ext)]))
theorem w_papers : Deep [T_cut] N__law_papers b__law_papers T_papers := by
  rintro _ kk xx ⟨p1, ⟨cs, dms, o⟩, rfl, hl, hk⟩
  cases o with
  | best ps q u v fs r =>
    refine ⟨_, atZ (ns := [1, 3]) (r := 0) (by decide) (by decide), true, _, 1, 1, ps, q, rfl, rfl, hl, ?_⟩
    rw [cutRow1]; exact hk
  | none fs r =>
    refine ⟨_, atZ (ns := [1, 3]) (r := 1) (by decide) (by decide), true, _, 3, 1, fs, r, rfl, rfl, hl, ?_⟩
    rw [cutRow1]; exact hk
  | endless ps q ws r =>
    refine ⟨_, atZ (ns := [1, 3]) (r := 0) (by decide) (by decide), true, _, 1, 1, ps, q, rfl, rfl, hl, ?_⟩
    rw [cutRow1]; exact hk
end K00
set_option Elab.async false
set_option linter.all false
set_option maxRecDepth 100000
set_option maxHeartbeats 4000000
set_option pp.maxSteps 600
set_option exponentiation.threshold 50000
/-! k05: faults, tables. -/
namespace K00
open PySem PySem.Spec PyProof.Rows L2 DL
/-! _law_table(script, at, low): slots script=0 at=1 low=2 head=3 size=4 many=5 menu=6 great=7 row=8 parts=9 k=10 j=11 mine=12 digit=13 kinds=14 sizes=15 factors=16; calls _law_cell/2 _law_digits/2 _law_draws/3 -/
def N__law_table : List Str := ["script", "at", "low", "head", "size", "many", "menu", "great", "row", "parts", "k", "j", "mine", "digit", "kinds", "sizes", "factors"]
def fs__law_table : List Str := ["_law_cell", "_law_digits", "_law_draws"]
def b__law_table : Xb := (.cons (.set 3 false [] (.call 1 (.cons (.call 0 (.cons (.var 0) (.cons (.var 1) .nil))) (.cons (.lst (.cons (.int 6) (.cons (.int 7) (.cons (.int 60) (.cons (.int 90) (.cons (.int 8) (.cons (.int 8) .nil))))))) .nil))))
 (.cons (.set 4 false [] (.ix (.lst (.cons (.int 3) (.cons (.int 2) (.cons (.int 4) (.cons (.int 1) (.cons (.int 6) (.cons (.int 5) .nil))))))) (.ixn (.var 3) 0)))
 (.cons (.set 5 false [] (.bi .max (.cons (.var 2) (.cons (.ix (.lst (.cons (.int 3) (.cons (.int 2) (.cons (.int 4) (.cons (.int 1) (.cons (.int 5) (.cons (.int 6) (.cons (.int 0) .nil)))))))) (.ixn (.var 3) 1)) .nil))))
 (.cons (.itj [2, 6, 7, 8, 9, 10, 11, 12, 13, 14, 15, 16] [] (.cmp .eq (.ixn (.var 3) 4) (.int 0)) (.cons (.set 4 false [] (.bin .add (.int 40) (.bin .mod (.bi .int (.cons (.ixn (.var 3) 2) .nil)) (.int 21))))
 (.cons (.set 5 false [] (.bin .add (.int 60) (.bin .mod (.bi .int (.cons (.ixn (.var 3) 3) .nil)) (.int 31))))
 .nil)) .nil)
 (.cons (.set 6 false [] (.lst (.cons (.int 0) (.cons (.int 1) (.cons (.int 2) (.cons (.neg (.int 1)) (.cons (.int 0) (.cons (.int 3) (.cons (.int 1) (.cons (.neg (.int 2)) (.cons (.int 0) .nil)))))))))))
 (.cons (.set 7 false [] (.bi .int (.cons (.cmp .eq (.ixn (.var 3) 4) (.int 1)) .nil)))
 (.cons (.set 8 false [] (.call 1 (.cons (.call 0 (.cons (.var 0) (.cons (.bin .add (.var 1) (.int 1)) .nil))) (.cons (.rep (.lst (.cons (.ix (.lst (.cons (.int 9) (.cons (.int 2000003) .nil))) (.var 7)) .nil)) (.bi .min (.cons (.bin .mul (.var 5) (.var 4)) (.cons (.int 48) .nil)))) .nil))))
 (.cons (.set 9 true [] (.lst .nil))
 (.cons (.for_ [2, 10, 11, 12, 13, 14, 15, 16] [] (.nm 10) (.rng (.var 5)) (.cons (.set 12 false [] (.lc 11 (.ix (.var 8) (.bin .mod (.bi .int (.cons (.bin .add (.bin .add (.bin .mul (.var 10) (.var 4)) (.var 11)) (.bin .mul (.bin .mul (.var 10) (.var 11)) (.bi .int (.cons (.cmp .gt (.var 4) (.int 6)) .nil)))) .nil)) (.bi .len (.cons (.var 8) .nil)))) (.rng (.var 4))))
 (.cons (.ite [] (.cmp .eq (.var 7) (.int 1)) (.cons (.app 9 [] (.lc 13 (.bin .sub (.var 13) (.int 1000001)) (.sq (.var 12))))
 .nil) (.cons (.app 9 [] (.lc 13 (.ix (.var 6) (.var 13)) (.sq (.var 12))))
 .nil))
 .nil)))
 (.cons (.set 14 false [] (.lc 10 (.ix (.lst (.cons (.str "most") (.cons (.str "least") (.cons (.str "same") (.cons (.str "most") (.cons (.str "least") (.cons (.str "most") .nil))))))) (.var 10)) (.sq (.call 2 (.cons (.call 0 (.cons (.var 0) (.cons (.bin .add (.var 1) (.int 2)) .nil))) (.cons (.int 6) (.cons (.var 5) .nil)))))))
 (.cons (.set 15 false [] (.lst (.cons (.rep (.lst (.cons (.int 1) .nil)) (.int 8)) (.cons (.lst (.cons (.int 1) (.cons (.int 2) (.cons (.int 3) (.cons (.int 1) (.cons (.int 5) (.cons (.int 1000) (.cons (.int 1) (.cons (.int 7) .nil))))))))) (.cons (.lst (.cons (.int 1) (.cons (.int 2) (.cons (.int 1) (.cons (.int 1000003) (.cons (.int 3) (.cons (.bin .add (.bin .pow (.int 10) (.int 12)) (.int 39)) (.cons (.bin .add (.bin .pow (.int 10) (.int 40)) (.int 121)) (.cons (.int 1) .nil))))))))) .nil)))))
 (.cons (.set 6 false [] (.ix (.var 15) (.bin .mul (.ix (.lst (.cons (.int 0) (.cons (.int 1) (.cons (.int 2) (.cons (.int 1) (.cons (.int 0) (.cons (.int 1) (.cons (.int 0) (.cons (.int 1) .nil))))))))) (.ixn (.var 3) 5)) (.bi .int (.cons (.cmp .gt (.ixn (.var 3) 4) (.int 0)) .nil)))))
 (.cons (.set 16 false [] (.lc 10 (.ix (.var 6) (.var 10)) (.sq (.call 2 (.cons (.call 0 (.cons (.var 0) (.cons (.bin .add (.var 1) (.int 3)) .nil))) (.cons (.int 8) (.cons (.bin .add (.var 5) (.var 4)) .nil)))))))
 (.cons (.ret [9] (.lst (.cons (.var 9) (.cons (.var 14) (.cons (.slc (.var 16) .non (.var 5)) (.cons (.slc (.var 16) (.var 5) .non) (.cons (.bin .mod (.bi .int (.cons (.ixn (.var 3) 2) .nil)) (.var 4)) (.cons (.bin .mod (.bi .int (.cons (.ixn (.var 3) 3) .nil)) (.bi .max (.cons (.int 1) (.cons (.var 5) .nil)))) .nil))))))))
 .nil))))))))))))))
theorem kin_ints {f : Int} {ns : List Int} : kin (.int f) (ns.map .int) = true := by
  show (ns.map D.int).all isIntD = true
  rw [List.all_map, List.all_eq_true]
  intro x _; rfl
theorem mem_ints {f : Int} {ns : List Int} : D.int f ∈ ns.map D.int ↔ f ∈ ns := by
  rw [List.mem_map]
  constructor
  · rintro ⟨x, hx, e⟩; cases e; exact hx
  · intro h; exact ⟨f, h, rfl⟩
theorem digs3 {r : List Int} {a b c : Int} (h : Digs r [a, b, c]) : ∃ x y z, r = [x, y, z] ∧ (0 ≤ x ∧ x < a) ∧ (0 ≤ y ∧ y < b) ∧ (0 ≤ z ∧ z < c) := by
  match r, h.1 with
  | [x, y, z], _ => exact ⟨x, y, z, rfl, h.2 0 x a rfl rfl, h.2 1 y b rfl rfl, h.2 2 z c rfl rfl⟩
def T_fault : DSp := fun ds kk _ => ∃ (ns : List Int) (at_ many t0 t1 t2 : Int) (needs : List Int) (ls : List (List Int)) (kinds : List Str) (fs gs : List Int) (rest : List D), ds = [.scr ns, .int at_, tabD ls kinds fs gs rest, .int many, .sq true (needs.map .int), .sq true [.int t0, .int t1, .int t2]] ∧ 0 ≤ at_ ∧ at_ ≤ 900000 ∧ 0 < many ∧
  1 ∉ needs ∧ t0 ≠ 1 ∧ (t1 < 2 → (1 ≤ t2 ∧ t2 ≤ many) ∧ t2 ∉ needs ∧ t2 ≠ t0) ∧ ∀ f : Int, 1 ≤ f → f ≤ many → (kinds.length = 0 → f ∉ needs) → (f = t0 → 2 ≤ t1) → kk (.sh (.int f))
theorem w_fault : Deep [T_cell, T_digits] N__law_fault b__law_fault T_fault := by
  rintro _ kk xx ⟨ns, a, many, t0, t1, t2, needs, ls, kinds, fs, gs, rest, rfl, a0, a1, hm, n1, h0, h2, hk⟩
  refine ⟨ns, a + 9, rfl, by omega, by omega, fun c => ?_⟩
  refine ⟨c, true, [64, 3, 2], rfl, by decide, by decide, fun r hr => ?_⟩
  obtain ⟨x, y, z, rfl, _, _, _⟩ := digs3 hr
  refine ⟨hm, ?_⟩
  have f0 := Int.emod_nonneg x (show many ≠ 0 by omega)
  have f1 := Int.emod_lt_of_pos x hm
  generalize x % many = g at *
  have last : (kinds.length = 0 → 1 + g ∉ needs) → (1 + g = t0 → (t1 < 2 → kk (.sh (.int t2))) ∧ (¬ t1 < 2 → kk (.sh (.int (1 + g))))) ∧ (1 + g ≠ t0 → kk (.sh (.int (1 + g)))) := fun hz =>
    ⟨fun e => ⟨fun ht => hk t2 (h2 ht).1.1 (h2 ht).1.2 (fun _ => (h2 ht).2.1) fun e2 => absurd e2 (h2 ht).2.2, fun ht => hk _ (by omega) (by omega) hz fun _ => by omega⟩, fun e => hk _ (by omega) (by omega) hz fun e2 => absurd e2 e⟩
  refine ⟨fun hz => ⟨kin_ints, fun _ => ?_, fun hn => ?_⟩, fun hz => ?_⟩
  · exact hk 1 (by decide) (by omega) (fun _ => n1) fun e => absurd e.symm h0
  · exact last fun _ => fun z => hn (mem_ints.mpr z)
  · refine last fun z => absurd ?_ hz
    rw [List.length_map, z]; rfl
structure TabOk (low : Nat) (ls : List (List Int)) (kinds : List Str) (fs gs : List Int) (a b : Int) : Prop where
  w0 : 1 ≤ gs.length
  w1 : gs.length ≤ 60
  m0 : low ≤ kinds.length
  m1 : kinds.length ≤ 90
  ll : ls.length = kinds.length
  lf : fs.length = kinds.length
  lp : ∀ ps ∈ ls, ps.length = gs.length ∧ ∀ p ∈ ps, Bd 22 p
  ff : ∀ f ∈ fs, Fac f
  fg : ∀ g ∈ gs, Fac g
  ia : 0 ≤ a ∧ a < gs.length
  ib : 0 ≤ b ∧ (b < kinds.length ∨ b = 0)
def T_table : DSp := fun ds kk _ => ∃ (ns : List Int) (at_ : Int) (low : Nat), ds = [.scr ns, .int at_, .int (low : Int)] ∧ 0 ≤ at_ ∧ at_ ≤ 900000 ∧ low ≤ 1 ∧ ∀ ls kinds fs gs a b, TabOk low ls kinds fs gs a b → kk (.sh (tabD ls kinds fs gs [.int a, .int b]))
theorem digs6 {r : List Int} {a b c d e f : Int} (h : Digs r [a, b, c, d, e, f]) : ∃ x y z u v w, r = [x, y, z, u, v, w] ∧ (0 ≤ x ∧ x < a) ∧ (0 ≤ y ∧ y < b) ∧ (0 ≤ z ∧ z < c) ∧ (0 ≤ u ∧ u < d) ∧ (0 ≤ v ∧ v < e) ∧ (0 ≤ w ∧ w < f) := by
  match r, h.1 with
  | [x, y, z, u, v, w], _ => exact ⟨x, y, z, u, v, w, rfl, h.2 0 x a rfl rfl, h.2 1 y b rfl rfl, h.2 2 z c rfl rfl, h.2 3 u d rfl rfl, h.2 4 v e rfl rfl, h.2 5 w f rfl rfl⟩
theorem cut_take {ds : List D} {n : Nat} : DL.cutD ds none (some (n : Int)) = ds.take n := by
  unfold DL.cutD
  rw [HT.sIx_none, HT.sIx_nat, List.drop_zero, Nat.sub_zero]
  by_cases h : n ≤ ds.length
  · rw [Nat.min_eq_left h]
  · rw [Nat.min_eq_right (by omega), List.take_of_length_le (Nat.le_refl _), List.take_of_length_le (by omega)]
theorem cut_drop {ds : List D} {n : Nat} : DL.cutD ds (some (n : Int)) none = ds.drop n := by
  unfold DL.cutD
  rw [HT.sIx_none, HT.sIx_nat]
  by_cases h : n ≤ ds.length
  · rw [Nat.min_eq_left h, List.take_of_length_le (by rw [List.length_drop]; exact Nat.le_refl _)]
  · rw [Nat.min_eq_right (by omega), List.drop_eq_nil_of_le (Nat.le_refl _), List.drop_eq_nil_of_le (by omega), List.take_nil]
abbrev mn0 : List Int := [1, 1, 1, 1, 1, 1, 1, 1]
abbrev mn1 : List Int := [1, 2, 3, 1, 5, 1000, 1, 7]
abbrev mn2 : List Int := [1, 2, 1, 1000003, 3, 10 ^ Int.toNat 12 + 39, 10 ^ Int.toNat 40 + 121, 1]
theorem fac_of {f : Int} (h : (decide (1 ≤ f) && decide (f.natAbs ∣ facM)) = true) : Fac f := ⟨of_decide_eq_true (Bool.and_eq_true_iff.mp h).1, of_decide_eq_true (Bool.and_eq_true_iff.mp h).2⟩
theorem mn_fac : ∀ m ∈ [mn0, mn1, mn2], ∀ f ∈ m, Fac f := by
  have h : ([mn0, mn1, mn2].all fun m => m.all fun f => decide (1 ≤ f) && decide (f.natAbs ∣ facM)) = true := by decide +kernel
  intro m hm f hf
  exact fac_of (List.all_eq_true.mp (List.all_eq_true.mp h m hm) f hf)
theorem mn_len : ∀ m ∈ [mn0, mn1, mn2], m.length = 8 := by decide

end K00
set_option Elab.async false
set_option linter.all false
set_option maxRecDepth 100000
set_option maxHeartbeats 8000000
set_option pp.maxSteps 600
set_option exponentiation.threshold 50000
/-! k05: the table. -/
namespace K00
open PySem PySem.Spec PyProof.Rows L2 DL
theorem atMenuS {ks : List Str} {r : Int} (h0 : 0 ≤ r) (h1 : r < ks.length) : atI (ks.map D.str) r = some (.str (ks.getD r.toNat "")) := by
  obtain ⟨j, rfl⟩ : ∃ j : Nat, r = j := ⟨r.toNat, by omega⟩
  rw [Int.toNat_natCast]
  exact atStr (by omega)
def dropB : Nat → Xb → Xb
  | 0, b => b
  | n + 1, .cons _ r => dropB n r
  | _ + 1, .nil => .nil
theorem w_table3 : ∀ {ns : List Int} {a : Int} {low w m : Nat} {x0 x1 x2 x3 x4 x5 : Int} {row : List Int} {ls : List (List Int)} {kk : S → Prop} {xx : XD}, 0 ≤ a → a ≤ 900000 → (1 ≤ w ∧ w ≤ 60) → (low ≤ m ∧ m ≤ 90) → (0 ≤ x2 ∧ x2 < 60) → (0 ≤ x3 ∧ x3 < 90) → (0 ≤ x4 ∧ x4 < 8) → (0 ≤ x5 ∧ x5 < 8) → (∀ ls kinds fs gs a b, TabOk low ls kinds fs gs a b → kk (.sh (tabD ls kinds fs gs [.int a, .int b]))) → ls.length = m → (∀ ps ∈ ls, ps.length = w ∧ ∀ p ∈ ps, Bd 22 p) → wpb [T_cell, T_digits, T_draws] (dropB 9 b__law_table) [.sh (.scr ns), .sh (.int a), .no, .sh (.sq true [.int x0, .int x1, .int x2, .int x3, .int x4, .int x5]), .sh (.int (w : Int)), .sh (.int (m : Int)), .sh (.sq true (([0, 1, 2, -1, 0, 3, 1, -2, 0] : List Int).map .int)), .sh (.int (if decide (x4 = 1) = true then (1 : Int) else 0)), .sh (.sq true (row.map .int)), .ow (.lst (lsD true ls)), .no, .no, .no, .no, .no, .no, .no] (edOf kk xx) := by
  intro ns a low w m x0 x1 x2 x3 x4 x5 row ls kk xx a0 a1 hw hm h2 h3 h4 h5 hk hl hp
  obtain ⟨w0, w1⟩ := hw
  obtain ⟨m0, m1⟩ := hm
  refine ⟨ns, a + 2, rfl, by omega, by omega, fun c2 => ?_⟩
  refine ⟨c2, 6, m, rfl, by decide, by decide, by omega, fun r2 hr2 => ?_⟩
  obtain ⟨r2l, r2d⟩ := hr2
  refine lcw .int (fun d => .str ((["most", "least", "same", "most", "least", "most"] : List Str).getD d.toNat "")) (by omega) (fun d hd => ⟨_, atMenuS (ks := ["most", "least", "same", "most", "least", "most"]) (r2d d hd).1 (r2d d hd).2, rfl⟩) ?_
  refine ⟨⟨by decide, by decide, by decide⟩, ⟨by decide, by decide, by decide⟩, ⟨by decide, by decide, by decide⟩, ?_⟩
  have hA := menu (ns := [0, 1, 2, 1, 0, 1, 0, 1]) (P := fun s => s = 0 ∨ s = 1 ∨ s = 2) (by decide) h5.1 h5.2
  have hB : (if decide (0 < x4) = true then (1 : Int) else 0) = 0 ∨ (if decide (0 < x4) = true then (1 : Int) else 0) = 1 := by
    rcases Decidable.em (0 < x4) with z | z
    · rw [decide_eq_true z]; exact .inr rfl
    · rw [decide_eq_false z]; exact .inl rfl
  refine ⟨_, atZ (ns := [0, 1, 2, 1, 0, 1, 0, 1]) h5.1 h5.2, ?_⟩
  generalize ([0, 1, 2, 1, 0, 1, 0, 1] : List Int).getD x5.toNat 0 = A at *
  have hB2 : -18446744073709551616 < (if decide (0 < x4) = true then (1 : Int) else 0) ∧ (if decide (0 < x4) = true then (1 : Int) else 0) < 18446744073709551616 := by rcases hB with e | e <;> rw [e] <;> decide
  have key : ∃ mnu : List Int, mnu ∈ [mn0, mn1, mn2] ∧ atI [D.sq true (mn0.map .int), D.sq true (mn1.map .int), D.sq true (mn2.map .int)] (A * (if decide (0 < x4) = true then (1 : Int) else 0)) = some (.sq true (mnu.map .int)) := by
    have hv : A * (if decide (0 < x4) = true then (1 : Int) else 0) = 0 ∨ A * (if decide (0 < x4) = true then (1 : Int) else 0) = 1 ∨ A * (if decide (0 < x4) = true then (1 : Int) else 0) = 2 := by
      rcases hB with e | e <;> rw [e]
      · exact .inl (Int.mul_zero _)
      · rw [Int.mul_one]; exact hA
    rcases hv with e | e | e <;> rw [e]
    · exact ⟨mn0, by simp, rfl⟩
    · exact ⟨mn1, by simp, rfl⟩
    · exact ⟨mn2, by simp, rfl⟩
  obtain ⟨mnu, hm, e⟩ := key
  refine ⟨mul64 (by omega) hB2, _, e, ?_⟩
  have ml := mn_len mnu hm
  have mf := mn_fac mnu hm
  refine ⟨ns, a + 3, rfl, by omega, by omega, fun c3 => ?_⟩
  refine ⟨c3, 8, m + w, rfl, by decide, by decide, by omega, fun r3 hr3 => ?_⟩
  obtain ⟨r3l, r3d⟩ := hr3
  refine lcw .int (fun d => .int (mnu.getD d.toNat 0)) (by omega) (fun d hd => ⟨_, atZ (r3d d hd).1 (by rw [ml]; exact (r3d d hd).2), rfl⟩) ?_
  have ef : (r3.map fun d => D.int (mnu.getD d.toNat 0)) = (r3.map fun d => mnu.getD d.toNat 0).map .int := by rw [List.map_map]; rfl
  rw [ef]
  have fl : (r3.map fun d => mnu.getD d.toNat 0).length = m + w := by rw [List.length_map, r3l]
  have fF : ∀ f ∈ r3.map (fun d => mnu.getD d.toNat 0), Fac f := fun f hf => by
    obtain ⟨d, hd, rfl⟩ := List.mem_map.mp hf
    have := r3d d hd
    exact mf _ (gdm (by omega))
  generalize (r3.map fun d => mnu.getD d.toNat 0) = F at *
  generalize hK : (r2.map fun d => (["most", "least", "same", "most", "least", "most"] : List Str).getD d.toNat "") = kinds
  have eK : (r2.map fun d => D.str ((["most", "least", "same", "most", "least", "most"] : List Str).getD d.toNat "")) = kinds.map .str := by rw [← hK, List.map_map]; rfl
  have kl : kinds.length = m := by rw [← hK, List.length_map, r2l]
  refine ⟨by omega, ?_, ?_⟩
  · show 0 < (if (m : Int) > 1 then (m : Int) else 1)
    split <;> omega
  have hmax : (if (m : Int) > 1 then (m : Int) else 1) > 0 := by split <;> omega
  have r := hk ls kinds (F.take m) (F.drop m) (x2 % (w : Int)) (x3 % (if (m : Int) > 1 then (m : Int) else 1)) ⟨by rw [List.length_drop]; omega, by rw [List.length_drop]; omega, by omega, by omega, by omega, by rw [List.length_take]; omega, fun ps hps => ⟨by rw [(hp ps hps).1, List.length_drop]; omega, (hp ps hps).2⟩, fun f hf => fF f (List.mem_of_mem_take hf), fun f hf => fF f (List.mem_of_mem_drop hf), ?_, ?_⟩
  · show kk (.sh (.sq true [.sq true (lsD true ls), .sq true (r2.map fun d => D.str ((["most", "least", "same", "most", "least", "most"] : List Str).getD d.toNat "")), .sq true (DL.cutD (F.map .int) none (some (m : Int))), .sq true (DL.cutD (F.map .int) (some (m : Int)) none), .int (x2 % (w : Int)), .int (x3 % (if (m : Int) > 1 then (m : Int) else 1))]))
    rw [eK, cut_take, cut_drop, ← List.map_take, ← List.map_drop]
    exact r
  · rw [List.length_drop, fl]
    have h1 := Int.emod_nonneg x2 (show (w : Int) ≠ 0 by omega)
    have h2 := Int.emod_lt_of_pos x2 (show (0 : Int) < (w : Int) by omega)
    omega
  · have h1 := Int.emod_nonneg x3 (show (if (m : Int) > 1 then (m : Int) else 1) ≠ 0 by omega)
    have h2 := Int.emod_lt_of_pos x3 hmax
    refine ⟨h1, ?_⟩
    rw [kl]
    by_cases hm1 : (m : Int) > 1
    · rw [if_pos hm1] at h2 ⊢; exact .inl h2
    · rw [if_neg hm1] at h1 h2 ⊢; right; omega
theorem w_table2 : ∀ {ns : List Int} {a : Int} {low w m : Nat} {x0 x1 x2 x3 x4 x5 : Int} {kk : S → Prop} {xx : XD}, 0 ≤ a → a ≤ 900000 → (1 ≤ w ∧ w ≤ 60) → (low ≤ m ∧ m ≤ 90) → (0 ≤ x2 ∧ x2 < 60) → (0 ≤ x3 ∧ x3 < 90) → (0 ≤ x4 ∧ x4 < 8) → (0 ≤ x5 ∧ x5 < 8) → (∀ ls kinds fs gs a b, TabOk low ls kinds fs gs a b → kk (.sh (tabD ls kinds fs gs [.int a, .int b]))) → wpb [T_cell, T_digits, T_draws] (dropB 4 b__law_table) [.sh (.scr ns), .sh (.int a), .no, .sh (.sq true [.int x0, .int x1, .int x2, .int x3, .int x4, .int x5]), .sh (.int (w : Int)), .sh (.int (m : Int)), .no, .no, .no, .no, .no, .no, .no, .no, .no, .no, .no] (edOf kk xx) := by
  intro ns a low w m x0 x1 x2 x3 x4 x5 kk xx a0 a1 hw hm h2 h3 h4 h5 hk
  obtain ⟨w0, w1⟩ := hw
  obtain ⟨m0, m1⟩ := hm
  obtain ⟨great, hgr⟩ : ∃ g : Bool, decide (x4 = 1) = g := ⟨_, rfl⟩
  -- the row of digits
  refine ⟨ns, a + 1, rfl, by omega, by omega, fun c1 => ?_⟩
  obtain ⟨gi, egi, hgi⟩ : ∃ gi : Int, (if decide (x4 = 1) = true then (1 : Int) else 0) = gi ∧ ((gi = 1 ∧ x4 = 1) ∨ (gi = 0 ∧ x4 ≠ 1)) := by
    by_cases h : x4 = 1
    · exact ⟨1, by rw [decide_eq_true h]; rfl, .inl ⟨rfl, h⟩⟩
    · exact ⟨0, by rw [decide_eq_false h]; rfl, .inr ⟨rfl, h⟩⟩
  obtain ⟨top, etop, htop⟩ : ∃ top : Int, atI ([9, 2000003].map D.int) (if decide (x4 = 1) = true then (1 : Int) else 0) = some (.int top) ∧ ((gi = 1 ∧ top = 2000003) ∨ (gi = 0 ∧ top = 9)) := by
    rw [egi]
    rcases hgi with ⟨rfl, _⟩ | ⟨rfl, _⟩
    · exact ⟨2000003, rfl, .inl ⟨rfl, rfl⟩⟩
    · exact ⟨9, rfl, .inr ⟨rfl, rfl⟩⟩
  refine ⟨_, etop, mul64 (by omega) (by omega), ?_⟩
  obtain ⟨k, ek, hkk⟩ : ∃ k : Nat, (if (48 : Int) < (m : Int) * (w : Int) then 48 else (m : Int) * (w : Int)) = (k : Int) ∧ (0 < m → 0 < k) ∧ k ≤ 48 := by
    have hmw : (m : Int) * (w : Int) = ((m * w : Nat) : Int) := by rw [Int.natCast_mul]
    by_cases h : (48 : Int) < (m : Int) * (w : Int)
    · exact ⟨48, by rw [if_pos h]; rfl, fun _ => by decide, Nat.le_refl _⟩
    · refine ⟨m * w, by rw [if_neg h, hmw], fun hm => Nat.mul_pos hm (by omega), by omega⟩
  refine ⟨?_, ?_⟩
  · show -1000000 ≤ (if (48 : Int) < (m : Int) * (w : Int) then 48 else (m : Int) * (w : Int)) ∧ (if (48 : Int) < (m : Int) * (w : Int) then 48 else (m : Int) * (w : Int)) ≤ 1000000 ∧ 1 * (if (48 : Int) < (m : Int) * (w : Int) then 48 else (m : Int) * (w : Int)).toNat ≤ 100000
    rw [ek]; omega
  refine ⟨c1, true, List.replicate k top, ?_, by rw [List.length_replicate]; omega, fun x hx => by rw [(List.mem_replicate.mp hx).2]; omega, fun row hrow => ?_⟩
  · rw [← repN]
    show [_, D.sq true (List.replicate (if (48 : Int) < (m : Int) * (w : Int) then 48 else (m : Int) * (w : Int)).toNat [D.int top]).flatten] = _
    rw [ek, Int.toNat_natCast]; exact rfl
  obtain ⟨rl, rd⟩ := hrow.drawn
  refine ⟨by omega, fun i δ => ∃ ls : List (List Int), ls.length = i ∧ (∀ ps ∈ ls, ps.length = w ∧ ∀ p ∈ ps, Bd 22 p) ∧ δ = [.sh (.scr ns), .sh (.int a), .no, .sh (.sq true [.int x0, .int x1, .int x2, .int x3, .int x4, .int x5]), .sh (.int (w : Int)), .sh (.int (m : Int)), .sh (.sq true (([0, 1, 2, -1, 0, 3, 1, -2, 0] : List Int).map .int)), .sh (.int (if decide (x4 = 1) = true then (1 : Int) else 0)), .sh (.sq true (row.map .int)), .ow (.lst (lsD true ls)), .no, .no, .no, .no, .no, .no, .no], ⟨[], rfl, fun ps hps => (by cases hps), rfl⟩, fun i δ1 hi hI => ?_, fun δ1 hI => ?_⟩
  · obtain ⟨ls, hl, hp, rfl⟩ := hI
    have hi : i < m := by omega
    have hk0 := hkk.1 (by omega)
    have big : ∀ j, j < w → CMulW (i : Int) (w : Int) ∧ CMulW (i : Int) (j : Int) := fun j hj => ⟨mul64 (by omega) (by omega), mul64 (by omega) (by omega)⟩
    refine ⟨by omega, lcw_rng (fun (j : Nat) => .int (row.getD (((i : Int) * (w : Int) + (j : Int) + (i : Int) * (j : Int) * (if decide ((w : Int) > 6) = true then (1 : Int) else 0)) % ((row.map D.int).length : Int)).toNat 0)) (by omega) (fun j hj => ?_) ?_⟩
    · have hj : j < w := by omega
      have hb := big j hj
      have e1 : (i : Int) * (j : Int) ≤ 90 * 60 := Int.mul_le_mul (by omega) (by omega) (by omega) (by omega)
      have e2 : 0 ≤ (i : Int) * (j : Int) := Int.mul_nonneg (by omega) (by omega)
      have hlen : ((row.map D.int).length : Int) = (k : Int) := by rw [List.length_map, rl]
      have hif : ∀ c : Bool, (0 : Int) ≤ (if c = true then (1 : Int) else 0) ∧ (if c = true then (1 : Int) else 0) ≤ 1 := fun c => by cases c <;> decide
      have hif := hif (decide ((w : Int) > 6))
      refine ⟨hb.1, hb.2, mul64 (by omega) (by omega), by rw [hlen]; omega, _, atZ (Int.emod_nonneg _ (by rw [hlen]; omega)) ?_, rfl⟩
      have := Int.emod_lt_of_pos ((i : Int) * (w : Int) + (j : Int) + (i : Int) * (j : Int) * (if decide ((w : Int) > 6) = true then (1 : Int) else 0)) (show (0 : Int) < ((row.map D.int).length : Int) by rw [hlen]; omega)
      rw [List.length_map] at this ⊢
      exact this
    rw [show ((w : Int)).toNat = w from Int.toNat_natCast w]
    generalize hmine : ((List.range w).map fun (j : Nat) => row.getD (((i : Int) * (w : Int) + (j : Int) + (i : Int) * (j : Int) * (if decide ((w : Int) > 6) = true then (1 : Int) else 0)) % ((row.map D.int).length : Int)).toNat 0) = mine
    have em : ((List.range w).map fun (j : Nat) => D.int (row.getD (((i : Int) * (w : Int) + (j : Int) + (i : Int) * (j : Int) * (if decide ((w : Int) > 6) = true then (1 : Int) else 0)) % ((row.map D.int).length : Int)).toNat 0)) = mine.map .int := by rw [← hmine, List.map_map]; exact rfl
    rw [em]
    have ml : mine.length = w := by rw [← hmine, List.length_map, List.length_range]
    have md : ∀ d ∈ mine, 0 ≤ d ∧ d < top := fun d hd => by
      rw [← hmine] at hd
      obtain ⟨j, hj, rfl⟩ := List.mem_map.mp hd
      refine rd _ (gdm ?_)
      have hlen : ((row.map D.int).length : Int) = (k : Int) := by rw [List.length_map, rl]
      have := Int.emod_lt_of_pos ((i : Int) * (w : Int) + (j : Int) + (i : Int) * (j : Int) * (if decide ((w : Int) > 6) = true then (1 : Int) else 0)) (show (0 : Int) < ((row.map D.int).length : Int) by rw [hlen]; omega)
      have h0 := Int.emod_nonneg ((i : Int) * (w : Int) + (j : Int) + (i : Int) * (j : Int) * (if decide ((w : Int) > 6) = true then (1 : Int) else 0)) (show ((row.map D.int).length : Int) ≠ 0 by rw [hlen]; omega)
      rw [List.length_map] at this h0 ⊢
      omega
    have fin : ∀ f : Int → Int, (∀ d ∈ mine, Bd 22 (f d)) → ∃ ls' : List (List Int), ls'.length = i + 1 ∧ (∀ ps ∈ ls', ps.length = w ∧ ∀ p ∈ ps, Bd 22 p) ∧ lsD true ls ++ [.sq true (mine.map fun d => .int (f d))] = lsD true ls' := fun f hf => ⟨ls ++ [mine.map f], by rw [List.length_append, hl]; rfl, fun ps hps => by
      rcases List.mem_append.mp hps with z | z
      · exact hp ps z
      · rw [List.mem_singleton.mp z]
        refine ⟨by rw [List.length_map, ml], fun p hpm => ?_⟩
        obtain ⟨d, hd, rfl⟩ := List.mem_map.mp hpm
        exact hf d hd, by
      show ls.map (fun ps => D.sq true (ps.map D.int)) ++ [D.sq true (mine.map fun d => D.int (f d))] = (ls ++ [mine.map f]).map fun ps => D.sq true (ps.map D.int)
      rw [List.map_append]
      congr 1
      show _ = [D.sq true ((mine.map f).map D.int)]
      rw [List.map_map]; rfl⟩
    have lo : (lsD true ls).length < 100000 := by rw [List.length_map]; omega
    refine ⟨fun hg => ?_, fun hg => ?_⟩
    · refine lcw .int (fun d => .int (d - 1000001)) (by omega) (fun d hd => rfl) ?_
      have ht : top = 2000003 := by rw [egi] at hg; omega
      obtain ⟨ls', a1', a2', a3'⟩ := fin (fun d => d - 1000001) fun d hd => by
        have := md d hd
        show (d - 1000001).natAbs < 2 ^ 22
        omega
      refine ⟨lo, ls', a1', a2', ?_⟩
      rw [← a3']; exact rfl
    · have ht : top = 9 := by rw [egi] at hg; omega
      refine lcw .int (fun d => .int (([0, 1, 2, -1, 0, 3, 1, -2, 0] : List Int).getD d.toNat 0)) (by omega) (fun d hd => ⟨_, atZ (ns := [0, 1, 2, -1, 0, 3, 1, -2, 0]) (md d hd).1 (by have := (md d hd).2; rw [ht] at this; exact this), rfl⟩) ?_
      obtain ⟨ls', a1', a2', a3'⟩ := fin (fun d => ([0, 1, 2, -1, 0, 3, 1, -2, 0] : List Int).getD d.toNat 0) fun d hd => by
        have h := menu (ns := [0, 1, 2, -1, 0, 3, 1, -2, 0]) (P := fun s => s.natAbs ≤ 3) (by decide) (md d hd).1 (by have := (md d hd).2; rw [ht] at this; exact this)
        exact Nat.lt_of_le_of_lt h (by decide)
      refine ⟨lo, ls', a1', a2', ?_⟩
      rw [← a3']; exact rfl
  obtain ⟨ls, hl, hp, rfl⟩ := hI
  exact w_table3 a0 a1 ⟨w0, w1⟩ ⟨m0, m1⟩ h2 h3 h4 h5 hk (by omega) hp
theorem w_table : Deep [T_cell, T_digits, T_draws] N__law_table b__law_table T_table := by
  rintro _ kk xx ⟨ns, a, low, rfl, a0, a1, hlow, hk⟩
  refine ⟨ns, a, rfl, by omega, by omega, fun c => ?_⟩
  refine ⟨c, true, [6, 7, 60, 90, 8, 8], rfl, by decide, by decide, fun r hr => ?_⟩
  obtain ⟨x0, x1, x2, x3, x4, x5, rfl, h0, h1, h2, h3, h4, h5⟩ := digs6 hr
  refine ⟨_, atZ (ns := [3, 2, 4, 1, 6, 5]) h0.1 h0.2, ?_⟩
  obtain ⟨w, ew, w0, w1⟩ : ∃ w : Nat, ([3, 2, 4, 1, 6, 5] : List Int).getD x0.toNat 0 = (w : Int) ∧ 1 ≤ w ∧ w ≤ 6 := by
    have := menu (ns := [3, 2, 4, 1, 6, 5]) (P := fun s => 1 ≤ s ∧ s ≤ 6) (by decide) h0.1 h0.2
    exact ⟨(([3, 2, 4, 1, 6, 5] : List Int).getD x0.toNat 0).toNat, by omega, by omega, by omega⟩
  refine ⟨_, atZ (ns := [3, 2, 4, 1, 5, 6, 0]) h1.1 h1.2, ?_⟩
  obtain ⟨m, em, m0, m1⟩ : ∃ m : Nat, (if ([3, 2, 4, 1, 5, 6, 0] : List Int).getD x1.toNat 0 > (low : Int) then ([3, 2, 4, 1, 5, 6, 0] : List Int).getD x1.toNat 0 else (low : Int)) = (m : Int) ∧ low ≤ m ∧ m ≤ 6 := by
    have := menu (ns := [3, 2, 4, 1, 5, 6, 0]) (P := fun s => 0 ≤ s ∧ s ≤ 6) (by decide) h1.1 h1.2
    split
    · exact ⟨(([3, 2, 4, 1, 5, 6, 0] : List Int).getD x1.toNat 0).toNat, by omega, by omega, by omega⟩
    · exact ⟨low, rfl, Nat.le_refl _, by omega⟩
  refine join (fun δ => ∃ w m : Nat, (1 ≤ w ∧ w ≤ 60) ∧ (low ≤ m ∧ m ≤ 90) ∧ δ = [.sh (.scr ns), .sh (.int a), .no, .sh (.sq true [.int x0, .int x1, .int x2, .int x3, .int x4, .int x5]), .sh (.int (w : Int)), .sh (.int (m : Int)), .no, .no, .no, .no, .no, .no, .no, .no, .no, .no, .no]) ⟨fun _ => ?_, fun _ => ?_⟩ ?_
  · refine ⟨by decide, by decide, (40 + x2 % 21).toNat, (60 + x3 % 31).toNat, by omega, by omega, ?_⟩
    rw [Int.toNat_of_nonneg (show 0 ≤ 40 + x2 % 21 by omega), Int.toNat_of_nonneg (show 0 ≤ 60 + x3 % 31 by omega)]
    kernel_rfl
  · refine ⟨w, m, by omega, by omega, ?_⟩
    rw [← ew, ← em]
    kernel_rfl
  rintro _ ⟨w, m, ⟨w0, w1⟩, ⟨m0, m1⟩, rfl⟩
  exact w_table2 a0 a1 ⟨w0, w1⟩ ⟨m0, m1⟩ h2 h3 h4 h5 hk
end K00
set_option Elab.async false
set_option linter.all false
set_option maxRecDepth 100000
set_option maxHeartbeats 8000000
set_option pp.maxSteps 600
set_option exponentiation.threshold 50000
/-! k05: writes within laid programs and tables of parts. -/
namespace K00
open PySem PySem.Spec PyProof.Rows L2 DL
theorem set_shI {xs : List Int} {a : Nat} {v : Int} : (xs.map shI).set a (shI v) = (xs.set a v).map shI := by rw [List.map_set]
theorem get_dem {dms : List Dem} {b : Nat} (h : b < dms.length) : (dms.map demTr)[b]? = some (demTr (demAt dms b)) := by
  unfold demAt
  rw [List.getElem?_map, List.getD_eq_getElem?_getD, List.getElem?_eq_getElem h]; rfl
theorem upd_cost {cs : List Int} {dms : List Dem} {a : Nat} {v : Int} : updAt (laidTr cs dms) [0] ((cs.map shI).set a (shI v)) = laidTr (cs.set a v) dms := by
  rw [set_shI]; rfl
theorem upd_dem {cs : List Int} {dms : List Dem} {b : Nat} {us : List Tr} {d' : Dem} (h : b < dms.length) (e : demTr d' = .lst us) : updAt (laidTr cs dms) [1, b] us = laidTr cs (dms.set b d') := by
  show [Tr.lst (cs.map shI), Tr.lst (match (dms.map demTr)[b]? with | some (.lst vs) => (dms.map demTr).set b (.lst us) | _ => dms.map demTr)] = _
  rw [get_dem h]
  show [Tr.lst (cs.map shI), Tr.lst ((dms.map demTr).set b (.lst us))] = _
  rw [← e, ← List.map_set]
theorem upd_bound {cs : List Int} {dms : List Dem} {b : Nat} {v : Int} (h : b < dms.length) : updAt (laidTr cs dms) [1, b] ([.lst ((demAt dms b).1.map shI), .sh (.str (demAt dms b).2.1), shI (demAt dms b).2.2].set 2 (shI v)) = laidTr cs (dms.set b ((demAt dms b).1, (demAt dms b).2.1, v)) := upd_dem h rfl
theorem upd_part {cs : List Int} {dms : List Dem} {b a : Nat} {v : Int} (h : b < dms.length) : updAt (laidTr cs dms) [1, b, 0] (((demAt dms b).1.map shI).set a (shI v)) = laidTr cs (dms.set b ((demAt dms b).1.set a v, (demAt dms b).2.1, (demAt dms b).2.2)) := by
  rw [set_shI]
  show [Tr.lst (cs.map shI), Tr.lst (match (dms.map demTr)[b]? with | some (.lst vs) => (dms.map demTr).set b (.lst (match vs[0]? with | some (Tr.lst _) => vs.set 0 (.lst (((demAt dms b).1.set a v).map shI)) | _ => vs)) | _ => dms.map demTr)] = _
  rw [get_dem h]
  show [Tr.lst (cs.map shI), Tr.lst ((dms.map demTr).set b (demTr ((demAt dms b).1.set a v, (demAt dms b).2.1, (demAt dms b).2.2)))] = _
  rw [← List.map_set]
abbrev lsTr (ls : List (List Int)) : List Tr := ls.map fun ps => .lst (ps.map shI)
theorem lsTr_d (ls : List (List Int)) : Tr.ds (lsTr ls) = lsD true ls := by
  rw [ds_map, List.map_map]
  refine List.map_congr_left fun ps _ => ?_
  show D.sq true (Tr.ds (ps.map shI)) = _
  rw [ds_ints]
theorem get_ls {ls : List (List Int)} {b : Nat} (h : b < ls.length) : (lsTr ls)[b]? = some (.lst ((ls.getD b []).map shI)) := by
  rw [List.getElem?_map, List.getD_eq_getElem?_getD, List.getElem?_eq_getElem h]; rfl
theorem upd_ls {ls : List (List Int)} {b j : Nat} {v : Int} (h : b < ls.length) : updAt (lsTr ls) [b] (((ls.getD b []).map shI).set j (shI v)) = lsTr (ls.set b ((ls.getD b []).set j v)) := by
  rw [set_shI]
  show (match (lsTr ls)[b]? with | some (.lst vs) => (lsTr ls).set b (.lst (((ls.getD b []).set j v).map shI)) | _ => lsTr ls) = _
  rw [get_ls h]
  show (lsTr ls).set b (.lst (((ls.getD b []).set j v).map shI)) = (ls.set b ((ls.getD b []).set j v)).map fun ps => Tr.lst (ps.map shI)
  exact List.map_set.symm
theorem mem_set {α : Type} {xs : List α} {i : Nat} {a x : α} (h : x ∈ xs.set i a) : x ∈ xs ∨ x = a := List.mem_or_eq_of_mem_set h
theorem PgOk.dem {N : Nat} {cs : List Int} {dms : List Dem} {b : Nat} {d : Dem} (ok : PgOk N cs dms) (h1 : d.1.length = cs.length) (h2 : ∀ p ∈ d.1, Bd N p) (h3 : Bd N d.2.2) : PgOk N cs (dms.set b d) :=
  ⟨ok.n, ok.lc, by rw [List.length_set]; exact ok.ld, ok.bc, fun x hx => (mem_set hx).elim (ok.wd x) fun e => by rw [e]; exact h1, fun x hx => (mem_set hx).elim (ok.bp x) fun e => by rw [e]; exact h2, fun x hx => (mem_set hx).elim (ok.bb x) fun e => by rw [e]; exact h3⟩
theorem PgOk.cost {N : Nat} {cs : List Int} {dms : List Dem} {a : Nat} {v : Int} (ok : PgOk N cs dms) (h : Bd N v) : PgOk N (cs.set a v) dms :=
  ⟨ok.n, by rw [List.length_set]; exact ok.lc, ok.ld, fun x hx => (mem_set hx).elim (ok.bc x) fun e => by rw [e]; exact h, fun d hd => by rw [List.length_set]; exact ok.wd d hd, ok.bp, ok.bb⟩
theorem PgOk.le {N M : Nat} {cs : List Int} {dms : List Dem} (ok : PgOk N cs dms) (l : N ≤ M) (h : M ≤ 3000) : PgOk M cs dms :=
  ⟨h, ok.lc, ok.ld, fun c hc => (ok.bc c hc).le l, ok.wd, fun d hd p hp => (ok.bp d hd p hp).le l, fun d hd => (ok.bb d hd).le l⟩
/-- a row that is cut stays in its one form -/
theorem gcdL_snoc0 {q : Nat} {ps : List Int} : gcdL q (ps ++ [0]) = gcdL q ps := by
  rw [gcdL_snoc]; exact Nat.gcd_zero_right _
theorem RowG.cut {ps : List Int} {q way : Int} (g : RowG ps q) (h : way = 2 → ps.getD (ps.length - 1) 0 = 0) : RowG (cutRow way ps) q := by
  refine ⟨g.p, ?_⟩
  unfold cutRow
  split
  · rw [gcdL_snoc0]; exact g.g
  · split
    · rename_i h2
      have hz := h h2
      by_cases e : ps = []
      · subst e; exact g.g
      · have e1 : ps = ps.dropLast ++ [ps.getLast e] := (List.dropLast_concat_getLast e).symm
        have e2 : ps.getLast e = 0 := by
          rw [List.getLast_eq_getElem]
          rw [List.getD_eq_getElem?_getD, List.getElem?_eq_getElem (by have := List.length_pos_iff.mpr e; omega)] at hz
          exact hz
        have := g.g
        rw [e1, e2, gcdL_snoc0] at this
        exact this
    · exact g.g
theorem cutRow_bd {N : Nat} {way : Int} {ps : List Int} (h : ∀ p ∈ ps, Bd N p) : ∀ p ∈ cutRow way ps, Bd N p := fun p hp => by
  unfold cutRow at hp
  split at hp
  · rcases List.mem_append.mp hp with z | z
    · exact h p z
    · rw [List.mem_singleton.mp z]; exact Nat.two_pow_pos N
  · split at hp
    · exact h p ((List.dropLast_sublist ps).mem hp)
    · exact h p hp
end K00
set_option Elab.async false
set_option linter.all false
set_option maxRecDepth 100000
set_option maxHeartbeats 8000000
set_option pp.maxSteps 600
set_option exponentiation.threshold 50000
/-! k05: a paper of prices that bar every point. -/
namespace K00
open PySem PySem.Spec PyProof.Rows L2 DL
/-! _law_none_paper(script, at, table, fault): slots script=0 at=1 table=2 fault=3 size=4 many=5 a=6 b=7 extra=8 mine=9 parts=10 kinds=11 fees=12 sign=13 spare=14 j=15 digit=16 bounds=17 under=18 costs=19 laid=20 fields=21; calls _law_cell/2 _law_digits/2 _law_draws/3 _law_fair/2 _law_side/2 _law_column/3 _law_sum/2 _law_laid/3 _law_row_of/2 _law_cut/3 -/
def N__law_none_paper : List Str := ["script", "at", "table", "fault", "size", "many", "a", "b", "extra", "mine", "parts", "kinds", "fees", "sign", "spare", "j", "digit", "bounds", "under", "costs", "laid", "fields"]
def fs__law_none_paper : List Str := ["_law_cell", "_law_digits", "_law_draws", "_law_fair", "_law_side", "_law_column", "_law_sum", "_law_laid", "_law_row_of", "_law_cut"]
def b__law_none_paper : Xb := (.cons (.set 4 false [] (.bi .len (.cons (.ixn (.var 2) 3) .nil)))
 (.cons (.set 5 false [] (.bi .len (.cons (.ixn (.var 2) 1) .nil)))
 (.cons (.set 6 false [] (.ixn (.var 2) 4))
 (.cons (.set 7 false [] (.ixn (.var 2) 5))
 (.cons (.set 8 false [] (.call 1 (.cons (.call 0 (.cons (.var 0) (.cons (.bin .add (.var 1) (.int 9)) .nil))) (.cons (.lst (.cons (.int 64) (.cons (.int 3) (.cons (.int 2) .nil)))) .nil))))
 (.cons (.itj [9, 10, 11, 12, 13, 14, 15, 16, 17, 18, 19, 20, 21] [] (.cmp .eq (.var 3) (.int 2)) (.cons (.set 7 false [] (.bin .mod (.bi .int (.cons (.var 7) .nil)) (.bin .sub (.var 5) (.int 1))))
 .nil) .nil)
 (.cons (.setT 10 (.lc 9 (.e [] (.bi .list (.cons (.var 9) .nil))) (.sq (.ixn (.var 2) 0))))
 (.cons (.set 11 true [] (.bi .list (.cons (.ixn (.var 2) 1) .nil)))
 (.cons (.itj [9, 12, 13, 14, 15, 16, 17, 18, 19, 20, 21] [11] (.and (.cons (.cmp .eq (.var 3) (.int 3)) (.cons (.cmp .eq (.ix (.var 11) (.var 7)) (.str "same")) .nil))) (.cons (.sti 11 [] (.str "least") (.var 7))
 .nil) .nil)
 (.cons (.set 12 true [11] (.call 3 (.cons (.var 11) (.cons (.call 2 (.cons (.call 0 (.cons (.var 0) (.cons (.bin .add (.var 1) (.int 5)) .nil))) (.cons (.int 8) (.cons (.var 5) .nil)))) .nil))))
 (.cons (.itj [9, 13, 14, 15, 16, 17, 18, 19, 20, 21] [] (.cmp .eq (.var 3) (.int 2)) (.cons (.sti 12 [] (.int 0) (.bin .sub (.var 5) (.int 1)))
 .nil) .nil)
 (.cons (.set 13 false [11] (.bin .mul (.call 4 (.cons (.ix (.var 11) (.var 7)) (.cons (.ixn (.var 8) 2) .nil))) (.ix (.lst (.cons (.int 1) (.cons (.neg (.int 1)) .nil))) (.bi .int (.cons (.cmp .eq (.var 3) (.int 3)) .nil)))))
 (.cons (.sti 12 [] (.int 0) (.var 7))
 (.cons (.set 14 true [] (.call 2 (.cons (.call 0 (.cons (.var 0) (.cons (.bin .add (.var 1) (.int 4)) .nil))) (.cons (.int 3) (.cons (.var 4) .nil)))))
 (.cons (.itj [9, 15, 16, 17, 18, 19, 20, 21] [] (.cmp .eq (.var 3) (.int 4)) (.cons (.sti 14 [] (.int 0) (.var 6))
 .nil) .nil)
 (.cons (.for_ [9, 15, 16, 17, 18, 19, 20, 21] [] (.nm 15) (.rng (.var 4)) (.cons (.stiT 10 (.sub .nm [] (.var 7)) [] (.var 15) (.e [10, 12, 14] (.bin .mul (.var 13) (.bin .sub (.ix (.var 14) (.var 15)) (.call 5 (.cons (.var 10) (.cons (.var 12) (.cons (.var 15) .nil))))))))
 .nil))
 (.cons (.set 17 true [] (.lc 16 (.bin .sub (.var 16) (.int 3)) (.sq (.call 2 (.cons (.call 0 (.cons (.var 0) (.cons (.bin .add (.var 1) (.int 6)) .nil))) (.cons (.int 9) (.cons (.var 5) .nil)))))))
 (.cons (.set 18 false [] (.ixn (.var 8) 1))
 (.cons (.itj [5, 9, 14, 15, 16, 19, 20, 21] [] (.cmp .eq (.var 3) (.int 5)) (.cons (.set 18 false [] (.int 0))
 .nil) .nil)
 (.cons (.itj [5, 8, 9, 14, 15, 16, 19, 20, 21] [] (.cmp .eq (.var 3) (.int 6)) (.cons (.set 18 false [] (.bin .sub (.neg (.int 1)) (.ixn (.var 8) 1)))
 .nil) .nil)
 (.cons (.sti 17 [12, 17] (.bin .mul (.var 13) (.bin .sub (.bin .sub (.int 0) (.call 6 (.cons (.var 17) (.cons (.var 12) .nil)))) (.var 18))) (.var 7))
 (.cons (.sti 12 [] (.var 13) (.var 7))
 (.cons (.set 19 false [] (.lc 16 (.bin .sub (.var 16) (.int 2)) (.sq (.call 2 (.cons (.call 0 (.cons (.var 0) (.cons (.bin .add (.var 1) (.int 7)) .nil))) (.cons (.int 6) (.cons (.var 4) .nil)))))))
 (.cons (.set 20 true [10, 11, 17] (.call 7 (.cons (.var 19) (.cons (.var 17) (.cons (.lst (.cons (.var 10) (.cons (.var 11) (.cons (.ixn (.var 2) 2) (.cons (.ixn (.var 2) 3) .nil))))) .nil)))))
 (.cons (.itj [0, 1, 4, 5, 8, 9, 10, 11, 14, 15, 16, 17, 18, 19, 21] [] (.and (.cons (.cmp .eq (.var 18) (.int 0)) (.cons (.cmp .ne (.var 3) (.int 5)) .nil))) (.cons (.stiT 20 (.sub (.sub .nm [] (.int 1)) [] (.var 7)) [] (.int 2) (.e [20] (.bin .sub (.ixn (.ix (.ixn (.var 20) 1) (.var 7)) 2) (.var 13))))
 .nil) .nil)
 (.cons (.itj [0, 1, 4, 5, 6, 7, 8, 9, 10, 11, 13, 14, 15, 16, 17, 18, 19, 21] [] (.cmp .eq (.var 3) (.int 4)) (.cons (.stiT 20 (.sub (.sub (.sub .nm [] (.int 1)) [] (.var 7)) [] (.int 0)) [] (.var 6) (.e [20] (.bin .sub (.ix (.ixn (.ix (.ixn (.var 20) 1) (.var 7)) 0) (.var 6)) (.var 13))))
 .nil) .nil)
 (.cons (.set 21 false [12] (.lst (.cons (.str "none") (.cons .non (.cons .non (.cons (.call 8 (.cons (.var 12) (.cons (.ixn (.var 2) 2) .nil))) (.cons .non .nil)))))))
 (.cons (.ret [20] (.lst (.cons (.var 20) (.cons (.call 9 (.cons (.var 21) (.cons (.int 3) (.cons (.ix (.lst (.cons (.int 0) (.cons (.int 1) (.cons (.int 2) (.cons (.int 0) (.cons (.int 0) (.cons (.int 0) (.cons (.int 0) .nil)))))))) (.var 3)) .nil)))) .nil))))
 .nil))))))))))))))))))))))))))))
abbrev GN : List DSp := [T_cell, T_digits, T_draws, T_fair, T_side, T_column, T_along, T_laid, T_lrow_of, T_cut]
/-- what is asked of a paper's result -/
def PapK (kk : S → Prop) : Prop := ∀ p : Paper, p.ok → p.2.2.len ≤ 200 → kk (.sh (paperD p))
def T_none : DSp := fun ds kk _ => ∃ (ns : List Int) (at_ fault : Int) (ls : List (List Int)) (kinds : List Str) (fs gs : List Int) (a b : Int), ds = [.scr ns, .int at_, tabD ls kinds fs gs [.int a, .int b], .int fault] ∧ TabOk 1 ls kinds fs gs a b ∧ 0 ≤ at_ ∧ at_ ≤ 900000 ∧ 0 ≤ fault ∧ fault ≤ 6 ∧ (fault = 2 → 2 ≤ kinds.length) ∧ PapK kk
abbrev tab2 (ls : List (List Int)) (kinds : List Str) (fs gs : List Int) (a b : Int) : D := tabD ls kinds fs gs [.int a, .int b]
abbrev ex3 (e0 e1 e2 : Int) : D := .sq true [.int e0, .int e1, .int e2]
theorem tr_lists {ls : List (List Int)} {ts : List Tr} (hl : ts.length = ls.length) (h : ∀ (i : Nat) t, ts[i]? = some t → t = .lst ((ls.getD i []).map shI)) : ts = lsTr ls := by
  refine List.ext_getElem? fun i => ?_
  by_cases hi : i < ls.length
  · have e := List.getElem?_eq_getElem (show i < ts.length by omega)
    rw [e, h i _ e, get_ls hi]
  · rw [List.getElem?_eq_none (by omega), List.getElem?_eq_none (by rw [List.length_map]; omega)]
theorem itemL {l : Bool} {ls : List (List Int)} {i : Nat} (h : i < ls.length) : (lsD l ls).getD i .non = .sq l ((ls.getD i []).map .int) := by
  rw [List.getD_eq_getElem?_getD, List.getElem?_map, List.getElem?_eq_getElem h, List.getD_eq_getElem?_getD, List.getElem?_eq_getElem h]; rfl
theorem bd3 {f : Int} (h : f.natAbs ≤ 3) : Bd 2 f := Nat.lt_of_le_of_lt h (by decide)
theorem colL_bdc {N M : Nat} {ls : List (List Int)} {fs : List Int} {j : Nat} (hp : ∀ k, k < ls.length → Bd N ((ls.getD k []).getD j 0)) (hf : ∀ f ∈ fs, Bd M f) (hl : ls.length ≤ fs.length) (hd : ls.length ≤ 128) : Bd (N + M + 7) (colL ls fs j) := sumB (fun i hi => (hp i hi).mul (hf _ (gdm (by omega)))) hd
theorem bd0 (n : Nat) : Bd n 0 := Nat.two_pow_pos n
theorem wayIs {ns : List Int} {i : Nat} {f : Int} (h0 : 0 ≤ f) (h1 : f < ns.length) (hc : ∀ k, k < ns.length → ns.getD k 0 = 2 → k = i) (h : ns.getD f.toNat 0 = 2) : f = i := by
  have := hc f.toNat (by omega) h
  omega
theorem atDemT {dms : List Dem} {b : Nat} (h : b < dms.length) : atI (Tr.ds (dms.map demTr)) (b : Int) = some (demG true true (demAt dms b)) := by
  rw [ds_dems]; exact atDem h
theorem atCostT {cs : List Int} {a : Nat} (h : a < cs.length) : atI (Tr.ds (cs.map shI)) (a : Int) = some (.int (cs.getD a 0)) := by
  rw [ds_ints]; exact atG h
theorem cut_len {way : Int} {ps : List Int} : (cutRow way ps).length ≤ ps.length + 1 := by
  unfold cutRow
  split
  · rw [List.length_append]; exact Nat.le_refl _
  · split
    · rw [List.length_dropLast]; omega
    · omega
theorem w_none6 : ∀ {ns : List Int} {at_ fault : Int} {ls : List (List Int)} {kinds kinds' : List Str} {fs gs fees spare : List Int} {pl : List (List Int)} {cs : List Int} {dms : List Dem} {p10 p11 p17 p19 : D} {under : Int} {a b0 : Int} {b : Nat} {e0 e1 e2 sign : Int} {kk : S → Prop} {xx : XD}, TabOk 1 ls kinds fs gs a b0 → 0 ≤ at_ → at_ ≤ 900000 → 0 ≤ fault → fault ≤ 6 → b < kinds.length → (fault = 2 → b + 1 < kinds.length) → (0 ≤ e1 ∧ e1 < 3) → (0 ≤ e2 ∧ e2 < 2) → PapK kk → kinds'.length = kinds.length →
    fees.length = kinds.length → (∀ f ∈ fees, f.natAbs ≤ 3) → (fault = 2 → fees.getD (kinds.length - 1) 0 = 0) → (sign = 1 ∨ sign = -1) → spare.length = gs.length → (∀ x ∈ spare, 0 ≤ x ∧ x < 3) →
    pl.length = kinds.length → (∀ ps ∈ pl, ps.length = gs.length ∧ ∀ p ∈ ps, Bd 40 p) →
    PgOk 520 cs dms → cs.length = gs.length → dms.length = kinds.length → wpb GN (dropB 24 b__law_none_paper) [.sh (.scr ns), .sh (.int at_), .sh (tab2 ls kinds fs gs a b0), .sh (.int fault), .sh (.int ((gs.length : Nat) : Int)), .no, .sh (.int a), .sh (.int (b : Int)), .no, .no, .sh p10, .sh p11, .ow (.lst (fees.map .int)), .sh (.int sign), .no, .no, .no, .sh p17, .sh (.int under), .sh p19, .ow (.tr (laidTr cs dms)), .no] (edOf kk xx) := by
  intro ns at_ fault ls kinds kinds' fs gs fees spare pl cs dms p10 p11 p17 p19 under a b0 b e0 e1 e2 sign kk xx ok a0 a1 f0 f1 hb h2 he1 he2 hk hk' hfl hf hf2 hs hsl hsd hpl hpp hpg hcl hdl
  have hm1 := ok.m1
  have hw1 := ok.w1
  have hlf := ok.lf
  have ia := ok.ia
  have bsg : Bd 1 sign := show sign.natAbs < 2 ^ 1 by rcases hs with rfl | rfl <;> decide
  obtain ⟨an, rfl⟩ : ∃ an : Nat, a = (an : Int) := ⟨a.toNat, by omega⟩
  have hbd : b < dms.length := by omega
  refine join (fun δ => ∃ dms' : List Dem, PgOk 530 cs dms' ∧ dms'.length = dms.length ∧ δ = [.no, .no, .sh (tab2 ls kinds fs gs (an : Int) b0), .sh (.int fault), .no, .no, .sh (.int (an : Int)), .sh (.int (b : Int)), .no, .no, .no, .no, .ow (.lst (fees.map .int)), .sh (.int sign), .no, .no, .no, .no, .no, .no, .ow (.tr (laidTr cs dms')), .no]) ⟨fun _ => ⟨fun _ => ⟨dms, hpg.le (by decide) (by decide), rfl, ?_⟩, fun _ => ?_⟩, fun _ => ⟨dms, hpg.le (by decide) (by decide), rfl, ?_⟩⟩ ?_
  · kernel_rfl
  · have hd := dem_mem hbd
    refine ⟨_, atDemT hbd, .flat trivial, 1, rfl, _, rfl, b, rfl, _, get_dem hbd, 2, rfl, (show 2 < 3 by decide), dms.set b ((demAt dms b).1, (demAt dms b).2.1, (demAt dms b).2.2 - sign), (hpg.le (M := 530) (by decide) (by decide)).dem (show (demAt dms b).1.length = cs.length from hpg.wd _ hd) (fun p hp => (hpg.bp _ hd p hp).le (by decide)) (((hpg.bb _ hd).sub bsg (n := 521) (by decide) (by decide)).le (by decide)), by rw [List.length_set], ?_⟩
    rw [← upd_bound hbd]; kernel_rfl
  · kernel_rfl
  rintro _ ⟨dms1, hp1, hl1, rfl⟩
  have hb1 : b < dms1.length := by omega
  refine join (fun δ => ∃ dms' : List Dem, PgOk 540 cs dms' ∧ dms'.length = dms.length ∧ δ = [.no, .no, .sh (tab2 ls kinds fs gs (an : Int) b0), .sh (.int fault), .no, .no, .no, .no, .no, .no, .no, .no, .ow (.lst (fees.map .int)), .no, .no, .no, .no, .no, .no, .no, .ow (.tr (laidTr cs dms')), .no]) ⟨fun _ => ?_, fun _ => ⟨dms1, hp1.le (by decide) (by decide), hl1, ?_⟩⟩ ?_
  · have hd := dem_mem hb1
    have hw := hp1.wd _ hd
    have hx := hp1.bp _ hd _ (gdm (show an < (demAt dms1 b).1.length by omega))
    refine ⟨_, atDemT hb1, _, atG (show an < (demAt dms1 b).1.length by omega), .flat trivial, 1, rfl, _, rfl, b, rfl, _, get_dem hb1, 0, rfl, _, rfl, an, rfl, ?_, dms1.set b ((demAt dms1 b).1.set an ((demAt dms1 b).1.getD an 0 - sign), (demAt dms1 b).2.1, (demAt dms1 b).2.2), (hp1.le (M := 540) (by decide) (by decide)).dem (by rw [List.length_set]; exact hw) (fun p hp => ?_) ((hp1.bb _ hd).le (by decide)), by rw [List.length_set]; exact hl1, ?_⟩
    · rw [List.length_map]; omega
    · rcases mem_set hp with z | z
      · exact (hp1.bp _ hd p z).le (by decide)
      · rw [z]; exact (hx.sub bsg (n := 531) (by decide) (by decide)).le (by decide)
    · rw [← upd_part hb1]; kernel_rfl
  · kernel_rfl
  rintro _ ⟨dms2, hp2, hl2, rfl⟩
  have bf : ∀ f ∈ fees, Bd 200 f := fun f hfm => (bd3 (hf f hfm)).le (by decide)
  refine ⟨true, true, fees, fs, rfl, by omega, by omega, bf, ok.ff, fun ps q g pl' pb qb pz => ?_⟩
  refine keep_lend ?_
  have hw2 : ([0, 1, 2, 0, 0, 0, 0] : List Int).getD fault.toNat 0 = 2 → ps.getD (ps.length - 1) 0 = 0 := fun z => by
    have := wayIs (i := 2) f0 (show fault < (([0, 1, 2, 0, 0, 0, 0] : List Int).length : Int) by show fault < 7; omega) (by decide) z
    rw [pl', hfl]
    exact pz _ (hf2 this)
  refine ⟨_, atZ (ns := [0, 1, 2, 0, 0, 0, 0]) f0 (by show fault < 7; omega), true, _, 3, _, ps, q, rfl, rfl, by omega, ?_⟩
  have := hk (cs, dms2, .none (cutRow (([0, 1, 2, 0, 0, 0, 0] : List Int).getD fault.toNat 0) ps) q) ⟨hp2.le (by decide) (by decide), ⟨fun p hp => (cutRow_bd pb p hp).le (by decide), qb.le (by decide)⟩, g.cut hw2⟩ (Nat.le_trans cut_len (by omega))
  have e : paperD (cs, dms2, .none (cutRow (([0, 1, 2, 0, 0, 0, 0] : List Int).getD fault.toNat 0) ps) q) = .sq true [.sq true (Tr.ds (laidTr cs dms2)), fieldsD (.none (cutRow (([0, 1, 2, 0, 0, 0, 0] : List Int).getD fault.toNat 0) ps) q)] := by
    rw [laidTr_d]; rfl
  rw [e] at this
  exact this
theorem w_none5 : ∀ {ns : List Int} {at_ fault : Int} {ls : List (List Int)} {kinds kinds' : List Str} {fs gs fees spare : List Int} {pl : List (List Int)} {bounds : List Int} {under : Int} {a b0 : Int} {b : Nat} {e0 e1 e2 sign : Int} {kk : S → Prop} {xx : XD}, TabOk 1 ls kinds fs gs a b0 → 0 ≤ at_ → at_ ≤ 900000 → 0 ≤ fault → fault ≤ 6 → b < kinds.length → (fault = 2 → b + 1 < kinds.length) → (0 ≤ e1 ∧ e1 < 3) → (0 ≤ e2 ∧ e2 < 2) → PapK kk → kinds'.length = kinds.length →
    fees.length = kinds.length → (∀ f ∈ fees, f.natAbs ≤ 3) → (fault = 2 → fees.getD (kinds.length - 1) 0 = 0) → (sign = 1 ∨ sign = -1) → spare.length = gs.length → (∀ x ∈ spare, 0 ≤ x ∧ x < 3) →
    pl.length = kinds.length → (∀ ps ∈ pl, ps.length = gs.length ∧ ∀ p ∈ ps, Bd 40 p) →
    bounds.length = kinds.length → (∀ x ∈ bounds, Bd 60 x) → wpb GN (dropB 22 b__law_none_paper) [.sh (.scr ns), .sh (.int at_), .sh (tab2 ls kinds fs gs a b0), .sh (.int fault), .sh (.int ((gs.length : Nat) : Int)), .no, .sh (.int a), .sh (.int (b : Int)), .no, .no, .ow (.tr (lsTr pl)), .ow (.lst (kinds'.map .str)), .ow (.lst (fees.map .int)), .sh (.int sign), .no, .no, .no, .ow (.lst (bounds.map .int)), .sh (.int under), .no, .no, .no] (edOf kk xx) := by
  intro ns at_ fault ls kinds kinds' fs gs fees spare pl bounds under a b0 b e0 e1 e2 sign kk xx ok a0 a1 f0 f1 hb h2 he1 he2 hk hk' hfl hf hf2 hs hsl hsd hpl hpp hbl hbb
  have hm1 := ok.m1
  have hw1 := ok.w1
  have hlf := ok.lf
  refine ⟨ns, at_ + 7, rfl, by omega, by omega, fun c => ?_⟩
  refine ⟨c, 6, gs.length, rfl, by decide, by decide, by omega, fun r hr => ?_⟩
  obtain ⟨rl, rd⟩ := hr
  refine lcw .int (fun d => .int (d - 2)) (by omega) (fun d _ => rfl) ?_
  have eb : (r.map fun d => D.int (d - 2)) = (r.map fun d => d - 2).map .int := by rw [List.map_map]; rfl
  rw [eb]
  have cl : (r.map fun d => d - 2).length = gs.length := by rw [List.length_map, rl]
  have cb : ∀ x ∈ r.map (fun d => d - 2), Bd 20 x := fun x hx => by
    obtain ⟨d, hd, rfl⟩ := List.mem_map.mp hx
    have := rd d hd
    show (d - 2).natAbs < 2 ^ 20
    omega
  generalize (r.map fun d => d - 2) = costs at *
  refine ⟨true, true, costs, bounds, pl, kinds', fs, gs, [], ?_, by omega, by omega, by omega, by omega, by omega, by omega, fun ps hps => ⟨by rw [(hpp ps hps).1, cl], fun p hp => ((hpp ps hps).2 p hp).le (by decide)⟩, fun f hfm => dvd_bd (ok.ff f hfm).d, fun g hg => dvd_bd (ok.fg g hg).d, fun x hx => (cb x hx).le (by decide), fun x hx => (hbb x hx).le (by decide), fun cs dms hp hcl hdl => ?_⟩
  · show [_, _, D.sq true [D.sq true (Tr.ds (lsTr pl)), _, _, _]] = _
    rw [lsTr_d]
    rfl
  refine keep_lend ?_
  exact w_none6 (e0 := e0) (ns := ns) (xx := xx) (spare := spare) (under := under) ok a0 a1 f0 f1 hb h2 he1 he2 hk hk' hfl hf hf2 hs hsl hsd hpl hpp hp (by omega) (by omega)
theorem flat_ints' {ns : List Int} : SafeR (.ow (.lst (ns.map .int))) := fun d hd => by
  obtain ⟨x, _, rfl⟩ := List.mem_map.mp hd
  exact .flat trivial
theorem getD_set_ne {ns : List Int} {i j : Nat} {v : Int} (h : i ≠ j) : (ns.set i v).getD j 0 = ns.getD j 0 := by
  rw [List.getD_eq_getElem?_getD, List.getElem?_set_ne h, List.getD_eq_getElem?_getD]
theorem getD_set_eq {ns : List Int} {i : Nat} {v : Int} (h : i < ns.length) : (ns.set i v).getD i 0 = v := by
  rw [List.getD_eq_getElem?_getD, List.getElem?_set_self h]; rfl
theorem w_none4 : ∀ {ns : List Int} {at_ fault : Int} {ls : List (List Int)} {kinds kinds' : List Str} {fs gs fees spare : List Int} {pl : List (List Int)} {a b0 : Int} {b : Nat} {e0 e1 e2 sign : Int} {kk : S → Prop} {xx : XD}, TabOk 1 ls kinds fs gs a b0 → 0 ≤ at_ → at_ ≤ 900000 → 0 ≤ fault → fault ≤ 6 → b < kinds.length → (fault = 2 → b + 1 < kinds.length) → (0 ≤ e1 ∧ e1 < 3) → (0 ≤ e2 ∧ e2 < 2) → PapK kk → kinds'.length = kinds.length →
    fees.length = kinds.length → (∀ f ∈ fees, f.natAbs ≤ 3) → (fault = 2 → fees.getD (kinds.length - 1) 0 = 0) → (sign = 1 ∨ sign = -1) → spare.length = gs.length → (∀ x ∈ spare, 0 ≤ x ∧ x < 3) →
    pl.length = kinds.length → (∀ ps ∈ pl, ps.length = gs.length ∧ ∀ p ∈ ps, Bd 40 p) →
    wpb GN (dropB 16 b__law_none_paper) [.sh (.scr ns), .sh (.int at_), .sh (tab2 ls kinds fs gs a b0), .sh (.int fault), .sh (.int ((gs.length : Nat) : Int)), .sh (.int ((kinds.length : Nat) : Int)), .sh (.int a), .sh (.int (b : Int)), .sh (ex3 e0 e1 e2), .no, .ow (.tr (lsTr pl)), .ow (.lst (kinds'.map .str)), .ow (.lst (fees.map .int)), .sh (.int sign), .ow (.lst (spare.map .int)), .no, .no, .no, .no, .no, .no, .no] (edOf kk xx) := by
  intro ns at_ fault ls kinds kinds' fs gs fees spare pl a b0 b e0 e1 e2 sign kk xx ok a0 a1 f0 f1 hb h2 he1 he2 hk hk' hfl hf hf2 hs hsl hsd hpl hpp
  have hm1 := ok.m1
  have hw1 := ok.w1
  refine ⟨ns, at_ + 6, rfl, by omega, by omega, fun c => ?_⟩
  refine ⟨c, 9, kinds.length, rfl, by decide, by decide, by omega, fun r hr => ?_⟩
  obtain ⟨rl, rd⟩ := hr
  refine lcw .int (fun d => .int (d - 3)) (by omega) (fun d _ => rfl) ?_
  have eb : (r.map fun d => D.int (d - 3)) = (r.map fun d => d - 3).map .int := by rw [List.map_map]; rfl
  rw [eb]
  have bl : (r.map fun d => d - 3).length = kinds.length := by rw [List.length_map, rl]
  have bb : ∀ x ∈ r.map (fun d => d - 3), Bd 20 x := fun x hx => by
    obtain ⟨d, hd, rfl⟩ := List.mem_map.mp hx
    have := rd d hd
    show (d - 3).natAbs < 2 ^ 20
    omega
  generalize (r.map fun d => d - 3) = bs at *
  refine join (fun δ => ∃ u : Int, u.natAbs ≤ 5 ∧ δ = [.sh (.scr ns), .sh (.int at_), .sh (tab2 ls kinds fs gs a b0), .sh (.int fault), .sh (.int ((gs.length : Nat) : Int)), .no, .sh (.int a), .sh (.int (b : Int)), .sh (ex3 e0 e1 e2), .no, .ow (.tr (lsTr pl)), .ow (.lst (kinds'.map .str)), .ow (.lst (fees.map .int)), .sh (.int sign), .no, .no, .no, .ow (.lst (bs.map .int)), .sh (.int u), .no, .no, .no]) ⟨fun _ => ⟨0, by decide, by kernel_rfl⟩, fun _ => ⟨e1, by omega, by kernel_rfl⟩⟩ ?_
  rintro _ ⟨u, hu, rfl⟩
  refine join (fun δ => ∃ u : Int, u.natAbs ≤ 5 ∧ δ = [.sh (.scr ns), .sh (.int at_), .sh (tab2 ls kinds fs gs a b0), .sh (.int fault), .sh (.int ((gs.length : Nat) : Int)), .no, .sh (.int a), .sh (.int (b : Int)), .no, .no, .ow (.tr (lsTr pl)), .ow (.lst (kinds'.map .str)), .ow (.lst (fees.map .int)), .sh (.int sign), .no, .no, .no, .ow (.lst (bs.map .int)), .sh (.int u), .no, .no, .no]) ⟨fun _ => ⟨-1 - e1, by omega, by kernel_rfl⟩, fun _ => ⟨u, by omega, by kernel_rfl⟩⟩ ?_
  clear hu
  rintro _ ⟨u, hu, rfl⟩
  have bf : ∀ f ∈ fees, Bd 20 f := fun f hfm => (bd3 (hf f hfm)).le (by decide)
  have sb := dotL_bd bb bf (by omega) (by omega)
  have b1 : Bd 50 (0 - dotL bs fees - u) := Bd.sub (a := 49) (b := 49) (Bd.sub (a := 48) (b := 48) (bd0 _) (sb.le (by decide)) (by decide) (by decide)) (show u.natAbs < 2 ^ 49 by omega) (by decide) (by decide)
  have bsg : Bd 1 sign := show sign.natAbs < 2 ^ 1 by rcases hs with rfl | rfl <;> decide
  refine ⟨true, true, bs, fees, 20, rfl, by omega, by omega, bb, bf, by decide, ?_⟩
  refine ⟨bsg.mulW b1 (by decide), keep_safe (.flat trivial) ⟨b, rfl, by rw [List.length_map]; omega, b, rfl, by rw [List.length_map]; omega, ?_⟩⟩
  have e1' : (bs.map D.int).set b (.int (sign * (0 - dotL bs fees - u))) = (bs.set b (sign * (0 - dotL bs fees - u))).map .int := by rw [List.map_set]
  have e2' : (fees.map D.int).set b (.int sign) = (fees.set b sign).map .int := by rw [List.map_set]
  have W := w_none5 (ns := ns) (xx := xx) (under := u) (spare := spare) (fees := fees.set b sign) (bounds := bs.set b (sign * (0 - dotL bs fees - u))) (e0 := e0) ok a0 a1 f0 f1 hb h2 he1 he2 hk hk' (by rw [List.length_set]; exact hfl) (fun f hfm => ?_) (fun z => ?_) hs hsl hsd hpl hpp (by rw [List.length_set]; exact bl) (fun x hx => ?_)
  · rw [← e1', ← e2'] at W
    exact W
  · rcases mem_set hfm with z | z
    · exact hf f z
    · rw [z]; rcases hs with rfl | rfl <;> decide
  · have := h2 z
    rw [getD_set_ne (by omega)]; exact hf2 z
  · rcases mem_set hx with z | z
    · exact (bb x z).le (by decide)
    · rw [z]; exact (bsg.mul b1).le (by decide)
theorem w_none3 : ∀ {ns : List Int} {at_ fault : Int} {ls : List (List Int)} {kinds kinds' : List Str} {fs gs fees spare : List Int} {a b0 : Int} {b : Nat} {e0 e1 e2 sign : Int} {kk : S → Prop} {xx : XD}, TabOk 1 ls kinds fs gs a b0 → 0 ≤ at_ → at_ ≤ 900000 → 0 ≤ fault → fault ≤ 6 → b < kinds.length → (fault = 2 → b + 1 < kinds.length) → (0 ≤ e1 ∧ e1 < 3) → (0 ≤ e2 ∧ e2 < 2) → PapK kk → kinds'.length = kinds.length →
    fees.length = kinds.length → (∀ f ∈ fees, f.natAbs ≤ 3) → (fault = 2 → fees.getD (kinds.length - 1) 0 = 0) → (sign = 1 ∨ sign = -1) → spare.length = gs.length → (∀ x ∈ spare, 0 ≤ x ∧ x < 3) →
    wpb GN (dropB 15 b__law_none_paper) [.sh (.scr ns), .sh (.int at_), .sh (tab2 ls kinds fs gs a b0), .sh (.int fault), .sh (.int ((gs.length : Nat) : Int)), .sh (.int ((kinds.length : Nat) : Int)), .sh (.int a), .sh (.int (b : Int)), .sh (ex3 e0 e1 e2), .no, .ow (.tr (lsTr ls)), .ow (.lst (kinds'.map .str)), .ow (.lst (fees.map .int)), .sh (.int sign), .ow (.lst (spare.map .int)), .no, .no, .no, .no, .no, .no, .no] (edOf kk xx) := by
  intro ns at_ fault ls kinds kinds' fs gs fees spare a b0 b e0 e1 e2 sign kk xx ok a0 a1 f0 f1 hb h2 he1 he2 hk hk' hfl hf hf2 hs hsl hsd
  have hm1 := ok.m1
  have hw1 := ok.w1
  refine ⟨⟨by omega, by omega⟩, fun i δ => ∃ pl : List (List Int), pl.length = kinds.length ∧ (∀ ps ∈ pl, ps.length = gs.length ∧ (∀ p ∈ ps, Bd 40 p) ∧ ∀ j, i ≤ j → Bd 22 (ps.getD j 0)) ∧ δ = [.sh (.scr ns), .sh (.int at_), .sh (tab2 ls kinds fs gs a b0), .sh (.int fault), .sh (.int ((gs.length : Nat) : Int)), .sh (.int ((kinds.length : Nat) : Int)), .sh (.int a), .sh (.int (b : Int)), .sh (ex3 e0 e1 e2), .no, .ow (.tr (lsTr pl)), .ow (.lst (kinds'.map .str)), .ow (.lst (fees.map .int)), .sh (.int sign), .ow (.lst (spare.map .int)), .no, .no, .no, .no, .no, .no, .no], ⟨ls, ok.ll, fun ps hps => ⟨(ok.lp ps hps).1, fun p hp => ((ok.lp ps hps).2 p hp).le (by decide), fun j _ => ?_⟩, rfl⟩, fun i δ1 hi hI => ?_, fun δ1 hI => ?_⟩
  · by_cases hj : j < ps.length
    · exact (ok.lp ps hps).2 _ (gdm hj)
    · rw [List.getD_eq_getElem?_getD, List.getElem?_eq_none (by omega)]; exact Nat.two_pow_pos 22
  · obtain ⟨pl, hpl, hp, rfl⟩ := hI
    have hi : i < gs.length := by rw [Int.toNat_natCast] at hi; exact hi
    have hcol := colL_bdc (N := 22) (M := 2) (ls := pl) (fs := fees) (j := i) (fun k hk => (hp _ (ls_mem hk)).2.2 i (Nat.le_refl _)) (fun f hfm => bd3 (hf f hfm)) (by omega) (by omega)
    have hx := hsd _ (gdm (show i < spare.length by omega))
    have bx : Bd 31 (spare.getD i 0) := show (spare.getD i 0).natAbs < 2 ^ 31 by omega
    have bd := bx.sub hcol (n := 32) (by decide) (by decide)
    have bs : Bd 1 sign := show sign.natAbs < 2 ^ 1 by rcases hs with rfl | rfl <;> decide
    refine ⟨_, atG (show i < spare.length by omega), 40, true, true, true, pl, fees, i, ?_, by omega, by omega, fun ps hps => ⟨by rw [(hp ps hps).1]; exact hi, (hp ps hps).2.1⟩, fun f hfm => (bd3 (hf f hfm)).le (by decide), by decide, bs.mulW bd (by decide), .flat trivial, b, rfl, _, get_ls (show b < pl.length by omega), i, rfl, ?_, pl.set b ((pl.getD b []).set i (sign * (spare.getD i 0 - colL pl fees i))), by rw [List.length_set]; exact hpl, fun ps hps => ?_, ?_⟩
    · rw [← lsTr_d]; rfl
    · rw [List.length_map, (hp _ (ls_mem (show b < pl.length by omega))).1]; exact hi
    · have hb' := hp _ (ls_mem (show b < pl.length by omega))
      rcases mem_set hps with z | z
      · exact ⟨(hp ps z).1, (hp ps z).2.1, fun j hj => (hp ps z).2.2 j (by omega)⟩
      · rw [z]
        refine ⟨by rw [List.length_set]; exact hb'.1, fun p hpm => ?_, fun j hj => ?_⟩
        · rcases mem_set hpm with y | y
          · exact hb'.2.1 p y
          · rw [y]; exact (bs.mul bd).le (by decide)
        · rw [getD_set_ne (by omega)]; exact hb'.2.2 j (by omega)
    · rw [← upd_ls (show b < pl.length by omega)]; kernel_rfl
  · obtain ⟨pl, hpl, hp, rfl⟩ := hI
    exact w_none4 ok a0 a1 f0 f1 hb h2 he1 he2 hk hk' hfl hf hf2 hs hsl hsd hpl fun ps hps => ⟨(hp ps hps).1, (hp ps hps).2.1⟩
theorem w_none2 : ∀ {ns : List Int} {at_ fault : Int} {ls : List (List Int)} {kinds kinds' : List Str} {fs gs : List Int} {a b0 : Int} {b : Nat} {e0 e1 e2 : Int} {kk : S → Prop} {xx : XD}, TabOk 1 ls kinds fs gs a b0 → 0 ≤ at_ → at_ ≤ 900000 → 0 ≤ fault → fault ≤ 6 → b < kinds.length → (fault = 2 → b + 1 < kinds.length) → (0 ≤ e1 ∧ e1 < 3) → (0 ≤ e2 ∧ e2 < 2) → PapK kk → kinds'.length = kinds.length →
    wpb GN (dropB 9 b__law_none_paper) [.sh (.scr ns), .sh (.int at_), .sh (tab2 ls kinds fs gs a b0), .sh (.int fault), .sh (.int ((gs.length : Nat) : Int)), .sh (.int ((kinds.length : Nat) : Int)), .sh (.int a), .sh (.int (b : Int)), .sh (ex3 e0 e1 e2), .no, .ow (.tr (lsTr ls)), .ow (.lst (kinds'.map .str)), .no, .no, .no, .no, .no, .no, .no, .no, .no, .no] (edOf kk xx) := by
  intro ns at_ fault ls kinds kinds' fs gs a b0 b e0 e1 e2 kk xx ok a0 a1 f0 f1 hb h2 he1 he2 hk hk'
  have hm1 := ok.m1
  have hw1 := ok.w1
  refine ⟨ns, at_ + 5, rfl, by omega, by omega, fun c => ?_⟩
  refine ⟨c, 8, kinds.length, rfl, by decide, by decide, by omega, fun r hr => ?_⟩
  refine ⟨true, true, kinds', r, rfl, by omega, by rw [hk']; exact hr, fun fees hfl hf => ?_⟩
  refine keep_safe flat_ints' ?_
  refine join (fun δ => ∃ fees : List Int, fees.length = kinds.length ∧ (∀ f ∈ fees, f.natAbs ≤ 3) ∧ (fault = 2 → fees.getD (kinds.length - 1) 0 = 0) ∧ δ = [.sh (.scr ns), .sh (.int at_), .sh (tab2 ls kinds fs gs a b0), .sh (.int fault), .sh (.int ((gs.length : Nat) : Int)), .sh (.int ((kinds.length : Nat) : Int)), .sh (.int a), .sh (.int (b : Int)), .sh (ex3 e0 e1 e2), .no, .ow (.tr (lsTr ls)), .ow (.lst (kinds'.map .str)), .ow (.lst (fees.map .int)), .no, .no, .no, .no, .no, .no, .no, .no, .no]) ⟨fun h => ⟨kinds.length - 1, by omega, by rw [List.length_map]; omega, fees.set (kinds.length - 1) 0, by rw [List.length_set]; omega, fun f hfm => ?_, fun _ => getD_set_eq (by omega), ?_⟩, fun h => ⟨fees, by omega, hf, fun z => absurd z h, ?_⟩⟩ ?_
  · rcases mem_set hfm with z | z
    · exact hf f z
    · rw [z]; decide
  · rw [List.map_set]; kernel_rfl
  · kernel_rfl
  clear hfl hf
  rintro _ ⟨fees, hfl, hf, hf2, rfl⟩
  obtain ⟨u, eu, hu⟩ : ∃ u : Int, atI ([1, -1].map D.int) (if decide (fault = 3) = true then (1 : Int) else 0) = some (.int u) ∧ (u = 1 ∨ u = -1) := by
    rcases Decidable.em (fault = 3) with z | z
    · rw [decide_eq_true z]; exact ⟨-1, rfl, .inr rfl⟩
    · rw [decide_eq_false z]; exact ⟨1, rfl, .inl rfl⟩
  refine ⟨_, atStr (show b < kinds'.length by omega), _, e2, rfl, he2.1, he2.2, fun s hs => ?_⟩
  refine ⟨_, eu, mul64 (by omega) (by omega), keep_safe (.flat trivial) ?_⟩
  have hsu : s * u = 1 ∨ s * u = -1 := by
    rcases hs with rfl | rfl <;> rcases hu with rfl | rfl <;> decide
  generalize s * u = sign at *
  refine ⟨b, rfl, by rw [List.length_map]; omega, ?_⟩
  refine ⟨ns, at_ + 4, rfl, by omega, by omega, fun c4 => ?_⟩
  refine ⟨c4, 3, gs.length, rfl, by decide, by decide, by omega, fun sp hsp => ?_⟩
  obtain ⟨spl, spd⟩ := hsp
  have ia := ok.ia
  have hset : (fees.map D.int).set b (.int 0) = (fees.set b 0).map .int := by rw [List.map_set]
  refine join (fun δ => ∃ spare : List Int, spare.length = gs.length ∧ (∀ x ∈ spare, 0 ≤ x ∧ x < 3) ∧ δ = [.sh (.scr ns), .sh (.int at_), .sh (tab2 ls kinds fs gs a b0), .sh (.int fault), .sh (.int ((gs.length : Nat) : Int)), .sh (.int ((kinds.length : Nat) : Int)), .sh (.int a), .sh (.int (b : Int)), .sh (ex3 e0 e1 e2), .no, .ow (.tr (lsTr ls)), .ow (.lst (kinds'.map .str)), .ow (.lst ((fees.set b 0).map .int)), .sh (.int sign), .ow (.lst (spare.map .int)), .no, .no, .no, .no, .no, .no, .no]) ⟨fun h => ⟨a.toNat, by omega, by rw [List.length_map]; omega, sp.set a.toNat 0, by rw [List.length_set]; omega, fun x hx => ?_, ?_⟩, fun h => ⟨sp, spl, spd, ?_⟩⟩ ?_
  · rcases mem_set hx with z | z
    · exact spd x z
    · rw [z]; decide
  · rw [← hset, List.map_set]; kernel_rfl
  · rw [← hset]; kernel_rfl
  rintro _ ⟨spare, hsl, hsd, rfl⟩
  refine w_none3 ok a0 a1 f0 f1 hb h2 he1 he2 hk hk' (by rw [List.length_set]; exact hfl) (fun f hfm => ?_) (fun z => ?_) hsu hsl hsd
  · rcases mem_set hfm with z | z
    · exact hf f z
    · rw [z]; decide
  · have := h2 z
    rw [getD_set_ne (by omega)]; exact hf2 z
theorem w_none1 : ∀ {ns : List Int} {at_ fault : Int} {ls : List (List Int)} {kinds : List Str} {fs gs : List Int} {a b0 : Int} {b : Nat} {e0 e1 e2 : Int} {kk : S → Prop} {xx : XD}, TabOk 1 ls kinds fs gs a b0 → 0 ≤ at_ → at_ ≤ 900000 → 0 ≤ fault → fault ≤ 6 → b < kinds.length → (fault = 2 → b + 1 < kinds.length) → (0 ≤ e1 ∧ e1 < 3) → (0 ≤ e2 ∧ e2 < 2) → PapK kk →
    wpb GN (dropB 6 b__law_none_paper) [.sh (.scr ns), .sh (.int at_), .sh (tab2 ls kinds fs gs a b0), .sh (.int fault), .sh (.int ((gs.length : Nat) : Int)), .sh (.int ((kinds.length : Nat) : Int)), .sh (.int a), .sh (.int (b : Int)), .sh (ex3 e0 e1 e2), .no, .no, .no, .no, .no, .no, .no, .no, .no, .no, .no, .no, .no] (edOf kk xx) := by
  intro ns at_ fault ls kinds fs gs a b0 b e0 e1 e2 kk xx ok a0 a1 f0 f1 hb h2 he1 he2 hk
  have hll := ok.ll
  have hm1 := ok.m1
  refine ⟨fun i t => t = .lst ((ls.getD i []).map shI), by rw [List.length_map]; omega, fun i hi => ?_, fun ts hl ht => ?_⟩
  · rw [List.length_map] at hi
    refine deq (P := fun d => wpn GN (.e [] (.bi .list (.cons (.var 9) .nil))) (List.set _ 9 (.sh d)) noX _) (itemL hi) ?_
    show Tr.lst (((ls.getD i []).map D.int).map Tr.sh) = _
    rw [List.map_map]; rfl
  rw [List.length_map] at hl
  obtain rfl := tr_lists hl ht
  refine join (fun δ => ∃ kinds' : List Str, kinds'.length = kinds.length ∧ δ = [.sh (.scr ns), .sh (.int at_), .sh (tab2 ls kinds fs gs a b0), .sh (.int fault), .sh (.int ((gs.length : Nat) : Int)), .sh (.int ((kinds.length : Nat) : Int)), .sh (.int a), .sh (.int (b : Int)), .sh (ex3 e0 e1 e2), .no, .ow (.tr (lsTr ls)), .ow (.lst (kinds'.map .str)), .no, .no, .no, .no, .no, .no, .no, .no, .no, .no]) ⟨fun _ => ⟨_, atStr hb, fun _ => ⟨b, rfl, by rw [List.length_map]; exact hb, kinds.set b "least", by rw [List.length_set], ?_⟩, fun _ => ⟨kinds, rfl, ?_⟩⟩, fun _ => ⟨kinds, rfl, ?_⟩⟩ ?_
  · rw [List.map_set]; kernel_rfl
  · kernel_rfl
  · kernel_rfl
  rintro _ ⟨kinds', hk', rfl⟩
  exact w_none2 ok a0 a1 f0 f1 hb h2 he1 he2 hk hk'
theorem w_none : Deep GN N__law_none_paper b__law_none_paper T_none := by
  rintro _ kk xx ⟨ns, at_, fault, ls, kinds, fs, gs, a, b, rfl, ok, a0, a1, f0, f1, h2, hk⟩
  refine ⟨ns, at_ + 9, rfl, by omega, by omega, fun c => ?_⟩
  refine ⟨c, true, [64, 3, 2], rfl, by decide, by decide, fun r hr => ?_⟩
  obtain ⟨e0, e1, e2, rfl, _, he1, he2⟩ := digs3 hr
  have hm0 := ok.m0
  have hb := ok.ib
  obtain ⟨bn, rfl⟩ : ∃ bn : Nat, b = (bn : Int) := ⟨b.toNat, by omega⟩
  refine join (fun δ => ∃ b' : Nat, b' < kinds.length ∧ (fault = 2 → b' + 1 < kinds.length) ∧ δ = [.sh (.scr ns), .sh (.int at_), .sh (tab2 ls kinds fs gs a bn), .sh (.int fault), .sh (.int ((gs.length : Nat) : Int)), .sh (.int ((kinds.length : Nat) : Int)), .sh (.int a), .sh (.int (b' : Int)), .sh (ex3 e0 e1 e2), .no, .no, .no, .no, .no, .no, .no, .no, .no, .no, .no, .no, .no]) ⟨fun h => ?_, fun h => ?_⟩ ?_
  · have hm := h2 h
    refine ⟨by rw [List.length_map]; omega, ((bn : Int) % ((kinds.length : Int) - 1)).toNat, ?_, fun _ => ?_, ?_⟩
    · have h1 := Int.emod_lt_of_pos (bn : Int) (show (0 : Int) < (kinds.length : Int) - 1 by omega)
      have h0 := Int.emod_nonneg (bn : Int) (show (kinds.length : Int) - 1 ≠ 0 by omega)
      omega
    · have h1 := Int.emod_lt_of_pos (bn : Int) (show (0 : Int) < (kinds.length : Int) - 1 by omega)
      have h0 := Int.emod_nonneg (bn : Int) (show (kinds.length : Int) - 1 ≠ 0 by omega)
      omega
    · rw [Int.toNat_of_nonneg (Int.emod_nonneg _ (by omega)), ← List.length_map (as := kinds) (f := D.str), ← List.length_map (as := gs) (f := D.int)]
      kernel_rfl
  · refine ⟨bn, by omega, fun z => absurd z h, ?_⟩
    rw [← List.length_map (as := kinds) (f := D.str), ← List.length_map (as := gs) (f := D.int)]
    kernel_rfl
  rintro _ ⟨b', hb1, hb2, rfl⟩
  exact w_none1 ok a0 a1 f0 f1 hb1 hb2 he1 he2 hk
end K00
set_option Elab.async false
set_option linter.all false
set_option maxRecDepth 100000
set_option maxHeartbeats 8000000
set_option pp.maxSteps 600
set_option exponentiation.threshold 50000
/-! k05: a paper of a point with fair prices. -/
namespace K00
open PySem PySem.Spec PyProof.Rows L2 DL
/-! _law_best_paper(script, at, table, fault): slots script=0 at=1 table=2 fault=3 kinds=4 size=5 a=6 b=7 extra=8 k=9 point=10 fees=11 bounds=12 slack=13 j=14 costs=15 laid=16 value=17 demand=18 fields=19; calls _law_cell/2 _law_digits/2 _law_draws/3 _law_fair/2 _law_side/2 _law_bounds/5 _law_column/3 _law_laid/3 _law_sum/2 _law_mean/3 _law_row_of/2 _law_cut/3 -/
def N__law_best_paper : List Str := ["script", "at", "table", "fault", "kinds", "size", "a", "b", "extra", "k", "point", "fees", "bounds", "slack", "j", "costs", "laid", "value", "demand", "fields"]
def fs__law_best_paper : List Str := ["_law_cell", "_law_digits", "_law_draws", "_law_fair", "_law_side", "_law_bounds", "_law_column", "_law_laid", "_law_sum", "_law_mean", "_law_row_of", "_law_cut"]
def b__law_best_paper : Xb := (.cons (.set 4 true [] (.bi .list (.cons (.ixn (.var 2) 1) .nil)))
 (.cons (.set 5 false [] (.bi .len (.cons (.ixn (.var 2) 3) .nil)))
 (.cons (.set 6 false [] (.ixn (.var 2) 4))
 (.cons (.set 7 false [] (.ixn (.var 2) 5))
 (.cons (.set 8 false [] (.call 1 (.cons (.call 0 (.cons (.var 0) (.cons (.bin .add (.var 1) (.int 9)) .nil))) (.cons (.lst (.cons (.int 64) (.cons (.int 3) (.cons (.int 2) .nil)))) .nil))))
 (.cons (.itj [9, 10, 11, 12, 13, 14, 15, 16, 17, 18, 19] [4] (.and (.cons (.cmp .inn (.var 3) (.lst (.cons (.int 7) (.cons (.int 8) (.cons (.int 11) .nil))))) (.cons (.cmp .eq (.ix (.var 4) (.var 7)) (.str "same")) .nil))) (.cons (.sti 4 [] (.str "most") (.var 7))
 .nil) .nil)
 (.cons (.set 10 true [] (.lc 9 (.ix (.lst (.cons (.int 0) (.cons (.int 1) (.cons (.int 0) (.cons (.int 2) (.cons (.int 3) (.cons (.int 0) (.cons (.int 1) (.cons (.int 7) .nil))))))))) (.var 9)) (.sq (.call 2 (.cons (.call 0 (.cons (.var 0) (.cons (.bin .add (.var 1) (.int 4)) .nil))) (.cons (.int 8) (.cons (.var 5) .nil)))))))
 (.cons (.itj [9, 11, 12, 13, 14, 15, 16, 17, 18, 19] [] (.cmp .eq (.var 3) (.int 2)) (.cons (.sti 10 [] (.int 0) (.bin .sub (.var 5) (.int 1)))
 .nil) .nil)
 (.cons (.itj [9, 11, 12, 13, 14, 15, 16, 17, 18, 19] [] (.cmp .inn (.var 3) (.lst (.cons (.int 3) (.cons (.int 5) (.cons (.int 6) (.cons (.int 12) .nil)))))) (.cons (.sti 10 [] (.ix (.lst (.cons (.int 0) (.cons (.int 0) (.cons (.int 0) (.cons (.bin .sub (.neg (.int 1)) (.ixn (.var 8) 1)) (.cons (.int 0) (.cons (.bin .add (.int 1) (.ixn (.var 8) 1)) (.cons (.bin .add (.int 1) (.ixn (.var 8) 1)) (.cons (.int 0) (.cons (.int 0) (.cons (.int 0) (.cons (.int 0) (.cons (.int 0) (.cons (.int 0) .nil)))))))))))))) (.var 3)) (.var 6))
 .nil) .nil)
 (.cons (.set 11 true [4] (.call 3 (.cons (.var 4) (.cons (.call 2 (.cons (.call 0 (.cons (.var 0) (.cons (.bin .add (.var 1) (.int 5)) .nil))) (.cons (.int 8) (.cons (.bi .len (.cons (.var 4) .nil)) .nil)))) .nil))))
 (.cons (.itj [9, 12, 13, 14, 15, 16, 17, 18, 19] [] (.cmp .eq (.var 3) (.int 4)) (.cons (.sti 11 [] (.int 0) (.var 7))
 .nil) .nil)
 (.cons (.itj [9, 12, 13, 14, 15, 16, 17, 18, 19] [] (.cmp .inn (.var 3) (.lst (.cons (.int 7) (.cons (.int 8) .nil)))) (.cons (.sti 11 [4] (.bin .mul (.call 4 (.cons (.ix (.var 4) (.var 7)) (.cons (.int 0) .nil))) (.bin .add (.int 1) (.ixn (.var 8) 1))) (.var 7))
 .nil) .nil)
 (.cons (.itj [9, 12, 13, 14, 15, 16, 17, 18, 19] [] (.cmp .eq (.var 3) (.int 10)) (.cons (.sti 11 [4] (.int 0) (.bin .sub (.bi .len (.cons (.var 4) .nil)) (.int 1)))
 .nil) .nil)
 (.cons (.itj [9, 12, 13, 14, 15, 16, 17, 18, 19] [] (.cmp .eq (.var 3) (.int 11)) (.cons (.sti 11 [4] (.bin .sub (.int 0) (.bin .mul (.call 4 (.cons (.ix (.var 4) (.var 7)) (.cons (.int 0) .nil))) (.bin .add (.int 1) (.ixn (.var 8) 1)))) (.var 7))
 .nil) .nil)
 (.cons (.set 12 false [4, 10, 11] (.call 5 (.cons (.ixn (.var 2) 0) (.cons (.var 4) (.cons (.var 10) (.cons (.var 11) (.cons (.call 2 (.cons (.call 0 (.cons (.var 0) (.cons (.bin .add (.var 1) (.int 6)) .nil))) (.cons (.int 4) (.cons (.bi .len (.cons (.var 4) .nil)) .nil)))) .nil)))))))
 (.cons (.set 13 false [] (.call 2 (.cons (.call 0 (.cons (.var 0) (.cons (.bin .add (.var 1) (.int 7)) .nil))) (.cons (.int 4) (.cons (.var 5) .nil)))))
 (.cons (.set 15 false [10, 11] (.lc 14 (.bin .sub (.call 6 (.cons (.ixn (.var 2) 0) (.cons (.var 11) (.cons (.var 14) .nil)))) (.bin .mul (.ix (.var 13) (.var 14)) (.bi .int (.cons (.cmp .eq (.ix (.var 10) (.var 14)) (.int 0)) .nil)))) (.rng (.var 5))))
 (.cons (.set 16 true [4] (.call 7 (.cons (.var 15) (.cons (.var 12) (.cons (.lst (.cons (.ixn (.var 2) 0) (.cons (.var 4) (.cons (.ixn (.var 2) 2) (.cons (.ixn (.var 2) 3) .nil))))) .nil)))))
 (.cons (.itj [0, 1, 5, 9, 12, 13, 14, 15, 17, 18, 19] [] (.cmp .eq (.var 3) (.int 4)) (.cons (.stiT 16 (.sub (.sub .nm [] (.int 1)) [] (.var 7)) [] (.int 2) (.e [4, 10] (.bin .sub (.bin .mul (.call 8 (.cons (.ix (.ixn (.var 2) 0) (.var 7)) (.cons (.var 10) .nil))) (.ix (.ixn (.var 2) 2) (.var 7))) (.call 4 (.cons (.ix (.var 4) (.var 7)) (.cons (.ixn (.var 8) 2) .nil))))))
 .nil) .nil)
 (.cons (.itj [0, 1, 5, 9, 12, 13, 14, 15, 17, 18, 19] [] (.cmp .inn (.var 3) (.lst (.cons (.int 5) (.cons (.int 6) .nil)))) (.cons (.stiT 16 (.sub .nm [] (.int 0)) [] (.var 6) (.e [16] (.bin .sub (.ix (.ixn (.var 16) 0) (.var 6)) (.int 1))))
 .nil) .nil)
 (.cons (.itj [0, 1, 4, 5, 7, 9, 12, 13, 14, 15, 17, 18, 19] [] (.cmp .inn (.var 3) (.lst (.cons (.int 7) (.cons (.int 8) .nil)))) (.cons (.stiT 16 (.sub (.sub .nm [] (.int 1)) [] (.var 7)) [] (.int 2) (.e [4, 16] (.bin .add (.ixn (.ix (.ixn (.var 16) 1) (.var 7)) 2) (.call 4 (.cons (.ix (.var 4) (.var 7)) (.cons (.int 0) .nil))))))
 .nil) .nil)
 (.cons (.itj [0, 1, 4, 5, 6, 7, 9, 12, 13, 14, 15, 17, 18, 19] [] (.cmp .eq (.var 3) (.int 12)) (.cons (.stiT 16 (.sub .nm [] (.int 0)) [] (.var 6) (.e [11] (.bin .add (.bin .mul (.call 6 (.cons (.ixn (.var 2) 0) (.cons (.var 11) (.cons (.var 6) .nil)))) (.ix (.ixn (.var 2) 3) (.var 6))) (.int 1))))
 .nil) .nil)
 (.cons (.set 17 false [10, 16] (.call 9 (.cons (.ixn (.var 16) 0) (.cons (.var 10) (.cons (.ixn (.var 2) 3) .nil)))))
 (.cons (.itj [0, 1, 4, 5, 6, 7, 9, 12, 13, 14, 15, 18, 19] [] (.cmp .inn (.var 3) (.lst (.cons (.int 5) (.cons (.int 7) .nil)))) (.cons (.set 17 false [11, 16] (.call 9 (.cons (.lc 18 (.ixn (.var 18) 2) (.sq (.ixn (.var 16) 1))) (.cons (.var 11) (.cons (.ixn (.var 2) 2) .nil)))))
 .nil) .nil)
 (.cons (.itj [0, 1, 4, 5, 6, 7, 8, 9, 12, 13, 14, 15, 18, 19] [] (.cmp .eq (.var 3) (.int 13)) (.cons (.set 17 false [] (.tup (.cons (.bin .add (.ixn (.var 17) 0) (.bin .mul (.ixn (.var 17) 1) (.ix (.lst (.cons (.int 1) (.cons (.neg (.int 1)) .nil))) (.ixn (.var 8) 2)))) (.cons (.ixn (.var 17) 1) .nil))))
 .nil) .nil)
 (.cons (.set 19 false [10, 11] (.lst (.cons (.str "best") (.cons (.call 10 (.cons (.var 10) (.cons (.ixn (.var 2) 3) .nil))) (.cons (.var 17) (.cons (.call 10 (.cons (.var 11) (.cons (.ixn (.var 2) 2) .nil))) (.cons .non .nil)))))))
 (.cons (.ite [] (.cmp .gt (.var 3) (.int 8)) (.cons (.ret [16] (.lst (.cons (.var 16) (.cons (.call 11 (.cons (.var 19) (.cons (.int 3) (.cons (.ix (.lst (.cons (.int 1) (.cons (.int 2) (.cons (.int 0) (.cons (.int 0) (.cons (.int 0) .nil)))))) (.bin .sub (.var 3) (.int 9))) .nil)))) .nil))))
 .nil) .nil)
 (.cons (.ret [16] (.lst (.cons (.var 16) (.cons (.call 11 (.cons (.var 19) (.cons (.int 1) (.cons (.ix (.lst (.cons (.int 0) (.cons (.int 1) (.cons (.int 2) (.cons (.int 0) (.cons (.int 0) (.cons (.int 0) (.cons (.int 0) (.cons (.int 0) (.cons (.int 0) .nil)))))))))) (.var 3)) .nil)))) .nil))))
 .nil))))))))))))))))))))))))))))
abbrev GB : List DSp := [T_cell, T_digits, T_draws, T_fair, T_side, T_bounds, T_column, T_laid, T_along, T_mean, T_lrow_of, T_cut]
def T_best : DSp := fun ds kk _ => ∃ (ns : List Int) (at_ fault : Int) (ls : List (List Int)) (kinds : List Str) (fs gs : List Int) (a b : Int), ds = [.scr ns, .int at_, tabD ls kinds fs gs [.int a, .int b], .int fault] ∧ TabOk 0 ls kinds fs gs a b ∧ 0 ≤ at_ ∧ at_ ≤ 900000 ∧ 0 ≤ fault ∧ fault ≤ 13 ∧ (kinds.length = 0 → fault ∉ ([4, 7, 8, 10, 11] : List Int)) ∧ PapK kk
theorem ratShift {u v s : Int} (h : RatG u v) : RatG (u + v * s) v := ⟨h.p, by
  have := Int.gcd_add_mul_left_left v u s
  exact this.trans h.g⟩
theorem inI {f : Int} {ns : List Int} (h : D.int f ∈ ns.map D.int) : f ∈ ns := mem_ints.mp h
theorem atN {ns : List Int} {r : Int} {n : Nat} (hn : ns.length = n) (h0 : 0 ≤ r) (h1 : r < (n : Int)) : atI (ns.map D.int) r = some (.int (ns.getD r.toNat 0)) := atZ h0 (by omega)
theorem w_best6 : ∀ {fault : Int} {ls : List (List Int)} {kinds : List Str} {fs gs point fees : List Int} {cs : List Int} {dms : List Dem} {u v : Int} {s0 s1 s4 s5 s6 s7 s8 s9 s12 s13 s14 s15 s18 s19 : S} {a b0 : Int} {kk : S → Prop} {xx : XD}, TabOk 0 ls kinds fs gs a b0 → 0 ≤ fault → fault ≤ 13 → PapK kk →
    point.length = gs.length → (∀ p ∈ point, p.natAbs ≤ 7) → (fault = 2 → point.getD (gs.length - 1) 0 = 0) → fees.length = kinds.length → (∀ f ∈ fees, f.natAbs ≤ 3) → (fault = 10 → fees.getD (kinds.length - 1) 0 = 0) → PgOk 600 cs dms → RatG u v → Bd 910 u → Bd 910 v →
    wpb GB (dropB 25 b__law_best_paper) [s0, s1, .sh (tab2 ls kinds fs gs a b0), .sh (.int fault), s4, s5, s6, s7, s8, s9, .sh (.sq true (point.map .int)), .sh (.sq true (fees.map .int)), s12, s13, s14, s15, .ow (.tr (laidTr cs dms)), .sh (.sq false [.int u, .int v]), s18, s19] (edOf kk xx) := by
  intro fault ls kinds fs gs point fees cs dms u v s0 s1 s4 s5 s6 s7 s8 s9 s12 s13 s14 s15 s18 s19 a b0 kk xx ok f0 f1 hk hpl hp hp2 hfl hf hf2 hpg hg hu hv
  have hm1 := ok.m1
  have hw1 := ok.w1
  have hlf := ok.lf
  refine ⟨true, true, point, gs, rfl, by omega, by omega, fun p hpm => Bd.le (show Bd 3 p from Nat.lt_of_le_of_lt (hp p hpm) (by decide)) (by decide), ok.fg, fun ps q g pl pb qb pz => ?_⟩
  refine ⟨true, true, fees, fs, rfl, by omega, by omega, fun f hfm => (bd3 (hf f hfm)).le (by decide), ok.ff, fun ps2 q2 g2 pl2 pb2 qb2 pz2 => ?_⟩
  refine keep_lend ?_
  refine ⟨fun hc => ?_, fun hc => ?_⟩
  · have hn : 0 ≤ fault - 9 := by omega
    have hn1 : fault - 9 < (([1, 2, 0, 0, 0] : List Int).length : Int) := by show fault - 9 < 5; omega
    refine ⟨_, atZ (ns := [1, 2, 0, 0, 0]) hn hn1, true, _, 3, _, ps2, q2, rfl, rfl, by omega, ?_⟩
    have hw2 : ([1, 2, 0, 0, 0] : List Int).getD (fault - 9).toNat 0 = 2 → ps2.getD (ps2.length - 1) 0 = 0 := fun z => by
      have := wayIs (i := 1) hn hn1 (by decide) z
      rw [pl2, hfl]
      exact pz2 _ (hf2 (by omega))
    have := hk (cs, dms, .best ps q u v (cutRow (([1, 2, 0, 0, 0] : List Int).getD (fault - 9).toNat 0) ps2) q2) ⟨hpg.le (by decide) (by decide), ⟨fun p hp => (pb p hp).le (by decide), qb.le (by decide), hu.le (by decide), hv.le (by decide), fun p hp => (cutRow_bd pb2 p hp).le (by decide), qb2.le (by decide)⟩, g, hg, g2.cut hw2⟩ (show ps.length ≤ 200 by omega)
    have e : paperD (cs, dms, .best ps q u v (cutRow (([1, 2, 0, 0, 0] : List Int).getD (fault - 9).toNat 0) ps2) q2) = .sq true [.sq true (Tr.ds (laidTr cs dms)), fieldsD (.best ps q u v (cutRow (([1, 2, 0, 0, 0] : List Int).getD (fault - 9).toNat 0) ps2) q2)] := by
      rw [laidTr_d]; rfl
    rw [e] at this
    exact this
  · have hn1 : fault < (([0, 1, 2, 0, 0, 0, 0, 0, 0] : List Int).length : Int) := by show fault < 9; omega
    refine ⟨_, atZ (ns := [0, 1, 2, 0, 0, 0, 0, 0, 0]) f0 hn1, true, _, 1, _, ps, q, rfl, rfl, by omega, ?_⟩
    have hw2 : ([0, 1, 2, 0, 0, 0, 0, 0, 0] : List Int).getD fault.toNat 0 = 2 → ps.getD (ps.length - 1) 0 = 0 := fun z => by
      have := wayIs (i := 2) f0 hn1 (by decide) z
      rw [pl, hpl]
      exact pz _ (hp2 this)
    have := hk (cs, dms, .best (cutRow (([0, 1, 2, 0, 0, 0, 0, 0, 0] : List Int).getD fault.toNat 0) ps) q u v ps2 q2) ⟨hpg.le (by decide) (by decide), ⟨fun p hp => (cutRow_bd pb p hp).le (by decide), qb.le (by decide), hu.le (by decide), hv.le (by decide), fun p hp => (pb2 p hp).le (by decide), qb2.le (by decide)⟩, g.cut hw2, hg, g2⟩ (Nat.le_trans cut_len (by omega))
    have e : paperD (cs, dms, .best (cutRow (([0, 1, 2, 0, 0, 0, 0, 0, 0] : List Int).getD fault.toNat 0) ps) q u v ps2 q2) = .sq true [.sq true (Tr.ds (laidTr cs dms)), fieldsD (.best (cutRow (([0, 1, 2, 0, 0, 0, 0, 0, 0] : List Int).getD fault.toNat 0) ps) q u v ps2 q2)] := by
      rw [laidTr_d]; rfl
    rw [e] at this
    exact this
theorem w_best5 : ∀ {fault : Int} {ls : List (List Int)} {kinds : List Str} {fs gs point fees : List Int} {cs : List Int} {dms : List Dem} {e0 e1 e2 : Int} {s0 s1 s4 s5 s6 s7 s9 s12 s13 s14 s15 s17 s18 s19 : S} {a b0 : Int} {kk : S → Prop} {xx : XD}, TabOk 0 ls kinds fs gs a b0 → 0 ≤ fault → fault ≤ 13 → PapK kk → (0 ≤ e2 ∧ e2 < 2) →
    point.length = gs.length → (∀ p ∈ point, p.natAbs ≤ 7) → (fault = 2 → point.getD (gs.length - 1) 0 = 0) → fees.length = kinds.length → (∀ f ∈ fees, f.natAbs ≤ 3) → (fault = 10 → fees.getD (kinds.length - 1) 0 = 0) → PgOk 560 cs dms → cs.length = gs.length → dms.length = kinds.length →
    wpb GB (dropB 22 b__law_best_paper) [s0, s1, .sh (tab2 ls kinds fs gs a b0), .sh (.int fault), s4, s5, s6, s7, .sh (ex3 e0 e1 e2), s9, .sh (.sq true (point.map .int)), .sh (.sq true (fees.map .int)), s12, s13, s14, s15, .ow (.tr (laidTr cs dms)), s17, s18, s19] (edOf kk xx) := by
  intro fault ls kinds fs gs point fees cs dms e0 e1 e2 s0 s1 s4 s5 s6 s7 s9 s12 s13 s14 s15 s17 s18 s19 a b0 kk xx ok f0 f1 hk he2 hpl hp hp2 hfl hf hf2 hpg hcl hdl
  have hm1 := ok.m1
  have hw1 := ok.w1
  have hlf := ok.lf
  have bpt : ∀ p ∈ point, Bd 60 p := fun p hpm => Bd.le (show Bd 3 p from Nat.lt_of_le_of_lt (hp p hpm) (by decide)) (by decide)
  have bft : ∀ p ∈ fees, Bd 60 p := fun f hfm => (bd3 (hf f hfm)).le (by decide)
  refine ⟨true, true, true, cs, point, gs, ?_, by omega, by omega, by omega, hpg.bc, bpt, ok.fg, fun u v hg hu hv => ?_⟩
  · rw [← ds_ints cs]; rfl
  refine keep_safe (FlatN.ints (ns := [u, v])) ?_
  refine join (fun δ => ∃ u v : Int, RatG u v ∧ Bd 900 u ∧ Bd 900 v ∧ δ = [.no, .no, .sh (tab2 ls kinds fs gs a b0), .sh (.int fault), .no, .no, .no, .no, .sh (ex3 e0 e1 e2), .no, .sh (.sq true (point.map .int)), .sh (.sq true (fees.map .int)), .no, .no, .no, .no, .ow (.tr (laidTr cs dms)), .sh (.sq false [.int u, .int v]), .no, .no]) ⟨kin_ints (ns := [5, 7]), fun _ => ?_, fun _ => ⟨u, v, hg, hu, hv, rfl⟩⟩ ?_
  · show LcW (Tr.ds (dms.map demTr)).length (fun i => (Tr.ds (dms.map demTr)).getD i .non) _ _
    rw [ds_dems]
    refine lcw (demG true true) (fun d => .int d.2.2) (xs := dms) (by omega) (fun d hd => rfl) ?_
    have em : (dms.map fun d => D.int d.2.2) = (dms.map (·.2.2)).map .int := by rw [List.map_map]; rfl
    rw [em]
    refine ⟨true, true, true, dms.map (·.2.2), fees, fs, rfl, by rw [List.length_map]; omega, by rw [List.length_map]; omega, by rw [List.length_map]; omega, fun x hx => ?_, bft, ok.ff, fun u v hg hu hv => keep_safe (FlatN.ints (ns := [u, v])) ⟨u, v, hg, hu, hv, rfl⟩⟩
    obtain ⟨d, hd, rfl⟩ := List.mem_map.mp hx
    exact hpg.bb d hd
  rintro _ ⟨u, v, hg, hu, hv, rfl⟩
  refine join (fun δ => ∃ u v : Int, RatG u v ∧ Bd 910 u ∧ Bd 910 v ∧ δ = [.no, .no, .sh (tab2 ls kinds fs gs a b0), .sh (.int fault), .no, .no, .no, .no, .no, .no, .sh (.sq true (point.map .int)), .sh (.sq true (fees.map .int)), .no, .no, .no, .no, .ow (.tr (laidTr cs dms)), .sh (.sq false [.int u, .int v]), .no, .no]) ⟨fun _ => ?_, fun _ => ⟨u, v, hg, hu.le (by decide), hv.le (by decide), rfl⟩⟩ ?_
  · have hs := menu (ns := [1, -1]) (P := fun s => s.natAbs ≤ 1) (by decide) he2.1 he2.2
    have bs : Bd 1 (([1, -1] : List Int).getD e2.toNat 0) := Nat.lt_of_le_of_lt hs (by decide)
    exact ⟨_, atZ (ns := [1, -1]) he2.1 he2.2, hv.mulW bs (by decide), _, v, ratShift hg, hu.add (hv.mul bs) (by decide) (by decide), hv.le (by decide), rfl⟩
  rintro _ ⟨u, v, hg, hu, hv, rfl⟩
  exact w_best6 ok f0 f1 hk hpl hp hp2 hfl hf hf2 (hpg.le (by decide) (by decide)) hg hu hv
end K00
set_option Elab.async false
set_option linter.all false
set_option maxRecDepth 100000
set_option maxHeartbeats 8000000
set_option pp.maxSteps 600
set_option exponentiation.threshold 50000
/-! k05: a paper of a point with fair prices: the edits and before. -/
namespace K00
open PySem PySem.Spec PyProof.Rows L2 DL
theorem w_best4 : ∀ {fault : Int} {ls : List (List Int)} {kinds kinds' : List Str} {fs gs point fees : List Int} {cs : List Int} {dms : List Dem} {e0 e1 e2 : Int} {s0 s1 s5 s9 s12 s13 s14 s15 s17 s18 s19 : S} {a : Int} {b : Nat} {kk : S → Prop} {xx : XD}, TabOk 0 ls kinds fs gs a (b : Int) → 0 ≤ fault → fault ≤ 13 → (fault ∈ ([4, 7, 8, 10, 11] : List Int) → b < kinds.length) → PapK kk → (0 ≤ e1 ∧ e1 < 3) → (0 ≤ e2 ∧ e2 < 2) → kinds'.length = kinds.length →
    point.length = gs.length → (∀ p ∈ point, p.natAbs ≤ 7) → (fault = 2 → point.getD (gs.length - 1) 0 = 0) → fees.length = kinds.length → (∀ f ∈ fees, f.natAbs ≤ 3) → (fault = 10 → fees.getD (kinds.length - 1) 0 = 0) → PgOk 520 cs dms → cs.length = gs.length → dms.length = kinds.length →
    wpb GB (dropB 18 b__law_best_paper) [s0, s1, .sh (tab2 ls kinds fs gs a (b : Int)), .sh (.int fault), .sh (.sq true (kinds'.map .str)), s5, .sh (.int a), .sh (.int (b : Int)), .sh (ex3 e0 e1 e2), s9, .sh (.sq true (point.map .int)), .sh (.sq true (fees.map .int)), s12, s13, s14, s15, .ow (.tr (laidTr cs dms)), s17, s18, s19] (edOf kk xx) := by
  intro fault ls kinds kinds' fs gs point fees cs dms e0 e1 e2 s0 s1 s5 s9 s12 s13 s14 s15 s17 s18 s19 a b kk xx ok f0 f1 hbn hk he1 he2 hk' hpl hp hp2 hfl hf hf2 hpg hcl hdl
  have hm1 := ok.m1
  have hw1 := ok.w1
  have hlf := ok.lf
  have hll := ok.ll
  have ia := ok.ia
  obtain ⟨an, rfl⟩ : ∃ an : Nat, a = (an : Int) := ⟨a.toNat, by omega⟩
  have bpt : ∀ p ∈ point, Bd 22 p := fun p hpm => Bd.le (show Bd 3 p from Nat.lt_of_le_of_lt (hp p hpm) (by decide)) (by decide)
  have bft : ∀ p ∈ fees, Bd 22 p := fun f hfm => (bd3 (hf f hfm)).le (by decide)
  have bsg : ∀ {s : Int}, (s = 1 ∨ s = -1) → Bd 1 s := fun {s} h => show s.natAbs < 2 ^ 1 by rcases h with rfl | rfl <;> decide
  have one : Bd 1 1 := show (1 : Int).natAbs < 2 ^ 1 by decide
  refine join (fun δ => ∃ dms' : List Dem, PgOk 530 cs dms' ∧ dms'.length = dms.length ∧ δ = [.no, .no, .sh (tab2 ls kinds fs gs (an : Int) (b : Int)), .sh (.int fault), .sh (.sq true (kinds'.map .str)), .no, .sh (.int (an : Int)), .sh (.int (b : Int)), .sh (ex3 e0 e1 e2), .no, .sh (.sq true (point.map .int)), .sh (.sq true (fees.map .int)), .no, .no, .no, .no, .ow (.tr (laidTr cs dms')), .no, .no, .no]) ⟨fun h => ?_, fun _ => ⟨dms, hpg.le (by decide) (by decide), rfl, ?_⟩⟩ ?_
  · have hb := hbn (by rw [h]; decide)
    have hbd : b < dms.length := by omega
    have hd := dem_mem hbd
    have hm := ok.lp _ (ls_mem (show b < ls.length by omega))
    have hv := dotL_bd hm.2 bpt (by omega) (by omega)
    have bf1 := dvd_bd (ok.ff _ (gdm (show b < fs.length by omega))).d
    refine ⟨_, atLs (show b < ls.length by omega), true, true, _, point, 22, rfl, by omega, by omega, hm.2, bpt, by decide, _, atG (show b < fs.length by omega), hv.mulW bf1 (by decide), _, atStr (show b < kinds'.length by omega), _, e2, rfl, he2.1, he2.2, fun s hs => ?_⟩
    have h2 := (hv.mul bf1).sub (bsg hs) (n := 272) (by decide) (by decide)
    refine ⟨.flat trivial, 1, rfl, _, rfl, b, rfl, _, get_dem hbd, 2, rfl, (show 2 < 3 by decide), dms.set b ((demAt dms b).1, (demAt dms b).2.1, dotL (ls.getD b []) point * fs.getD b 0 - s), (hpg.le (M := 530) (by decide) (by decide)).dem (show (demAt dms b).1.length = cs.length from hpg.wd _ hd) (fun p hp => (hpg.bp _ hd p hp).le (by decide)) (h2.le (by decide)), by rw [List.length_set], ?_⟩
    rw [← upd_bound hbd]; kernel_rfl
  · kernel_rfl
  rintro _ ⟨dms1, hp1, hl1, rfl⟩
  refine join (fun δ => ∃ cs' : List Int, PgOk 540 cs' dms1 ∧ cs'.length = gs.length ∧ δ = [.no, .no, .sh (tab2 ls kinds fs gs (an : Int) (b : Int)), .sh (.int fault), .sh (.sq true (kinds'.map .str)), .no, .sh (.int (an : Int)), .sh (.int (b : Int)), .sh (ex3 e0 e1 e2), .no, .sh (.sq true (point.map .int)), .sh (.sq true (fees.map .int)), .no, .no, .no, .no, .ow (.tr (laidTr cs' dms1)), .no, .no, .no]) ⟨kin_ints (ns := [5, 6]), fun _ => ?_, fun _ => ⟨cs, hp1.le (by decide) (by decide), hcl, ?_⟩⟩ ?_
  · have hac : an < cs.length := by omega
    refine ⟨_, atCostT hac, .flat trivial, 0, rfl, _, rfl, an, rfl, by rw [List.length_map]; omega, cs.set an (cs.getD an 0 - 1), (hp1.le (M := 540) (by decide) (by decide)).cost (((hp1.bc _ (gdm hac)).sub one (n := 531) (by decide) (by decide)).le (by decide)), by rw [List.length_set]; exact hcl, ?_⟩
    rw [← upd_cost]; kernel_rfl
  · kernel_rfl
  clear hcl
  rintro _ ⟨cs1, hp2', hcl, rfl⟩
  refine join (fun δ => ∃ dms' : List Dem, PgOk 550 cs1 dms' ∧ dms'.length = dms.length ∧ δ = [.no, .no, .sh (tab2 ls kinds fs gs (an : Int) (b : Int)), .sh (.int fault), .no, .no, .sh (.int (an : Int)), .no, .sh (ex3 e0 e1 e2), .no, .sh (.sq true (point.map .int)), .sh (.sq true (fees.map .int)), .no, .no, .no, .no, .ow (.tr (laidTr cs1 dms')), .no, .no, .no]) ⟨kin_ints (ns := [7, 8]), fun h => ?_, fun _ => ⟨dms1, hp2'.le (by decide) (by decide), hl1, ?_⟩⟩ ?_
  · have hb := hbn (by have := inI (ns := [7, 8]) h; simp only [List.mem_cons, List.not_mem_nil, or_false] at this ⊢; omega)
    have hbd : b < dms1.length := by omega
    have hd := dem_mem hbd
    refine ⟨_, atDemT hbd, _, atStr (show b < kinds'.length by omega), _, 0, rfl, by decide, by decide, fun s hs => ?_⟩
    refine ⟨.flat trivial, 1, rfl, _, rfl, b, rfl, _, get_dem hbd, 2, rfl, (show 2 < 3 by decide), dms1.set b ((demAt dms1 b).1, (demAt dms1 b).2.1, (demAt dms1 b).2.2 + s), (hp2'.le (M := 550) (by decide) (by decide)).dem (show (demAt dms1 b).1.length = cs1.length from hp2'.wd _ hd) (fun p hp => (hp2'.bp _ hd p hp).le (by decide)) (((hp2'.bb _ hd).add (bsg hs) (n := 541) (by decide) (by decide)).le (by decide)), by rw [List.length_set]; exact hl1, ?_⟩
    rw [← upd_bound hbd]; kernel_rfl
  · kernel_rfl
  rintro _ ⟨dms2, hp3, hl2, rfl⟩
  refine join (fun δ => ∃ cs' : List Int, PgOk 560 cs' dms2 ∧ cs'.length = gs.length ∧ δ = [.no, .no, .sh (tab2 ls kinds fs gs (an : Int) (b : Int)), .sh (.int fault), .no, .no, .no, .no, .sh (ex3 e0 e1 e2), .no, .sh (.sq true (point.map .int)), .sh (.sq true (fees.map .int)), .no, .no, .no, .no, .ow (.tr (laidTr cs' dms2)), .no, .no, .no]) ⟨fun h => ?_, fun _ => ⟨cs1, hp3.le (by decide) (by decide), hcl, ?_⟩⟩ ?_
  · have hcol := colL_bdc (N := 22) (M := 2) (ls := ls) (fs := fees) (j := an) (fun k hk => (ok.lp _ (ls_mem hk)).2 _ (gdm (by have := (ok.lp _ (ls_mem hk)).1; omega))) (fun f hfm => bd3 (hf f hfm)) (by omega) (by omega)
    have bg := dvd_bd (ok.fg _ (gdm (show an < gs.length by omega))).d
    refine ⟨22, true, true, true, ls, fees, an, rfl, by omega, by omega, fun ps hps => ⟨by have := (ok.lp ps hps).1; omega, (ok.lp ps hps).2⟩, bft, by decide, _, atG (show an < gs.length by omega), hcol.mulW bg (by decide), .flat trivial, 0, rfl, _, rfl, an, rfl, by rw [List.length_map]; omega, cs1.set an (colL ls fees an * gs.getD an 0 + 1), (hp3.le (M := 560) (by decide) (by decide)).cost (((hcol.mul bg).add one (n := 252) (by decide) (by decide)).le (by decide)), by rw [List.length_set]; exact hcl, ?_⟩
    rw [← upd_cost]; kernel_rfl
  · kernel_rfl
  clear hcl
  rintro _ ⟨cs2, hp4, hcl, rfl⟩
  exact w_best5 ok f0 f1 hk he2 hpl hp hp2 hfl hf hf2 hp4 hcl (by omega)
theorem w_best3 : ∀ {ns : List Int} {at_ fault : Int} {ls : List (List Int)} {kinds kinds' : List Str} {fs gs point fees : List Int} {e0 e1 e2 : Int} {a : Int} {b : Nat} {kk : S → Prop} {xx : XD}, TabOk 0 ls kinds fs gs a (b : Int) → 0 ≤ at_ → at_ ≤ 900000 → 0 ≤ fault → fault ≤ 13 → (fault ∈ ([4, 7, 8, 10, 11] : List Int) → b < kinds.length) → PapK kk → (0 ≤ e1 ∧ e1 < 3) → (0 ≤ e2 ∧ e2 < 2) → kinds'.length = kinds.length →
    point.length = gs.length → (∀ p ∈ point, p.natAbs ≤ 7) → (fault = 2 → point.getD (gs.length - 1) 0 = 0) → fees.length = kinds.length → (∀ f ∈ fees, f.natAbs ≤ 3) → (fault = 10 → fees.getD (kinds.length - 1) 0 = 0) →
    wpb GB (dropB 14 b__law_best_paper) [.sh (.scr ns), .sh (.int at_), .sh (tab2 ls kinds fs gs a (b : Int)), .sh (.int fault), .ow (.lst (kinds'.map .str)), .sh (.int ((gs.length : Nat) : Int)), .sh (.int a), .sh (.int (b : Int)), .sh (ex3 e0 e1 e2), .no, .ow (.lst (point.map .int)), .ow (.lst (fees.map .int)), .no, .no, .no, .no, .no, .no, .no, .no] (edOf kk xx) := by
  intro ns at_ fault ls kinds kinds' fs gs point fees e0 e1 e2 a b kk xx ok a0 a1 f0 f1 hbn hk he1 he2 hk' hpl hp hp2 hfl hf hf2
  have hm1 := ok.m1
  have hw1 := ok.w1
  have hlf := ok.lf
  have hll := ok.ll
  have bft : ∀ p ∈ fees, Bd 22 p := fun f hfm => (bd3 (hf f hfm)).le (by decide)
  refine ⟨ns, at_ + 6, rfl, by omega, by omega, fun c => ?_⟩
  refine ⟨c, 4, _, rfl, by decide, by decide, by rw [List.length_map]; omega, fun r hr => ?_⟩
  rw [List.length_map] at hr
  obtain ⟨rl, rd⟩ := hr
  refine ⟨true, true, true, true, true, true, ls, kinds', point, fees, r, rfl, by omega, by omega, by omega, by omega, fun ps hps => ⟨by rw [(ok.lp ps hps).1]; omega, fun p hp => ((ok.lp ps hps).2 p hp).le (by decide)⟩, by omega, fun p hpm => Bd.le (show Bd 3 p from Nat.lt_of_le_of_lt (hp p hpm) (by decide)) (by decide), fun x hx => ?_, fun bs hbl hbb => ?_⟩
  · have := rd x hx
    show x.natAbs < 2 ^ 40
    omega
  refine keep_safe flat_ints' ?_
  refine ⟨ns, at_ + 7, rfl, by omega, by omega, fun c7 => ?_⟩
  refine ⟨c7, 4, gs.length, rfl, by decide, by decide, by omega, fun sl hsl => ?_⟩
  obtain ⟨sll, sld⟩ := hsl
  refine ⟨by omega, ?_⟩
  rw [Int.toNat_natCast]
  have b01 : ∀ {p : Prop} [Decidable p], Bd 1 (if decide p = true then (1 : Int) else 0) := fun {p} _ => by
    split
    · exact show (1 : Int).natAbs < 2 ^ 1 by decide
    · exact bd0 1
  have cb : ∀ i, i < gs.length → Bd 40 (colL ls fees i - sl.getD i 0 * (if decide (point.getD i 0 = 0) = true then (1 : Int) else 0)) := fun i hi => by
    have hcol := colL_bdc (N := 22) (M := 2) (ls := ls) (fs := fees) (j := i) (fun k hk => (ok.lp _ (ls_mem hk)).2 _ (gdm (by have := (ok.lp _ (ls_mem hk)).1; omega))) (fun f hfm => bd3 (hf f hfm)) (by omega) (by omega)
    have hx := sld _ (gdm (show i < sl.length by omega))
    have bx : Bd 3 (sl.getD i 0) := show (sl.getD i 0).natAbs < 2 ^ 3 by omega
    exact (hcol.sub (bx.mul b01) (n := 32) (by decide) (by decide)).le (by decide)
  refine lcw_rng (fun i => .int (colL ls fees i - sl.getD i 0 * (if decide (point.getD i 0 = 0) = true then (1 : Int) else 0))) (by omega) (fun i hi => ?_) ?_
  · have hx := sld _ (gdm (show i < sl.length by omega))
    have bx : Bd 3 (sl.getD i 0) := show (sl.getD i 0).natAbs < 2 ^ 3 by omega
    exact ⟨22, true, true, true, ls, fees, i, rfl, by omega, by omega, fun ps hps => ⟨by have := (ok.lp ps hps).1; omega, (ok.lp ps hps).2⟩, bft, by decide, _, atG (show i < sl.length by omega), _, atG (show i < point.length by omega), bx.mulW b01 (by decide), rfl⟩
  generalize hcs : ((List.range gs.length).map fun i => colL ls fees i - sl.getD i 0 * (if decide (point.getD i 0 = 0) = true then (1 : Int) else 0)) = costs
  have ec : ((List.range gs.length).map fun i => D.int (colL ls fees i - sl.getD i 0 * (if decide (point.getD i 0 = 0) = true then (1 : Int) else 0))) = costs.map .int := by rw [← hcs, List.map_map]; rfl
  rw [ec]
  have cl : costs.length = gs.length := by rw [← hcs, List.length_map, List.length_range]
  have cbb : ∀ c ∈ costs, Bd 40 c := fun c hc => by
    rw [← hcs] at hc
    obtain ⟨i, hi, rfl⟩ := List.mem_map.mp hc
    exact cb i (List.mem_range.mp hi)
  refine ⟨true, true, costs, bs, ls, kinds', fs, gs, [], rfl, by omega, by omega, by omega, by omega, by omega, by omega, fun ps hps => ⟨by rw [(ok.lp ps hps).1, cl], fun p hp => ((ok.lp ps hps).2 p hp).le (by decide)⟩, fun f hfm => dvd_bd (ok.ff f hfm).d, fun g hg => dvd_bd (ok.fg g hg).d, fun x hx => (cbb x hx).le (by decide), fun x hx => (hbb x hx).le (by decide), fun cs dms hpg hcl hdl => ?_⟩
  refine keep_lend ?_
  exact w_best4 ok f0 f1 hbn hk he1 he2 hk' hpl hp hp2 hfl hf hf2 hpg (by omega) (by omega)
end K00
set_option Elab.async false
set_option linter.all false
set_option maxRecDepth 100000
set_option maxHeartbeats 8000000
set_option pp.maxSteps 600
set_option exponentiation.threshold 50000
/-! k05: a paper of a point with fair prices: fees, point, the def. -/
namespace K00
open PySem PySem.Spec PyProof.Rows L2 DL
/-- the fees so far -/
structure FeeK (n : Nat) (fees : List Int) : Prop where
  l : fees.length = n
  b : ∀ f ∈ fees, f.natAbs ≤ 3
theorem FeeK.set {n : Nat} {fees : List Int} {i : Nat} {v : Int} (h : FeeK n fees) (hv : v.natAbs ≤ 3) : FeeK n (fees.set i v) := ⟨by rw [List.length_set]; exact h.l, fun f hf => by
  rcases mem_set hf with z | z
  · exact h.b f z
  · rw [z]; exact hv⟩
theorem side_abs {s e : Int} (h : s = 1 ∨ s = -1) (h0 : 0 ≤ e) (h1 : e < 3) : (s * (1 + e)).natAbs ≤ 3 := by
  rcases h with rfl | rfl <;> omega
theorem w_best2 : ∀ {ns : List Int} {at_ fault : Int} {ls : List (List Int)} {kinds kinds' : List Str} {fs gs point : List Int} {e0 e1 e2 : Int} {a : Int} {b : Nat} {kk : S → Prop} {xx : XD}, TabOk 0 ls kinds fs gs a (b : Int) → 0 ≤ at_ → at_ ≤ 900000 → 0 ≤ fault → fault ≤ 13 → (fault ∈ ([4, 7, 8, 10, 11] : List Int) → b < kinds.length) → PapK kk → (0 ≤ e1 ∧ e1 < 3) → (0 ≤ e2 ∧ e2 < 2) → kinds'.length = kinds.length →
    point.length = gs.length → (∀ p ∈ point, p.natAbs ≤ 7) → (fault = 2 → point.getD (gs.length - 1) 0 = 0) →
    wpb GB (dropB 9 b__law_best_paper) [.sh (.scr ns), .sh (.int at_), .sh (tab2 ls kinds fs gs a (b : Int)), .sh (.int fault), .ow (.lst (kinds'.map .str)), .sh (.int ((gs.length : Nat) : Int)), .sh (.int a), .sh (.int (b : Int)), .sh (ex3 e0 e1 e2), .no, .ow (.lst (point.map .int)), .no, .no, .no, .no, .no, .no, .no, .no, .no] (edOf kk xx) := by
  intro ns at_ fault ls kinds kinds' fs gs point e0 e1 e2 a b kk xx ok a0 a1 f0 f1 hbn hk he1 he2 hk' hpl hp hp2
  have hm1 := ok.m1
  refine ⟨ns, at_ + 5, rfl, by omega, by omega, fun c => ?_⟩
  refine ⟨c, 8, _, rfl, by decide, by decide, by rw [List.length_map]; omega, fun r hr => ?_⟩
  rw [List.length_map] at hr
  refine ⟨true, true, kinds', r, rfl, by omega, hr, fun fees hfl hf => ?_⟩
  have h0 : FeeK kinds.length fees := ⟨by omega, hf⟩
  clear hfl hf
  refine keep_safe flat_ints' ?_
  refine join (fun δ => ∃ fees : List Int, FeeK kinds.length fees ∧ δ = [.sh (.scr ns), .sh (.int at_), .sh (tab2 ls kinds fs gs a (b : Int)), .sh (.int fault), .ow (.lst (kinds'.map .str)), .sh (.int ((gs.length : Nat) : Int)), .sh (.int a), .sh (.int (b : Int)), .sh (ex3 e0 e1 e2), .no, .ow (.lst (point.map .int)), .ow (.lst (fees.map .int)), .no, .no, .no, .no, .no, .no, .no, .no]) ⟨fun h => ?_, fun _ => ⟨fees, h0, rfl⟩⟩ ?_
  · have hb := hbn (by rw [h]; decide)
    refine ⟨b, rfl, by rw [List.length_map]; have := h0.l; omega, fees.set b 0, h0.set (by decide), ?_⟩
    rw [List.map_set]; kernel_rfl
  clear h0
  rintro _ ⟨fees, h0, rfl⟩
  refine join (fun δ => ∃ fees : List Int, FeeK kinds.length fees ∧ δ = [.sh (.scr ns), .sh (.int at_), .sh (tab2 ls kinds fs gs a (b : Int)), .sh (.int fault), .ow (.lst (kinds'.map .str)), .sh (.int ((gs.length : Nat) : Int)), .sh (.int a), .sh (.int (b : Int)), .sh (ex3 e0 e1 e2), .no, .ow (.lst (point.map .int)), .ow (.lst (fees.map .int)), .no, .no, .no, .no, .no, .no, .no, .no]) ⟨kin_ints (ns := [7, 8]), fun h => ?_, fun _ => ⟨fees, h0, rfl⟩⟩ ?_
  · have hb := hbn (by have := inI (ns := [7, 8]) h; simp only [List.mem_cons, List.not_mem_nil, or_false] at this ⊢; omega)
    refine ⟨_, atStr (show b < kinds'.length by omega), _, 0, rfl, by decide, by decide, fun s hs => ?_⟩
    have hsa := side_abs hs he1.1 he1.2
    refine ⟨mul64 ?_ ?_, keep_safe (.flat trivial) ⟨b, rfl, by rw [List.length_map]; have := h0.l; omega, fees.set b (s * (1 + e1)), h0.set hsa, ?_⟩⟩
    · rcases hs with rfl | rfl <;> omega
    · omega
    rw [List.map_set]; kernel_rfl
  clear h0
  rintro _ ⟨fees, h0, rfl⟩
  refine join (fun δ => ∃ fees : List Int, FeeK kinds.length fees ∧ (fault = 10 → fees.getD (kinds.length - 1) 0 = 0) ∧ δ = [.sh (.scr ns), .sh (.int at_), .sh (tab2 ls kinds fs gs a (b : Int)), .sh (.int fault), .ow (.lst (kinds'.map .str)), .sh (.int ((gs.length : Nat) : Int)), .sh (.int a), .sh (.int (b : Int)), .sh (ex3 e0 e1 e2), .no, .ow (.lst (point.map .int)), .ow (.lst (fees.map .int)), .no, .no, .no, .no, .no, .no, .no, .no]) ⟨fun h => ?_, fun h => ⟨fees, h0, fun z => absurd z h, rfl⟩⟩ ?_
  · have hb := hbn (by rw [h]; decide)
    have hl := h0.l
    refine keep_safe (.flat trivial) ⟨kinds.length - 1, by rw [List.length_map]; omega, by rw [List.length_map]; omega, fees.set (kinds.length - 1) 0, h0.set (by decide), fun _ => getD_set_eq (by omega), ?_⟩
    rw [List.map_set]; kernel_rfl
  clear h0
  rintro _ ⟨fees, h0, h10, rfl⟩
  refine join (fun δ => ∃ fees : List Int, FeeK kinds.length fees ∧ (fault = 10 → fees.getD (kinds.length - 1) 0 = 0) ∧ δ = [.sh (.scr ns), .sh (.int at_), .sh (tab2 ls kinds fs gs a (b : Int)), .sh (.int fault), .ow (.lst (kinds'.map .str)), .sh (.int ((gs.length : Nat) : Int)), .sh (.int a), .sh (.int (b : Int)), .sh (ex3 e0 e1 e2), .no, .ow (.lst (point.map .int)), .ow (.lst (fees.map .int)), .no, .no, .no, .no, .no, .no, .no, .no]) ⟨fun h => ?_, fun h => ⟨fees, h0, h10, rfl⟩⟩ ?_
  · have hb := hbn (by rw [h]; decide)
    have hl := h0.l
    refine ⟨_, atStr (show b < kinds'.length by omega), _, 0, rfl, by decide, by decide, fun s hs => ?_⟩
    have hsa := side_abs hs he1.1 he1.2
    refine ⟨mul64 ?_ ?_, keep_safe (.flat trivial) ⟨b, rfl, by rw [List.length_map]; omega, fees.set b (0 - s * (1 + e1)), h0.set (by omega), fun z => absurd z (by omega), ?_⟩⟩
    · rcases hs with rfl | rfl <;> omega
    · omega
    rw [List.map_set]; kernel_rfl
  clear h0
  rintro _ ⟨fees, h0, h10, rfl⟩
  exact w_best3 ok a0 a1 f0 f1 hbn hk he1 he2 hk' hpl hp hp2 h0.l h0.b h10
theorem w_best1 : ∀ {ns : List Int} {at_ fault : Int} {ls : List (List Int)} {kinds : List Str} {fs gs : List Int} {e0 e1 e2 : Int} {a : Int} {b : Nat} {kk : S → Prop} {xx : XD}, TabOk 0 ls kinds fs gs a (b : Int) → 0 ≤ at_ → at_ ≤ 900000 → 0 ≤ fault → fault ≤ 13 → (fault ∈ ([4, 7, 8, 10, 11] : List Int) → b < kinds.length) → PapK kk → (0 ≤ e1 ∧ e1 < 3) → (0 ≤ e2 ∧ e2 < 2) →
    wpb GB (dropB 5 b__law_best_paper) [.sh (.scr ns), .sh (.int at_), .sh (tab2 ls kinds fs gs a (b : Int)), .sh (.int fault), .ow (.lst (kinds.map .str)), .sh (.int ((gs.length : Nat) : Int)), .sh (.int a), .sh (.int (b : Int)), .sh (ex3 e0 e1 e2), .no, .no, .no, .no, .no, .no, .no, .no, .no, .no, .no] (edOf kk xx) := by
  intro ns at_ fault ls kinds fs gs e0 e1 e2 a b kk xx ok a0 a1 f0 f1 hbn hk he1 he2
  have hm1 := ok.m1
  have hw0 := ok.w0
  have hw1 := ok.w1
  have ia := ok.ia
  obtain ⟨an, rfl⟩ : ∃ an : Nat, a = (an : Int) := ⟨a.toNat, by omega⟩
  refine join (fun δ => ∃ kinds' : List Str, kinds'.length = kinds.length ∧ δ = [.sh (.scr ns), .sh (.int at_), .sh (tab2 ls kinds fs gs (an : Int) (b : Int)), .sh (.int fault), .ow (.lst (kinds'.map .str)), .sh (.int ((gs.length : Nat) : Int)), .sh (.int (an : Int)), .sh (.int (b : Int)), .sh (ex3 e0 e1 e2), .no, .no, .no, .no, .no, .no, .no, .no, .no, .no, .no]) ⟨kin_ints (ns := [7, 8, 11]), fun h => ?_, fun _ => ⟨kinds, rfl, ?_⟩⟩ ?_
  · have hb := hbn (by have := inI (ns := [7, 8, 11]) h; simp only [List.mem_cons, List.not_mem_nil, or_false] at this ⊢; omega)
    refine ⟨_, atStr hb, fun _ => ⟨b, rfl, by rw [List.length_map]; exact hb, kinds.set b "most", by rw [List.length_set], ?_⟩, fun _ => ⟨kinds, rfl, ?_⟩⟩
    · rw [List.map_set]; kernel_rfl
    · kernel_rfl
  · kernel_rfl
  rintro _ ⟨kinds', hk', rfl⟩
  refine ⟨ns, at_ + 4, rfl, by omega, by omega, fun c => ?_⟩
  refine ⟨c, 8, gs.length, rfl, by decide, by decide, by omega, fun r hr => ?_⟩
  obtain ⟨rl, rd⟩ := hr
  refine lcw .int (fun d => .int (([0, 1, 0, 2, 3, 0, 1, 7] : List Int).getD d.toNat 0)) (by omega) (fun d hd => ⟨_, atZ (ns := [0, 1, 0, 2, 3, 0, 1, 7]) (rd d hd).1 (rd d hd).2, rfl⟩) ?_
  have em : (r.map fun d => D.int (([0, 1, 0, 2, 3, 0, 1, 7] : List Int).getD d.toNat 0)) = (r.map fun d => ([0, 1, 0, 2, 3, 0, 1, 7] : List Int).getD d.toNat 0).map .int := by rw [List.map_map]; rfl
  rw [em]
  have pl : (r.map fun d => ([0, 1, 0, 2, 3, 0, 1, 7] : List Int).getD d.toNat 0).length = gs.length := by rw [List.length_map, rl]
  have pb : ∀ p ∈ (r.map fun d => ([0, 1, 0, 2, 3, 0, 1, 7] : List Int).getD d.toNat 0), p.natAbs ≤ 7 := fun p hp => by
    obtain ⟨d, hd, rfl⟩ := List.mem_map.mp hp
    exact menu (ns := [0, 1, 0, 2, 3, 0, 1, 7]) (P := fun x => x.natAbs ≤ 7) (by decide) (rd d hd).1 (rd d hd).2
  generalize (r.map fun d => ([0, 1, 0, 2, 3, 0, 1, 7] : List Int).getD d.toNat 0) = point at *
  refine join (fun δ => ∃ point : List Int, point.length = gs.length ∧ (∀ p ∈ point, p.natAbs ≤ 7) ∧ (fault = 2 → point.getD (gs.length - 1) 0 = 0) ∧ δ = [.sh (.scr ns), .sh (.int at_), .sh (tab2 ls kinds fs gs (an : Int) (b : Int)), .sh (.int fault), .ow (.lst (kinds'.map .str)), .sh (.int ((gs.length : Nat) : Int)), .sh (.int (an : Int)), .sh (.int (b : Int)), .sh (ex3 e0 e1 e2), .no, .ow (.lst (point.map .int)), .no, .no, .no, .no, .no, .no, .no, .no, .no]) ⟨fun h => ⟨gs.length - 1, by omega, by rw [List.length_map]; omega, point.set (gs.length - 1) 0, by rw [List.length_set]; exact pl, fun p hp => ?_, fun _ => getD_set_eq (by omega), ?_⟩, fun h => ⟨point, pl, pb, fun z => absurd z h, rfl⟩⟩ ?_
  · rcases mem_set hp with z | z
    · exact pb p z
    · rw [z]; decide
  · rw [List.map_set]; kernel_rfl
  clear pl pb
  rintro _ ⟨point, pl, pb, p2, rfl⟩
  refine join (fun δ => ∃ point : List Int, point.length = gs.length ∧ (∀ p ∈ point, p.natAbs ≤ 7) ∧ (fault = 2 → point.getD (gs.length - 1) 0 = 0) ∧ δ = [.sh (.scr ns), .sh (.int at_), .sh (tab2 ls kinds fs gs (an : Int) (b : Int)), .sh (.int fault), .ow (.lst (kinds'.map .str)), .sh (.int ((gs.length : Nat) : Int)), .sh (.int (an : Int)), .sh (.int (b : Int)), .sh (ex3 e0 e1 e2), .no, .ow (.lst (point.map .int)), .no, .no, .no, .no, .no, .no, .no, .no, .no]) ⟨kin_ints (ns := [3, 5, 6, 12]), fun h => ?_, fun h => ⟨point, pl, pb, p2, rfl⟩⟩ ?_
  · have hm := inI (ns := [3, 5, 6, 12]) h
    simp only [List.mem_cons, List.not_mem_nil, or_false] at hm
    have hlt : fault < (([0, 0, 0, -1 - e1, 0, 1 + e1, 1 + e1, 0, 0, 0, 0, 0, 0] : List Int).length : Int) := by show fault < 13; omega
    have hv := menu (ns := [0, 0, 0, -1 - e1, 0, 1 + e1, 1 + e1, 0, 0, 0, 0, 0, 0]) (P := fun x => x.natAbs ≤ 7) (fun x hx => by simp only [List.mem_cons, List.not_mem_nil, or_false] at hx; omega) f0 hlt
    refine ⟨_, atZ (ns := [0, 0, 0, -1 - e1, 0, 1 + e1, 1 + e1, 0, 0, 0, 0, 0, 0]) f0 hlt, an, rfl, by rw [List.length_map]; omega, point.set an (([0, 0, 0, -1 - e1, 0, 1 + e1, 1 + e1, 0, 0, 0, 0, 0, 0] : List Int).getD fault.toNat 0), by rw [List.length_set]; exact pl, fun p hp => ?_, fun z => absurd z (by omega), ?_⟩
    · rcases mem_set hp with z | z
      · exact pb p z
      · rw [z]; exact hv
    · rw [List.map_set]; kernel_rfl
  clear pl pb p2
  rintro _ ⟨point, pl, pb, p2, rfl⟩
  exact w_best2 ok a0 a1 f0 f1 hbn hk he1 he2 hk' pl pb p2
theorem w_best : Deep GB N__law_best_paper b__law_best_paper T_best := by
  rintro _ kk xx ⟨ns, at_, fault, ls, kinds, fs, gs, a, b, rfl, ok, a0, a1, f0, f1, hz, hk⟩
  have hib := ok.ib
  obtain ⟨bn, rfl⟩ : ∃ bn : Nat, b = (bn : Int) := ⟨b.toNat, by omega⟩
  refine ⟨ns, at_ + 9, rfl, by omega, by omega, fun c => ?_⟩
  refine ⟨c, true, [64, 3, 2], rfl, by decide, by decide, fun r hr => ?_⟩
  obtain ⟨e0, e1, e2, rfl, _, he1, he2⟩ := digs3 hr
  have W := w_best1 (e0 := e0) (kk := kk) (xx := xx) (ns := ns) ok a0 a1 f0 f1 (fun h => by
    by_cases z : kinds.length = 0
    · exact absurd h (hz z)
    · omega) hk he1 he2
  rw [← List.length_map (as := gs) (f := D.int)] at W
  exact W
end K00
set_option Elab.async false
set_option linter.all false
set_option maxRecDepth 100000
set_option maxHeartbeats 8000000
set_option pp.maxSteps 600
set_option exponentiation.threshold 50000
/-! k05: a paper of a point with an endless way. -/
namespace K00
open PySem PySem.Spec PyProof.Rows L2 DL
/-! _law_endless_paper(script, at, table, fault): slots script=0 at=1 table=2 fault=3 size=4 many=5 a=6 b=7 extra=8 k=9 way=10 mine=11 parts=12 drift=13 aim=14 point=15 bounds=16 digit=17 costs=18 rise=19 goal=20 laid=21 fields=22; calls _law_cell/2 _law_digits/2 _law_draws/3 _law_side/2 _law_sum/2 _law_bounds/5 _law_laid/3 _law_row_of/2 _law_cut/3 -/
def N__law_endless_paper : List Str := ["script", "at", "table", "fault", "size", "many", "a", "b", "extra", "k", "way", "mine", "parts", "drift", "aim", "point", "bounds", "digit", "costs", "rise", "goal", "laid", "fields"]
def fs__law_endless_paper : List Str := ["_law_cell", "_law_digits", "_law_draws", "_law_side", "_law_sum", "_law_bounds", "_law_laid", "_law_row_of", "_law_cut"]
def b__law_endless_paper : Xb := (.cons (.set 4 false [] (.bi .len (.cons (.ixn (.var 2) 3) .nil)))
 (.cons (.set 5 false [] (.bi .len (.cons (.ixn (.var 2) 1) .nil)))
 (.cons (.set 6 false [] (.ixn (.var 2) 4))
 (.cons (.set 7 false [] (.ixn (.var 2) 5))
 (.cons (.set 8 false [] (.call 1 (.cons (.call 0 (.cons (.var 0) (.cons (.bin .add (.var 1) (.int 9)) .nil))) (.cons (.lst (.cons (.int 64) (.cons (.int 3) (.cons (.int 2) .nil)))) .nil))))
 (.cons (.itj [9, 10, 11, 12, 13, 14, 15, 16, 17, 18, 19, 20, 21, 22] [] (.cmp .eq (.var 3) (.int 6)) (.cons (.set 6 false [] (.bin .mod (.bi .int (.cons (.var 6) .nil)) (.bin .sub (.var 4) (.int 1))))
 .nil) .nil)
 (.cons (.set 10 true [] (.lc 9 (.ix (.lst (.cons (.int 0) (.cons (.int 1) (.cons (.int 0) (.cons (.int 2) .nil))))) (.var 9)) (.sq (.call 2 (.cons (.call 0 (.cons (.var 0) (.cons (.bin .add (.var 1) (.int 4)) .nil))) (.cons (.int 4) (.cons (.var 4) .nil)))))))
 (.cons (.itj [9, 11, 12, 13, 14, 15, 16, 17, 18, 19, 20, 21, 22] [] (.cmp .eq (.var 3) (.int 6)) (.cons (.sti 10 [] (.int 0) (.bin .sub (.var 4) (.int 1)))
 .nil) .nil)
 (.cons (.sti 10 [] (.ix (.lst (.cons (.int 1) (.cons (.neg (.int 1)) .nil))) (.bi .int (.cons (.cmp .eq (.var 3) (.int 7)) .nil))) (.var 6))
 (.cons (.setT 12 (.lc 11 (.e [] (.bi .list (.cons (.var 11) .nil))) (.sq (.ixn (.var 2) 0))))
 (.cons (.set 13 false [] (.call 2 (.cons (.call 0 (.cons (.var 0) (.cons (.bin .add (.var 1) (.int 5)) .nil))) (.cons (.int 3) (.cons (.var 5) .nil)))))
 (.cons (.for_ [9, 11, 14, 15, 16, 17, 18, 19, 20, 21, 22] [] (.nm 9) (.rng (.var 5)) (.cons (.set 14 false [] (.bin .mul (.bin .mul (.ix (.var 13) (.var 9)) (.bi .int (.cons (.cmp .ne (.ix (.ixn (.var 2) 1) (.var 9)) (.str "same")) .nil))) (.bin .sub (.int 0) (.call 3 (.cons (.ix (.ixn (.var 2) 1) (.var 9)) (.cons (.int 0) .nil))))))
 (.cons (.itj [11, 15, 16, 17, 18, 19, 20, 21, 22] [] (.and (.cons (.cmp .eq (.var 3) (.int 8)) (.cons (.cmp .eq (.var 9) (.var 7)) .nil))) (.cons (.set 14 false [] (.call 3 (.cons (.ix (.ixn (.var 2) 1) (.var 9)) (.cons (.ixn (.var 8) 2) .nil))))
 .nil) .nil)
 (.cons (.stiT 12 (.sub .nm [] (.var 9)) [] (.var 6) (.e [10, 12] (.bin .add (.ix (.ix (.var 12) (.var 9)) (.var 6)) (.bin .mul (.ix (.var 10) (.var 6)) (.bin .sub (.var 14) (.call 4 (.cons (.ix (.var 12) (.var 9)) (.cons (.var 10) .nil))))))))
 .nil))))
 (.cons (.set 15 true [] (.lc 9 (.ix (.lst (.cons (.int 0) (.cons (.int 1) (.cons (.int 0) (.cons (.int 2) (.cons (.int 3) (.cons (.int 0) (.cons (.int 1) (.cons (.int 7) .nil))))))))) (.var 9)) (.sq (.call 2 (.cons (.call 0 (.cons (.var 0) (.cons (.bin .add (.var 1) (.int 6)) .nil))) (.cons (.int 8) (.cons (.var 4) .nil)))))))
 (.cons (.itj [9, 11, 13, 14, 16, 17, 18, 19, 20, 21, 22] [] (.cmp .eq (.var 3) (.int 2)) (.cons (.sti 15 [] (.int 0) (.bin .sub (.var 4) (.int 1)))
 .nil) .nil)
 (.cons (.itj [9, 11, 13, 14, 16, 17, 18, 19, 20, 21, 22] [] (.cmp .eq (.var 3) (.int 3)) (.cons (.sti 15 [] (.bin .sub (.neg (.int 1)) (.ixn (.var 8) 1)) (.ixn (.var 2) 4))
 .nil) .nil)
 (.cons (.set 16 false [12, 15] (.call 5 (.cons (.var 12) (.cons (.ixn (.var 2) 1) (.cons (.var 15) (.cons (.rep (.lst (.cons (.int 0) .nil)) (.var 5)) (.cons (.call 2 (.cons (.call 0 (.cons (.var 0) (.cons (.bin .add (.var 1) (.int 8)) .nil))) (.cons (.int 3) (.cons (.var 5) .nil)))) .nil)))))))
 (.cons (.set 18 true [] (.lc 17 (.bin .sub (.var 17) (.int 2)) (.sq (.call 2 (.cons (.call 0 (.cons (.var 0) (.cons (.bin .add (.var 1) (.int 7)) .nil))) (.cons (.int 6) (.cons (.var 4) .nil)))))))
 (.cons (.set 19 false [10, 18] (.call 4 (.cons (.var 18) (.cons (.var 10) .nil))))
 (.cons (.set 20 false [] (.bi .max (.cons (.var 19) (.cons (.int 0) .nil))))
 (.cons (.itj [0, 1, 4, 5, 9, 11, 13, 14, 17, 21, 22] [] (.cmp .gt (.var 3) (.int 8)) (.cons (.set 20 false [] (.ix (.lst (.cons (.int 0) (.cons (.bin .sub (.neg (.int 1)) (.ixn (.var 8) 1)) .nil))) (.bin .sub (.var 3) (.int 9))))
 .nil) .nil)
 (.cons (.sti 18 [10, 18] (.bin .add (.ix (.var 18) (.var 6)) (.bin .mul (.ix (.var 10) (.var 6)) (.bin .sub (.var 20) (.var 19)))) (.var 6))
 (.cons (.set 21 true [12, 18] (.call 6 (.cons (.var 18) (.cons (.var 16) (.cons (.lst (.cons (.var 12) (.cons (.ixn (.var 2) 1) (.cons (.ixn (.var 2) 2) (.cons (.ixn (.var 2) 3) .nil))))) .nil)))))
 (.cons (.itj [0, 1, 4, 5, 6, 9, 11, 13, 14, 16, 17, 18, 19, 20, 22] [] (.and (.cons (.cmp .lt (.var 3) (.int 9)) (.cons (.cmp .eq (.var 20) (.int 0)) .nil))) (.cons (.stiT 21 (.sub .nm [] (.int 0)) [] (.var 6) (.e [10, 21] (.bin .add (.ix (.ixn (.var 21) 0) (.var 6)) (.ix (.var 10) (.var 6)))))
 .nil) .nil)
 (.cons (.itj [0, 1, 4, 5, 6, 7, 8, 9, 11, 12, 13, 14, 16, 17, 18, 19, 20, 22] [] (.cmp .eq (.var 3) (.int 4)) (.cons (.stiT 21 (.sub (.sub .nm [] (.int 1)) [] (.var 7)) [] (.int 2) (.e [12, 15] (.bin .sub (.bin .mul (.call 4 (.cons (.ix (.var 12) (.var 7)) (.cons (.var 15) .nil))) (.ix (.ixn (.var 2) 2) (.var 7))) (.call 3 (.cons (.ix (.ixn (.var 2) 1) (.var 7)) (.cons (.ixn (.var 8) 2) .nil))))))
 .nil) .nil)
 (.cons (.set 22 false [10, 15] (.lst (.cons (.str "endless") (.cons (.call 7 (.cons (.var 15) (.cons (.ixn (.var 2) 3) .nil))) (.cons .non (.cons .non (.cons (.call 7 (.cons (.var 10) (.cons (.ixn (.var 2) 3) .nil))) .nil)))))))
 (.cons (.ite [] (.cmp .gt (.var 3) (.int 4)) (.cons (.ret [21] (.lst (.cons (.var 21) (.cons (.call 8 (.cons (.var 22) (.cons (.int 4) (.cons (.ix (.lst (.cons (.int 1) (.cons (.int 2) (.cons (.int 0) (.cons (.int 0) (.cons (.int 0) (.cons (.int 0) .nil))))))) (.bin .sub (.var 3) (.int 5))) .nil)))) .nil))))
 .nil) .nil)
 (.cons (.ret [21] (.lst (.cons (.var 21) (.cons (.call 8 (.cons (.var 22) (.cons (.int 1) (.cons (.ix (.lst (.cons (.int 0) (.cons (.int 1) (.cons (.int 2) (.cons (.int 0) (.cons (.int 0) .nil)))))) (.var 3)) .nil)))) .nil))))
 .nil)))))))))))))))))))))))))))
abbrev GE : List DSp := [T_cell, T_digits, T_draws, T_side, T_along, T_bounds, T_laid, T_lrow_of, T_cut]
def T_endless : DSp := fun ds kk _ => ∃ (ns : List Int) (at_ fault : Int) (ls : List (List Int)) (kinds : List Str) (fs gs : List Int) (a b : Int), ds = [.scr ns, .int at_, tabD ls kinds fs gs [.int a, .int b], .int fault] ∧ TabOk 0 ls kinds fs gs a b ∧ 0 ≤ at_ ∧ at_ ≤ 900000 ∧ 0 ≤ fault ∧ fault ≤ 10 ∧ (kinds.length = 0 → fault ∉ ([4, 8] : List Int)) ∧ (fault = 6 → 2 ≤ gs.length) ∧ PapK kk
/-- a point or a way -/
structure PtK (n m : Nat) (z : Prop) (ps : List Int) : Prop where
  l : ps.length = n
  b : ∀ p ∈ ps, p.natAbs ≤ m
  z : z → ps.getD (n - 1) 0 = 0
theorem PtK.bd {n m : Nat} {z : Prop} {ps : List Int} (h : PtK n m z ps) (hm : m < 8) {N : Nat} (hN : 3 ≤ N) : ∀ p ∈ ps, Bd N p := fun p hp => Bd.le (show Bd 3 p from Nat.lt_of_le_of_lt (h.b p hp) hm) hN
theorem PtK.set {n m : Nat} {z : Prop} {ps : List Int} {i : Nat} {v : Int} (h : PtK n m z ps) (hv : v.natAbs ≤ m) (hz : z → i + 1 < n) : PtK n m z (ps.set i v) := ⟨by rw [List.length_set]; exact h.l, fun f hf => by
  rcases mem_set hf with y | y
  · exact h.b f y
  · rw [y]; exact hv, fun y => by
  have := hz y
  rw [getD_set_ne (by omega)]; exact h.z y⟩
theorem w_end6 : ∀ {fault : Int} {ls : List (List Int)} {kinds : List Str} {fs gs point way : List Int} {cs : List Int} {dms : List Dem} {s0 s1 s4 s5 s6 s7 s8 s9 s11 s12 s13 s14 s16 s17 s18 s19 s20 s22 : S} {a b0 : Int} {kk : S → Prop} {xx : XD}, TabOk 0 ls kinds fs gs a b0 → 0 ≤ fault → fault ≤ 10 → PapK kk →
    PtK gs.length 7 (fault = 2) point → PtK gs.length 2 (fault = 6) way → PgOk 600 cs dms →
    wpb GE (dropB 24 b__law_endless_paper) [s0, s1, .sh (tab2 ls kinds fs gs a b0), .sh (.int fault), s4, s5, s6, s7, s8, s9, .ow (.lst (way.map .int)), s11, s12, s13, s14, .ow (.lst (point.map .int)), s16, s17, s18, s19, s20, .ow (.tr (laidTr cs dms)), s22] (edOf kk xx) := by
  intro fault ls kinds fs gs point way cs dms s0 s1 s4 s5 s6 s7 s8 s9 s11 s12 s13 s14 s16 s17 s18 s19 s20 s22 a b0 kk xx ok f0 f1 hk hp hw hpg
  have hm1 := ok.m1
  have hw1 := ok.w1
  have pl := hp.l
  have wl := hw.l
  refine ⟨true, true, point, gs, rfl, by omega, by omega, hp.bd (by decide) (by decide), ok.fg, fun ps q g pl1 pb qb pz => ?_⟩
  refine ⟨true, true, way, gs, rfl, by omega, by omega, hw.bd (by decide) (by decide), ok.fg, fun ps2 q2 g2 pl2 pb2 qb2 pz2 => ?_⟩
  refine keep_lend ?_
  refine ⟨fun hc => ?_, fun hc => ?_⟩
  · have hn : 0 ≤ fault - 5 := by omega
    have hn1 : fault - 5 < (([1, 2, 0, 0, 0, 0] : List Int).length : Int) := by show fault - 5 < 6; omega
    refine ⟨_, atZ (ns := [1, 2, 0, 0, 0, 0]) hn hn1, true, _, 4, _, ps2, q2, rfl, rfl, by omega, ?_⟩
    have hw2 : ([1, 2, 0, 0, 0, 0] : List Int).getD (fault - 5).toNat 0 = 2 → ps2.getD (ps2.length - 1) 0 = 0 := fun z => by
      have := wayIs (i := 1) hn hn1 (by decide) z
      rw [pl2, wl]
      exact pz2 _ (hw.z (by omega))
    have := hk (cs, dms, .endless ps q (cutRow (([1, 2, 0, 0, 0, 0] : List Int).getD (fault - 5).toNat 0) ps2) q2) ⟨hpg.le (by decide) (by decide), ⟨fun p hp => (pb p hp).le (by decide), qb.le (by decide), fun p hp => (cutRow_bd pb2 p hp).le (by decide), qb2.le (by decide)⟩, g, g2.cut hw2⟩ (show ps.length ≤ 200 by omega)
    have e : paperD (cs, dms, .endless ps q (cutRow (([1, 2, 0, 0, 0, 0] : List Int).getD (fault - 5).toNat 0) ps2) q2) = .sq true [.sq true (Tr.ds (laidTr cs dms)), fieldsD (.endless ps q (cutRow (([1, 2, 0, 0, 0, 0] : List Int).getD (fault - 5).toNat 0) ps2) q2)] := by
      rw [laidTr_d]; rfl
    rw [e] at this
    exact this
  · have hn1 : fault < (([0, 1, 2, 0, 0] : List Int).length : Int) := by show fault < 5; omega
    refine ⟨_, atZ (ns := [0, 1, 2, 0, 0]) f0 hn1, true, _, 1, _, ps, q, rfl, rfl, by omega, ?_⟩
    have hw2 : ([0, 1, 2, 0, 0] : List Int).getD fault.toNat 0 = 2 → ps.getD (ps.length - 1) 0 = 0 := fun z => by
      have := wayIs (i := 2) f0 hn1 (by decide) z
      rw [pl1, pl]
      exact pz _ (hp.z this)
    have := hk (cs, dms, .endless (cutRow (([0, 1, 2, 0, 0] : List Int).getD fault.toNat 0) ps) q ps2 q2) ⟨hpg.le (by decide) (by decide), ⟨fun p hp => (cutRow_bd pb p hp).le (by decide), qb.le (by decide), fun p hp => (pb2 p hp).le (by decide), qb2.le (by decide)⟩, g.cut hw2, g2⟩ (Nat.le_trans cut_len (by omega))
    have e : paperD (cs, dms, .endless (cutRow (([0, 1, 2, 0, 0] : List Int).getD fault.toNat 0) ps) q ps2 q2) = .sq true [.sq true (Tr.ds (laidTr cs dms)), fieldsD (.endless (cutRow (([0, 1, 2, 0, 0] : List Int).getD fault.toNat 0) ps) q ps2 q2)] := by
      rw [laidTr_d]; rfl
    rw [e] at this
    exact this
theorem w_end5 : ∀ {fault : Int} {ls : List (List Int)} {kinds : List Str} {fs gs point way costs bounds : List Int} {pl : List (List Int)} {e0 e1 e2 : Int} {s0 s1 s4 s5 s9 s11 s13 s14 s17 s19 s21 s22 : S} {goal a0 : Int} {a b : Nat} {kk : S → Prop} {xx : XD}, TabOk 0 ls kinds fs gs a0 (b : Int) → 0 ≤ fault → fault ≤ 10 → (fault ∈ ([4, 8] : List Int) → b < kinds.length) → PapK kk → (0 ≤ e2 ∧ e2 < 2) → a < gs.length →
    PtK gs.length 7 (fault = 2) point → PtK gs.length 2 (fault = 6) way → pl.length = kinds.length → (∀ ps ∈ pl, ps.length = gs.length ∧ ∀ p ∈ ps, Bd 40 p) → costs.length = gs.length → (∀ c ∈ costs, Bd 40 c) → bounds.length = kinds.length → (∀ x ∈ bounds, Bd 90 x) →
    wpb GE (dropB 21 b__law_endless_paper) [s0, s1, .sh (tab2 ls kinds fs gs a0 (b : Int)), .sh (.int fault), s4, s5, .sh (.int (a : Int)), .sh (.int (b : Int)), .sh (ex3 e0 e1 e2), s9, .ow (.lst (way.map .int)), s11, .ow (.tr (lsTr pl)), s13, s14, .ow (.lst (point.map .int)), .sh (.sq true (bounds.map .int)), s17, .ow (.lst (costs.map .int)), s19, .sh (.int goal), s21, s22] (edOf kk xx) := by
  intro fault ls kinds fs gs point way costs bounds pl e0 e1 e2 s0 s1 s4 s5 s9 s11 s13 s14 s17 s19 s21 s22 goal a0 a b kk xx ok f0 f1 hbn hk he2 ha hp hw hpl hpp hcl hc hbl hb
  have hm1 := ok.m1
  have hw1 := ok.w1
  have hlf := ok.lf
  have wl := hw.l
  have ptl := hp.l
  refine ⟨true, true, costs, bounds, pl, kinds, fs, gs, [], ?_, by omega, by omega, by omega, by omega, by omega, by omega, fun ps hps => ⟨by rw [(hpp ps hps).1, hcl], fun p hp => ((hpp ps hps).2 p hp).le (by decide)⟩, fun f hfm => dvd_bd (ok.ff f hfm).d, fun g hg => dvd_bd (ok.fg g hg).d, fun x hx => (hc x hx).le (by decide), fun x hx => (hb x hx).le (by decide), fun cs dms hpg hcl2 hdl => ?_⟩
  · show [D.sq true (costs.map .int), D.sq true (bounds.map .int), D.sq true [D.sq true (Tr.ds (lsTr pl)), _, _, _]] = _
    rw [lsTr_d]
    rfl
  refine keep_lend ?_
  refine join (fun δ => ∃ cs' : List Int, PgOk 540 cs' dms ∧ cs'.length = gs.length ∧ δ = [.no, .no, .sh (tab2 ls kinds fs gs a0 (b : Int)), .sh (.int fault), .no, .no, .no, .sh (.int (b : Int)), .sh (ex3 e0 e1 e2), .no, .ow (.lst (way.map .int)), .no, .sh (.sq true (lsD true pl)), .no, .no, .ow (.lst (point.map .int)), .no, .no, .no, .no, .no, .ow (.tr (laidTr cs' dms)), .no]) ⟨fun _ => ⟨fun _ => ?_, fun _ => ⟨cs, hpg.le (by decide) (by decide), by omega, ?_⟩⟩, fun _ => ⟨cs, hpg.le (by decide) (by decide), by omega, ?_⟩⟩ ?_
  · have hac : a < cs.length := by omega
    have bw := hw.bd (by decide) (N := 3) (by decide) _ (gdm (show a < way.length by omega))
    refine ⟨_, atCostT hac, _, atG (show a < way.length by omega), .flat trivial, 0, rfl, _, rfl, a, rfl, by rw [List.length_map]; omega, cs.set a (cs.getD a 0 + way.getD a 0), (hpg.le (M := 540) (by decide) (by decide)).cost (((hpg.bc _ (gdm hac)).add bw (n := 521) (by decide) (by decide)).le (by decide)), by rw [List.length_set]; omega, ?_⟩
    rw [← upd_cost, ← lsTr_d]; kernel_rfl
  · rw [← lsTr_d]; kernel_rfl
  · rw [← lsTr_d]; kernel_rfl
  rintro _ ⟨cs1, hp1, hcl1, rfl⟩
  refine join (fun δ => ∃ dms' : List Dem, PgOk 550 cs1 dms' ∧ dms'.length = dms.length ∧ δ = [.no, .no, .sh (tab2 ls kinds fs gs a0 (b : Int)), .sh (.int fault), .no, .no, .no, .no, .no, .no, .ow (.lst (way.map .int)), .no, .no, .no, .no, .ow (.lst (point.map .int)), .no, .no, .no, .no, .no, .ow (.tr (laidTr cs1 dms')), .no]) ⟨fun h => ?_, fun _ => ⟨dms, hp1.le (by decide) (by decide), rfl, ?_⟩⟩ ?_
  · have hb2 := hbn (by rw [h]; decide)
    have hbd : b < dms.length := by omega
    have hd := dem_mem hbd
    have hm := hpp _ (ls_mem (show b < pl.length by omega))
    have bpt := hp.bd (by decide) (N := 40) (by decide)
    have hv := dotL_bd hm.2 bpt (by omega) (by omega)
    have bf1 := dvd_bd (ok.ff _ (gdm (show b < fs.length by omega))).d
    refine ⟨_, atLs (show b < pl.length by omega), true, true, _, point, 40, rfl, by omega, by omega, hm.2, bpt, by decide, _, atG (show b < fs.length by omega), hv.mulW bf1 (by decide), _, atStr (show b < kinds.length by omega), _, e2, rfl, he2.1, he2.2, fun s hs => ?_⟩
    have bs : Bd 1 s := show s.natAbs < 2 ^ 1 by rcases hs with rfl | rfl <;> decide
    have h2 := (hv.mul bf1).sub bs (n := 308) (by decide) (by decide)
    refine ⟨.flat trivial, 1, rfl, _, rfl, b, rfl, _, get_dem hbd, 2, rfl, (show 2 < 3 by decide), dms.set b ((demAt dms b).1, (demAt dms b).2.1, dotL (pl.getD b []) point * fs.getD b 0 - s), (hp1.le (M := 550) (by decide) (by decide)).dem (show (demAt dms b).1.length = cs1.length from hp1.wd _ hd) (fun p hp => (hp1.bp _ hd p hp).le (by decide)) (h2.le (by decide)), by rw [List.length_set], ?_⟩
    rw [← upd_bound hbd]; kernel_rfl
  · kernel_rfl
  rintro _ ⟨dms2, hp3, hl2, rfl⟩
  exact w_end6 ok f0 f1 hk hp hw (hp3.le (by decide) (by decide))
end K00
set_option Elab.async false
set_option linter.all false
set_option maxRecDepth 100000
set_option maxHeartbeats 8000000
set_option pp.maxSteps 600
set_option exponentiation.threshold 50000
/-! k05: a paper of a point with an endless way: before the laying. -/
namespace K00
open PySem PySem.Spec PyProof.Rows L2 DL
theorem w_end4 : ∀ {ns : List Int} {at_ fault : Int} {ls : List (List Int)} {kinds : List Str} {fs gs point way bounds : List Int} {pl : List (List Int)} {e0 e1 e2 : Int} {s5 s9 s11 s13 s14 : S} {a0 : Int} {a b : Nat} {kk : S → Prop} {xx : XD}, TabOk 0 ls kinds fs gs a0 (b : Int) → 0 ≤ at_ → at_ ≤ 900000 → 0 ≤ fault → fault ≤ 10 → (fault ∈ ([4, 8] : List Int) → b < kinds.length) → PapK kk → (0 ≤ e1 ∧ e1 < 3) → (0 ≤ e2 ∧ e2 < 2) → a < gs.length →
    PtK gs.length 7 (fault = 2) point → PtK gs.length 2 (fault = 6) way → pl.length = kinds.length → (∀ ps ∈ pl, ps.length = gs.length ∧ ∀ p ∈ ps, Bd 40 p) → bounds.length = kinds.length → (∀ x ∈ bounds, Bd 90 x) →
    wpb GE (dropB 16 b__law_endless_paper) [.sh (.scr ns), .sh (.int at_), .sh (tab2 ls kinds fs gs a0 (b : Int)), .sh (.int fault), .sh (.int ((gs.length : Nat) : Int)), s5, .sh (.int (a : Int)), .sh (.int (b : Int)), .sh (ex3 e0 e1 e2), s9, .ow (.lst (way.map .int)), s11, .ow (.tr (lsTr pl)), s13, s14, .ow (.lst (point.map .int)), .sh (.sq true (bounds.map .int)), .no, .no, .no, .no, .no, .no] (edOf kk xx) := by
  intro ns at_ fault ls kinds fs gs point way bounds pl e0 e1 e2 s5 s9 s11 s13 s14 a0 a b kk xx ok a0' a1' f0 f1 hbn hk he1 he2 ha hp hw hpl hpp hbl hb
  have hm1 := ok.m1
  have hw1 := ok.w1
  have wl := hw.l
  refine ⟨ns, at_ + 7, rfl, by omega, by omega, fun c => ?_⟩
  refine ⟨c, 6, gs.length, rfl, by decide, by decide, by omega, fun r hr => ?_⟩
  obtain ⟨rl, rd⟩ := hr
  refine lcw .int (fun d => .int (d - 2)) (by omega) (fun d _ => rfl) ?_
  have eb : (r.map fun d => D.int (d - 2)) = (r.map fun d => d - 2).map .int := by rw [List.map_map]; rfl
  rw [eb]
  have cl : (r.map fun d => d - 2).length = gs.length := by rw [List.length_map, rl]
  have cb : ∀ x ∈ r.map (fun d => d - 2), Bd 4 x := fun x hx => by
    obtain ⟨d, hd, rfl⟩ := List.mem_map.mp hx
    have := rd d hd
    show (d - 2).natAbs < 2 ^ 4
    omega
  generalize (r.map fun d => d - 2) = costs at *
  have bway := hw.bd (by decide) (N := 4) (by decide)
  refine ⟨true, true, costs, way, 4, rfl, by omega, by omega, cb, bway, by decide, ?_⟩
  have hrise := dotL_bd cb bway (by omega) (by omega)
  generalize dotL costs way = rise at *
  refine keep_safe (.flat trivial) ?_
  refine join (fun δ => ∃ goal : Int, Bd 20 goal ∧ δ = [.no, .no, .sh (tab2 ls kinds fs gs a0 (b : Int)), .sh (.int fault), .no, .no, .sh (.int (a : Int)), .sh (.int (b : Int)), .sh (ex3 e0 e1 e2), .no, .ow (.lst (way.map .int)), .no, .ow (.tr (lsTr pl)), .no, .no, .ow (.lst (point.map .int)), .sh (.sq true (bounds.map .int)), .no, .ow (.lst (costs.map .int)), .sh (.int rise), .sh (.int goal), .no, .no]) ⟨fun h => ?_, fun _ => ⟨_, ?_, rfl⟩⟩ ?_
  · have hn : 0 ≤ fault - 9 := by omega
    have hn1 : fault - 9 < (([0, -1 - e1] : List Int).length : Int) := by show fault - 9 < 2; omega
    have hv := menu (ns := [0, -1 - e1]) (P := fun x => x.natAbs ≤ 3) (fun x hx => by simp only [List.mem_cons, List.not_mem_nil, or_false] at hx; omega) hn hn1
    exact ⟨_, atZ (ns := [0, -1 - e1]) hn hn1, _, Nat.lt_of_le_of_lt hv (by decide), rfl⟩
  · split
    · exact bd0 _
    · exact hrise.le (by decide)
  rintro _ ⟨goal, hg, rfl⟩
  have hca := cb _ (gdm (show a < costs.length by omega))
  have hwa := bway _ (gdm (show a < way.length by omega))
  have hgr := hg.sub hrise (n := 21) (by decide) (by decide)
  refine ⟨_, atG (show a < costs.length by omega), _, atG (show a < way.length by omega), hwa.mulW hgr (by decide), keep_safe (.flat trivial) ⟨a, rfl, by rw [List.length_map]; omega, ?_⟩⟩
  have hnew := (hca.add (hwa.mul hgr) (n := 26) (by decide) (by decide)).le (n := 40) (by decide)
  have W := w_end5 (e0 := e0) (e1 := e1) (goal := goal) (kk := kk) (xx := xx) (costs := costs.set a (costs.getD a 0 + way.getD a 0 * (goal - rise))) (s0 := .no) (s1 := .no) (s4 := .no) (s5 := .no) (s9 := .no) (s11 := .no) (s13 := .no) (s14 := .no) (s17 := .no) (s19 := .sh (.int rise)) (s21 := .no) (s22 := .no) ok f0 f1 hbn hk he2 ha hp hw hpl hpp (by rw [List.length_set]; exact cl) (fun x hx => by
    rcases mem_set hx with z | z
    · exact (cb x z).le (by decide)
    · rw [z]; exact hnew) hbl hb
  rw [List.map_set] at W
  exact W
theorem w_end3 : ∀ {ns : List Int} {at_ fault : Int} {ls : List (List Int)} {kinds : List Str} {fs gs way : List Int} {pl : List (List Int)} {e0 e1 e2 : Int} {s13 : S} {a0 : Int} {a b : Nat} {kk : S → Prop} {xx : XD}, TabOk 0 ls kinds fs gs a0 (b : Int) → 0 ≤ at_ → at_ ≤ 900000 → 0 ≤ fault → fault ≤ 10 → (fault ∈ ([4, 8] : List Int) → b < kinds.length) → PapK kk → (0 ≤ e1 ∧ e1 < 3) → (0 ≤ e2 ∧ e2 < 2) → a < gs.length →
    PtK gs.length 2 (fault = 6) way → pl.length = kinds.length → (∀ ps ∈ pl, ps.length = gs.length ∧ ∀ p ∈ ps, Bd 40 p) →
    wpb GE (dropB 12 b__law_endless_paper) [.sh (.scr ns), .sh (.int at_), .sh (tab2 ls kinds fs gs a0 (b : Int)), .sh (.int fault), .sh (.int ((gs.length : Nat) : Int)), .sh (.int ((kinds.length : Nat) : Int)), .sh (.int (a : Int)), .sh (.int (b : Int)), .sh (ex3 e0 e1 e2), .no, .ow (.lst (way.map .int)), .no, .ow (.tr (lsTr pl)), s13, .no, .no, .no, .no, .no, .no, .no, .no, .no] (edOf kk xx) := by
  intro ns at_ fault ls kinds fs gs way pl e0 e1 e2 s13 a0 a b kk xx ok a0' a1' f0 f1 hbn hk he1 he2 ha hw hpl hpp
  have hm1 := ok.m1
  have hw1 := ok.w1
  have hw0 := ok.w0
  have ia := ok.ia
  obtain ⟨an, rfl⟩ : ∃ an : Nat, a0 = (an : Int) := ⟨a0.toNat, by omega⟩
  refine ⟨ns, at_ + 6, rfl, by omega, by omega, fun c => ?_⟩
  refine ⟨c, 8, gs.length, rfl, by decide, by decide, by omega, fun r hr => ?_⟩
  obtain ⟨rl, rd⟩ := hr
  refine lcw .int (fun d => .int (([0, 1, 0, 2, 3, 0, 1, 7] : List Int).getD d.toNat 0)) (by omega) (fun d hd => ⟨_, atZ (ns := [0, 1, 0, 2, 3, 0, 1, 7]) (rd d hd).1 (rd d hd).2, rfl⟩) ?_
  have em : (r.map fun d => D.int (([0, 1, 0, 2, 3, 0, 1, 7] : List Int).getD d.toNat 0)) = (r.map fun d => ([0, 1, 0, 2, 3, 0, 1, 7] : List Int).getD d.toNat 0).map .int := by rw [List.map_map]; rfl
  rw [em]
  have p0 : PtK gs.length 7 False (r.map fun d => ([0, 1, 0, 2, 3, 0, 1, 7] : List Int).getD d.toNat 0) := ⟨by rw [List.length_map, rl], fun p hp => by
    obtain ⟨d, hd, rfl⟩ := List.mem_map.mp hp
    exact menu (ns := [0, 1, 0, 2, 3, 0, 1, 7]) (P := fun x => x.natAbs ≤ 7) (by decide) (rd d hd).1 (rd d hd).2, fun z => z.elim⟩
  generalize (r.map fun d => ([0, 1, 0, 2, 3, 0, 1, 7] : List Int).getD d.toNat 0) = point at *
  refine join (fun δ => ∃ point : List Int, PtK gs.length 7 (fault = 2) point ∧ δ = [.sh (.scr ns), .sh (.int at_), .sh (tab2 ls kinds fs gs (an : Int) (b : Int)), .sh (.int fault), .sh (.int ((gs.length : Nat) : Int)), .sh (.int ((kinds.length : Nat) : Int)), .sh (.int (a : Int)), .sh (.int (b : Int)), .sh (ex3 e0 e1 e2), .no, .ow (.lst (way.map .int)), .no, .ow (.tr (lsTr pl)), .no, .no, .ow (.lst (point.map .int)), .no, .no, .no, .no, .no, .no, .no]) ⟨fun h => ?_, fun h => ⟨point, ⟨p0.l, p0.b, fun z => absurd z h⟩, ?_⟩⟩ ?_
  · have pl := p0.l
    refine ⟨gs.length - 1, by omega, by rw [List.length_map]; omega, point.set (gs.length - 1) 0, ⟨by rw [List.length_set]; exact pl, fun p hp => ?_, fun _ => getD_set_eq (by omega)⟩, ?_⟩
    · rcases mem_set hp with z | z
      · exact p0.b p z
      · rw [z]; decide
    · rw [List.map_set]; kernel_rfl
  · kernel_rfl
  clear p0
  rintro _ ⟨point, p1, rfl⟩
  refine join (fun δ => ∃ point : List Int, PtK gs.length 7 (fault = 2) point ∧ δ = [.sh (.scr ns), .sh (.int at_), .sh (tab2 ls kinds fs gs (an : Int) (b : Int)), .sh (.int fault), .sh (.int ((gs.length : Nat) : Int)), .sh (.int ((kinds.length : Nat) : Int)), .sh (.int (a : Int)), .sh (.int (b : Int)), .sh (ex3 e0 e1 e2), .no, .ow (.lst (way.map .int)), .no, .ow (.tr (lsTr pl)), .no, .no, .ow (.lst (point.map .int)), .no, .no, .no, .no, .no, .no, .no]) ⟨fun h => ?_, fun h => ⟨point, p1, ?_⟩⟩ ?_
  · have pl := p1.l
    refine ⟨an, rfl, by rw [List.length_map]; omega, point.set an (-1 - e1), ⟨by rw [List.length_set]; exact pl, fun p hp => ?_, fun z => absurd z (by omega)⟩, ?_⟩
    · rcases mem_set hp with z | z
      · exact p1.b p z
      · rw [z]; omega
    · rw [List.map_set]; kernel_rfl
  · kernel_rfl
  clear p1
  rintro _ ⟨point, p1, rfl⟩
  have ptl := p1.l
  refine ⟨⟨by omega, by omega, by rw [Int.toNat_natCast]; show 1 * _ ≤ _; omega⟩, ?_⟩
  refine ⟨ns, at_ + 8, rfl, by omega, by omega, fun c8 => ?_⟩
  refine ⟨c8, 3, kinds.length, rfl, by decide, by decide, by omega, fun r2 hr2 => ?_⟩
  obtain ⟨rl2, rd2⟩ := hr2
  refine ⟨true, true, true, true, true, true, pl, kinds, point, zerosL kinds.length, r2, ?_, by omega, by unfold zerosL; rw [List.length_replicate]; omega, by omega, by omega, fun ps hps => ⟨by rw [(hpp ps hps).1]; omega, (hpp ps hps).2⟩, by omega, p1.bd (by decide) (by decide), fun x hx => ?_, fun bs hbl hbb => ?_⟩
  · rw [← rep0, ← lsTr_d]
    show [_, _, _, D.sq true (List.replicate ((kinds.length : Nat) : Int).toNat [D.int 0]).flatten, _] = _
    rw [Int.toNat_natCast]
    rfl
  · have := rd2 x hx
    show x.natAbs < 2 ^ 40
    omega
  refine keep_safe flat_ints' ?_
  exact w_end4 ok a0' a1' f0 f1 hbn hk he1 he2 ha p1 hw hpl hpp hbl hbb
end K00
set_option Elab.async false
set_option linter.all false
set_option maxRecDepth 100000
set_option maxHeartbeats 8000000
set_option pp.maxSteps 600
set_option exponentiation.threshold 50000
/-! k05: a paper of a point with an endless way: way and parts; the def. -/
namespace K00
open PySem PySem.Spec PyProof.Rows L2 DL
theorem atLsT {ls : List (List Int)} {i : Nat} (h : i < ls.length) : atI (Tr.ds (lsTr ls)) (i : Int) = some (.sq true ((ls.getD i []).map .int)) := by
  rw [lsTr_d]; exact atLs h
theorem b01 {p : Prop} [Decidable p] : Bd 1 (if p then (1 : Int) else 0) := by
  split
  · exact show (1 : Int).natAbs < 2 ^ 1 by decide
  · exact bd0 1
structure RowsK (n w i : Nat) (pl : List (List Int)) : Prop where
  l : pl.length = n
  r : ∀ k, k < n → (pl.getD k []).length = w ∧ (∀ p ∈ pl.getD k [], Bd 40 p) ∧ (i ≤ k → ∀ p ∈ pl.getD k [], Bd 22 p)
theorem RowsK.all {n w i : Nat} {pl : List (List Int)} (h : RowsK n w i pl) : ∀ ps ∈ pl, ps.length = w ∧ ∀ p ∈ ps, Bd 40 p := fun ps hps => by
  obtain ⟨k, hk, rfl⟩ := List.getElem_of_mem hps
  have := h.r k (by have := h.l; omega)
  rw [List.getD_eq_getElem?_getD, List.getElem?_eq_getElem hk] at this
  exact ⟨this.1, this.2.1⟩
theorem RowsK.step {n w i : Nat} {pl : List (List Int)} {v : Int} {a : Nat} (h : RowsK n w i pl) (hi : i < n) (hv : Bd 40 v) : RowsK n w (i + 1) (pl.set i ((pl.getD i []).set a v)) := ⟨by rw [List.length_set]; exact h.l, fun k hk => by
  have hl := h.l
  have hr := h.r k hk
  by_cases e : k = i
  · subst e
    have e2 : (pl.set k ((pl.getD k []).set a v)).getD k [] = (pl.getD k []).set a v := by
      rw [List.getD_eq_getElem?_getD, List.getElem?_set_self (by omega)]; rfl
    rw [e2]
    refine ⟨by rw [List.length_set]; exact hr.1, fun p hp => ?_, fun z => by omega⟩
    rcases mem_set hp with z | z
    · exact hr.2.1 p z
    · rw [z]; exact hv
  · have e2 : (pl.set i ((pl.getD i []).set a v)).getD k [] = pl.getD k [] := by
      rw [List.getD_eq_getElem?_getD, List.getElem?_set_ne (by omega), List.getD_eq_getElem?_getD]
    rw [e2]
    exact ⟨hr.1, hr.2.1, fun z => hr.2.2 (by omega)⟩⟩
theorem w_end2 : ∀ {ns : List Int} {at_ fault : Int} {ls : List (List Int)} {kinds : List Str} {fs gs way drift : List Int} {e0 e1 e2 : Int} {a0 : Int} {a b : Nat} {kk : S → Prop} {xx : XD}, TabOk 0 ls kinds fs gs a0 (b : Int) → 0 ≤ at_ → at_ ≤ 900000 → 0 ≤ fault → fault ≤ 10 → (fault ∈ ([4, 8] : List Int) → b < kinds.length) → PapK kk → (0 ≤ e1 ∧ e1 < 3) → (0 ≤ e2 ∧ e2 < 2) → a < gs.length →
    PtK gs.length 2 (fault = 6) way → drift.length = kinds.length → (∀ x ∈ drift, 0 ≤ x ∧ x < 3) →
    wpb GE (dropB 11 b__law_endless_paper) [.sh (.scr ns), .sh (.int at_), .sh (tab2 ls kinds fs gs a0 (b : Int)), .sh (.int fault), .sh (.int ((gs.length : Nat) : Int)), .sh (.int ((kinds.length : Nat) : Int)), .sh (.int (a : Int)), .sh (.int (b : Int)), .sh (ex3 e0 e1 e2), .no, .ow (.lst (way.map .int)), .no, .ow (.tr (lsTr ls)), .sh (.sq true (drift.map .int)), .no, .no, .no, .no, .no, .no, .no, .no, .no] (edOf kk xx) := by
  intro ns at_ fault ls kinds fs gs way drift e0 e1 e2 a0 a b kk xx ok a0' a1' f0 f1 hbn hk he1 he2 ha hw hdl hdr
  have hm1 := ok.m1
  have hw1 := ok.w1
  have wl := hw.l
  have bway := hw.bd (by decide) (N := 22) (by decide)
  have bway3 := hw.bd (by decide) (N := 3) (by decide)
  refine ⟨⟨by omega, by omega⟩, fun i δ => ∃ pl : List (List Int), RowsK kinds.length gs.length i pl ∧ δ = [.sh (.scr ns), .sh (.int at_), .sh (tab2 ls kinds fs gs a0 (b : Int)), .sh (.int fault), .sh (.int ((gs.length : Nat) : Int)), .sh (.int ((kinds.length : Nat) : Int)), .sh (.int (a : Int)), .sh (.int (b : Int)), .sh (ex3 e0 e1 e2), .no, .ow (.lst (way.map .int)), .no, .ow (.tr (lsTr pl)), .sh (.sq true (drift.map .int)), .no, .no, .no, .no, .no, .no, .no, .no, .no], ⟨ls, ⟨ok.ll, fun k hk => ?_⟩, rfl⟩, fun i δ1 hi hI => ?_, fun δ1 hI => ?_⟩
  · have := ok.lp _ (ls_mem (show k < ls.length by rw [ok.ll]; exact hk))
    exact ⟨this.1, fun p hp => (this.2 p hp).le (by decide), fun _ => this.2⟩
  · obtain ⟨pl, hr, rfl⟩ := hI
    have hi : i < kinds.length := by rw [Int.toNat_natCast] at hi; exact hi
    have hpl := hr.l
    have hri := hr.r i hi
    have hd := hdr _ (gdm (show i < drift.length by omega))
    have bd : Bd 2 (drift.getD i 0) := show (drift.getD i 0).natAbs < 2 ^ 2 by omega
    refine ⟨_, atG (show i < drift.length by omega), _, atStr hi, bd.mulW b01 (by decide), _, atStr hi, _, 0, rfl, by decide, by decide, fun s hs => ?_⟩
    have bs : Bd 1 s := show s.natAbs < 2 ^ 1 by rcases hs with rfl | rfl <;> decide
    have b0s : Bd 2 (0 - s) := Bd.sub (a := 1) (b := 1) (bd0 1) bs (by decide) (by decide)
    refine ⟨(bd.mul b01).mulW b0s (by decide), ?_⟩
    have bm := (bd.mul (b01 (p := decide (kinds.getD i "" ≠ "same") = true))).mul b0s
    refine join (fun δ => ∃ aim : Int, Bd 5 aim ∧ δ = [.sh (.scr ns), .sh (.int at_), .sh (tab2 ls kinds fs gs a0 (b : Int)), .sh (.int fault), .sh (.int ((gs.length : Nat) : Int)), .sh (.int ((kinds.length : Nat) : Int)), .sh (.int (a : Int)), .sh (.int (b : Int)), .sh (ex3 e0 e1 e2), .sh (.int (i : Int)), .ow (.lst (way.map .int)), .no, .ow (.tr (lsTr pl)), .sh (.sq true (drift.map .int)), .sh (.int aim), .no, .no, .no, .no, .no, .no, .no, .no]) ⟨fun _ => ⟨fun _ => ⟨_, atStr hi, _, e2, rfl, he2.1, he2.2, fun t ht => ⟨t, ?_, rfl⟩⟩, fun _ => ⟨_, (bd.mul b01).mul b0s, rfl⟩⟩, fun _ => ⟨_, (bd.mul b01).mul b0s, rfl⟩⟩ ?_
    · exact show t.natAbs < 2 ^ 5 by rcases ht with rfl | rfl <;> decide
    rintro _ ⟨aim, hm, rfl⟩
    have b22 := hri.2.2 (Nat.le_refl _)
    have hdot := dotL_bd b22 bway3 (by omega) (by omega)
    have hdif := hm.sub hdot (n := 33) (by decide) (by decide)
    have hwa := bway3 _ (gdm (show a < way.length by omega))
    have hra := b22 _ (gdm (show a < (pl.getD i []).length by omega))
    have hnew := (hra.add (hwa.mul hdif) (n := 37) (by decide) (by decide)).le (n := 40) (by decide)
    refine ⟨_, atLsT (show i < pl.length by omega), _, atG (show a < (pl.getD i []).length by omega), _, atG (show a < way.length by omega), _, atLsT (show i < pl.length by omega), true, true, _, way, 22, rfl, by omega, by omega, b22, bway, by decide, hwa.mulW hdif (by decide), .flat trivial, i, rfl, _, get_ls (show i < pl.length by omega), a, rfl, by rw [List.length_map]; omega, _, hr.step hi hnew (a := a), ?_⟩
    rw [← upd_ls (show i < pl.length by omega)]; kernel_rfl
  · obtain ⟨pl, hr, rfl⟩ := hI
    exact w_end3 ok a0' a1' f0 f1 hbn hk he1 he2 ha hw hr.l hr.all
theorem w_end1 : ∀ {ns : List Int} {at_ fault : Int} {ls : List (List Int)} {kinds : List Str} {fs gs : List Int} {e0 e1 e2 : Int} {a : Int} {b : Nat} {kk : S → Prop} {xx : XD}, TabOk 0 ls kinds fs gs a (b : Int) → 0 ≤ at_ → at_ ≤ 900000 → 0 ≤ fault → fault ≤ 10 → (fault ∈ ([4, 8] : List Int) → b < kinds.length) → (fault = 6 → 2 ≤ gs.length) → PapK kk → (0 ≤ e1 ∧ e1 < 3) → (0 ≤ e2 ∧ e2 < 2) →
    wpb GE (dropB 5 b__law_endless_paper) [.sh (.scr ns), .sh (.int at_), .sh (tab2 ls kinds fs gs a (b : Int)), .sh (.int fault), .sh (.int ((gs.length : Nat) : Int)), .sh (.int ((kinds.length : Nat) : Int)), .sh (.int a), .sh (.int (b : Int)), .sh (ex3 e0 e1 e2), .no, .no, .no, .no, .no, .no, .no, .no, .no, .no, .no, .no, .no, .no] (edOf kk xx) := by
  intro ns at_ fault ls kinds fs gs e0 e1 e2 a b kk xx ok a0' a1' f0 f1 hbn h6 hk he1 he2
  have hm1 := ok.m1
  have hw0 := ok.w0
  have hw1 := ok.w1
  have hll := ok.ll
  have ia := ok.ia
  refine join (fun δ => ∃ a' : Nat, a' < gs.length ∧ (fault = 6 → a' + 1 < gs.length) ∧ δ = [.sh (.scr ns), .sh (.int at_), .sh (tab2 ls kinds fs gs a (b : Int)), .sh (.int fault), .sh (.int ((gs.length : Nat) : Int)), .sh (.int ((kinds.length : Nat) : Int)), .sh (.int (a' : Int)), .sh (.int (b : Int)), .sh (ex3 e0 e1 e2), .no, .no, .no, .no, .no, .no, .no, .no, .no, .no, .no, .no, .no, .no]) ⟨fun h => ?_, fun h => ⟨a.toNat, by omega, fun z => absurd z h, ?_⟩⟩ ?_
  · have hg := h6 h
    have h1 := Int.emod_lt_of_pos a (show (0 : Int) < (gs.length : Int) - 1 by omega)
    have h0 := Int.emod_nonneg a (show (gs.length : Int) - 1 ≠ 0 by omega)
    refine ⟨by omega, (a % ((gs.length : Int) - 1)).toNat, by omega, fun _ => by omega, ?_⟩
    rw [Int.toNat_of_nonneg h0]
    kernel_rfl
  · rw [Int.toNat_of_nonneg ia.1]; kernel_rfl
  rintro _ ⟨a', ha, ha6, rfl⟩
  refine ⟨ns, at_ + 4, rfl, by omega, by omega, fun c => ?_⟩
  refine ⟨c, 4, gs.length, rfl, by decide, by decide, by omega, fun r hr => ?_⟩
  obtain ⟨rl, rd⟩ := hr
  refine lcw .int (fun d => .int (([0, 1, 0, 2] : List Int).getD d.toNat 0)) (by omega) (fun d hd => ⟨_, atZ (ns := [0, 1, 0, 2]) (rd d hd).1 (rd d hd).2, rfl⟩) ?_
  have em : (r.map fun d => D.int (([0, 1, 0, 2] : List Int).getD d.toNat 0)) = (r.map fun d => ([0, 1, 0, 2] : List Int).getD d.toNat 0).map .int := by rw [List.map_map]; rfl
  rw [em]
  have p0 : PtK gs.length 2 False (r.map fun d => ([0, 1, 0, 2] : List Int).getD d.toNat 0) := ⟨by rw [List.length_map, rl], fun p hp => by
    obtain ⟨d, hd, rfl⟩ := List.mem_map.mp hp
    exact menu (ns := [0, 1, 0, 2]) (P := fun x => x.natAbs ≤ 2) (by decide) (rd d hd).1 (rd d hd).2, fun z => z.elim⟩
  generalize (r.map fun d => ([0, 1, 0, 2] : List Int).getD d.toNat 0) = way at *
  refine join (fun δ => ∃ way : List Int, PtK gs.length 2 (fault = 6) way ∧ δ = [.sh (.scr ns), .sh (.int at_), .sh (tab2 ls kinds fs gs a (b : Int)), .sh (.int fault), .sh (.int ((gs.length : Nat) : Int)), .sh (.int ((kinds.length : Nat) : Int)), .sh (.int (a' : Int)), .sh (.int (b : Int)), .sh (ex3 e0 e1 e2), .no, .ow (.lst (way.map .int)), .no, .no, .no, .no, .no, .no, .no, .no, .no, .no, .no, .no]) ⟨fun h => ?_, fun h => ⟨way, ⟨p0.l, p0.b, fun z => absurd z h⟩, ?_⟩⟩ ?_
  · have pl := p0.l
    refine ⟨gs.length - 1, by omega, by rw [List.length_map]; omega, way.set (gs.length - 1) 0, ⟨by rw [List.length_set]; exact pl, fun p hp => ?_, fun _ => getD_set_eq (by omega)⟩, ?_⟩
    · rcases mem_set hp with z | z
      · exact p0.b p z
      · rw [z]; decide
    · rw [List.map_set]; kernel_rfl
  · kernel_rfl
  clear p0
  rintro _ ⟨way, p1, rfl⟩
  have wl := p1.l
  obtain ⟨u, eu, hu⟩ : ∃ u : Int, atI ([1, -1].map D.int) (if decide (fault = 7) = true then (1 : Int) else 0) = some (.int u) ∧ (u = 1 ∨ u = -1) := by
    rcases Decidable.em (fault = 7) with z | z
    · rw [decide_eq_true z]; exact ⟨-1, rfl, .inr rfl⟩
    · rw [decide_eq_false z]; exact ⟨1, rfl, .inl rfl⟩
  refine ⟨_, eu, a', rfl, by rw [List.length_map]; omega, ?_⟩
  have p2 : PtK gs.length 2 (fault = 6) (way.set a' u) := p1.set (by rcases hu with rfl | rfl <;> decide) fun z => ha6 z
  refine ⟨fun i t => t = .lst ((ls.getD i []).map shI), by rw [List.length_map]; omega, fun i hi => ?_, fun ts hl ht => ?_⟩
  · rw [List.length_map] at hi
    refine deq (P := fun d => wpn GE (.e [] (.bi .list (.cons (.var 11) .nil))) (List.set _ 11 (.sh d)) noX _) (itemL hi) ?_
    show Tr.lst (((ls.getD i []).map D.int).map Tr.sh) = _
    rw [List.map_map]; rfl
  rw [List.length_map] at hl
  obtain rfl := tr_lists hl ht
  refine ⟨ns, at_ + 5, rfl, by omega, by omega, fun c5 => ?_⟩
  refine ⟨c5, 3, kinds.length, rfl, by decide, by decide, by omega, fun r2 hr2 => ?_⟩
  obtain ⟨rl2, rd2⟩ := hr2
  have W := w_end2 (e0 := e0) (kk := kk) (xx := xx) ok a0' a1' f0 f1 hbn hk he1 he2 ha p2 rl2 rd2 (ns := ns)
  rw [List.map_set] at W
  exact W
theorem w_endless : Deep GE N__law_endless_paper b__law_endless_paper T_endless := by
  rintro _ kk xx ⟨ns, at_, fault, ls, kinds, fs, gs, a, b, rfl, ok, a0, a1, f0, f1, hz, h6, hk⟩
  have hib := ok.ib
  obtain ⟨bn, rfl⟩ : ∃ bn : Nat, b = (bn : Int) := ⟨b.toNat, by omega⟩
  refine ⟨ns, at_ + 9, rfl, by omega, by omega, fun c => ?_⟩
  refine ⟨c, true, [64, 3, 2], rfl, by decide, by decide, fun r hr => ?_⟩
  obtain ⟨e0, e1, e2, rfl, _, he1, he2⟩ := digs3 hr
  have W := w_end1 (e0 := e0) (kk := kk) (xx := xx) (ns := ns) ok a0 a1 f0 f1 (fun h => by
    by_cases z : kinds.length = 0
    · exact absurd h (hz z)
    · omega) h6 hk he1 he2
  rw [← List.length_map (as := gs) (f := D.int), ← List.length_map (as := kinds) (f := D.str)] at W
  exact W
end K00
set_option Elab.async false
set_option linter.all false
set_option maxRecDepth 100000
set_option maxHeartbeats 8000000
set_option pp.maxSteps 600
set_option exponentiation.threshold 50000
/-! k05: the law. -/
namespace K00
open PySem PySem.Spec PyProof.Rows L2 DL
/-! law(script): slots script=0 style=1 table=2 fault=3 right=4 other=5 third=6; calls _law_cell/2 _law_digits/2 _law_table/3 _law_fault/6 _law_best_paper/4 _law_papers/2 _law_asked/2 _law_none_paper/4 _law_endless_paper/4 -/
def N_law : List Str := ["script", "style", "table", "fault", "right", "other", "third"]
def fs_law : List Str := ["_law_cell", "_law_digits", "_law_table", "_law_fault", "_law_best_paper", "_law_papers", "_law_asked", "_law_none_paper", "_law_endless_paper"]
def b_law : Xb := (.cons (.set 1 false [] (.call 1 (.cons (.call 0 (.cons (.var 0) (.cons (.int 30) .nil))) (.cons (.lst (.cons (.int 2) (.cons (.int 2) (.cons (.int 2) .nil)))) .nil))))
 (.cons (.set 2 false [] (.call 2 (.cons (.var 0) (.cons (.int 0) (.cons (.int 0) .nil)))))
 (.cons (.set 3 false [] (.call 3 (.cons (.var 0) (.cons (.int 0) (.cons (.var 2) (.cons (.int 13) (.cons (.lst (.cons (.int 4) (.cons (.int 7) (.cons (.int 8) (.cons (.int 10) (.cons (.int 11) .nil)))))) (.cons (.lst (.cons (.int 0) (.cons (.int 2) (.cons (.int 0) .nil)))) .nil))))))))
 (.cons (.set 4 false [] (.call 4 (.cons (.var 0) (.cons (.int 0) (.cons (.var 2) (.cons (.int 0) .nil))))))
 (.cons (.ite [] (.not (.call 6 (.cons (.call 5 (.cons (.var 4) (.cons (.call 4 (.cons (.var 0) (.cons (.int 0) (.cons (.var 2) (.cons (.var 3) .nil))))) .nil))) (.cons (.ixn (.var 1) 0) .nil)))) (.cons (.ret [] (.bl false))
 .nil) .nil)
 (.cons (.set 2 false [] (.call 2 (.cons (.var 0) (.cons (.int 10) (.cons (.int 1) .nil)))))
 (.cons (.set 3 false [] (.call 3 (.cons (.var 0) (.cons (.int 10) (.cons (.var 2) (.cons (.int 6) (.cons (.lst .nil) (.cons (.lst (.cons (.int 2) (.cons (.bi .len (.cons (.ixn (.var 2) 1) .nil)) (.cons (.int 1) .nil)))) .nil))))))))
 (.cons (.set 5 false [] (.call 7 (.cons (.var 0) (.cons (.int 10) (.cons (.var 2) (.cons (.int 0) .nil))))))
 (.cons (.ite [] (.not (.call 6 (.cons (.call 5 (.cons (.var 5) (.cons (.call 7 (.cons (.var 0) (.cons (.int 10) (.cons (.var 2) (.cons (.var 3) .nil))))) .nil))) (.cons (.ixn (.var 1) 1) .nil)))) (.cons (.ret [] (.bl false))
 .nil) .nil)
 (.cons (.set 2 false [] (.call 2 (.cons (.var 0) (.cons (.int 20) (.cons (.int 0) .nil)))))
 (.cons (.set 3 false [] (.call 3 (.cons (.var 0) (.cons (.int 20) (.cons (.var 2) (.cons (.int 10) (.cons (.lst (.cons (.int 4) (.cons (.int 8) .nil))) (.cons (.lst (.cons (.int 6) (.cons (.bi .len (.cons (.ixn (.var 2) 3) .nil)) (.cons (.int 5) .nil)))) .nil))))))))
 (.cons (.set 6 false [] (.call 8 (.cons (.var 0) (.cons (.int 20) (.cons (.var 2) (.cons (.int 0) .nil))))))
 (.cons (.ite [] (.not (.call 6 (.cons (.call 5 (.cons (.var 6) (.cons (.call 8 (.cons (.var 0) (.cons (.int 20) (.cons (.var 2) (.cons (.var 3) .nil))))) .nil))) (.cons (.ixn (.var 1) 2) .nil)))) (.cons (.ret [] (.bl false))
 .nil) .nil)
 (.cons (.ret [] (.call 6 (.cons (.lst (.cons (.var 4) (.cons (.var 5) (.cons (.var 6) .nil)))) (.cons (.int 0) .nil))))
 .nil))))))))))))))
theorem ext_ok {p : Paper} (h : p.ok) : Paper.ok (p.1, p.2.1, p.2.2.ext) := by
  obtain ⟨cs, dms, o⟩ := p
  refine ⟨h.pg, ?_, ?_⟩
  · have hb := h.bd
    cases o with
    | best ps q u v fs r => exact ⟨snoc_mem hb.1 (bd0 _), hb.2⟩
    | none fs r => exact ⟨snoc_mem hb.1 (bd0 _), hb.2⟩
    | endless ps q ws r => exact ⟨snoc_mem hb.1 (bd0 _), hb.2⟩
  · have hg := h.good
    cases o with
    | best ps q u v fs r =>
      have := RowG.cut (way := 1) hg.1 (fun z => absurd z (by decide))
      rw [cutRow1] at this
      exact ⟨this, hg.2⟩
    | none fs r =>
      have := RowG.cut (way := 1) (show RowG fs r from hg) (fun z => absurd z (by decide))
      rw [cutRow1] at this
      exact this
    | endless ps q ws r =>
      have := RowG.cut (way := 1) hg.1 (fun z => absurd z (by decide))
      rw [cutRow1] at this
      exact ⟨this, hg.2⟩
def T_law : DSp := fun ds kk _ => ∃ ns : List Int, ds = [.scr ns] ∧ kk (.sh (.bl true))
theorem mem3 {P : Paper → Prop} {a b c : Paper} (ha : P a) (hb : P b) (hc : P c) : ∀ p ∈ [a, b, c], P p := fun p hp => by
  rcases List.mem_cons.mp hp with rfl | hp
  · exact ha
  rcases List.mem_cons.mp hp with rfl | hp
  · exact hb
  rcases List.mem_cons.mp hp with rfl | hp
  · exact hc
  · cases hp
/-- three papers are asked -/
theorem asked3 {C CO : Addr} {p1 p2 : Paper} {s : Int} {K : S → Prop} {X : XD} (h1 : p1.ok) (h2 : p2.ok) (l2 : p2.2.2.len ≤ 200) (h : K (.sh (.bl true))) :
    CallW T_papers [paperD p1, paperD p2] (fun r => CallW (T_asked C CO) [r.d, .int s] K X) X :=
  ⟨p1, p2, rfl, by omega, ⟨p1, [p2, (p2.1, p2.2.1, p2.2.2.ext)], s, rfl, by show 2 ≤ 10; decide, mem3 h1 h2 (ext_ok h2), h⟩⟩
theorem w_law (C CO : Addr) : Deep [T_cell, T_digits, T_table, T_fault, T_best, T_papers, T_asked C CO, T_none, T_endless] N_law b_law T_law := by
  rintro _ kk xx ⟨ns, rfl, hk⟩
  refine ⟨ns, 30, rfl, by decide, by decide, fun c => ?_⟩
  refine ⟨c, true, [2, 2, 2], rfl, by decide, by decide, fun r hr => ?_⟩
  obtain ⟨y0, y1, y2, rfl, _, _, _⟩ := digs3 hr
  refine ⟨ns, 0, 0, rfl, by decide, by decide, by decide, fun ls kinds fs gs a b ok => ?_⟩
  refine ⟨ns, 0, 13, 0, 2, 0, [4, 7, 8, 10, 11], ls, kinds, fs, gs, [.int a, .int b], rfl, by decide, by decide, by decide, by decide, by decide, fun h => absurd h (by decide), fun f f0 f1 hz _ => ?_⟩
  refine ⟨ns, 0, 0, ls, kinds, fs, gs, a, b, rfl, ok, by decide, by decide, by decide, by decide, fun _ => by decide, fun p1 ok1 len1 => ?_⟩
  refine ⟨ns, 0, f, ls, kinds, fs, gs, a, b, rfl, ok, by decide, by decide, by omega, f1, hz, fun p2 ok2 len2 => ?_⟩
  refine asked3 ok1 ok2 len2 ⟨fun _ => ?_, fun h => nomatch h⟩
  refine ⟨ns, 10, 1, rfl, by decide, by decide, by decide, fun ls' kinds' fs' gs' a' b' ok' => ?_⟩
  refine ⟨ns, 10, 6, 2, ((kinds'.map D.str).length : Int), 1, [], ls', kinds', fs', gs', [.int a', .int b'], rfl, by decide, by decide, by decide, by decide, by decide, fun h => ⟨by decide, by decide, by decide⟩, fun f' f0' f1' _ h2' => ?_⟩
  rw [List.length_map] at h2'
  refine ⟨ns, 10, 0, ls', kinds', fs', gs', a', b', rfl, ok', by decide, by decide, by decide, by decide, fun h => absurd h (by decide), fun p3 ok3 len3 => ?_⟩
  refine ⟨ns, 10, f', ls', kinds', fs', gs', a', b', rfl, ok', by decide, by decide, by omega, f1', fun h => by have := h2' h; omega, fun p4 ok4 len4 => ?_⟩
  refine asked3 ok3 ok4 len4 ⟨fun _ => ?_, fun h => nomatch h⟩
  refine ⟨ns, 20, 0, rfl, by decide, by decide, by decide, fun ls2 kinds2 fs2 gs2 a2 b2 ok2' => ?_⟩
  have hw0 := ok2'.w0
  refine ⟨ns, 20, 10, 6, ((gs2.map D.int).length : Int), 5, [4, 8], ls2, kinds2, fs2, gs2, [.int a2, .int b2], rfl, by decide, by decide, by decide, by decide, by decide, fun h => ⟨by decide, by decide, by decide⟩, fun f2 f02 f12 hz2 h22 => ?_⟩
  rw [List.length_map] at h22
  refine ⟨ns, 20, 0, ls2, kinds2, fs2, gs2, a2, b2, rfl, ok2', by decide, by decide, by decide, by decide, fun _ => by decide, fun h => absurd h (by decide), fun p5 ok5 len5 => ?_⟩
  refine ⟨ns, 20, f2, ls2, kinds2, fs2, gs2, a2, b2, rfl, ok2', by decide, by decide, by omega, f12, hz2, fun h => by have := h22 h; omega, fun p6 ok6 len6 => ?_⟩
  refine asked3 ok5 ok6 len6 ⟨fun _ => ?_, fun h => nomatch h⟩
  exact ⟨p1, [p3, p5], 0, rfl, by show 2 ≤ 10; decide, mem3 ok1 ok3 ok5, hk⟩
end K00
set_option Elab.async false
set_option linter.all false
set_option maxRecDepth 100000
set_option maxHeartbeats 0
set_option pp.maxSteps 1500
namespace K00
open PySem PySem.Spec PyProof.Rows L2 DL He
def top (i : Nat) : Stmt := PySem.Challenge.pw_ledbymarks_k05_outcome_judge.main.body.getD i (.Pass ⟨0, 0, 0, 0⟩)
abbrev s_along : Stmt := top 1
theorem sc_along : FnScope N_along ["parts", "tops"] (defScope s_along) := ⟨rfl, rfl, rfl, by decide +kernel, rfl, by decide +kernel, by decide +kernel⟩
theorem ch_along : chB ⟨N_along, defScope s_along, fs_along, false⟩ b_along (defBody s_along) = true := by decide +kernel
abbrev s_keeps : Stmt := top 2
theorem sc_keeps : FnScope N_keeps ["kind", "left", "right"] (defScope s_keeps) := ⟨rfl, rfl, rfl, by decide +kernel, rfl, by decide +kernel, by decide +kernel⟩
theorem ch_keeps : chB ⟨N_keeps, defScope s_keeps, fs_keeps, false⟩ b_keeps (defBody s_keeps) = true := by decide +kernel
abbrev s_is_amount : Stmt := top 3
theorem sc_is_amount : FnScope N_is_amount ["program", "amounts"] (defScope s_is_amount) := ⟨rfl, rfl, rfl, by decide +kernel, rfl, by decide +kernel, by decide +kernel⟩
theorem ch_is_amount : chB ⟨N_is_amount, defScope s_is_amount, fs_is_amount, false⟩ b_is_amount (defBody s_is_amount) = true := by decide +kernel
abbrev s_is_point : Stmt := top 4
theorem sc_is_point : FnScope N_is_point ["program", "point"] (defScope s_is_point) := ⟨rfl, rfl, rfl, by decide +kernel, rfl, by decide +kernel, by decide +kernel⟩
theorem ch_is_point : chB ⟨N_is_point, defScope s_is_point, fs_is_point, false⟩ b_is_point (defBody s_is_point) = true := by decide +kernel
abbrev s_are_fair : Stmt := top 5
theorem sc_are_fair : FnScope N_are_fair ["program", "prices"] (defScope s_are_fair) := ⟨rfl, rfl, rfl, by decide +kernel, rfl, by decide +kernel, by decide +kernel⟩
theorem ch_are_fair : chB ⟨N_are_fair, defScope s_are_fair, fs_are_fair, false⟩ b_are_fair (defBody s_are_fair) = true := by decide +kernel
abbrev s_column_price : Stmt := top 6
theorem sc_column_price : FnScope N_column_price ["program", "prices", "j"] (defScope s_column_price) := ⟨rfl, rfl, rfl, by decide +kernel, rfl, by decide +kernel, by decide +kernel⟩
theorem ch_column_price : chB ⟨N_column_price, defScope s_column_price, fs_column_price, false⟩ b_column_price (defBody s_column_price) = true := by decide +kernel
abbrev s_bound_price : Stmt := top 7
theorem sc_bound_price : FnScope N_bound_price ["program", "prices"] (defScope s_bound_price) := ⟨rfl, rfl, rfl, by decide +kernel, rfl, by decide +kernel, by decide +kernel⟩
theorem ch_bound_price : chB ⟨N_bound_price, defScope s_bound_price, fs_bound_price, false⟩ b_bound_price (defBody s_bound_price) = true := by decide +kernel
abbrev s_covers : Stmt := top 8
theorem sc_covers : FnScope N_covers ["program", "prices", "floor"] (defScope s_covers) := ⟨rfl, rfl, rfl, by decide +kernel, rfl, by decide +kernel, by decide +kernel⟩
theorem ch_covers : chB ⟨N_covers, defScope s_covers, fs_covers, false⟩ b_covers (defBody s_covers) = true := by decide +kernel
abbrev s_shows_best : Stmt := top 9
theorem sc_shows_best : FnScope N_shows_best ["program", "outcome"] (defScope s_shows_best) := ⟨rfl, rfl, rfl, by decide +kernel, rfl, by decide +kernel, by decide +kernel⟩
theorem ch_shows_best : chB ⟨N_shows_best, defScope s_shows_best, fs_shows_best, false⟩ b_shows_best (defBody s_shows_best) = true := by decide +kernel
abbrev s_shows_none : Stmt := top 10
theorem sc_shows_none : FnScope N_shows_none ["program", "outcome"] (defScope s_shows_none) := ⟨rfl, rfl, rfl, by decide +kernel, rfl, by decide +kernel, by decide +kernel⟩
theorem ch_shows_none : chB ⟨N_shows_none, defScope s_shows_none, fs_shows_none, false⟩ b_shows_none (defBody s_shows_none) = true := by decide +kernel
abbrev s_shows_endless : Stmt := top 11
theorem sc_shows_endless : FnScope N_shows_endless ["program", "outcome"] (defScope s_shows_endless) := ⟨rfl, rfl, rfl, by decide +kernel, rfl, by decide +kernel, by decide +kernel⟩
theorem ch_shows_endless : chB ⟨N_shows_endless, defScope s_shows_endless, fs_shows_endless, false⟩ b_shows_endless (defBody s_shows_endless) = true := by decide +kernel
abbrev s_shows : Stmt := top 12
theorem sc_shows : FnScope N_shows ["program", "outcome"] (defScope s_shows) := ⟨rfl, rfl, rfl, by decide +kernel, rfl, by decide +kernel, by decide +kernel⟩
theorem ch_shows : chB ⟨N_shows, defScope s_shows, fs_shows, false⟩ b_shows (defBody s_shows) = true := by decide +kernel
abbrev s__law_whole : Stmt := top 17
theorem sc__law_whole : FnScope N__law_whole ["value"] (defScope s__law_whole) := ⟨rfl, rfl, rfl, by decide +kernel, rfl, by decide +kernel, by decide +kernel⟩
theorem ch__law_whole : chB ⟨N__law_whole, defScope s__law_whole, fs__law_whole, false⟩ b__law_whole (defBody s__law_whole) = true := by decide +kernel
abbrev s__law_cell : Stmt := top 18
theorem sc__law_cell : FnScope N__law_cell ["script", "k"] (defScope s__law_cell) := ⟨rfl, rfl, rfl, by decide +kernel, rfl, by decide +kernel, by decide +kernel⟩
theorem ch__law_cell : chB ⟨N__law_cell, defScope s__law_cell, fs__law_cell, false⟩ b__law_cell (defBody s__law_cell) = true := by decide +kernel
abbrev s__law_digits : Stmt := top 19
theorem sc__law_digits : FnScope N__law_digits ["cell", "sizes"] (defScope s__law_digits) := ⟨rfl, rfl, rfl, by decide +kernel, rfl, by decide +kernel, by decide +kernel⟩
theorem ch__law_digits : chB ⟨N__law_digits, defScope s__law_digits, fs__law_digits, false⟩ b__law_digits (defBody s__law_digits) = true := by decide +kernel
abbrev s__law_gcd : Stmt := top 20
theorem sc__law_gcd : FnScope N__law_gcd ["one", "two"] (defScope s__law_gcd) := ⟨rfl, rfl, rfl, by decide +kernel, rfl, by decide +kernel, by decide +kernel⟩
theorem ch__law_gcd : chB ⟨N__law_gcd, defScope s__law_gcd, fs__law_gcd, false⟩ b__law_gcd (defBody s__law_gcd) = true := by decide +kernel
abbrev s__law_is_ratio : Stmt := top 21
theorem sc__law_is_ratio : FnScope N__law_is_ratio ["value"] (defScope s__law_is_ratio) := ⟨rfl, rfl, rfl, by decide +kernel, rfl, by decide +kernel, by decide +kernel⟩
theorem ch__law_is_ratio : chB ⟨N__law_is_ratio, defScope s__law_is_ratio, fs__law_is_ratio, false⟩ b__law_is_ratio (defBody s__law_is_ratio) = true := by decide +kernel
abbrev s__law_is_row : Stmt := top 22
theorem sc__law_is_row : FnScope N__law_is_row ["value", "size"] (defScope s__law_is_row) := ⟨rfl, rfl, rfl, by decide +kernel, rfl, by decide +kernel, by decide +kernel⟩
theorem ch__law_is_row : chB ⟨N__law_is_row, defScope s__law_is_row, fs__law_is_row, false⟩ b__law_is_row (defBody s__law_is_row) = true := by decide +kernel
abbrev s__law_sum : Stmt := top 23
theorem sc__law_sum : FnScope N__law_sum ["parts", "tops"] (defScope s__law_sum) := ⟨rfl, rfl, rfl, by decide +kernel, rfl, by decide +kernel, by decide +kernel⟩
theorem ch__law_sum : chB ⟨N__law_sum, defScope s__law_sum, fs__law_sum, false⟩ b__law_sum (defBody s__law_sum) = true := by decide +kernel
abbrev s__law_column : Stmt := top 24
theorem sc__law_column : FnScope N__law_column ["parts", "fees", "j"] (defScope s__law_column) := ⟨rfl, rfl, rfl, by decide +kernel, rfl, by decide +kernel, by decide +kernel⟩
theorem ch__law_column : chB ⟨N__law_column, defScope s__law_column, fs__law_column, false⟩ b__law_column (defBody s__law_column) = true := by decide +kernel
abbrev s__law_draws : Stmt := top 25
theorem sc__law_draws : FnScope N__law_draws ["cell", "size", "many"] (defScope s__law_draws) := ⟨rfl, rfl, rfl, by decide +kernel, rfl, by decide +kernel, by decide +kernel⟩
theorem ch__law_draws : chB ⟨N__law_draws, defScope s__law_draws, fs__law_draws, false⟩ b__law_draws (defBody s__law_draws) = true := by decide +kernel
abbrev s__law_lcm : Stmt := top 26
theorem sc__law_lcm : FnScope N__law_lcm ["numbers"] (defScope s__law_lcm) := ⟨rfl, rfl, rfl, by decide +kernel, rfl, by decide +kernel, by decide +kernel⟩
theorem ch__law_lcm : chB ⟨N__law_lcm, defScope s__law_lcm, fs__law_lcm, false⟩ b__law_lcm (defBody s__law_lcm) = true := by decide +kernel
abbrev s__law_row_of : Stmt := top 27
theorem sc__law_row_of : FnScope N__law_row_of ["tops", "bottoms"] (defScope s__law_row_of) := ⟨rfl, rfl, rfl, by decide +kernel, rfl, by decide +kernel, by decide +kernel⟩
theorem ch__law_row_of : chB ⟨N__law_row_of, defScope s__law_row_of, fs__law_row_of, false⟩ b__law_row_of (defBody s__law_row_of) = true := by decide +kernel
abbrev s__law_mean : Stmt := top 28
theorem sc__law_mean : FnScope N__law_mean ["parts", "tops", "bottoms"] (defScope s__law_mean) := ⟨rfl, rfl, rfl, by decide +kernel, rfl, by decide +kernel, by decide +kernel⟩
theorem ch__law_mean : chB ⟨N__law_mean, defScope s__law_mean, fs__law_mean, false⟩ b__law_mean (defBody s__law_mean) = true := by decide +kernel
abbrev s__law_table : Stmt := top 29
theorem sc__law_table : FnScope N__law_table ["script", "at", "low"] (defScope s__law_table) := ⟨rfl, rfl, rfl, by decide +kernel, rfl, by decide +kernel, by decide +kernel⟩
theorem ch__law_table : chB ⟨N__law_table, defScope s__law_table, fs__law_table, false⟩ b__law_table (defBody s__law_table) = true := by decide +kernel
abbrev s__law_fair : Stmt := top 30
theorem sc__law_fair : FnScope N__law_fair ["kinds", "row"] (defScope s__law_fair) := ⟨rfl, rfl, rfl, by decide +kernel, rfl, by decide +kernel, by decide +kernel⟩
theorem ch__law_fair : chB ⟨N__law_fair, defScope s__law_fair, fs__law_fair, false⟩ b__law_fair (defBody s__law_fair) = true := by decide +kernel
abbrev s__law_side : Stmt := top 31
theorem sc__law_side : FnScope N__law_side ["kind", "free"] (defScope s__law_side) := ⟨rfl, rfl, rfl, by decide +kernel, rfl, by decide +kernel, by decide +kernel⟩
theorem ch__law_side : chB ⟨N__law_side, defScope s__law_side, fs__law_side, false⟩ b__law_side (defBody s__law_side) = true := by decide +kernel
abbrev s__law_bounds : Stmt := top 32
theorem sc__law_bounds : FnScope N__law_bounds ["parts", "kinds", "point", "fees", "loose"] (defScope s__law_bounds) := ⟨rfl, rfl, rfl, by decide +kernel, rfl, by decide +kernel, by decide +kernel⟩
theorem ch__law_bounds : chB ⟨N__law_bounds, defScope s__law_bounds, fs__law_bounds, false⟩ b__law_bounds (defBody s__law_bounds) = true := by decide +kernel
abbrev s__law_laid : Stmt := top 33
theorem sc__law_laid : FnScope N__law_laid ["costs", "bounds", "table"] (defScope s__law_laid) := ⟨rfl, rfl, rfl, by decide +kernel, rfl, by decide +kernel, by decide +kernel⟩
theorem ch__law_laid : chB ⟨N__law_laid, defScope s__law_laid, fs__law_laid, false⟩ b__law_laid (defBody s__law_laid) = true := by decide +kernel
abbrev s__law_best_paper : Stmt := top 34
theorem sc__law_best_paper : FnScope N__law_best_paper ["script", "at", "table", "fault"] (defScope s__law_best_paper) := ⟨rfl, rfl, rfl, by decide +kernel, rfl, by decide +kernel, by decide +kernel⟩
theorem ch__law_best_paper : chB ⟨N__law_best_paper, defScope s__law_best_paper, fs__law_best_paper, false⟩ b__law_best_paper (defBody s__law_best_paper) = true := by decide +kernel
abbrev s__law_cut : Stmt := top 35
theorem sc__law_cut : FnScope N__law_cut ["fields", "at", "way"] (defScope s__law_cut) := ⟨rfl, rfl, rfl, by decide +kernel, rfl, by decide +kernel, by decide +kernel⟩
theorem ch__law_cut : chB ⟨N__law_cut, defScope s__law_cut, fs__law_cut, false⟩ b__law_cut (defBody s__law_cut) = true := by decide +kernel
abbrev s__law_none_paper : Stmt := top 36
theorem sc__law_none_paper : FnScope N__law_none_paper ["script", "at", "table", "fault"] (defScope s__law_none_paper) := ⟨rfl, rfl, rfl, by decide +kernel, rfl, by decide +kernel, by decide +kernel⟩
theorem ch__law_none_paper : chB ⟨N__law_none_paper, defScope s__law_none_paper, fs__law_none_paper, false⟩ b__law_none_paper (defBody s__law_none_paper) = true := by decide +kernel
abbrev s__law_endless_paper : Stmt := top 37
theorem sc__law_endless_paper : FnScope N__law_endless_paper ["script", "at", "table", "fault"] (defScope s__law_endless_paper) := ⟨rfl, rfl, rfl, by decide +kernel, rfl, by decide +kernel, by decide +kernel⟩
theorem ch__law_endless_paper : chB ⟨N__law_endless_paper, defScope s__law_endless_paper, fs__law_endless_paper, false⟩ b__law_endless_paper (defBody s__law_endless_paper) = true := by decide +kernel
abbrev s__law_keeps : Stmt := top 38
theorem sc__law_keeps : FnScope N__law_keeps ["kind", "left", "right"] (defScope s__law_keeps) := ⟨rfl, rfl, rfl, by decide +kernel, rfl, by decide +kernel, by decide +kernel⟩
theorem ch__law_keeps : chB ⟨N__law_keeps, defScope s__law_keeps, fs__law_keeps, false⟩ b__law_keeps (defBody s__law_keeps) = true := by decide +kernel
abbrev s__law_meets : Stmt := top 39
theorem sc__law_meets : FnScope N__law_meets ["laid", "amounts", "factor"] (defScope s__law_meets) := ⟨rfl, rfl, rfl, by decide +kernel, rfl, by decide +kernel, by decide +kernel⟩
theorem ch__law_meets : chB ⟨N__law_meets, defScope s__law_meets, fs__law_meets, false⟩ b__law_meets (defBody s__law_meets) = true := by decide +kernel
abbrev s__law_priced : Stmt := top 40
theorem sc__law_priced : FnScope N__law_priced ["laid", "fees", "factor"] (defScope s__law_priced) := ⟨rfl, rfl, rfl, by decide +kernel, rfl, by decide +kernel, by decide +kernel⟩
theorem ch__law_priced : chB ⟨N__law_priced, defScope s__law_priced, fs__law_priced, false⟩ b__law_priced (defBody s__law_priced) = true := by decide +kernel
abbrev s__law_truth : Stmt := top 41
theorem sc__law_truth : FnScope N__law_truth ["laid", "fields"] (defScope s__law_truth) := ⟨rfl, rfl, rfl, by decide +kernel, rfl, by decide +kernel, by decide +kernel⟩
theorem ch__law_truth : chB ⟨N__law_truth, defScope s__law_truth, fs__law_truth, false⟩ b__law_truth (defBody s__law_truth) = true := by decide +kernel
abbrev s__law_told : Stmt := top 42
theorem sc__law_told : FnScope N__law_told ["program", "outcome", "due"] (defScope s__law_told) := ⟨rfl, rfl, rfl, by decide +kernel, rfl, by decide +kernel, by decide +kernel⟩
theorem ch__law_told : chB ⟨N__law_told, defScope s__law_told, fs__law_told, false⟩ b__law_told (defBody s__law_told) = true := by decide +kernel
abbrev s__law_program : Stmt := top 43
theorem sc__law_program : FnScope N__law_program ["laid", "style"] (defScope s__law_program) := ⟨rfl, rfl, rfl, by decide +kernel, rfl, by decide +kernel, by decide +kernel⟩
theorem ch__law_program : chB ⟨N__law_program, defScope s__law_program, fs__law_program, false⟩ b__law_program (defBody s__law_program) = true := by decide +kernel
abbrev s__law_holds : Stmt := top 44
theorem sc__law_holds : FnScope N__law_holds ["outcome", "fields"] (defScope s__law_holds) := ⟨rfl, rfl, rfl, by decide +kernel, rfl, by decide +kernel, by decide +kernel⟩
theorem ch__law_holds : chB ⟨N__law_holds, defScope s__law_holds, fs__law_holds, false⟩ b__law_holds (defBody s__law_holds) = true := by decide +kernel
abbrev s__law_asked : Stmt := top 45
theorem sc__law_asked : FnScope N__law_asked ["papers", "style"] (defScope s__law_asked) := ⟨rfl, rfl, rfl, by decide +kernel, rfl, by decide +kernel, by decide +kernel⟩
theorem ch__law_asked : chB ⟨N__law_asked, defScope s__law_asked, fs__law_asked, false⟩ b__law_asked (defBody s__law_asked) = true := by decide +kernel
abbrev s__law_papers : Stmt := top 46
theorem sc__law_papers : FnScope N__law_papers ["right", "wrong"] (defScope s__law_papers) := ⟨rfl, rfl, rfl, by decide +kernel, rfl, by decide +kernel, by decide +kernel⟩
theorem ch__law_papers : chB ⟨N__law_papers, defScope s__law_papers, fs__law_papers, false⟩ b__law_papers (defBody s__law_papers) = true := by decide +kernel
abbrev s__law_fault : Stmt := top 47
theorem sc__law_fault : FnScope N__law_fault ["script", "at", "table", "many", "needs", "two"] (defScope s__law_fault) := ⟨rfl, rfl, rfl, by decide +kernel, rfl, by decide +kernel, by decide +kernel⟩
theorem ch__law_fault : chB ⟨N__law_fault, defScope s__law_fault, fs__law_fault, false⟩ b__law_fault (defBody s__law_fault) = true := by decide +kernel
abbrev s_law : Stmt := top 48
theorem sc_law : FnScope N_law ["script"] (defScope s_law) := ⟨rfl, rfl, rfl, by decide +kernel, rfl, by decide +kernel, by decide +kernel⟩
theorem ch_law : chB ⟨N_law, defScope s_law, fs_law, false⟩ b_law (defBody s_law) = true := by decide +kernel
/-! ### the head -/
def clsDef (st : Stmt) (i : Nat) : Stmt := match st with
  | .ClassDef _ _ _ b _ _ _ _ _ _ _ => b.getD i (.Pass ⟨0, 0, 0, 0⟩)
  | _ => .Pass ⟨0, 0, 0, 0⟩
def dTop (x : Str) (st : Stmt) (dv : List Dv) : DefD := ⟨(x, none), x, x, defArgs st, defBody st, defScope st, dv, []⟩
abbrev s_Program___init__ : Stmt := clsDef (top 14) 0
theorem sc_Program___init__ : FnScope ("self" :: N_Program___init__) ["self", "costs", "demands"] (defScope s_Program___init__) := ⟨rfl, rfl, rfl, by decide +kernel, rfl, by decide +kernel, by decide +kernel⟩
theorem ch_Program___init__ : chB ⟨"self" :: N_Program___init__, defScope s_Program___init__, fs_Program___init__, false⟩ b_Program___init__ (defBody s_Program___init__) = true := by decide +kernel
def dC_Program : DefD := ⟨("Program", some "__init__"), "__init__", "Program.__init__", defArgs s_Program___init__, defBody s_Program___init__, defScope s_Program___init__, [], []⟩
abbrev s_Outcome___init__ : Stmt := clsDef (top 15) 0
theorem sc_Outcome___init__ : FnScope ("self" :: N_Outcome___init__) ["self", "kind", "point", "value", "prices", "way"] (defScope s_Outcome___init__) := ⟨rfl, rfl, rfl, by decide +kernel, rfl, by decide +kernel, by decide +kernel⟩
theorem ch_Outcome___init__ : chB ⟨"self" :: N_Outcome___init__, defScope s_Outcome___init__, fs_Outcome___init__, false⟩ b_Outcome___init__ (defBody s_Outcome___init__) = true := by decide +kernel
def dC_Outcome : DefD := ⟨("Outcome", some "__init__"), "__init__", "Outcome.__init__", defArgs s_Outcome___init__, defBody s_Outcome___init__, defScope s_Outcome___init__, [], []⟩
def fn : List DefD := [dTop "along" (top 1) [], dTop "keeps" (top 2) [], dTop "is_amount" (top 3) [], dTop "is_point" (top 4) [], dTop "are_fair" (top 5) [], dTop "column_price" (top 6) [], dTop "bound_price" (top 7) [], dTop "covers" (top 8) [], dTop "shows_best" (top 9) [], dTop "shows_none" (top 10) [], dTop "shows_endless" (top 11) [], dTop "shows" (top 12) [], dTop "_law_whole" (top 17) [], dTop "_law_cell" (top 18) [], dTop "_law_digits" (top 19) [], dTop "_law_gcd" (top 20) [], dTop "_law_is_ratio" (top 21) [], dTop "_law_is_row" (top 22) [], dTop "_law_sum" (top 23) [], dTop "_law_column" (top 24) [], dTop "_law_draws" (top 25) [], dTop "_law_lcm" (top 26) [], dTop "_law_row_of" (top 27) [], dTop "_law_mean" (top 28) [], dTop "_law_table" (top 29) [], dTop "_law_fair" (top 30) [], dTop "_law_side" (top 31) [], dTop "_law_bounds" (top 32) [], dTop "_law_laid" (top 33) [], dTop "_law_best_paper" (top 34) [], dTop "_law_cut" (top 35) [], dTop "_law_none_paper" (top 36) [], dTop "_law_endless_paper" (top 37) [], dTop "_law_keeps" (top 38) [], dTop "_law_meets" (top 39) [], dTop "_law_priced" (top 40) [], dTop "_law_truth" (top 41) [], dTop "_law_told" (top 42) [], dTop "_law_program" (top 43) [], dTop "_law_holds" (top 44) [], dTop "_law_asked" (top 45) [], dTop "_law_papers" (top 46) [], dTop "_law_fault" (top 47) [], dTop "law" (top 48) [], dC_Program, dC_Outcome]
def fa : List Fa := [.glo "Program", .glo "Outcome", .glo "along", .glo "keeps", .glo "is_amount", .glo "is_point", .glo "are_fair", .glo "column_price", .glo "bound_price", .glo "covers", .glo "shows_best", .glo "shows_none", .glo "shows_endless", .glo "shows", .glo "_law_whole", .glo "_law_cell", .glo "_law_digits", .glo "_law_gcd", .glo "_law_is_ratio", .glo "_law_is_row", .glo "_law_sum", .glo "_law_column", .glo "_law_draws", .glo "_law_lcm", .glo "_law_row_of", .glo "_law_mean", .glo "_law_table", .glo "_law_fair", .glo "_law_side", .glo "_law_bounds", .glo "_law_laid", .glo "_law_best_paper", .glo "_law_cut", .glo "_law_none_paper", .glo "_law_endless_paper", .glo "_law_keeps", .glo "_law_meets", .glo "_law_priced", .glo "_law_truth", .glo "_law_told", .glo "_law_program", .glo "_law_holds", .glo "_law_asked", .glo "_law_papers", .glo "_law_fault", .glo "law", .free "len", .free "range", .free "int", .free "abs", .free "tuple", .free "list", .free "isinstance", .free "bool", .free "sum", .free "min", .free "max", .free "str", .cls "Program", .cls "Outcome", .mkr "Program", .mkr "Outcome", .noat "Program" "costs", .noat "Program" "demands", .noat "Outcome" "kind", .noat "Outcome" "point", .noat "Outcome" "value", .noat "Outcome" "prices", .noat "Outcome" "way"]
def ex : List (PySem.W.Frag → Bool) := []
abbrev R : PySem.W.OpenRow := PySem.W.OpenLaw.row PySem.Challenge.rw_ledbymarks_k05_outcome_judge
abbrev hk : PySem.W.Hook := hookM 5 fa ex fn
def ob (s : PySem.W.SharedT) : AlD := obsMG 5 fa ex fn (HandSHeadRun.getT s)
theorem ob_eq (s : PySem.W.SharedT) : ob s = hk.obs s.abs := obsMG_eq (HandSHeadRun.getT_eq s)
def loose : List Str := (["along", "keeps", "is_amount", "is_point", "are_fair", "column_price", "bound_price", "covers", "shows_best", "shows_none", "shows_endless", "shows", "Program", "Outcome", "_law_whole", "_law_cell"] : List Str) ++ (["_law_digits", "_law_gcd", "_law_is_ratio", "_law_is_row", "_law_sum", "_law_column", "_law_draws", "_law_lcm", "_law_row_of", "_law_mean", "_law_table", "_law_fair", "_law_side", "_law_bounds", "_law_laid", "_law_best_paper"] : List Str) ++ (["_law_cut", "_law_none_paper", "_law_endless_paper", "_law_keeps", "_law_meets", "_law_priced", "_law_truth", "_law_told", "_law_program", "_law_holds", "_law_asked", "_law_papers", "_law_fault"] : List Str)
theorem run (w : World) : HandSHeadRun.RunEqI R (PySem.W.view R.prog [48]) hk ob 20000 loose w := by
  unfold HandSHeadRun.RunEqI
  kernel_rfl
theorem facts {P : Program} {w : World} {K : PySem.W.Frag} {h : Heap} {mg : Str → Option Value} {f : Addr} (X : K.In h) (G : h.Ns mainGlobals mg) (hfa : mg ("law" : Str) = some (.ref f)) (c : SaysM fa ex fn K) :
    ∃ fd : FuncData, (∀ (s : Shared) (v : Value), BindsTo s fd ⟨[v], []⟩ [("script", v)]) ∧ ∀ base : Heap, FnOk P w K mg base (L2.CX P w) 7 f fd ["script"] (spD K T_law) := by
  obtain ⟨fd1, F1⟩ := c.def_ 0 (d := dTop "along" (top 1) []) rfl
  obtain ⟨fd2, F2⟩ := c.def_ 1 (d := dTop "keeps" (top 2) []) rfl
  obtain ⟨fd3, F3⟩ := c.def_ 2 (d := dTop "is_amount" (top 3) []) rfl
  obtain ⟨fd4, F4⟩ := c.def_ 3 (d := dTop "is_point" (top 4) []) rfl
  obtain ⟨fd5, F5⟩ := c.def_ 4 (d := dTop "are_fair" (top 5) []) rfl
  obtain ⟨fd6, F6⟩ := c.def_ 5 (d := dTop "column_price" (top 6) []) rfl
  obtain ⟨fd7, F7⟩ := c.def_ 6 (d := dTop "bound_price" (top 7) []) rfl
  obtain ⟨fd8, F8⟩ := c.def_ 7 (d := dTop "covers" (top 8) []) rfl
  obtain ⟨fd9, F9⟩ := c.def_ 8 (d := dTop "shows_best" (top 9) []) rfl
  obtain ⟨fd10, F10⟩ := c.def_ 9 (d := dTop "shows_none" (top 10) []) rfl
  obtain ⟨fd11, F11⟩ := c.def_ 10 (d := dTop "shows_endless" (top 11) []) rfl
  obtain ⟨fd12, F12⟩ := c.def_ 11 (d := dTop "shows" (top 12) []) rfl
  obtain ⟨fd17, F17⟩ := c.def_ 12 (d := dTop "_law_whole" (top 17) []) rfl
  obtain ⟨fd18, F18⟩ := c.def_ 13 (d := dTop "_law_cell" (top 18) []) rfl
  obtain ⟨fd19, F19⟩ := c.def_ 14 (d := dTop "_law_digits" (top 19) []) rfl
  obtain ⟨fd20, F20⟩ := c.def_ 15 (d := dTop "_law_gcd" (top 20) []) rfl
  obtain ⟨fd21, F21⟩ := c.def_ 16 (d := dTop "_law_is_ratio" (top 21) []) rfl
  obtain ⟨fd22, F22⟩ := c.def_ 17 (d := dTop "_law_is_row" (top 22) []) rfl
  obtain ⟨fd23, F23⟩ := c.def_ 18 (d := dTop "_law_sum" (top 23) []) rfl
  obtain ⟨fd24, F24⟩ := c.def_ 19 (d := dTop "_law_column" (top 24) []) rfl
  obtain ⟨fd25, F25⟩ := c.def_ 20 (d := dTop "_law_draws" (top 25) []) rfl
  obtain ⟨fd26, F26⟩ := c.def_ 21 (d := dTop "_law_lcm" (top 26) []) rfl
  obtain ⟨fd27, F27⟩ := c.def_ 22 (d := dTop "_law_row_of" (top 27) []) rfl
  obtain ⟨fd28, F28⟩ := c.def_ 23 (d := dTop "_law_mean" (top 28) []) rfl
  obtain ⟨fd29, F29⟩ := c.def_ 24 (d := dTop "_law_table" (top 29) []) rfl
  obtain ⟨fd30, F30⟩ := c.def_ 25 (d := dTop "_law_fair" (top 30) []) rfl
  obtain ⟨fd31, F31⟩ := c.def_ 26 (d := dTop "_law_side" (top 31) []) rfl
  obtain ⟨fd32, F32⟩ := c.def_ 27 (d := dTop "_law_bounds" (top 32) []) rfl
  obtain ⟨fd33, F33⟩ := c.def_ 28 (d := dTop "_law_laid" (top 33) []) rfl
  obtain ⟨fd34, F34⟩ := c.def_ 29 (d := dTop "_law_best_paper" (top 34) []) rfl
  obtain ⟨fd35, F35⟩ := c.def_ 30 (d := dTop "_law_cut" (top 35) []) rfl
  obtain ⟨fd36, F36⟩ := c.def_ 31 (d := dTop "_law_none_paper" (top 36) []) rfl
  obtain ⟨fd37, F37⟩ := c.def_ 32 (d := dTop "_law_endless_paper" (top 37) []) rfl
  obtain ⟨fd38, F38⟩ := c.def_ 33 (d := dTop "_law_keeps" (top 38) []) rfl
  obtain ⟨fd39, F39⟩ := c.def_ 34 (d := dTop "_law_meets" (top 39) []) rfl
  obtain ⟨fd40, F40⟩ := c.def_ 35 (d := dTop "_law_priced" (top 40) []) rfl
  obtain ⟨fd41, F41⟩ := c.def_ 36 (d := dTop "_law_truth" (top 41) []) rfl
  obtain ⟨fd42, F42⟩ := c.def_ 37 (d := dTop "_law_told" (top 42) []) rfl
  obtain ⟨fd43, F43⟩ := c.def_ 38 (d := dTop "_law_program" (top 43) []) rfl
  obtain ⟨fd44, F44⟩ := c.def_ 39 (d := dTop "_law_holds" (top 44) []) rfl
  obtain ⟨fd45, F45⟩ := c.def_ 40 (d := dTop "_law_asked" (top 45) []) rfl
  obtain ⟨fd46, F46⟩ := c.def_ 41 (d := dTop "_law_papers" (top 46) []) rfl
  obtain ⟨fd47, F47⟩ := c.def_ 42 (d := dTop "_law_fault" (top 47) []) rfl
  obtain ⟨fd48, F48⟩ := c.def_ 43 (d := dTop "law" (top 48) []) rfl
  obtain ⟨fdC_Program, FC_Program⟩ := c.def_ 44 (d := dC_Program) rfl
  obtain ⟨fdC_Outcome, FC_Outcome⟩ := c.def_ 45 (d := dC_Outcome) rfl
  have e := hfa.symm.trans (glo_ok X G (c.fact 45 (f := .glo "law") rfl))
  cases e
  have b := FunD.bindsA (ps := ["script"]) F48 (fun _ _ _ _ _ _ us hl => match us, hl with | [_], _ => rfl)
  refine ⟨fd48, fun s v => b s [v] rfl, fun base => ?_⟩
  have M : Bi mg := ⟨(free_ok X G (c.fact 46 (f := .free "len") rfl)), (free_ok X G (c.fact 47 (f := .free "range") rfl)), (free_ok X G (c.fact 48 (f := .free "int") rfl)), (free_ok X G (c.fact 49 (f := .free "abs") rfl)), (free_ok X G (c.fact 50 (f := .free "tuple") rfl)), (free_ok X G (c.fact 51 (f := .free "list") rfl)), (free_ok X G (c.fact 52 (f := .free "isinstance") rfl)), (free_ok X G (c.fact 53 (f := .free "bool") rfl)), (free_ok X G (c.fact 54 (f := .free "sum") rfl))⟩
  have BM : Bm mg := ⟨(free_ok X G (c.fact 46 (f := .free "len") rfl)), (free_ok X G (c.fact 47 (f := .free "range") rfl)), (free_ok X G (c.fact 48 (f := .free "int") rfl)), (free_ok X G (c.fact 49 (f := .free "abs") rfl)), (free_ok X G (c.fact 50 (f := .free "tuple") rfl)), (free_ok X G (c.fact 51 (f := .free "list") rfl)), (free_ok X G (c.fact 52 (f := .free "isinstance") rfl)), (free_ok X G (c.fact 53 (f := .free "bool") rfl)), (free_ok X G (c.fact 54 (f := .free "sum") rfl)), (free_ok X G (c.fact 55 (f := .free "min") rfl)), (free_ok X G (c.fact 56 (f := .free "max") rfl)), (free_ok X G (c.fact 57 (f := .free "str") rfl))⟩
  have l_whole := (.nil : FnL P w K mg base 0 _ _)
  have f_whole := mk_fn (P := P) (w := w) (base := base) F17 (fn_deep F17 sc__law_whole (by decide) (by intro ds k x h; repeat (first | (obtain ⟨rfl, _⟩ := h; rfl) | (obtain ⟨_, h⟩ := h))) ch__law_whole BM (fun h => nomatch h) l_whole w_whole) (glo_ok X G (c.fact 14 (f := .glo "_law_whole") rfl)) (fun _ _ _ _ _ _ us hl => match us, hl with | [_], _ => rfl)
  have l_cell := (.nil : FnL P w K mg base 0 _ _)
  have f_cell := mk_fn (P := P) (w := w) (base := base) F18 (fn_deep F18 sc__law_cell (by decide) (by intro ds k x h; repeat (first | (obtain ⟨rfl, _⟩ := h; rfl) | (obtain ⟨_, h⟩ := h))) ch__law_cell BM (fun h => nomatch h) l_cell w_cell) (glo_ok X G (c.fact 15 (f := .glo "_law_cell") rfl)) (fun _ _ _ _ _ _ us hl => match us, hl with | [_, _], _ => rfl)
  have l_digits := (.nil : FnL P w K mg base 0 _ _)
  have f_digits := mk_fn (P := P) (w := w) (base := base) F19 (fn_deep F19 sc__law_digits (by decide) (by intro ds k x h; repeat (first | (obtain ⟨rfl, _⟩ := h; rfl) | (obtain ⟨_, h⟩ := h))) ch__law_digits BM (fun h => nomatch h) l_digits w_digits) (glo_ok X G (c.fact 16 (f := .glo "_law_digits") rfl)) (fun _ _ _ _ _ _ us hl => match us, hl with | [_, _], _ => rfl)
  have l_gcd := (.nil : FnL P w K mg base 0 _ _)
  have f_gcd := mk_fn (P := P) (w := w) (base := base) F20 (fn_deep F20 sc__law_gcd (by decide) (by intro ds k x h; repeat (first | (obtain ⟨rfl, _⟩ := h; rfl) | (obtain ⟨_, h⟩ := h))) ch__law_gcd BM (fun h => nomatch h) l_gcd w_gcd) (glo_ok X G (c.fact 17 (f := .glo "_law_gcd") rfl)) (fun _ _ _ _ _ _ us hl => match us, hl with | [_, _], _ => rfl)
  have l_is_ratio := (.cons0 f_whole (by decide) <| .cons0 f_gcd (by decide) <| .nil : FnL P w K mg base 1 _ _)
  have f_is_ratio := mk_fn (P := P) (w := w) (base := base) F21 (fn_deep F21 sc__law_is_ratio (by decide) (by intro ds k x h; repeat (first | (obtain ⟨rfl, _⟩ := h; rfl) | (obtain ⟨_, h⟩ := h))) ch__law_is_ratio BM (fun h => nomatch h) l_is_ratio w_isr) (glo_ok X G (c.fact 18 (f := .glo "_law_is_ratio") rfl)) (fun _ _ _ _ _ _ us hl => match us, hl with | [_], _ => rfl)
  have l_is_row := (.cons0 f_whole (by decide) <| .cons0 f_gcd (by decide) <| .nil : FnL P w K mg base 1 _ _)
  have f_is_row := mk_fn (P := P) (w := w) (base := base) F22 (fn_deep F22 sc__law_is_row (by decide) (by intro ds k x h; repeat (first | (obtain ⟨rfl, _⟩ := h; rfl) | (obtain ⟨_, h⟩ := h))) ch__law_is_row BM (fun h => nomatch h) l_is_row w_isrow) (glo_ok X G (c.fact 19 (f := .glo "_law_is_row") rfl)) (fun _ _ _ _ _ _ us hl => match us, hl with | [_, _], _ => rfl)
  have l_along := (.nil : FnL P w K mg base 0 _ _)
  have f_along := mk_fn (P := P) (w := w) (base := base) F1 (fn_deep F1 sc_along (by decide) (by intro ds k x h; repeat (first | (obtain ⟨rfl, _⟩ := h; rfl) | (obtain ⟨_, h⟩ := h))) ch_along BM (fun h => nomatch h) l_along w_along) (glo_ok X G (c.fact 2 (f := .glo "along") rfl)) (fun _ _ _ _ _ _ us hl => match us, hl with | [_, _], _ => rfl)
  have l_keeps := (.nil : FnL P w K mg base 0 _ _)
  have f_keeps := mk_fn (P := P) (w := w) (base := base) F2 (fn_deep F2 sc_keeps (by decide) (by intro ds k x h; repeat (first | (obtain ⟨rfl, _⟩ := h; rfl) | (obtain ⟨_, h⟩ := h))) ch_keeps BM (fun h => nomatch h) l_keeps w_keeps) (glo_ok X G (c.fact 3 (f := .glo "keeps") rfl)) (fun _ _ _ _ _ _ us hl => match us, hl with | [_, _, _], _ => rfl)
  have l_is_amount := (.nil : FnL P w K mg base 0 _ _)
  have f_is_amount := mk_fn (P := P) (w := w) (base := base) F3 (fn_deep F3 sc_is_amount (by decide) (by intro ds k x h; repeat (first | (obtain ⟨rfl, _⟩ := h; rfl) | (obtain ⟨_, h⟩ := h))) ch_is_amount BM (fun h => nomatch h) l_is_amount (w_is_amount (ga K "Program"))) (glo_ok X G (c.fact 4 (f := .glo "is_amount") rfl)) (fun _ _ _ _ _ _ us hl => match us, hl with | [_, _], _ => rfl)
  have l_is_point := (.cons0 f_is_amount (by decide) <| .cons0 f_along (by decide) <| .cons0 f_keeps (by decide) <| .nil : FnL P w K mg base 1 _ _)
  have f_is_point := mk_fn (P := P) (w := w) (base := base) F4 (fn_deep F4 sc_is_point (by decide) (by intro ds k x h; repeat (first | (obtain ⟨rfl, _⟩ := h; rfl) | (obtain ⟨_, h⟩ := h))) ch_is_point BM (fun h => nomatch h) l_is_point (w_is_point (ga K "Program"))) (glo_ok X G (c.fact 5 (f := .glo "is_point") rfl)) (fun _ _ _ _ _ _ us hl => match us, hl with | [_, _], _ => rfl)
  have l_are_fair := (.nil : FnL P w K mg base 0 _ _)
  have f_are_fair := mk_fn (P := P) (w := w) (base := base) F5 (fn_deep F5 sc_are_fair (by decide) (by intro ds k x h; repeat (first | (obtain ⟨rfl, _⟩ := h; rfl) | (obtain ⟨_, h⟩ := h))) ch_are_fair BM (fun h => nomatch h) l_are_fair (w_are_fair (ga K "Program"))) (glo_ok X G (c.fact 6 (f := .glo "are_fair") rfl)) (fun _ _ _ _ _ _ us hl => match us, hl with | [_, _], _ => rfl)
  have l_column_price := (.nil : FnL P w K mg base 0 _ _)
  have f_column_price := mk_fn (P := P) (w := w) (base := base) F6 (fn_deep F6 sc_column_price (by decide) (by intro ds k x h; repeat (first | (obtain ⟨rfl, _⟩ := h; rfl) | (obtain ⟨_, h⟩ := h))) ch_column_price BM (fun h => nomatch h) l_column_price (w_column_price (ga K "Program"))) (glo_ok X G (c.fact 7 (f := .glo "column_price") rfl)) (fun _ _ _ _ _ _ us hl => match us, hl with | [_, _, _], _ => rfl)
  have l_bound_price := (.nil : FnL P w K mg base 0 _ _)
  have f_bound_price := mk_fn (P := P) (w := w) (base := base) F7 (fn_deep F7 sc_bound_price (by decide) (by intro ds k x h; repeat (first | (obtain ⟨rfl, _⟩ := h; rfl) | (obtain ⟨_, h⟩ := h))) ch_bound_price BM (fun h => nomatch h) l_bound_price (w_bound_price (ga K "Program"))) (glo_ok X G (c.fact 8 (f := .glo "bound_price") rfl)) (fun _ _ _ _ _ _ us hl => match us, hl with | [_, _], _ => rfl)
  have l_covers := (.cons0 f_column_price (by decide) <| .nil : FnL P w K mg base 1 _ _)
  have f_covers := mk_fn (P := P) (w := w) (base := base) F8 (fn_deep F8 sc_covers (by decide) (by intro ds k x h; repeat (first | (obtain ⟨rfl, _⟩ := h; rfl) | (obtain ⟨_, h⟩ := h))) ch_covers BM (fun h => nomatch h) l_covers (w_covers (ga K "Program"))) (glo_ok X G (c.fact 9 (f := .glo "covers") rfl)) (fun _ _ _ _ _ _ us hl => match us, hl with | [_, _, _], _ => rfl)
  have l_shows_best := (.cons0 f_is_point (by decide) <| .cons0 f_are_fair (by decide) <| .cons0 f_along (by decide) <| .cons0 f_covers (by decide) <| .cons0 f_bound_price (by decide) <| .nil : FnL P w K mg base 2 _ _)
  have f_shows_best := mk_fn (P := P) (w := w) (base := base) F9 (fn_deep F9 sc_shows_best (by decide) (by intro ds k x h; repeat (first | (obtain ⟨rfl, _⟩ := h; rfl) | (obtain ⟨_, h⟩ := h))) ch_shows_best BM (fun h => nomatch h) l_shows_best (w_shows_best (ga K "Program") (ga K "Outcome"))) (glo_ok X G (c.fact 10 (f := .glo "shows_best") rfl)) (fun _ _ _ _ _ _ us hl => match us, hl with | [_, _], _ => rfl)
  have l_shows_none := (.cons0 f_are_fair (by decide) <| .cons0 f_covers (by decide) <| .cons0 f_bound_price (by decide) <| .nil : FnL P w K mg base 2 _ _)
  have f_shows_none := mk_fn (P := P) (w := w) (base := base) F10 (fn_deep F10 sc_shows_none (by decide) (by intro ds k x h; repeat (first | (obtain ⟨rfl, _⟩ := h; rfl) | (obtain ⟨_, h⟩ := h))) ch_shows_none BM (fun h => nomatch h) l_shows_none (w_shows_none (ga K "Program") (ga K "Outcome"))) (glo_ok X G (c.fact 11 (f := .glo "shows_none") rfl)) (fun _ _ _ _ _ _ us hl => match us, hl with | [_, _], _ => rfl)
  have l_shows_endless := (.cons0 f_is_point (by decide) <| .cons0 f_is_amount (by decide) <| .cons0 f_along (by decide) <| .cons0 f_keeps (by decide) <| .nil : FnL P w K mg base 2 _ _)
  have f_shows_endless := mk_fn (P := P) (w := w) (base := base) F11 (fn_deep F11 sc_shows_endless (by decide) (by intro ds k x h; repeat (first | (obtain ⟨rfl, _⟩ := h; rfl) | (obtain ⟨_, h⟩ := h))) ch_shows_endless BM (fun h => nomatch h) l_shows_endless (w_shows_endless (ga K "Program") (ga K "Outcome"))) (glo_ok X G (c.fact 12 (f := .glo "shows_endless") rfl)) (fun _ _ _ _ _ _ us hl => match us, hl with | [_, _], _ => rfl)
  have l_shows := (.cons0 f_shows_best (by decide) <| .cons0 f_shows_none (by decide) <| .cons0 f_shows_endless (by decide) <| .nil : FnL P w K mg base 3 _ _)
  have f_shows := mk_fn (P := P) (w := w) (base := base) F12 (fn_deep F12 sc_shows (by decide) (by intro ds k x h; repeat (first | (obtain ⟨rfl, _⟩ := h; rfl) | (obtain ⟨_, h⟩ := h))) ch_shows BM (fun h => nomatch h) l_shows (w_shows (ga K "Program") (ga K "Outcome"))) (glo_ok X G (c.fact 13 (f := .glo "shows") rfl)) (fun _ _ _ _ _ _ us hl => match us, hl with | [_, _], _ => rfl)
  have l_Program := (.nil : FnL P w K mg base 0 _ _)
  have m_Program := mk_mf (P := P) (w := w) (base := base) (mkr_ok (c.fact 60 (f := .mkr "Program") rfl)) (init_deep FC_Program sc_Program___init__ (by decide) (by intro ds k x h; repeat (first | (obtain ⟨rfl, _⟩ := h; rfl) | (obtain ⟨_, h⟩ := h))) (⟨cls_ok (c.fact 58 (f := .cls "Program") rfl), List.forall_mem_cons.mpr ⟨noat_ok (c.fact 62 (f := .noat "Program" "costs") rfl), List.forall_mem_cons.mpr ⟨noat_ok (c.fact 63 (f := .noat "Program" "demands") rfl), fun f hf => nomatch hf⟩⟩⟩ : ClsF K (ga K "Program") ["costs", "demands"]) ch_Program___init__ BM (fun h => nomatch h) l_Program ((w_Program (ga K "Program")))) (glo_ok X G (c.fact 0 (f := .glo "Program") rfl)) (FC_Program.bindsN (fun _ _ _ _ _ _ us hl => match us, hl with | [_, _, _], _ => rfl))
  have l_Outcome := (.nil : FnL P w K mg base 0 _ _)
  have m_Outcome := mk_mf (P := P) (w := w) (base := base) (mkr_ok (c.fact 61 (f := .mkr "Outcome") rfl)) (init_deep FC_Outcome sc_Outcome___init__ (by decide) (by intro ds k x h; obtain ⟨o, rfl, _⟩ := h; cases o <;> rfl) (⟨cls_ok (c.fact 59 (f := .cls "Outcome") rfl), List.forall_mem_cons.mpr ⟨noat_ok (c.fact 64 (f := .noat "Outcome" "kind") rfl), List.forall_mem_cons.mpr ⟨noat_ok (c.fact 65 (f := .noat "Outcome" "point") rfl), List.forall_mem_cons.mpr ⟨noat_ok (c.fact 66 (f := .noat "Outcome" "value") rfl), List.forall_mem_cons.mpr ⟨noat_ok (c.fact 67 (f := .noat "Outcome" "prices") rfl), List.forall_mem_cons.mpr ⟨noat_ok (c.fact 68 (f := .noat "Outcome" "way") rfl), fun f hf => nomatch hf⟩⟩⟩⟩⟩⟩ : ClsF K (ga K "Outcome") ["kind", "point", "value", "prices", "way"]) ch_Outcome___init__ BM (fun h => nomatch h) l_Outcome ((w_Outcome (ga K "Outcome")))) (glo_ok X G (c.fact 1 (f := .glo "Outcome") rfl)) (FC_Outcome.bindsN (fun _ _ _ _ _ _ us hl => match us, hl with | [_, _, _, _, _, _], _ => rfl))
  have l_sum := (.nil : FnL P w K mg base 0 _ _)
  have f_sum := mk_fn (P := P) (w := w) (base := base) F23 (fn_deep F23 sc__law_sum (by decide) (by intro ds k x h; repeat (first | (obtain ⟨rfl, _⟩ := h; rfl) | (obtain ⟨_, h⟩ := h))) ch__law_sum BM (fun h => nomatch h) l_sum w_sum) (glo_ok X G (c.fact 20 (f := .glo "_law_sum") rfl)) (fun _ _ _ _ _ _ us hl => match us, hl with | [_, _], _ => rfl)
  have l_Lkeeps := (.nil : FnL P w K mg base 0 _ _)
  have f_Lkeeps := mk_fn (P := P) (w := w) (base := base) F38 (fn_deep F38 sc__law_keeps (by decide) (by intro ds k x h; repeat (first | (obtain ⟨rfl, _⟩ := h; rfl) | (obtain ⟨_, h⟩ := h))) ch__law_keeps BM (fun h => nomatch h) l_Lkeeps w_lkeeps) (glo_ok X G (c.fact 35 (f := .glo "_law_keeps") rfl)) (fun _ _ _ _ _ _ us hl => match us, hl with | [_, _, _], _ => rfl)
  have l_column := (.nil : FnL P w K mg base 0 _ _)
  have f_column := mk_fn (P := P) (w := w) (base := base) F24 (fn_deep F24 sc__law_column (by decide) (by intro ds k x h; repeat (first | (obtain ⟨rfl, _⟩ := h; rfl) | (obtain ⟨_, h⟩ := h))) ch__law_column BM (fun h => nomatch h) l_column w_column) (glo_ok X G (c.fact 21 (f := .glo "_law_column") rfl)) (fun _ _ _ _ _ _ us hl => match us, hl with | [_, _, _], _ => rfl)
  have l_draws := (.cons0 f_digits (by decide) <| .nil : FnL P w K mg base 1 _ _)
  have f_draws := mk_fn (P := P) (w := w) (base := base) F25 (fn_deep F25 sc__law_draws (by decide) (by intro ds k x h; repeat (first | (obtain ⟨rfl, _⟩ := h; rfl) | (obtain ⟨_, h⟩ := h))) ch__law_draws BM (fun h => nomatch h) l_draws w_draws) (glo_ok X G (c.fact 22 (f := .glo "_law_draws") rfl)) (fun _ _ _ _ _ _ us hl => match us, hl with | [_, _, _], _ => rfl)
  have l_lcm := (.cons0 f_gcd (by decide) <| .nil : FnL P w K mg base 1 _ _)
  have f_lcm := mk_fn (P := P) (w := w) (base := base) F26 (fn_deep F26 sc__law_lcm (by decide) (by intro ds k x h; repeat (first | (obtain ⟨rfl, _⟩ := h; rfl) | (obtain ⟨_, h⟩ := h))) ch__law_lcm BM (fun h => nomatch h) l_lcm w_lcm) (glo_ok X G (c.fact 23 (f := .glo "_law_lcm") rfl)) (fun _ _ _ _ _ _ us hl => match us, hl with | [_], _ => rfl)
  have l_row_of := (.cons0 f_lcm (by decide) <| .cons0 f_gcd (by decide) <| .nil : FnL P w K mg base 2 _ _)
  have f_row_of := mk_fn (P := P) (w := w) (base := base) F27 (fn_deep F27 sc__law_row_of (by decide) (by intro ds k x h; repeat (first | (obtain ⟨rfl, _⟩ := h; rfl) | (obtain ⟨_, h⟩ := h))) ch__law_row_of BM (fun h => nomatch h) l_row_of w_lrow_of) (glo_ok X G (c.fact 24 (f := .glo "_law_row_of") rfl)) (fun _ _ _ _ _ _ us hl => match us, hl with | [_, _], _ => rfl)
  have l_mean := (.cons0 f_lcm (by decide) <| .cons0 f_gcd (by decide) <| .nil : FnL P w K mg base 2 _ _)
  have f_mean := mk_fn (P := P) (w := w) (base := base) F28 (fn_deep F28 sc__law_mean (by decide) (by intro ds k x h; repeat (first | (obtain ⟨rfl, _⟩ := h; rfl) | (obtain ⟨_, h⟩ := h))) ch__law_mean BM (fun h => nomatch h) l_mean w_mean) (glo_ok X G (c.fact 25 (f := .glo "_law_mean") rfl)) (fun _ _ _ _ _ _ us hl => match us, hl with | [_, _, _], _ => rfl)
  have l_table := (.cons0 f_cell (by decide) <| .cons0 f_digits (by decide) <| .cons0 f_draws (by decide) <| .nil : FnL P w K mg base 2 _ _)
  have f_table := mk_fn (P := P) (w := w) (base := base) F29 (fn_deep F29 sc__law_table (by decide) (by intro ds k x h; repeat (first | (obtain ⟨rfl, _⟩ := h; rfl) | (obtain ⟨_, h⟩ := h))) ch__law_table BM (fun h => nomatch h) l_table w_table) (glo_ok X G (c.fact 26 (f := .glo "_law_table") rfl)) (fun _ _ _ _ _ _ us hl => match us, hl with | [_, _, _], _ => rfl)
  have l_fair := (.nil : FnL P w K mg base 0 _ _)
  have f_fair := mk_fn (P := P) (w := w) (base := base) F30 (fn_deep F30 sc__law_fair (by decide) (by intro ds k x h; repeat (first | (obtain ⟨rfl, _⟩ := h; rfl) | (obtain ⟨_, h⟩ := h))) ch__law_fair BM (fun h => nomatch h) l_fair w_fair) (glo_ok X G (c.fact 27 (f := .glo "_law_fair") rfl)) (fun _ _ _ _ _ _ us hl => match us, hl with | [_, _], _ => rfl)
  have l_side := (.nil : FnL P w K mg base 0 _ _)
  have f_side := mk_fn (P := P) (w := w) (base := base) F31 (fn_deep F31 sc__law_side (by decide) (by intro ds k x h; repeat (first | (obtain ⟨rfl, _⟩ := h; rfl) | (obtain ⟨_, h⟩ := h))) ch__law_side BM (fun h => nomatch h) l_side w_side) (glo_ok X G (c.fact 28 (f := .glo "_law_side") rfl)) (fun _ _ _ _ _ _ us hl => match us, hl with | [_, _], _ => rfl)
  have l_bounds := (.cons0 f_sum (by decide) <| .cons0 f_side (by decide) <| .nil : FnL P w K mg base 1 _ _)
  have f_bounds := mk_fn (P := P) (w := w) (base := base) F32 (fn_deep F32 sc__law_bounds (by decide) (by intro ds k x h; repeat (first | (obtain ⟨rfl, _⟩ := h; rfl) | (obtain ⟨_, h⟩ := h))) ch__law_bounds BM (fun h => nomatch h) l_bounds w_bounds) (glo_ok X G (c.fact 29 (f := .glo "_law_bounds") rfl)) (fun _ _ _ _ _ _ us hl => match us, hl with | [_, _, _, _, _], _ => rfl)
  have l_laid := (.nil : FnL P w K mg base 0 _ _)
  have f_laid := mk_fn (P := P) (w := w) (base := base) F33 (fn_deep F33 sc__law_laid (by decide) (by intro ds k x h; repeat (first | (obtain ⟨rfl, _⟩ := h; rfl) | (obtain ⟨_, h⟩ := h))) ch__law_laid BM (fun h => nomatch h) l_laid w_laid) (glo_ok X G (c.fact 30 (f := .glo "_law_laid") rfl)) (fun _ _ _ _ _ _ us hl => match us, hl with | [_, _, _], _ => rfl)
  have l_cut := (.nil : FnL P w K mg base 0 _ _)
  have f_cut := mk_fn (P := P) (w := w) (base := base) F35 (fn_deep F35 sc__law_cut (by decide) (by intro ds k x h; repeat (first | (obtain ⟨rfl, _⟩ := h; rfl) | (obtain ⟨_, h⟩ := h))) ch__law_cut BM (fun h => nomatch h) l_cut w_cut) (glo_ok X G (c.fact 32 (f := .glo "_law_cut") rfl)) (fun _ _ _ _ _ _ us hl => match us, hl with | [_, _, _], _ => rfl)
  have l_meets := (.cons0 f_sum (by decide) <| .cons0 f_Lkeeps (by decide) <| .nil : FnL P w K mg base 1 _ _)
  have f_meets := mk_fn (P := P) (w := w) (base := base) F39 (fn_deep F39 sc__law_meets (by decide) (by intro ds k x h; repeat (first | (obtain ⟨rfl, _⟩ := h; rfl) | (obtain ⟨_, h⟩ := h))) ch__law_meets BM (fun h => nomatch h) l_meets w_meets) (glo_ok X G (c.fact 36 (f := .glo "_law_meets") rfl)) (fun _ _ _ _ _ _ us hl => match us, hl with | [_, _, _], _ => rfl)
  have l_priced := (.cons0 f_column (by decide) <| .nil : FnL P w K mg base 1 _ _)
  have f_priced := mk_fn (P := P) (w := w) (base := base) F40 (fn_deep F40 sc__law_priced (by decide) (by intro ds k x h; repeat (first | (obtain ⟨rfl, _⟩ := h; rfl) | (obtain ⟨_, h⟩ := h))) ch__law_priced BM (fun h => nomatch h) l_priced w_priced) (glo_ok X G (c.fact 37 (f := .glo "_law_priced") rfl)) (fun _ _ _ _ _ _ us hl => match us, hl with | [_, _, _], _ => rfl)
  have l_truth := (.cons0 f_priced (by decide) <| .cons0 f_sum (by decide) <| .cons0 f_meets (by decide) <| .nil : FnL P w K mg base 2 _ _)
  have f_truth := mk_fn (P := P) (w := w) (base := base) F41 (fn_deep F41 sc__law_truth (by decide) (by intro ds k x h; repeat (first | (obtain ⟨rfl, _⟩ := h; rfl) | (obtain ⟨_, h⟩ := h))) ch__law_truth BM (fun h => nomatch h) l_truth w_truth) (glo_ok X G (c.fact 38 (f := .glo "_law_truth") rfl)) (fun _ _ _ _ _ _ us hl => match us, hl with | [_, _], _ => rfl)
  have l_told := (.cons0 f_shows (by decide) <| .nil : FnL P w K mg base 4 _ _)
  have f_told := mk_fn (P := P) (w := w) (base := base) F42 (fn_deep F42 sc__law_told (by decide) (by intro ds k x h; repeat (first | (obtain ⟨rfl, _⟩ := h; rfl) | (obtain ⟨_, h⟩ := h))) ch__law_told BM (fun h => nomatch h) l_told (w_told (ga K "Program") (ga K "Outcome"))) (glo_ok X G (c.fact 39 (f := .glo "_law_told") rfl)) (fun _ _ _ _ _ _ us hl => match us, hl with | [_, _, _], _ => rfl)
  have l_program := (.mk m_Program (by decide) <| .nil : FnL P w K mg base 2 _ _)
  have f_program := mk_fn (P := P) (w := w) (base := base) F43 (fn_deep F43 sc__law_program (by decide) (by intro ds k x h; repeat (first | (obtain ⟨rfl, _⟩ := h; rfl) | (obtain ⟨_, h⟩ := h))) ch__law_program BM (fun h => nomatch h) l_program (w_lprogram (ga K "Program"))) (glo_ok X G (c.fact 40 (f := .glo "_law_program") rfl)) (fun _ _ _ _ _ _ us hl => match us, hl with | [_, _], _ => rfl)
  have l_holds := (.cons0 f_is_row (by decide) <| .cons0 f_is_ratio (by decide) <| .nil : FnL P w K mg base 2 _ _)
  have f_holds := mk_fn (P := P) (w := w) (base := base) F44 (fn_deep F44 sc__law_holds (by decide) (by intro ds k x h; repeat (first | (obtain ⟨rfl, _⟩ := h; rfl) | (obtain ⟨_, h⟩ := h))) ch__law_holds BM (fun h => nomatch h) l_holds (w_holds (ga K "Outcome"))) (glo_ok X G (c.fact 41 (f := .glo "_law_holds") rfl)) (fun _ _ _ _ _ _ us hl => match us, hl with | [_, _], _ => rfl)
  have l_asked := (.cons0 f_program (by decide) <| .mk m_Outcome (by decide) <| .cons0 f_truth (by decide) <| .cons0 f_told (by decide) <| .cons0 f_holds (by decide) <| .nil : FnL P w K mg base 5 _ _)
  have f_asked := mk_fn (P := P) (w := w) (base := base) F45 (fn_deep F45 sc__law_asked (by decide) (by intro ds k x h; repeat (first | (obtain ⟨rfl, _⟩ := h; rfl) | (obtain ⟨_, h⟩ := h))) ch__law_asked BM (fun h => nomatch h) l_asked (w_asked (ga K "Program") (ga K "Outcome"))) (glo_ok X G (c.fact 42 (f := .glo "_law_asked") rfl)) (fun _ _ _ _ _ _ us hl => match us, hl with | [_, _], _ => rfl)
  have l_papers := (.cons0 f_cut (by decide) <| .nil : FnL P w K mg base 1 _ _)
  have f_papers := mk_fn (P := P) (w := w) (base := base) F46 (fn_deep F46 sc__law_papers (by decide) (by intro ds k x h; repeat (first | (obtain ⟨rfl, _⟩ := h; rfl) | (obtain ⟨_, h⟩ := h))) ch__law_papers BM (fun h => nomatch h) l_papers w_papers) (glo_ok X G (c.fact 43 (f := .glo "_law_papers") rfl)) (fun _ _ _ _ _ _ us hl => match us, hl with | [_, _], _ => rfl)
  have l_fault := (.cons0 f_cell (by decide) <| .cons0 f_digits (by decide) <| .nil : FnL P w K mg base 1 _ _)
  have f_fault := mk_fn (P := P) (w := w) (base := base) F47 (fn_deep F47 sc__law_fault (by decide) (by intro ds k x h; repeat (first | (obtain ⟨rfl, _⟩ := h; rfl) | (obtain ⟨_, h⟩ := h))) ch__law_fault BM (fun h => nomatch h) l_fault w_fault) (glo_ok X G (c.fact 44 (f := .glo "_law_fault") rfl)) (fun _ _ _ _ _ _ us hl => match us, hl with | [_, _, _, _, _, _], _ => rfl)
  have l_best_paper := (.cons0 f_cell (by decide) <| .cons0 f_digits (by decide) <| .cons0 f_draws (by decide) <| .cons0 f_fair (by decide) <| .cons0 f_side (by decide) <| .cons0 f_bounds (by decide) <| .cons0 f_column (by decide) <| .cons0 f_laid (by decide) <| .cons0 f_sum (by decide) <| .cons0 f_mean (by decide) <| .cons0 f_row_of (by decide) <| .cons0 f_cut (by decide) <| .nil : FnL P w K mg base 3 _ _)
  have f_best_paper := mk_fn (P := P) (w := w) (base := base) F34 (fn_deep F34 sc__law_best_paper (by decide) (by intro ds k x h; repeat (first | (obtain ⟨rfl, _⟩ := h; rfl) | (obtain ⟨_, h⟩ := h))) ch__law_best_paper BM (fun h => nomatch h) l_best_paper w_best) (glo_ok X G (c.fact 31 (f := .glo "_law_best_paper") rfl)) (fun _ _ _ _ _ _ us hl => match us, hl with | [_, _, _, _], _ => rfl)
  have l_none_paper := (.cons0 f_cell (by decide) <| .cons0 f_digits (by decide) <| .cons0 f_draws (by decide) <| .cons0 f_fair (by decide) <| .cons0 f_side (by decide) <| .cons0 f_column (by decide) <| .cons0 f_sum (by decide) <| .cons0 f_laid (by decide) <| .cons0 f_row_of (by decide) <| .cons0 f_cut (by decide) <| .nil : FnL P w K mg base 3 _ _)
  have f_none_paper := mk_fn (P := P) (w := w) (base := base) F36 (fn_deep F36 sc__law_none_paper (by decide) (by intro ds k x h; repeat (first | (obtain ⟨rfl, _⟩ := h; rfl) | (obtain ⟨_, h⟩ := h))) ch__law_none_paper BM (fun h => nomatch h) l_none_paper w_none) (glo_ok X G (c.fact 33 (f := .glo "_law_none_paper") rfl)) (fun _ _ _ _ _ _ us hl => match us, hl with | [_, _, _, _], _ => rfl)
  have l_endless_paper := (.cons0 f_cell (by decide) <| .cons0 f_digits (by decide) <| .cons0 f_draws (by decide) <| .cons0 f_side (by decide) <| .cons0 f_sum (by decide) <| .cons0 f_bounds (by decide) <| .cons0 f_laid (by decide) <| .cons0 f_row_of (by decide) <| .cons0 f_cut (by decide) <| .nil : FnL P w K mg base 3 _ _)
  have f_endless_paper := mk_fn (P := P) (w := w) (base := base) F37 (fn_deep F37 sc__law_endless_paper (by decide) (by intro ds k x h; repeat (first | (obtain ⟨rfl, _⟩ := h; rfl) | (obtain ⟨_, h⟩ := h))) ch__law_endless_paper BM (fun h => nomatch h) l_endless_paper w_endless) (glo_ok X G (c.fact 34 (f := .glo "_law_endless_paper") rfl)) (fun _ _ _ _ _ _ us hl => match us, hl with | [_, _, _, _], _ => rfl)
  have l_law := (.cons0 f_cell (by decide) <| .cons0 f_digits (by decide) <| .cons0 f_table (by decide) <| .cons0 f_fault (by decide) <| .cons0 f_best_paper (by decide) <| .cons0 f_papers (by decide) <| .cons0 f_asked (by decide) <| .cons0 f_none_paper (by decide) <| .cons0 f_endless_paper (by decide) <| .nil : FnL P w K mg base 6 _ _)
  exact fn_deep F48 sc_law (by decide) (by intro ds k x h; repeat (first | (obtain ⟨rfl, _⟩ := h; rfl) | (obtain ⟨_, h⟩ := h))) ch_law BM (fun h => nomatch h) l_law (w_law (ga K "Program") (ga K "Outcome"))
end K00
open PySem PySem.W PySem.Calls PyProof.Rows
theorem PySem.Challenge.cw_ledbymarks_k05_outcome_judge_holds : PySem.Challenge.rw_ledbymarks_k05_outcome_judge.Holds := by
  w_on; o_law
  refine HandSHeadRun.head_imp (r := OpenLaw.row PySem.Challenge.rw_ledbymarks_k05_outcome_judge) (q := view (OpenLaw.row PySem.Challenge.rw_ledbymarks_k05_outcome_judge).prog [48]) (H := K00.hk) (ob := K00.ob) (M := 20000) (loose := K00.loose) (d := HandSHeadRun.topDef (OpenLaw.row PySem.Challenge.rw_ledbymarks_k05_outcome_judge).prog 48) (kwd := [])
    K00.ob_eq K00.run (by kernel_rfl) (by kernel_rfl) (by kernel_rfl) (by rfl) (by first | assumption | decide +kernel) (by decide +kernel) ⟨rfl, rfl, rfl, rfl, rfl, by decide +kernel⟩ ?hw ?hc
  case hw => w_witness2
  case hc =>
    refine DL.walk_ofM (l := PySem.Challenge.rw_ledbymarks_k05_outcome_judge) (n := 63) (k := 7) (x := "script") (T := K00.T_law) rfl (by decide) (by kernel_rfl) ⟨rfl, by decide, by decide⟩ (fun ns kk xx h => ⟨ns, rfl, h⟩) ?_
    intro w mg fa h Y G hmg0
    obtain ⟨K, KX, c⟩ := Y
    have hmg : mg ("law" : PySem.Str) = some (.ref fa) := by
      have e : (HandSHeadRun.topDef (OpenLaw.row PySem.Challenge.rw_ledbymarks_k05_outcome_judge).prog 48).name = ("law" : PySem.Str) := by kernel_rfl
      rw [← e]
      exact hmg0
    obtain ⟨fd, hb, hF⟩ := K00.facts (P := (PySem.Challenge.rw_ledbymarks_k05_outcome_judge).prog) (w := w) KX G hmg c
    exact ⟨K, fd, KX, hb, fun base _ _ => hF base⟩
